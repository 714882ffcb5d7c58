import PyProof.Rows.All
import Wide.All
import OpenK.AllK
import PyProof.Rows.StrNext
import KE.KStateText
import KE.KEqDat
import Wide.FinOn
import PyProof.ExcBaseAll.Exception
import KE.KTryDeep
import KE.KCallBy
import KE.KxSplit
import KE.KStateW
import KE.KJoinL
import KE.BitLaws
import KE.KListMore
import KE.KGrown
import KE.KxAdd
import KE.KxLen
import KE.KStrOpen
import KE.KDictAnyGet
import KE.KData
import KE.KSliceW
import KE.KTurns
import KE.KPopAny
import KE.KLcPair
import PySem.Challenge.RW_pq0846_01
set_option Elab.async false
set_option maxRecDepth 100000
set_option maxHeartbeats 8000000
set_option linter.all false
set_option compiler.extract_closed false
set_option genInjectivity false
set_option linter.unusedVariables false
namespace Mine
end Mine
open PySem PySem.W PyProof.Rows PySem.Calls Mine
namespace Mine
def Bx (P : Prop) : Prop := P
theorem bxT {P : Prop} (h : P) : Bx P = True := eq_true h
theorem noinfo {P : Prop} (h : Bx P := by k_extra "b") : P := h
theorem reg0q : True := by
  k_with "q" => (exact no_implicit_lambda% noinfo)
  k_with "b" => (simp (disch := k_dflt (k_extra "w")) only [↓bxT])
  trivial
local macro_rules | `(tactic| omega) => `(tactic| ((fail_if_success (fail_if_success (omega +splitDisjunctions))); lia))
theorem fmc {α : Type} {p : α → Prop} {a : α} {l : List α} (h1 : p a) (h2 : ∀ x ∈ l, p x) : ∀ x ∈ a :: l, p x := List.forall_mem_cons.mpr ⟨h1, h2⟩
theorem fma {α : Type} {p : α → Prop} {l1 l2 : List α} (h1 : ∀ x ∈ l1, p x) (h2 : ∀ x ∈ l2, p x) : ∀ x ∈ l1 ++ l2, p x := List.forall_mem_append.mpr ⟨h1, h2⟩
theorem lt_of_sub {a b c : Nat} (h : a - b = c + 1) : b < a := Nat.lt_of_sub_eq_succ h
theorem tn_lt {i : Int} {n : Nat} (h0 : 0 ≤ i) (h : i.toNat < n) : i < n := (Int.toNat_lt h0).mp h
theorem lt_tn {i : Int} {n : Nat} (h0 : 0 ≤ i) (h : i < n) : i.toNat < n := (Int.toNat_lt h0).mpr h
theorem i_sub {n i : Int} (h : i < n) : (n - i).toNat = (n - (i + 1)).toNat + 1 := by
  have e : n - i = n - (i + 1) + ((1 : Nat) : Int) := by rw [← Int.sub_sub]; exact (Int.sub_add_cancel (n - i) 1).symm
  rw [e, Int.toNat_add_nat (Int.sub_nonneg_of_le h)]
theorem pair_num {i : Int} {n : Nat} (h0 : 0 ≤ i) (e : min ((i + 2).toNat - i.toNat) (n - i.toNat) = 2) : i + 1 < n := by
  obtain ⟨a, rfl⟩ := Int.eq_ofNat_of_zero_le h0
  have h : 2 ≤ n - a := e ▸ Nat.min_le_right _ _
  exact Int.ofNat_lt.mpr (Nat.lt_of_lt_of_le (Nat.lt_succ_self _) (Nat.add_le_of_le_sub' (Nat.le_of_lt (Nat.lt_of_sub_pos (Nat.lt_of_lt_of_le (by decide) h))) h))
theorem sub1 {a b : Nat} (h : b < a) : a - b = a - b - 1 + 1 := (Nat.sub_add_cancel (Nat.sub_pos_of_lt h)).symm
theorem succ_sub {a b q : Nat} (h : a - b = q + 1) : a - (b + 1) = q := by rw [Nat.sub_add_eq, h]; rfl
theorem measz {n i : Int} (h : i < n) : (n - (i + 0 + 1)).toNat < (n - i).toNat := by
  rw [Int.add_zero, i_sub h]; exact Nat.lt_succ_self _
theorem mod_nat {x k : Int} {n : Nat} (hk : 0 < k) (hn : k = n) : (x.fmod k).toNat < n := (Int.toNat_lt (Int.fmod_nonneg_of_pos x hk)).mpr (hn ▸ Int.fmod_lt_of_pos x hk)
theorem dv {x k a c : Int} (hk : 0 < k) (h : x < c * k) : a + x / k < a + c := Int.add_lt_add_left (Int.ediv_lt_of_lt_mul hk h) a
theorem le_sub_step {a b c k : Nat} (h : a - b ≤ c + 1) (hk : 0 < k) : a - (b + k) ≤ c := by
  rw [← Nat.sub_sub]; exact Nat.le_trans (Nat.sub_le_sub_left hk _) (Nat.sub_le_of_le_add h)
theorem two_pred {n : Nat} (h : 1 ≤ n) : 2 + (n - 1) = n + 1 := by rw [Nat.add_comm]; show n - 1 + 1 + 1 = n + 1; rw [Nat.sub_add_cancel h]
theorem dv2 {x k a c b : Int} (hk : 0 < k) (h : x < c * k) (hb : a + c ≤ b) : a + x / k < b := Int.lt_of_lt_of_le (dv hk h) hb
theorem md {x k a c : Int} (hk : 0 < k) (hc : a + k ≤ c) : a + x % k < c := Int.lt_of_lt_of_le (Int.add_lt_add_left (Int.emod_lt_of_pos x hk) a) hc
theorem rd {x k a B M : Int} (h0 : 0 ≤ x) (h : x ≤ B) (hk : 0 < k) (ha : 0 ≤ a) (hB : a + B / k ≤ M) : 0 ≤ a + x / k ∧ a + x / k ≤ M :=
  ⟨Int.add_nonneg ha (Int.ediv_nonneg h0 (Int.le_of_lt hk)), Int.le_trans (Int.add_le_add_left (Int.ediv_le_ediv hk h) a) hB⟩
theorem rm {x k a M : Int} (hk : 0 < k) (ha : 0 ≤ a) (h : a + k ≤ M) : 0 ≤ a + x % k ∧ a + x % k ≤ M :=
  ⟨Int.add_nonneg ha (Int.emod_nonneg x (Int.ne_of_gt hk)), Int.le_of_lt (md hk h)⟩
theorem rm0 {x k M : Int} (hk : 0 < k) (h : k ≤ M) : 0 ≤ x % k ∧ x % k ≤ M := ⟨Int.emod_nonneg x (Int.ne_of_gt hk), Int.le_of_lt (Int.lt_of_lt_of_le (Int.emod_lt_of_pos x hk) h)⟩
noncomputable def Tame {α : Type} : Sem α → Prop
  | .pure _ => True
  | .raise _ => True
  | .unsupported _ => True
  | .finish _ => True
  | .rule _ k => Tame (k ())
  | .at _ k => Tame (k ())
  | .load _ _ k => ∀ o, Tame (k o)
  | .update _ _ f k => (∀ o : Obj, (f o).dict = o.dict ∧ (f o).isFreed = o.isFreed) ∧ Tame (k ())
  | .alloc _ k => ∀ a, Tame (k a)
  | .fresh k => ∀ t, Tame (k t)
  | .ask k => ∀ t, Tame (k t)
  | .stack k => ∀ l, Tame (k l)
  | .register _ _ => True
  | .point _ k => Tame (k ())
  | .handled _ k => ∀ v, Tame (k v)
  | _ => False
noncomputable def DictAt (e : Addr) (dd : Option Addr) (h : Heap) : Prop := ∃ o, h.get? e = some o ∧ o.dict = dd
theorem wp_tame {α : Type} {M : Model} {Γ : Ctx} {e : Addr} {dd : Option Addr} : ∀ (t : Sem α) {Q : α → Pos → Shared → Prop} {E : Value → Pos → Shared → Prop} {p : Pos} {s : Shared}, Tame t → DictAt e dd s.heap →
    Sem.wp M Γ t Q E p s → Sem.wp M Γ t (fun a p s => Q a p s ∧ DictAt e dd s.heap) (fun a p s => E a p s ∧ DictAt e dd s.heap) p s := by
 k_with "w" =>
  intro t
  induction t with
  | pure a => intro Q E p s _ d h; exact ⟨h, d⟩
  | raise v => intro Q E p s _ d h; exact ⟨h, d⟩
  | unsupported w => intro Q E p s _ d h; exact h.elim
  | finish w => intro Q E p s _ d h; exact h.elim
  | rule t k ih => intro Q E p s ht d h; exact ih () ht d h
  | «at» t k ih => intro Q E p s ht d h; exact ih () ht d h
  | load a pt k ih => intro Q E p s ht d h; obtain ⟨o, ho, h⟩ := h; exact ⟨o, ho, ih o (ht o) d h⟩
  | update a pt f k ih =>
    intro Q E p s ht d h
    obtain ⟨ha, h⟩ := h
    refine ⟨ha, ih () ht.2 ?_ h⟩
    obtain ⟨o, ho, hd⟩ := d
    by_cases q : a = e
    · subst q
      have hfr : (f o).isFreed = false := by rw [(ht.1 o).2]; exact (Heap.get?_some_iff.mp ho).2
      exact ⟨f o, Heap.get?_update_self f ho hfr, (ht.1 o).1.trans hd⟩
    · exact ⟨o, (Heap.get?_update_other _ f q).trans ho, hd⟩
  | alloc o k ih =>
    intro Q E p s ht d h
    refine ih _ (ht _) ?_ h
    obtain ⟨o', ho, hd⟩ := d
    exact ⟨o', Heap.get?_push_of_some _ ho, hd⟩
  | fresh k ih => intro Q E p s ht d h; exact ih _ (ht _) d h
  | ask k ih => intro Q E p s ht d h; exact ih _ (ht _) d h
  | stack k ih => intro Q E p s ht d h; exact ih _ (ht _) d h
  | register a k ih => intro Q E p s ht d h; exact h.elim
  | point l k ih => intro Q E p s ht d h; exact ih () ht d h
  | handled o k ih => intro Q E p s ht d h; exact ih _ (ht _) d h
  | _ => intro Q E p s ht; exact ht.elim
 k_extra "q"
theorem wpAny_tame {α : Type} {M : Model} {A : Around} {e : Addr} {dd : Option Addr} {t : Sem α} {Q : α → Shared → Prop} {E : Value → Shared → Prop} {s : Shared} (ht : Tame t) (d : DictAt e dd s.heap)
    (h : wpAny M A t Q E s) : wpAny M A t (fun a s => Q a s ∧ DictAt e dd s.heap) (fun a s => E a s ∧ DictAt e dd s.heap) s := fun Γ p hΓ => wp_tame t ht d (h Γ p hΓ)
section
variable {α β : Type}
theorem Tame.bind {t : Sem α} {f : α → Sem β} (h : Tame t) (k : ∀ a, Tame (f a)) : Tame (t >>= f) := by
 k_with "w" =>
  show Tame (t.bind f)
  induction t with
  | pure a => exact k a
  | raise v => trivial
  | unsupported w => trivial
  | finish w => trivial
  | rule t g ih => exact ih () h
  | «at» t g ih => exact ih () h
  | load a pt g ih => exact fun o => ih o (h o)
  | update a pt f g ih => exact ⟨h.1, ih () h.2⟩
  | alloc o g ih => exact fun a => ih a (h a)
  | fresh g ih => exact fun a => ih a (h a)
  | ask g ih => exact fun a => ih a (h a)
  | stack g ih => exact fun a => ih a (h a)
  | register a g ih => trivial
  | point l g ih => exact ih () h
  | handled o g ih => exact fun a => ih a (h a)
  | _ => exact h.elim
 k_extra "q"
theorem Tame.pure' (a : α) : Tame (pure a : Sem α) := trivial
theorem Tame.uns (w : String) : Tame (unsupported w : Sem α) := trivial
theorem Tame.load (a : Addr) : Tame (PySem.load a) := fun _ => trivial
theorem Tame.loadPart (a : Addr) (p : Option Value) : Tame (PySem.loadPart a p) := fun _ => trivial
theorem Tame.alloc (o : Obj) : Tame (PySem.alloc o) := fun _ => trivial
theorem Tame.stack : Tame PySem.stack := fun _ => trivial
theorem mapFields_tame (f : Array Value → Array Value) (o : Obj) : (Obj.mapFields f o).dict = o.dict ∧ (Obj.mapFields f o).isFreed = o.isFreed := by
  obtain ⟨c, d, da, sl⟩ := o
  cases da <;> exact ⟨rfl, rfl⟩
theorem Tame.map {t : Sem α} {f : α → β} (h : Tame t) : Tame (f <$> t) := by
  rw [← bind_pure_comp]
  exact Tame.bind h fun _ => trivial
end
theorem tame_fieldsOf (v : Value) : Tame (fieldsOf v) := by
  unfold fieldsOf
  split
  · refine Tame.bind (Tame.load _) fun o => ?_
    split
    · exact trivial
    · exact trivial
  · exact trivial
theorem tame_field (v : Value) (i : Nat) : Tame (field v i) := by
  unfold field
  refine Tame.bind (tame_fieldsOf v) fun o => ?_
  split <;> exact trivial
theorem tame_updateField (a : Addr) (i : Nat) (v : Value) : Tame (updateField a i v) := by
  unfold updateField
  refine Tame.bind (Tame.load _) fun o => ?_
  split
  · split
    · exact ⟨mapFields_tame _, trivial⟩
    · exact trivial
  · exact trivial
theorem tame_setField (v : Value) (i : Nat) (x : Value) : Tame (setField v i x) := by
  unfold setField
  split
  · exact tame_updateField _ _ _
  · exact trivial
theorem tame_newTrace (vs : List Value) : Tame (newFields "traceback" vs) := by
  unfold newFields newObj newObjAsIs
  dsimp only
  split
  · exact trivial
  · exact fun _ => trivial
theorem tame_setFlight (e : Value) (f : Option Addr) : Tame (setFlight e f) := by
  unfold setFlight
  refine Tame.bind (tame_field _ _) fun v => ?_
  split
  · exact tame_setField _ _ _
  · exact trivial
theorem tame_ready : ∀ l : List Env, Tame (readyFrames l) := by
 k_with "w" =>
  intro l
  induction l with
  | nil => exact trivial
  | cons env outer ih =>
    unfold readyFrames
    have hb : Tame (behindIsImport env outer) := by
      unfold behindIsImport
      split
      · exact trivial
      · split
        · exact trivial
        · exact Tame.bind (tame_field _ _) fun _ => trivial
    have hk : ∀ b, Tame (keptBack env b outer) := by
      intro b
      cases outer with
      | nil =>
        show Tame (if (env.scope.isGenerator || env.scope.isCoroutine) = true then pure Value.none else do return if ← underTheClaimsCaller then .notImplemented else .none)
        split
        · exact trivial
        · refine Tame.bind ?_ fun _ => trivial
          unfold underTheClaimsCaller
          exact Tame.bind Tame.stack fun _ => trivial
      | cons c r => exact trivial
    split
    · refine Tame.bind (Tame.load _) fun o => ?_
      split
      · exact trivial
      · refine Tame.bind hb fun b => Tame.bind (hk b) fun v => Tame.bind ⟨fun o => ⟨rfl, by obtain ⟨c, d, da, sl⟩ := o; cases da <;> rfl⟩, trivial⟩ fun _ => ih
    · exact trivial
 k_extra "q"
theorem tame_frameOf (env : Env) : Tame (PySem.frameOf env) := by
  unfold PySem.frameOf frameObject frameEnvs
  refine Tame.bind (Tame.bind Tame.stack fun _ => trivial) fun l => ?_
  refine Tame.bind ?_ fun r => ?_
  · split
    · exact trivial
    · exact Tame.bind (tame_ready _) fun _ => trivial
  · split <;> exact trivial
theorem tame_place (f : Addr) (b : Bool) : Tame (entryPlaceOf f b) := by
  unfold entryPlaceOf
  refine Tame.bind Tame.stack fun l => ?_
  split <;> exact trivial
theorem tame_note (e : Value) (env : Env) : Tame (noteFrame e env) := by
 k_with "w" =>
  unfold noteFrame
  split
  · refine Tame.bind (tame_field _ _) fun v => ?_
    have last : Tame (do setField e 1 (← EntryCells.newEntry v (← PySem.frameOf env) .none (rawInt ‹Addr›) .none (← entryPlaceOf ‹Addr› (v != .none)))) :=
      Tame.bind (tame_frameOf _) fun _ => Tame.bind (tame_place _ _) fun _ => Tame.bind (tame_newTrace _) fun _ => tame_setField _ _ _
    split
    · refine Tame.bind (tame_field _ _) fun v => ?_
      split
      · exact trivial
      · exact Tame.bind (tame_setField _ _ _) fun _ => last
    · exact last
  · exact trivial
 k_extra "q"
theorem tame_leaving (env : Env) (e : Value) : Tame (leaving env e) := Tame.bind (tame_note _ _) fun _ => tame_setFlight _ _
theorem eps_ex {α : Type} (ne : Nonempty α) (G : α → Prop) : ∃ x, G x → ∀ y, G y := by
  by_cases h : ∀ y, G y
  · exact ⟨Classical.choice ne, fun _ => h⟩
  · obtain ⟨x, hx⟩ := Classical.not_forall.mp h
    exact ⟨x, fun q => absurd q hx⟩
@[irreducible] noncomputable def c1 {α : Type} (ne : Nonempty α) (G : α → Prop) : α := Classical.choose (eps_ex ne G)
theorem c1_spec {α : Type} (ne : Nonempty α) (G : α → Prop) (h : G (c1 ne G)) : ∀ x, G x := by
  unfold c1 at h; exact Classical.choose_spec (eps_ex ne G) h
theorem all1 {α : Type} (ne : Nonempty α) {G : α → Prop} (h : G (c1 ne G)) : ∀ x, G x := c1_spec ne G h
@[irreducible] noncomputable def c2 {α0 α1 : Type} (ne : Nonempty (α0 × α1)) (G : α0 → α1 → Prop) : α0 × α1 := c1 ne fun T => G (T.1) (T.2)
@[irreducible] noncomputable def p2_1 {α0 α1 : Type} (T : α0 × α1) : α0 := T.1
@[irreducible] noncomputable def p2_2 {α0 α1 : Type} (T : α0 × α1) : α1 := T.2
theorem all2 {α0 α1 : Type} (ne : Nonempty (α0 × α1)) {G : α0 → α1 → Prop} (h : G (p2_1 (c2 ne G)) (p2_2 (c2 ne G))) : ∀ x0 x1, G x0 x1 := by
  unfold c2 p2_1 p2_2 at h
  intro x0 x1
  exact c1_spec ne (fun T => G (T.1) (T.2)) h (x0, x1)
@[irreducible] noncomputable def c3 {α0 α1 α2 : Type} (ne : Nonempty (α0 × α1 × α2)) (G : α0 → α1 → α2 → Prop) : α0 × α1 × α2 := c1 ne fun T => G (T.1) (T.2.1) (T.2.2)
@[irreducible] noncomputable def p3_1 {α0 α1 α2 : Type} (T : α0 × α1 × α2) : α0 := T.1
@[irreducible] noncomputable def p3_2 {α0 α1 α2 : Type} (T : α0 × α1 × α2) : α1 := T.2.1
@[irreducible] noncomputable def p3_3 {α0 α1 α2 : Type} (T : α0 × α1 × α2) : α2 := T.2.2
theorem all3 {α0 α1 α2 : Type} (ne : Nonempty (α0 × α1 × α2)) {G : α0 → α1 → α2 → Prop} (h : G (p3_1 (c3 ne G)) (p3_2 (c3 ne G)) (p3_3 (c3 ne G))) : ∀ x0 x1 x2, G x0 x1 x2 := by
  unfold c3 p3_1 p3_2 p3_3 at h
  intro x0 x1 x2
  exact c1_spec ne (fun T => G (T.1) (T.2.1) (T.2.2)) h (x0, x1, x2)
@[irreducible] noncomputable def c4 {α0 α1 α2 α3 : Type} (ne : Nonempty (α0 × α1 × α2 × α3)) (G : α0 → α1 → α2 → α3 → Prop) : α0 × α1 × α2 × α3 := c1 ne fun T => G (T.1) (T.2.1) (T.2.2.1) (T.2.2.2)
@[irreducible] noncomputable def p4_1 {α0 α1 α2 α3 : Type} (T : α0 × α1 × α2 × α3) : α0 := T.1
@[irreducible] noncomputable def p4_2 {α0 α1 α2 α3 : Type} (T : α0 × α1 × α2 × α3) : α1 := T.2.1
@[irreducible] noncomputable def p4_3 {α0 α1 α2 α3 : Type} (T : α0 × α1 × α2 × α3) : α2 := T.2.2.1
@[irreducible] noncomputable def p4_4 {α0 α1 α2 α3 : Type} (T : α0 × α1 × α2 × α3) : α3 := T.2.2.2
theorem all4 {α0 α1 α2 α3 : Type} (ne : Nonempty (α0 × α1 × α2 × α3)) {G : α0 → α1 → α2 → α3 → Prop} (h : G (p4_1 (c4 ne G)) (p4_2 (c4 ne G)) (p4_3 (c4 ne G)) (p4_4 (c4 ne G))) : ∀ x0 x1 x2 x3, G x0 x1 x2 x3 := by
  unfold c4 p4_1 p4_2 p4_3 p4_4 at h
  intro x0 x1 x2 x3
  exact c1_spec ne (fun T => G (T.1) (T.2.1) (T.2.2.1) (T.2.2.2)) h (x0, x1, x2, x3)
@[irreducible] noncomputable def c5 {α0 α1 α2 α3 α4 : Type} (ne : Nonempty (α0 × α1 × α2 × α3 × α4)) (G : α0 → α1 → α2 → α3 → α4 → Prop) : α0 × α1 × α2 × α3 × α4 := c1 ne fun T => G (T.1) (T.2.1) (T.2.2.1) (T.2.2.2.1) (T.2.2.2.2)
@[irreducible] noncomputable def p5_1 {α0 α1 α2 α3 α4 : Type} (T : α0 × α1 × α2 × α3 × α4) : α0 := T.1
@[irreducible] noncomputable def p5_2 {α0 α1 α2 α3 α4 : Type} (T : α0 × α1 × α2 × α3 × α4) : α1 := T.2.1
@[irreducible] noncomputable def p5_3 {α0 α1 α2 α3 α4 : Type} (T : α0 × α1 × α2 × α3 × α4) : α2 := T.2.2.1
@[irreducible] noncomputable def p5_4 {α0 α1 α2 α3 α4 : Type} (T : α0 × α1 × α2 × α3 × α4) : α3 := T.2.2.2.1
@[irreducible] noncomputable def p5_5 {α0 α1 α2 α3 α4 : Type} (T : α0 × α1 × α2 × α3 × α4) : α4 := T.2.2.2.2
theorem all5 {α0 α1 α2 α3 α4 : Type} (ne : Nonempty (α0 × α1 × α2 × α3 × α4)) {G : α0 → α1 → α2 → α3 → α4 → Prop} (h : G (p5_1 (c5 ne G)) (p5_2 (c5 ne G)) (p5_3 (c5 ne G)) (p5_4 (c5 ne G)) (p5_5 (c5 ne G))) : ∀ x0 x1 x2 x3 x4, G x0 x1 x2 x3 x4 := by
  unfold c5 p5_1 p5_2 p5_3 p5_4 p5_5 at h
  intro x0 x1 x2 x3 x4
  exact c1_spec ne (fun T => G (T.1) (T.2.1) (T.2.2.1) (T.2.2.2.1) (T.2.2.2.2)) h (x0, x1, x2, x3, x4)
@[irreducible] noncomputable def c6 {α0 α1 α2 α3 α4 α5 : Type} (ne : Nonempty (α0 × α1 × α2 × α3 × α4 × α5)) (G : α0 → α1 → α2 → α3 → α4 → α5 → Prop) : α0 × α1 × α2 × α3 × α4 × α5 := c1 ne fun T => G (T.1) (T.2.1) (T.2.2.1) (T.2.2.2.1) (T.2.2.2.2.1) (T.2.2.2.2.2)
@[irreducible] noncomputable def p6_1 {α0 α1 α2 α3 α4 α5 : Type} (T : α0 × α1 × α2 × α3 × α4 × α5) : α0 := T.1
@[irreducible] noncomputable def p6_2 {α0 α1 α2 α3 α4 α5 : Type} (T : α0 × α1 × α2 × α3 × α4 × α5) : α1 := T.2.1
@[irreducible] noncomputable def p6_3 {α0 α1 α2 α3 α4 α5 : Type} (T : α0 × α1 × α2 × α3 × α4 × α5) : α2 := T.2.2.1
@[irreducible] noncomputable def p6_4 {α0 α1 α2 α3 α4 α5 : Type} (T : α0 × α1 × α2 × α3 × α4 × α5) : α3 := T.2.2.2.1
@[irreducible] noncomputable def p6_5 {α0 α1 α2 α3 α4 α5 : Type} (T : α0 × α1 × α2 × α3 × α4 × α5) : α4 := T.2.2.2.2.1
@[irreducible] noncomputable def p6_6 {α0 α1 α2 α3 α4 α5 : Type} (T : α0 × α1 × α2 × α3 × α4 × α5) : α5 := T.2.2.2.2.2
theorem all6 {α0 α1 α2 α3 α4 α5 : Type} (ne : Nonempty (α0 × α1 × α2 × α3 × α4 × α5)) {G : α0 → α1 → α2 → α3 → α4 → α5 → Prop} (h : G (p6_1 (c6 ne G)) (p6_2 (c6 ne G)) (p6_3 (c6 ne G)) (p6_4 (c6 ne G)) (p6_5 (c6 ne G)) (p6_6 (c6 ne G))) : ∀ x0 x1 x2 x3 x4 x5, G x0 x1 x2 x3 x4 x5 := by
  unfold c6 p6_1 p6_2 p6_3 p6_4 p6_5 p6_6 at h
  intro x0 x1 x2 x3 x4 x5
  exact c1_spec ne (fun T => G (T.1) (T.2.1) (T.2.2.1) (T.2.2.2.1) (T.2.2.2.2.1) (T.2.2.2.2.2)) h (x0, x1, x2, x3, x4, x5)
@[irreducible] noncomputable def c7 {α0 α1 α2 α3 α4 α5 α6 : Type} (ne : Nonempty (α0 × α1 × α2 × α3 × α4 × α5 × α6)) (G : α0 → α1 → α2 → α3 → α4 → α5 → α6 → Prop) : α0 × α1 × α2 × α3 × α4 × α5 × α6 := c1 ne fun T => G (T.1) (T.2.1) (T.2.2.1) (T.2.2.2.1) (T.2.2.2.2.1) (T.2.2.2.2.2.1) (T.2.2.2.2.2.2)
@[irreducible] noncomputable def p7_1 {α0 α1 α2 α3 α4 α5 α6 : Type} (T : α0 × α1 × α2 × α3 × α4 × α5 × α6) : α0 := T.1
@[irreducible] noncomputable def p7_2 {α0 α1 α2 α3 α4 α5 α6 : Type} (T : α0 × α1 × α2 × α3 × α4 × α5 × α6) : α1 := T.2.1
@[irreducible] noncomputable def p7_3 {α0 α1 α2 α3 α4 α5 α6 : Type} (T : α0 × α1 × α2 × α3 × α4 × α5 × α6) : α2 := T.2.2.1
@[irreducible] noncomputable def p7_4 {α0 α1 α2 α3 α4 α5 α6 : Type} (T : α0 × α1 × α2 × α3 × α4 × α5 × α6) : α3 := T.2.2.2.1
@[irreducible] noncomputable def p7_5 {α0 α1 α2 α3 α4 α5 α6 : Type} (T : α0 × α1 × α2 × α3 × α4 × α5 × α6) : α4 := T.2.2.2.2.1
@[irreducible] noncomputable def p7_6 {α0 α1 α2 α3 α4 α5 α6 : Type} (T : α0 × α1 × α2 × α3 × α4 × α5 × α6) : α5 := T.2.2.2.2.2.1
@[irreducible] noncomputable def p7_7 {α0 α1 α2 α3 α4 α5 α6 : Type} (T : α0 × α1 × α2 × α3 × α4 × α5 × α6) : α6 := T.2.2.2.2.2.2
theorem all7 {α0 α1 α2 α3 α4 α5 α6 : Type} (ne : Nonempty (α0 × α1 × α2 × α3 × α4 × α5 × α6)) {G : α0 → α1 → α2 → α3 → α4 → α5 → α6 → Prop} (h : G (p7_1 (c7 ne G)) (p7_2 (c7 ne G)) (p7_3 (c7 ne G)) (p7_4 (c7 ne G)) (p7_5 (c7 ne G)) (p7_6 (c7 ne G)) (p7_7 (c7 ne G))) : ∀ x0 x1 x2 x3 x4 x5 x6, G x0 x1 x2 x3 x4 x5 x6 := by
  unfold c7 p7_1 p7_2 p7_3 p7_4 p7_5 p7_6 p7_7 at h
  intro x0 x1 x2 x3 x4 x5 x6
  exact c1_spec ne (fun T => G (T.1) (T.2.1) (T.2.2.1) (T.2.2.2.1) (T.2.2.2.2.1) (T.2.2.2.2.2.1) (T.2.2.2.2.2.2)) h (x0, x1, x2, x3, x4, x5, x6)
@[irreducible] noncomputable def c8 {α0 α1 α2 α3 α4 α5 α6 α7 : Type} (ne : Nonempty (α0 × α1 × α2 × α3 × α4 × α5 × α6 × α7)) (G : α0 → α1 → α2 → α3 → α4 → α5 → α6 → α7 → Prop) : α0 × α1 × α2 × α3 × α4 × α5 × α6 × α7 := c1 ne fun T => G (T.1) (T.2.1) (T.2.2.1) (T.2.2.2.1) (T.2.2.2.2.1) (T.2.2.2.2.2.1) (T.2.2.2.2.2.2.1) (T.2.2.2.2.2.2.2)
@[irreducible] noncomputable def p8_1 {α0 α1 α2 α3 α4 α5 α6 α7 : Type} (T : α0 × α1 × α2 × α3 × α4 × α5 × α6 × α7) : α0 := T.1
@[irreducible] noncomputable def p8_2 {α0 α1 α2 α3 α4 α5 α6 α7 : Type} (T : α0 × α1 × α2 × α3 × α4 × α5 × α6 × α7) : α1 := T.2.1
@[irreducible] noncomputable def p8_3 {α0 α1 α2 α3 α4 α5 α6 α7 : Type} (T : α0 × α1 × α2 × α3 × α4 × α5 × α6 × α7) : α2 := T.2.2.1
@[irreducible] noncomputable def p8_4 {α0 α1 α2 α3 α4 α5 α6 α7 : Type} (T : α0 × α1 × α2 × α3 × α4 × α5 × α6 × α7) : α3 := T.2.2.2.1
@[irreducible] noncomputable def p8_5 {α0 α1 α2 α3 α4 α5 α6 α7 : Type} (T : α0 × α1 × α2 × α3 × α4 × α5 × α6 × α7) : α4 := T.2.2.2.2.1
@[irreducible] noncomputable def p8_6 {α0 α1 α2 α3 α4 α5 α6 α7 : Type} (T : α0 × α1 × α2 × α3 × α4 × α5 × α6 × α7) : α5 := T.2.2.2.2.2.1
@[irreducible] noncomputable def p8_7 {α0 α1 α2 α3 α4 α5 α6 α7 : Type} (T : α0 × α1 × α2 × α3 × α4 × α5 × α6 × α7) : α6 := T.2.2.2.2.2.2.1
@[irreducible] noncomputable def p8_8 {α0 α1 α2 α3 α4 α5 α6 α7 : Type} (T : α0 × α1 × α2 × α3 × α4 × α5 × α6 × α7) : α7 := T.2.2.2.2.2.2.2
theorem all8 {α0 α1 α2 α3 α4 α5 α6 α7 : Type} (ne : Nonempty (α0 × α1 × α2 × α3 × α4 × α5 × α6 × α7)) {G : α0 → α1 → α2 → α3 → α4 → α5 → α6 → α7 → Prop} (h : G (p8_1 (c8 ne G)) (p8_2 (c8 ne G)) (p8_3 (c8 ne G)) (p8_4 (c8 ne G)) (p8_5 (c8 ne G)) (p8_6 (c8 ne G)) (p8_7 (c8 ne G)) (p8_8 (c8 ne G))) : ∀ x0 x1 x2 x3 x4 x5 x6 x7, G x0 x1 x2 x3 x4 x5 x6 x7 := by
  unfold c8 p8_1 p8_2 p8_3 p8_4 p8_5 p8_6 p8_7 p8_8 at h
  intro x0 x1 x2 x3 x4 x5 x6 x7
  exact c1_spec ne (fun T => G (T.1) (T.2.1) (T.2.2.1) (T.2.2.2.1) (T.2.2.2.2.1) (T.2.2.2.2.2.1) (T.2.2.2.2.2.2.1) (T.2.2.2.2.2.2.2)) h (x0, x1, x2, x3, x4, x5, x6, x7)
@[irreducible] noncomputable def c9 {α0 α1 α2 α3 α4 α5 α6 α7 α8 : Type} (ne : Nonempty (α0 × α1 × α2 × α3 × α4 × α5 × α6 × α7 × α8)) (G : α0 → α1 → α2 → α3 → α4 → α5 → α6 → α7 → α8 → Prop) : α0 × α1 × α2 × α3 × α4 × α5 × α6 × α7 × α8 := c1 ne fun T => G (T.1) (T.2.1) (T.2.2.1) (T.2.2.2.1) (T.2.2.2.2.1) (T.2.2.2.2.2.1) (T.2.2.2.2.2.2.1) (T.2.2.2.2.2.2.2.1) (T.2.2.2.2.2.2.2.2)
@[irreducible] noncomputable def p9_1 {α0 α1 α2 α3 α4 α5 α6 α7 α8 : Type} (T : α0 × α1 × α2 × α3 × α4 × α5 × α6 × α7 × α8) : α0 := T.1
@[irreducible] noncomputable def p9_2 {α0 α1 α2 α3 α4 α5 α6 α7 α8 : Type} (T : α0 × α1 × α2 × α3 × α4 × α5 × α6 × α7 × α8) : α1 := T.2.1
@[irreducible] noncomputable def p9_3 {α0 α1 α2 α3 α4 α5 α6 α7 α8 : Type} (T : α0 × α1 × α2 × α3 × α4 × α5 × α6 × α7 × α8) : α2 := T.2.2.1
@[irreducible] noncomputable def p9_4 {α0 α1 α2 α3 α4 α5 α6 α7 α8 : Type} (T : α0 × α1 × α2 × α3 × α4 × α5 × α6 × α7 × α8) : α3 := T.2.2.2.1
@[irreducible] noncomputable def p9_5 {α0 α1 α2 α3 α4 α5 α6 α7 α8 : Type} (T : α0 × α1 × α2 × α3 × α4 × α5 × α6 × α7 × α8) : α4 := T.2.2.2.2.1
@[irreducible] noncomputable def p9_6 {α0 α1 α2 α3 α4 α5 α6 α7 α8 : Type} (T : α0 × α1 × α2 × α3 × α4 × α5 × α6 × α7 × α8) : α5 := T.2.2.2.2.2.1
@[irreducible] noncomputable def p9_7 {α0 α1 α2 α3 α4 α5 α6 α7 α8 : Type} (T : α0 × α1 × α2 × α3 × α4 × α5 × α6 × α7 × α8) : α6 := T.2.2.2.2.2.2.1
@[irreducible] noncomputable def p9_8 {α0 α1 α2 α3 α4 α5 α6 α7 α8 : Type} (T : α0 × α1 × α2 × α3 × α4 × α5 × α6 × α7 × α8) : α7 := T.2.2.2.2.2.2.2.1
@[irreducible] noncomputable def p9_9 {α0 α1 α2 α3 α4 α5 α6 α7 α8 : Type} (T : α0 × α1 × α2 × α3 × α4 × α5 × α6 × α7 × α8) : α8 := T.2.2.2.2.2.2.2.2
theorem all9 {α0 α1 α2 α3 α4 α5 α6 α7 α8 : Type} (ne : Nonempty (α0 × α1 × α2 × α3 × α4 × α5 × α6 × α7 × α8)) {G : α0 → α1 → α2 → α3 → α4 → α5 → α6 → α7 → α8 → Prop} (h : G (p9_1 (c9 ne G)) (p9_2 (c9 ne G)) (p9_3 (c9 ne G)) (p9_4 (c9 ne G)) (p9_5 (c9 ne G)) (p9_6 (c9 ne G)) (p9_7 (c9 ne G)) (p9_8 (c9 ne G)) (p9_9 (c9 ne G))) : ∀ x0 x1 x2 x3 x4 x5 x6 x7 x8, G x0 x1 x2 x3 x4 x5 x6 x7 x8 := by
  unfold c9 p9_1 p9_2 p9_3 p9_4 p9_5 p9_6 p9_7 p9_8 p9_9 at h
  intro x0 x1 x2 x3 x4 x5 x6 x7 x8
  exact c1_spec ne (fun T => G (T.1) (T.2.1) (T.2.2.1) (T.2.2.2.1) (T.2.2.2.2.1) (T.2.2.2.2.2.1) (T.2.2.2.2.2.2.1) (T.2.2.2.2.2.2.2.1) (T.2.2.2.2.2.2.2.2)) h (x0, x1, x2, x3, x4, x5, x6, x7, x8)
@[irreducible] noncomputable def c10 {α0 α1 α2 α3 α4 α5 α6 α7 α8 α9 : Type} (ne : Nonempty (α0 × α1 × α2 × α3 × α4 × α5 × α6 × α7 × α8 × α9)) (G : α0 → α1 → α2 → α3 → α4 → α5 → α6 → α7 → α8 → α9 → Prop) : α0 × α1 × α2 × α3 × α4 × α5 × α6 × α7 × α8 × α9 := c1 ne fun T => G (T.1) (T.2.1) (T.2.2.1) (T.2.2.2.1) (T.2.2.2.2.1) (T.2.2.2.2.2.1) (T.2.2.2.2.2.2.1) (T.2.2.2.2.2.2.2.1) (T.2.2.2.2.2.2.2.2.1) (T.2.2.2.2.2.2.2.2.2)
@[irreducible] noncomputable def p10_1 {α0 α1 α2 α3 α4 α5 α6 α7 α8 α9 : Type} (T : α0 × α1 × α2 × α3 × α4 × α5 × α6 × α7 × α8 × α9) : α0 := T.1
@[irreducible] noncomputable def p10_2 {α0 α1 α2 α3 α4 α5 α6 α7 α8 α9 : Type} (T : α0 × α1 × α2 × α3 × α4 × α5 × α6 × α7 × α8 × α9) : α1 := T.2.1
@[irreducible] noncomputable def p10_3 {α0 α1 α2 α3 α4 α5 α6 α7 α8 α9 : Type} (T : α0 × α1 × α2 × α3 × α4 × α5 × α6 × α7 × α8 × α9) : α2 := T.2.2.1
@[irreducible] noncomputable def p10_4 {α0 α1 α2 α3 α4 α5 α6 α7 α8 α9 : Type} (T : α0 × α1 × α2 × α3 × α4 × α5 × α6 × α7 × α8 × α9) : α3 := T.2.2.2.1
@[irreducible] noncomputable def p10_5 {α0 α1 α2 α3 α4 α5 α6 α7 α8 α9 : Type} (T : α0 × α1 × α2 × α3 × α4 × α5 × α6 × α7 × α8 × α9) : α4 := T.2.2.2.2.1
@[irreducible] noncomputable def p10_6 {α0 α1 α2 α3 α4 α5 α6 α7 α8 α9 : Type} (T : α0 × α1 × α2 × α3 × α4 × α5 × α6 × α7 × α8 × α9) : α5 := T.2.2.2.2.2.1
@[irreducible] noncomputable def p10_7 {α0 α1 α2 α3 α4 α5 α6 α7 α8 α9 : Type} (T : α0 × α1 × α2 × α3 × α4 × α5 × α6 × α7 × α8 × α9) : α6 := T.2.2.2.2.2.2.1
@[irreducible] noncomputable def p10_8 {α0 α1 α2 α3 α4 α5 α6 α7 α8 α9 : Type} (T : α0 × α1 × α2 × α3 × α4 × α5 × α6 × α7 × α8 × α9) : α7 := T.2.2.2.2.2.2.2.1
@[irreducible] noncomputable def p10_9 {α0 α1 α2 α3 α4 α5 α6 α7 α8 α9 : Type} (T : α0 × α1 × α2 × α3 × α4 × α5 × α6 × α7 × α8 × α9) : α8 := T.2.2.2.2.2.2.2.2.1
@[irreducible] noncomputable def p10_10 {α0 α1 α2 α3 α4 α5 α6 α7 α8 α9 : Type} (T : α0 × α1 × α2 × α3 × α4 × α5 × α6 × α7 × α8 × α9) : α9 := T.2.2.2.2.2.2.2.2.2
theorem all10 {α0 α1 α2 α3 α4 α5 α6 α7 α8 α9 : Type} (ne : Nonempty (α0 × α1 × α2 × α3 × α4 × α5 × α6 × α7 × α8 × α9)) {G : α0 → α1 → α2 → α3 → α4 → α5 → α6 → α7 → α8 → α9 → Prop} (h : G (p10_1 (c10 ne G)) (p10_2 (c10 ne G)) (p10_3 (c10 ne G)) (p10_4 (c10 ne G)) (p10_5 (c10 ne G)) (p10_6 (c10 ne G)) (p10_7 (c10 ne G)) (p10_8 (c10 ne G)) (p10_9 (c10 ne G)) (p10_10 (c10 ne G))) : ∀ x0 x1 x2 x3 x4 x5 x6 x7 x8 x9, G x0 x1 x2 x3 x4 x5 x6 x7 x8 x9 := by
  unfold c10 p10_1 p10_2 p10_3 p10_4 p10_5 p10_6 p10_7 p10_8 p10_9 p10_10 at h
  intro x0 x1 x2 x3 x4 x5 x6 x7 x8 x9
  exact c1_spec ne (fun T => G (T.1) (T.2.1) (T.2.2.1) (T.2.2.2.1) (T.2.2.2.2.1) (T.2.2.2.2.2.1) (T.2.2.2.2.2.2.1) (T.2.2.2.2.2.2.2.1) (T.2.2.2.2.2.2.2.2.1) (T.2.2.2.2.2.2.2.2.2)) h (x0, x1, x2, x3, x4, x5, x6, x7, x8, x9)
@[irreducible] noncomputable def c11 {α0 α1 α2 α3 α4 α5 α6 α7 α8 α9 α10 : Type} (ne : Nonempty (α0 × α1 × α2 × α3 × α4 × α5 × α6 × α7 × α8 × α9 × α10)) (G : α0 → α1 → α2 → α3 → α4 → α5 → α6 → α7 → α8 → α9 → α10 → Prop) : α0 × α1 × α2 × α3 × α4 × α5 × α6 × α7 × α8 × α9 × α10 := c1 ne fun T => G (T.1) (T.2.1) (T.2.2.1) (T.2.2.2.1) (T.2.2.2.2.1) (T.2.2.2.2.2.1) (T.2.2.2.2.2.2.1) (T.2.2.2.2.2.2.2.1) (T.2.2.2.2.2.2.2.2.1) (T.2.2.2.2.2.2.2.2.2.1) (T.2.2.2.2.2.2.2.2.2.2)
@[irreducible] noncomputable def p11_1 {α0 α1 α2 α3 α4 α5 α6 α7 α8 α9 α10 : Type} (T : α0 × α1 × α2 × α3 × α4 × α5 × α6 × α7 × α8 × α9 × α10) : α0 := T.1
@[irreducible] noncomputable def p11_2 {α0 α1 α2 α3 α4 α5 α6 α7 α8 α9 α10 : Type} (T : α0 × α1 × α2 × α3 × α4 × α5 × α6 × α7 × α8 × α9 × α10) : α1 := T.2.1
@[irreducible] noncomputable def p11_3 {α0 α1 α2 α3 α4 α5 α6 α7 α8 α9 α10 : Type} (T : α0 × α1 × α2 × α3 × α4 × α5 × α6 × α7 × α8 × α9 × α10) : α2 := T.2.2.1
@[irreducible] noncomputable def p11_4 {α0 α1 α2 α3 α4 α5 α6 α7 α8 α9 α10 : Type} (T : α0 × α1 × α2 × α3 × α4 × α5 × α6 × α7 × α8 × α9 × α10) : α3 := T.2.2.2.1
@[irreducible] noncomputable def p11_5 {α0 α1 α2 α3 α4 α5 α6 α7 α8 α9 α10 : Type} (T : α0 × α1 × α2 × α3 × α4 × α5 × α6 × α7 × α8 × α9 × α10) : α4 := T.2.2.2.2.1
@[irreducible] noncomputable def p11_6 {α0 α1 α2 α3 α4 α5 α6 α7 α8 α9 α10 : Type} (T : α0 × α1 × α2 × α3 × α4 × α5 × α6 × α7 × α8 × α9 × α10) : α5 := T.2.2.2.2.2.1
@[irreducible] noncomputable def p11_7 {α0 α1 α2 α3 α4 α5 α6 α7 α8 α9 α10 : Type} (T : α0 × α1 × α2 × α3 × α4 × α5 × α6 × α7 × α8 × α9 × α10) : α6 := T.2.2.2.2.2.2.1
@[irreducible] noncomputable def p11_8 {α0 α1 α2 α3 α4 α5 α6 α7 α8 α9 α10 : Type} (T : α0 × α1 × α2 × α3 × α4 × α5 × α6 × α7 × α8 × α9 × α10) : α7 := T.2.2.2.2.2.2.2.1
@[irreducible] noncomputable def p11_9 {α0 α1 α2 α3 α4 α5 α6 α7 α8 α9 α10 : Type} (T : α0 × α1 × α2 × α3 × α4 × α5 × α6 × α7 × α8 × α9 × α10) : α8 := T.2.2.2.2.2.2.2.2.1
@[irreducible] noncomputable def p11_10 {α0 α1 α2 α3 α4 α5 α6 α7 α8 α9 α10 : Type} (T : α0 × α1 × α2 × α3 × α4 × α5 × α6 × α7 × α8 × α9 × α10) : α9 := T.2.2.2.2.2.2.2.2.2.1
@[irreducible] noncomputable def p11_11 {α0 α1 α2 α3 α4 α5 α6 α7 α8 α9 α10 : Type} (T : α0 × α1 × α2 × α3 × α4 × α5 × α6 × α7 × α8 × α9 × α10) : α10 := T.2.2.2.2.2.2.2.2.2.2
theorem all11 {α0 α1 α2 α3 α4 α5 α6 α7 α8 α9 α10 : Type} (ne : Nonempty (α0 × α1 × α2 × α3 × α4 × α5 × α6 × α7 × α8 × α9 × α10)) {G : α0 → α1 → α2 → α3 → α4 → α5 → α6 → α7 → α8 → α9 → α10 → Prop} (h : G (p11_1 (c11 ne G)) (p11_2 (c11 ne G)) (p11_3 (c11 ne G)) (p11_4 (c11 ne G)) (p11_5 (c11 ne G)) (p11_6 (c11 ne G)) (p11_7 (c11 ne G)) (p11_8 (c11 ne G)) (p11_9 (c11 ne G)) (p11_10 (c11 ne G)) (p11_11 (c11 ne G))) : ∀ x0 x1 x2 x3 x4 x5 x6 x7 x8 x9 x10, G x0 x1 x2 x3 x4 x5 x6 x7 x8 x9 x10 := by
  unfold c11 p11_1 p11_2 p11_3 p11_4 p11_5 p11_6 p11_7 p11_8 p11_9 p11_10 p11_11 at h
  intro x0 x1 x2 x3 x4 x5 x6 x7 x8 x9 x10
  exact c1_spec ne (fun T => G (T.1) (T.2.1) (T.2.2.1) (T.2.2.2.1) (T.2.2.2.2.1) (T.2.2.2.2.2.1) (T.2.2.2.2.2.2.1) (T.2.2.2.2.2.2.2.1) (T.2.2.2.2.2.2.2.2.1) (T.2.2.2.2.2.2.2.2.2.1) (T.2.2.2.2.2.2.2.2.2.2)) h (x0, x1, x2, x3, x4, x5, x6, x7, x8, x9, x10)
theorem all_xx {α0 α1 : Type} (ne : Nonempty (α0 × α1)) {G : (α0 × α1) → Prop} (h : G ((p2_1 (c2 ne fun x0 x1 => G (x0, x1))), (p2_2 (c2 ne fun x0 x1 => G (x0, x1))))) : ∀ x, G x := fun x => all2 ne (G := fun x0 x1 => G (x0, x1)) h (x.1) (x.2)
theorem all_xxxx {α0 α1 α2 α3 : Type} (ne : Nonempty (α0 × α1 × α2 × α3)) {G : (α0 × α1 × α2 × α3) → Prop} (h : G ((p4_1 (c4 ne fun x0 x1 x2 x3 => G (x0, x1, x2, x3))), (p4_2 (c4 ne fun x0 x1 x2 x3 => G (x0, x1, x2, x3))), (p4_3 (c4 ne fun x0 x1 x2 x3 => G (x0, x1, x2, x3))), (p4_4 (c4 ne fun x0 x1 x2 x3 => G (x0, x1, x2, x3))))) : ∀ x, G x := fun x => all4 ne (G := fun x0 x1 x2 x3 => G (x0, x1, x2, x3)) h (x.1) (x.2.1) (x.2.2.1) (x.2.2.2)
theorem all_xxoxxcoxxcx {α0 α1 α2 α3 α4 α5 α6 : Type} (ne : Nonempty (α0 × α1 × α2 × α3 × α4 × α5 × α6)) {G : (α0 × α1 × (α2 × α3) × (α4 × α5) × α6) → Prop} (h : G ((p7_1 (c7 ne fun x0 x1 x2 x3 x4 x5 x6 => G (x0, x1, (x2, x3), (x4, x5), x6))), (p7_2 (c7 ne fun x0 x1 x2 x3 x4 x5 x6 => G (x0, x1, (x2, x3), (x4, x5), x6))), ((p7_3 (c7 ne fun x0 x1 x2 x3 x4 x5 x6 => G (x0, x1, (x2, x3), (x4, x5), x6))), (p7_4 (c7 ne fun x0 x1 x2 x3 x4 x5 x6 => G (x0, x1, (x2, x3), (x4, x5), x6)))), ((p7_5 (c7 ne fun x0 x1 x2 x3 x4 x5 x6 => G (x0, x1, (x2, x3), (x4, x5), x6))), (p7_6 (c7 ne fun x0 x1 x2 x3 x4 x5 x6 => G (x0, x1, (x2, x3), (x4, x5), x6)))), (p7_7 (c7 ne fun x0 x1 x2 x3 x4 x5 x6 => G (x0, x1, (x2, x3), (x4, x5), x6))))) : ∀ x, G x := fun x => all7 ne (G := fun x0 x1 x2 x3 x4 x5 x6 => G (x0, x1, (x2, x3), (x4, x5), x6)) h (x.1) (x.2.1) (x.2.2.1.1) (x.2.2.1.2) (x.2.2.2.1.1) (x.2.2.2.1.2) (x.2.2.2.2)
theorem all_oxxcx {α0 α1 α2 : Type} (ne : Nonempty (α0 × α1 × α2)) {G : ((α0 × α1) × α2) → Prop} (h : G (((p3_1 (c3 ne fun x0 x1 x2 => G ((x0, x1), x2))), (p3_2 (c3 ne fun x0 x1 x2 => G ((x0, x1), x2)))), (p3_3 (c3 ne fun x0 x1 x2 => G ((x0, x1), x2))))) : ∀ x, G x := fun x => all3 ne (G := fun x0 x1 x2 => G ((x0, x1), x2)) h (x.1.1) (x.1.2) (x.2)
theorem all_oxxcxx {α0 α1 α2 α3 : Type} (ne : Nonempty (α0 × α1 × α2 × α3)) {G : ((α0 × α1) × α2 × α3) → Prop} (h : G (((p4_1 (c4 ne fun x0 x1 x2 x3 => G ((x0, x1), x2, x3))), (p4_2 (c4 ne fun x0 x1 x2 x3 => G ((x0, x1), x2, x3)))), (p4_3 (c4 ne fun x0 x1 x2 x3 => G ((x0, x1), x2, x3))), (p4_4 (c4 ne fun x0 x1 x2 x3 => G ((x0, x1), x2, x3))))) : ∀ x, G x := fun x => all4 ne (G := fun x0 x1 x2 x3 => G ((x0, x1), x2, x3)) h (x.1.1) (x.1.2) (x.2.1) (x.2.2)
theorem all_oxxcoxxcoxxc {α0 α1 α2 α3 α4 α5 : Type} (ne : Nonempty (α0 × α1 × α2 × α3 × α4 × α5)) {G : ((α0 × α1) × (α2 × α3) × (α4 × α5)) → Prop} (h : G (((p6_1 (c6 ne fun x0 x1 x2 x3 x4 x5 => G ((x0, x1), (x2, x3), (x4, x5)))), (p6_2 (c6 ne fun x0 x1 x2 x3 x4 x5 => G ((x0, x1), (x2, x3), (x4, x5))))), ((p6_3 (c6 ne fun x0 x1 x2 x3 x4 x5 => G ((x0, x1), (x2, x3), (x4, x5)))), (p6_4 (c6 ne fun x0 x1 x2 x3 x4 x5 => G ((x0, x1), (x2, x3), (x4, x5))))), ((p6_5 (c6 ne fun x0 x1 x2 x3 x4 x5 => G ((x0, x1), (x2, x3), (x4, x5)))), (p6_6 (c6 ne fun x0 x1 x2 x3 x4 x5 => G ((x0, x1), (x2, x3), (x4, x5))))))) : ∀ x, G x := fun x => all6 ne (G := fun x0 x1 x2 x3 x4 x5 => G ((x0, x1), (x2, x3), (x4, x5))) h (x.1.1) (x.1.2) (x.2.1.1) (x.2.1.2) (x.2.2.1) (x.2.2.2)
structure Par where
  w : World
  mean : ExcName → Option Value
  mg : Str → Option Value
  mb : Str → Option Value
  dp : Nat
  un : Nat
  gd : Option (List Code)
  cn : Str
  cs : Scope
  a : Addr
  ccd : Value
  cl : List (Str × Addr)
  outer : List Env
  A₀ : Around
  base : Heap
  h₀ : Heap
  L : Addr
  m : Str → Option Value
  s : Shared
  hp : Heap
  tk0 : Nat
  news : List (Addr × Obj)
  Q : Value → Shared → Prop
  E : Value → Shared → Prop
theorem ne_w : Nonempty World := ⟨⟨fun _ _ => 0, { strHash := fun _ => 0, shareClass := fun _ => 0, mergeTok := fun _ => 0, idOf := fun _ => 0, idOfShared := fun _ _ => 0, followText := fun _ => false, idOfImm := fun _ => 0 }⟩⟩
theorem ne_a : Nonempty Around := ⟨{}⟩
theorem ne_s : Nonempty Shared := ⟨{}⟩
theorem ne_m : Nonempty Model := ne_w.elim fun w => ⟨model default w⟩
theorem ne_d : Nonempty Drawn := ne_s.elim fun s => ⟨s.drawn⟩
theorem exE {α : Type} {P : α → Prop} {G : Prop} (h : ∃ x, P x) (k : ∀ x, P x → G) : G := h.elim k
theorem ne_par : Nonempty Par := ⟨⟨⟨fun _ _ => 0, { strHash := fun _ => 0, shareClass := fun _ => 0, mergeTok := fun _ => 0, idOf := fun _ => 0, idOfShared := fun _ _ => 0, followText := fun _ => false, idOfImm := fun _ => 0 }⟩, fun _ => none, fun _ => none, fun _ => none, 0, 0, none, default, default, 0, .none, [], [], {}, {}, {}, 0, fun _ => none, {}, {}, 0, [], fun _ _ => True, fun _ _ => True⟩⟩
@[irreducible] noncomputable def cP (G : (World) → (ExcName → Option Value) → (Str → Option Value) → (Str → Option Value) → (Nat) → (Nat) → (Option (List Code)) → (Str) → (Scope) → (Addr) → (Value) → (List (Str × Addr)) → (List Env) → (Around) → (Heap) → (Heap) → (Addr) → (Str → Option Value) → (Shared) → (Heap) → (Nat) → (List (Addr × Obj)) → (Value → Shared → Prop) → (Value → Shared → Prop) → Prop) : Par := c1 ne_par fun P => G P.w P.mean P.mg P.mb P.dp P.un P.gd P.cn P.cs P.a P.ccd P.cl P.outer P.A₀ P.base P.h₀ P.L P.m P.s P.hp P.tk0 P.news P.Q P.E
theorem allP {G : (World) → (ExcName → Option Value) → (Str → Option Value) → (Str → Option Value) → (Nat) → (Nat) → (Option (List Code)) → (Str) → (Scope) → (Addr) → (Value) → (List (Str × Addr)) → (List Env) → (Around) → (Heap) → (Heap) → (Addr) → (Str → Option Value) → (Shared) → (Heap) → (Nat) → (List (Addr × Obj)) → (Value → Shared → Prop) → (Value → Shared → Prop) → Prop} (h : G (cP G).w (cP G).mean (cP G).mg (cP G).mb (cP G).dp (cP G).un (cP G).gd (cP G).cn (cP G).cs (cP G).a (cP G).ccd (cP G).cl (cP G).outer (cP G).A₀ (cP G).base (cP G).h₀ (cP G).L (cP G).m (cP G).s (cP G).hp (cP G).tk0 (cP G).news (cP G).Q (cP G).E) : ∀ w mean mg mb dp un gd cn cs a ccd cl outer A₀ base h₀ L m s hp tk0 news Q E, G w mean mg mb dp un gd cn cs a ccd cl outer A₀ base h₀ L m s hp tk0 news Q E := by
  unfold cP at h
  intro w mean mg mb dp un gd cn cs a ccd cl outer A₀ base h₀ L m s hp tk0 news Q E
  exact c1_spec ne_par (fun P => G P.w P.mean P.mg P.mb P.dp P.un P.gd P.cn P.cs P.a P.ccd P.cl P.outer P.A₀ P.base P.h₀ P.L P.m P.s P.hp P.tk0 P.news P.Q P.E) h ⟨w, mean, mg, mb, dp, un, gd, cn, cs, a, ccd, cl, outer, A₀, base, h₀, L, m, s, hp, tk0, news, Q, E⟩
theorem allK {G : Nat → Prop} (h0 : G 0) (hs : G (c1 (⟨0⟩ : Nonempty Nat) (fun j => G (j + 1)) + 1)) : ∀ k, G k
  | 0 => h0
  | k + 1 => all1 ⟨0⟩ (G := fun j => G (j + 1)) hs k
theorem room_lt {a b c d R : Nat} (h : a + d < R) (q : b + c ≤ d) : a + b + c < R := by rw [Nat.add_assoc]; exact Nat.lt_of_le_of_lt (Nat.add_le_add_left q a) h
theorem room0 {a d R : Nat} (h : a + d < R) : a < R := Nat.lt_of_le_of_lt (Nat.le_add_right a d) h
theorem nn_add {j k : Int} (h : 0 ≤ j) (hk : 0 ≤ k) : 0 ≤ j + k := Int.add_nonneg h hk
theorem nn_add2 {j k l : Int} (h : 0 ≤ j) (hk : 0 ≤ k + l) : 0 ≤ j + k + l := by rw [Int.add_assoc]; exact Int.add_nonneg h hk
theorem le_add_k {i j k : Int} (h : i ≤ j) (hk : 0 ≤ k) : i ≤ j + k := Int.le_trans h (Int.le_add_of_nonneg_right hk)
theorem meas1 {n j : Int} (h : j < n) : (n - (j + 1)).toNat < (n - j).toNat := by rw [Int.toNat_lt_toNat (Int.sub_pos_of_lt h)]; exact Int.sub_lt_sub_left (Int.lt_succ j) n
theorem meas2 {n j : Int} (h : j < n) : (n - (j + 1 + 1)).toNat < (n - j).toNat := by rw [Int.toNat_lt_toNat (Int.sub_pos_of_lt h)]; exact Int.sub_lt_sub_left (Int.lt_trans (Int.lt_succ j) (Int.lt_succ _)) n
theorem len_ilt {x a : Nat} {b : Int} (h : x ≤ a) (q : (a : Int) < b) : (x : Int) < b := Int.lt_of_le_of_lt (Int.ofNat_le.mpr h) q
theorem len_ile {x a : Nat} {b : Int} (h : x ≤ a) (q : (a : Int) ≤ b) : (x : Int) ≤ b := Int.le_trans (Int.ofNat_le.mpr h) q
theorem ix_lt {x a : Nat} {j b : Int} (h : x ≤ a) (k : j < x) (q : (a : Int) < b) : j < b := Int.lt_trans k (len_ilt h q)
theorem ix_gt {j b : Int} (h : 0 ≤ j) (q : b < 0) : b < j := Int.lt_of_lt_of_le q h
theorem ix_neg {j : Int} {x : Nat} (h : 0 ≤ j) : -(x : Int) ≤ j := Int.le_trans (Int.neg_nonpos_of_nonneg (Int.natCast_nonneg x)) h
theorem sub_le_step {a b k m : Nat} (h : a - b ≤ m + 1) (hk : 1 ≤ k) : a - (b + k) ≤ m := by rw [← Nat.sub_sub]; exact Nat.le_trans (Nat.sub_le_sub_left hk _) (Nat.sub_le_of_le_add h)
theorem sub_lt_step {a b k m : Nat} (h : a - b < m + 1) (hb : b < a) (hk : 1 ≤ k) : a - (b + k) < m := by rw [← Nat.sub_sub]; exact Nat.lt_of_lt_of_le (Nat.sub_lt (Nat.sub_pos_of_lt hb) hk) (Nat.le_of_lt_succ h)
theorem pred_succ {a k : Nat} (h : a < k) : k = k - 1 + 1 := (Nat.sub_add_cancel (Nat.lt_of_le_of_lt (Nat.zero_le a) h)).symm
theorem tns {i a b : Int} {c : Nat} (h : 0 ≤ i) (hb : 0 ≤ b) (hc : a = b + c) : (i + a).toNat - (i + b).toNat = c := by rw [hc, ← Int.add_assoc, Int.toNat_add (Int.add_nonneg h hb) (Int.natCast_nonneg c), Int.toNat_natCast, Nat.add_sub_cancel_left]
theorem tns0 {i a : Int} {c : Nat} (h : 0 ≤ i) (hc : a = c) : (i + a).toNat - i.toNat = c := by rw [hc, Int.toNat_add h (Int.natCast_nonneg c), Int.toNat_natCast, Nat.add_sub_cancel_left]
theorem len_nge {x a : Nat} {b : Int} (h : x ≤ a) (q : (a : Int) < b) : ¬ ((x : Int) ≥ b) := Int.not_le.mpr (len_ilt h q)
theorem tp {α : Type} {A x y : α} {c : Prop} [Decidable c] (H : A = ite c x y) (h : c) : A = x := H.trans (if_pos h)
theorem tn {α : Type} {A x y : α} {c : Prop} [Decidable c] (H : A = ite c x y) (h : ¬ c) : A = y := H.trans (if_neg h)
theorem tf {α : Type} {A x y : α} {b : Bool} (H : A = ite (b = true) x y) (h : b = false) : A = y := H.trans (if_neg (by rw [h]; decide))
theorem sp {α : Type} {A x y : α} {c : Prop} [Decidable c] (H : ite c x y = A) (h : c) : x = A := (if_pos h).symm.trans H
theorem sn {α : Type} {A x y : α} {c : Prop} [Decidable c] (H : ite c x y = A) (h : ¬ c) : y = A := (if_neg h).symm.trans H
theorem sf {α : Type} {A x y : α} {b : Bool} (H : ite (b = true) x y = A) (h : b = false) : y = A := (if_neg (by rw [h]; decide)).symm.trans H
@[irreducible] def wQ {α : Type} (Q : α → Shared → Prop) : α → Shared → Prop := Q
structure Post {α : Type} (Q R : α → Shared → Prop) : Prop where
  go : ∀ f s, Q f s → R f s
theorem post_w {α : Type} {Q : α → Shared → Prop} : Post Q (wQ Q) := ⟨fun f s h => by unfold wQ; exact h⟩
theorem wp_fold {α : Type} {M : Model} {A : Around} {c : Sem α} {Q : α → Shared → Prop} {E : Value → Shared → Prop} {s : Shared} (h : Post Q (wQ Q) → Post E (wQ E) → wpAny M A c (wQ Q) (wQ E) s) : wpAny M A c Q E s := by
  have h := h post_w post_w
  unfold wQ at h; exact h
theorem wp_fold1 {α : Type} {M : Model} {A : Around} {c : Sem α} {Q : α → Shared → Prop} {E : Value → Shared → Prop} {s : Shared} (h : Post Q (wQ Q) → wpAny M A c (wQ Q) E s) : wpAny M A c Q E s := by
  have h := h post_w
  unfold wQ at h; exact h
section
open PySem.Builtin.Str
theorem pick_range (l : List Nat) : ∀ (c a : Nat), a + c ≤ l.length → (List.range c).filterMap (fun k => l[a + k]?) = (l.drop a).take c
  | 0, a, _ => by simp
  | c + 1, a, h => by
    have hlt : a < l.length := by omega
    rw [List.range_succ_eq_map, List.filterMap_cons, List.filterMap_map]
    have e : (fun k => l[a + k]?) ∘ Nat.succ = fun k => l[(a + 1) + k]? := by
      funext k; simp only [Function.comp]; congr 1; omega
    rw [e, pick_range l c (a + 1) (by omega)]
    simp only [Nat.add_zero, List.getElem?_eq_getElem hlt]
    rw [List.drop_eq_getElem_cons hlt, List.take_succ_cons]
noncomputable def L (x : Str) : List Nat := x.cps.toList
theorem L_len (x : Str) : (L x).length = x.length := by simp [L, Str.length]
theorem L_inj {x y : Str} (h : L x = L y) : x = y := by
  obtain ⟨⟨a⟩⟩ := x; obtain ⟨⟨b⟩⟩ := y; simp [L] at h; subst h; rfl
theorem slice_gen (x : Str) (l u : Option Int) (a c : Nat) (hc : a + c ≤ x.length) (e : strSliceIndices l u 1 x.length = (List.range c).map fun k => a + k) : L (Txt.slice x l u) = ((L x).drop a).take c := by
 k_with "w" =>
  unfold Txt.slice
  split
  · rename_i h
    simp only [e, List.length_map, List.length_range, Bool.and_eq_true, beq_iff_eq] at h
    have h2 : c = x.length := h.2
    have h3 : a = 0 := by omega
    subst h3
    rw [List.drop_zero, List.take_of_length_le]
    rw [L_len]; omega
  · rw [e]
    show (List.filterMap _ _).toArray.toList = _
    rw [List.filterMap_map]
    simp only [Function.comp_def]
    rw [← pick_range (L x) c a (by rw [L_len]; exact hc)]
    simp [L]
 k_extra "q"
theorem range_pq (p q : Nat) : sliceRange (p : Int) (q : Int) 1 = (List.range (q - p)).map fun k => p + k := by
  unfold sliceRange
  have e : (if (1 : Int) > 0 then (if (p : Int) < q then ((q : Int) - p + 1 - 1) / 1 else 0) else (if (p : Int) > q then ((p : Int) - q - 1 - 1) / (-1) else 0)).toNat = q - p := by
    rw [if_pos (by decide), Int.ediv_one, Int.add_sub_cancel]; split
    · exact Int.toNat_sub q p
    · exact (Nat.sub_eq_zero_of_le (by omega)).symm
  dsimp only
  rw [e]; congr 1; funext k; rw [Int.one_mul]; rfl
theorem clip1 (a n : Nat) : (if (1 : Int) > 0 then max 0 (min (if (a : Int) < 0 then (a : Int) + n else a) n) else max (-1) (min (if (a : Int) < 0 then (a : Int) + n else a) ((n : Int) - 1))) = ((min a n : Nat) : Int) := by
  rw [if_pos (by decide), if_neg (Int.not_lt.mpr (Int.natCast_nonneg a))]; omega
theorem slice_pq (x : Str) {l u : Option Int} {p q : Nat} (hp : p ≤ x.length) (hq : q ≤ x.length) (e : strSliceIndices l u 1 x.length = sliceRange p q 1) : L (Txt.slice x l u) = ((L x).drop p).take (q - p) :=
  slice_gen x l u p (q - p) (by omega) (e.trans (range_pq p q))
theorem take_min (l : List Nat) (a b : Nat) : (l.drop (min a l.length)).take (min b l.length - min a l.length) = (l.drop a).take (b - a) := by
  rcases Nat.le_total a l.length with h | h
  · rw [Nat.min_eq_left h]
    rcases Nat.le_total b l.length with h' | h'
    · rw [Nat.min_eq_left h']
    · rw [Nat.min_eq_right h', List.take_of_length_le (Nat.le_of_eq List.length_drop), List.take_of_length_le (by rw [List.length_drop]; exact Nat.sub_le_sub_right h' a)]
  · rw [Nat.min_eq_right h, List.drop_length, List.drop_of_length_le h, List.take_nil, List.take_nil]
theorem slice_ss (x : Str) {i j : Int} (h0 : 0 ≤ i) (h1 : 0 ≤ j) : L (Txt.slice x (some i) (some j)) = ((L x).drop i.toNat).take (j.toNat - i.toNat) := by
  obtain ⟨a, rfl⟩ := Int.eq_ofNat_of_zero_le h0
  obtain ⟨b, rfl⟩ := Int.eq_ofNat_of_zero_le h1
  rw [slice_pq x (l := some (a : Int)) (u := some (b : Int)) (p := min a x.length) (q := min b x.length) (Nat.min_le_right _ _) (Nat.min_le_right _ _) (congr (congr (congrArg sliceRange (clip1 a x.length)) (clip1 b x.length)) rfl), ← L_len x]
  exact take_min (L x) a b
theorem slice_sn (x : Str) {i : Int} (h0 : 0 ≤ i) : L (Txt.slice x (some i) none) = (L x).drop i.toNat := by
  obtain ⟨a, rfl⟩ := Int.eq_ofNat_of_zero_le h0
  rw [slice_pq x (l := some (a : Int)) (u := none) (p := min a x.length) (q := x.length) (Nat.min_le_right _ _) (Nat.le_refl _) (congr (congr (congrArg sliceRange (clip1 a x.length)) rfl) rfl), ← L_len x]
  have := take_min (L x) a (L x).length
  rw [Nat.min_self] at this
  exact this.trans (List.take_of_length_le (Nat.le_of_eq List.length_drop))
theorem slice_ns (x : Str) {j : Int} (h0 : 0 ≤ j) : L (Txt.slice x none (some j)) = (L x).take j.toNat := by
  obtain ⟨b, rfl⟩ := Int.eq_ofNat_of_zero_le h0
  rw [slice_pq x (l := none) (u := some (b : Int)) (p := 0) (q := min b x.length) (Nat.zero_le _) (Nat.min_le_right _ _) (congr (congr (congrArg sliceRange rfl) (clip1 b x.length)) rfl), ← L_len x]
  have := take_min (L x) 0 b
  rw [Nat.zero_min] at this
  exact this
theorem clip_neg {j n : Nat} (h0 : 0 < j) (h : j ≤ n) : (if (1 : Int) > 0 then max 0 (min (if -(j : Int) < 0 then -(j : Int) + n else -(j : Int)) n) else max (-1) (min (if -(j : Int) < 0 then -(j : Int) + n else -(j : Int)) ((n : Int) - 1))) = ((n - j : Nat) : Int) := by
  rw [if_pos (by decide), if_pos (by omega)]; omega
theorem slice_neg (x : Str) {j : Int} (h0 : 0 < j) (hj : j ≤ x.length) : L (Txt.slice x none (some (-j))) = (L x).take (x.length - j.toNat) := by
  obtain ⟨b, rfl⟩ := Int.eq_ofNat_of_zero_le (Int.le_of_lt h0)
  exact slice_pq x (l := none) (u := some (-(b : Int))) (p := 0) (q := x.length - b) (Nat.zero_le _) (Nat.sub_le _ _) (congr (congr (congrArg sliceRange rfl) (clip_neg (Int.ofNat_lt.mp h0) (Int.ofNat_le.mp hj))) rfl)
theorem toNat_one {i : Int} (h : 0 ≤ i) : (i + 1).toNat - i.toNat = 1 := by
  obtain ⟨a, rfl⟩ := Int.eq_ofNat_of_zero_le h
  show a + 1 - a = 1
  exact Nat.add_sub_cancel_left a 1
theorem slice1_len (x : Str) (i : Int) (h : 0 ≤ i) : (Txt.slice x (some i) (some (i + 1))).length ≤ 1 := by
  rw [← L_len, slice_ss x h (Int.le_add_one h), List.length_take, toNat_one h]; exact Nat.min_le_left _ _
theorem item_L (x : Str) {i : Int} (h0 : 0 ≤ i) (h1 : i < x.length) : L (Txt.item x i) = ((L x).drop i.toNat).take 1 := by
  have hlt : i.toNat < (L x).length := by rw [L_len]; omega
  rw [List.drop_eq_getElem_cons hlt, List.take_succ_cons, List.take_zero]
  show [(Txt.charAt x i).getD 0] = _
  have e : seqIndex? i x.length = some i.toNat := by
    unfold seqIndex?
    dsimp only
    rw [if_neg (show ¬ i < 0 by omega)]
    simp [h0, h1]
  have hlt2 : i.toNat < x.cps.size := by simpa [L] using hlt
  unfold Txt.charAt
  simp [e, L, hlt2]
theorem item_slice (x : Str) {i : Int} (h0 : 0 ≤ i) (h1 : i < x.length) : Txt.item x i = Txt.slice x (some i) (some (i + 1)) := by
  apply L_inj; rw [item_L x h0 h1, slice_ss x h0 (Int.le_add_one h0), toNat_one h0]
end
section
open PySem.Builtin.Str
theorem from_nn (n : Nat) {i : Int} (h : 0 ≤ i) : fromIndex n i = i.toNat := by
  unfold fromIndex; rw [if_neg (by omega)]; omega
theorem find3_one (x : Str) (c : Nat) {i : Int} (h : 0 ≤ i) :
    (Txt.find3 x ⟨#[c]⟩ i = -1 ∧ ∀ k, i.toNat ≤ k → (L x)[k]? ≠ some c) ∨
    ∃ k : Nat, Txt.find3 x ⟨#[c]⟩ i = (k : Int) ∧ i.toNat ≤ k ∧ (L x)[k]? = some c ∧ ∀ m, i.toNat ≤ m → m < k → (L x)[m]? ≠ some c := by
  unfold Txt.find3
  rw [from_nn _ h]
  rcases StrLaws.occ_head_from x ⟨#[c]⟩ i.toNat 1 (Nat.le_refl 1) with ⟨e, hn⟩ | ⟨k, r, e, h1, h2, h3⟩
  · left
    rw [e]
    exact ⟨rfl, fun k hk q => hn k hk ((StrLaws.subAt_one x c k).mpr q)⟩
  · right
    rw [e]
    exact ⟨k, rfl, h1, (StrLaws.subAt_one x c k).mp h2, fun m hm hk q => h3 m hm hk ((StrLaws.subAt_one x c m).mpr q)⟩
theorem find3_step (x : Str) (j : Int) (h : 0 ≤ j) : 0 ≤ Txt.find3 x (Str.ofString "\n") j → j ≤ Txt.find3 x (Str.ofString "\n") j + 1 := by
  intro q
  have e : Str.ofString "\n" = ⟨#[10]⟩ := by decide
  rw [e] at q ⊢
  rcases find3_one x 10 h with ⟨h1, _⟩ | ⟨k, h1, h2, _⟩ <;> omega
end
section
open PySem.Builtin.Str
theorem tw_le (p : Nat → Bool) (l : List Nat) : (l.takeWhile p).length ≤ l.length := (List.takeWhile_sublist p).length_le
noncomputable def mLead (x y : Str) : Str := Txt.slice x none (some ((x.length : Int) - (Txt.lstripChars x y).length))
theorem lead_eq (x y : Str) : mLead x y = Txt.slice x none (some ((x.length : Int) - (Txt.lstripChars x y).length)) := id rfl
theorem lstrip_len (x y : Str) : (Txt.lstripChars x y).length = x.length - ((L x).takeWhile y.cps.contains).length := by
 k_with "w" =>
  have hle : ((L x).takeWhile y.cps.contains).length ≤ x.length := by
    rw [← L_len]; exact tw_le _ _
  unfold Txt.lstripChars Txt.stripBy
  split
  · rename_i h
    unfold stripSame stripLo at h
    simp only [if_true, Bool.and_eq_true, beq_iff_eq] at h
    have : ((L x).takeWhile y.cps.contains).length = 0 := h.1
    omega
  · unfold PySem.stripped stripHi stripLo
    simp only [if_true, Bool.false_eq_true, if_false]
    show (strSub x ((L x).takeWhile y.cps.contains).length x.length).length = _
    unfold strSub
    simp [Str.length]
 k_extra "q"
theorem lead_L (x y : Str) : L (mLead x y) = (L x).takeWhile y.cps.contains := by
  have hle : ((L x).takeWhile y.cps.contains).length ≤ x.length := by
    rw [← L_len]; exact tw_le _ _
  rw [lead_eq, lstrip_len, show ((x.length : Int) - ((x.length - ((L x).takeWhile y.cps.contains).length : Nat) : Int)) = (((L x).takeWhile y.cps.contains).length : Int) by omega, slice_ns x (by omega), Int.toNat_natCast]
  exact (List.prefix_iff_eq_take.mp (List.takeWhile_prefix _)).symm
noncomputable def hexVal (c : Nat) : Int := Txt.find (Str.ofString "0123456789abcdef") (Txt.lower ⟨#[c]⟩)
noncomputable def numStep (b : Int) (t c : Int) : Int := t * b + Txt.find (Str.ofString "0123456789abcdef") (Txt.lower ⟨#[c.toNat]⟩)
noncomputable def mNum (b : Int) (x : Str) : Int := (KStt.codes x).foldl (numStep b) 0
theorem mNum_eq (b : Int) (x : Str) : mNum b x = (KStt.codes x).foldl (numStep b) 0 := id rfl
theorem lead_len (x y : Str) : (mLead x y).length ≤ x.length := by rw [lead_eq]; exact PyProof.Txt.length_slice_le _ _ _
noncomputable def numL (b : Int) (l : List Nat) : Int := l.foldl (fun t c => t * b + hexVal c) 0
theorem num_L (b : Int) (x : Str) : mNum b x = numL b (L x) := by
  rw [mNum_eq]
  unfold KStt.codes numL
  rw [List.foldl_map]
  rfl
theorem hex_table : ∀ c ∈ (Str.ofString "0123456789abcdefABCDEF").cps.toList, 0 ≤ hexVal c ∧ hexVal c ≤ 15 := by decide +kernel
theorem oct_table : ∀ c ∈ (Str.ofString "01234567").cps.toList, 0 ≤ hexVal c ∧ hexVal c ≤ 7 := by decide +kernel
theorem hex_all : ∀ c < 256, (0 ≤ hexVal c ∧ hexVal c < 16) ↔ (Str.ofString "0123456789abcdefABCDEF").cps.contains c = true := by decide +kernel
theorem oct_all : ∀ c < 256, (0 ≤ hexVal c ∧ hexVal c < 8) ↔ (Str.ofString "01234567").cps.contains c = true := by decide +kernel
theorem numL_nn (b : Int) (hb : 0 ≤ b) (l : List Nat) (h : ∀ c ∈ l, 0 ≤ hexVal c) : 0 ≤ numL b l := by
  unfold numL
  suffices ∀ (l : List Nat) (t : Int), (∀ c ∈ l, 0 ≤ hexVal c) → 0 ≤ t → 0 ≤ l.foldl (fun t c => t * b + hexVal c) t from this l 0 h (Int.le_refl 0)
  intro l
  induction l with
  | nil => intro t _ ht; exact ht
  | cons c r ih =>
    intro t h ht
    rw [List.foldl_cons]
    have := Int.mul_nonneg ht hb
    have := h c (.head _)
    exact ih _ (fun d hd => h d (.tail _ hd)) (by omega)
theorem takeWhile_all {p : Nat → Bool} : ∀ (l : List Nat), ∀ c ∈ l.takeWhile p, p c = true
  | [], c, h => nomatch h
  | a :: l, c, h => by
    rw [List.takeWhile_cons] at h
    split at h
    · rcases List.mem_cons.mp h with rfl | h
      · assumption
      · exact takeWhile_all l c h
    · cases h
theorem hex_lead_nn (x : Str) : 0 ≤ mNum 16 (mLead x (Str.ofString "0123456789abcdefABCDEF")) := by
  rw [num_L, lead_L]
  refine numL_nn 16 (by decide) _ fun c hc => ?_
  have := takeWhile_all _ c hc
  exact (hex_table c (by simpa using this)).1
theorem hex_lead_2 (x : Str) (hx : x.length ≤ 2) : mNum 16 (mLead x (Str.ofString "0123456789abcdefABCDEF")) ≤ 255 := by
 k_with "w" =>
  rw [num_L, lead_L]
  have hl : ((L x).takeWhile (Str.ofString "0123456789abcdefABCDEF").cps.contains).length ≤ 2 := by
    refine Nat.le_trans (tw_le _ _) ?_
    rw [L_len]; exact hx
  have hv : ∀ c ∈ (L x).takeWhile (Str.ofString "0123456789abcdefABCDEF").cps.contains, 0 ≤ hexVal c ∧ hexVal c ≤ 15 := fun c hc => hex_table c (by simpa using takeWhile_all _ c hc)
  generalize (L x).takeWhile (Str.ofString "0123456789abcdefABCDEF").cps.contains = l at hl hv
  match l, hl, hv with
  | [], _, _ => decide
  | [a], _, hv => have := hv a (.head _); show 0 * 16 + hexVal a ≤ 255; omega
  | [a, b], _, hv => have := hv a (.head _); have := hv b (.tail _ (.head _)); show (0 * 16 + hexVal a) * 16 + hexVal b ≤ 255; omega
  | _ :: _ :: _ :: _, hl, _ => simp at hl
 k_extra "q"
theorem slice_len (x : Str) {i j : Int} (h0 : 0 ≤ i) (h1 : 0 ≤ j) : (Txt.slice x (some i) (some j)).length ≤ j.toNat - i.toNat := by
  rw [← L_len, slice_ss x h0 h1, List.length_take]; exact Nat.min_le_left _ _
end
section
open PySem.Builtin.Str
theorem L_app (x y : Str) : L (x ++ y) = L x ++ L y := by
  show (x.cps ++ y.cps).toList = _
  simp [L]
theorem L_nil : L (Str.ofString "") = [] := by decide
theorem join_len (l : List Str) : (Txt.join (Str.ofString "") l).length = (l.map (·.length)).sum := by
  unfold Txt.join
  rw [size_glued]
  simp [show (Str.ofString "").length = 0 by decide]
theorem join_cons (sep x y : Str) (r : List Str) : Txt.join sep (x :: y :: r) = x ++ sep ++ Txt.join sep (y :: r) := by
  unfold Txt.join
  rw [StrLaws.glued_eq_join, StrLaws.glued_eq_join]; rfl
theorem join_one (sep x : Str) : Txt.join sep [x] = x := by
  unfold Txt.join; rw [StrLaws.glued_eq_join]; rfl
theorem join_nil (sep : Str) : L (Txt.join sep []) = [] := by
  unfold Txt.join; rw [StrLaws.glued_eq_join]; rfl
theorem join_L : ∀ (l : List Str), L (Txt.join (Str.ofString "") l) = (l.map L).flatten
  | [] => join_nil _
  | [x] => by rw [join_one]; simp
  | x :: y :: r => by
    rw [join_cons, L_app, L_app, join_L (y :: r), L_nil]; simp
end
inductive Flat : Nat → Dat → Prop
  | none {n : Nat} : Flat n Dat.none
  | bool {n : Nat} (b : Bool) : Flat n (Dat.bool b)
  | int {n : Nat} (i : Int) : Flat n (Dat.int i)
  | str {n : Nat} (x : Str) : PyData.strOk x = true → Flat n (Dat.str x)
  | tuple {n : Nat} (ds : List Dat) : (∀ d ∈ ds, Flat n d) → Flat (n + 1) (Dat.tuple ds)
  | list {n : Nat} (ds : List Dat) : (∀ d ∈ ds, Flat n d) → Flat (n + 1) (Dat.list ds)
section
variable {h₀ h : Heap} {L : Addr} {news : List (Addr × Obj)}
noncomputable def Good (h : Heap) (n : Nat) (v : Value) (d : Dat) : Prop := (∃ as, Reads h v (kqdP d) as) ∧ (kqdP d).canLay0 = true ∧ (kqdP d).depth ≤ n
noncomputable def GoodAll (h : Heap) (n : Nat) (vs : List Value) (ds : List Dat) : Prop := (∃ as, ReadsAll h vs (kqdPs ds) as) ∧ PyData.canLayAll0 (kqdPs ds) = true ∧ PyData.depthAll (kqdPs ds) ≤ n
theorem good_all {n : Nat} (ih : ∀ {v : Value} {d : Dat}, DatIn news v d → Flat n d → Good h n v d) : ∀ {vs : List Value} {ds : List Dat}, DatAll news vs ds → (∀ d ∈ ds, Flat n d) → GoodAll h n vs ds
  | _, _, .nil, _ => ⟨⟨_, ReadsAll.nil⟩, rfl, Nat.zero_le _⟩
  | _, _, .cons hd r, hk => by
    obtain ⟨⟨as, q⟩, c1, d1⟩ := ih hd (hk _ (.head _))
    obtain ⟨⟨bs, p⟩, c2, d2⟩ := good_all ih r fun d hm => hk d (.tail _ hm)
    refine ⟨?_, ?_, ?_⟩
    · rw [kqdPs]; exact ⟨_, ReadsAll.cons q p⟩
    · rw [kqdPs, PyData.canLayAll0, c1, c2]; rfl
    · rw [kqdPs, PyData.depthAll]; exact Nat.max_le.mpr ⟨d1, d2⟩
theorem good_in (N : News h₀ L h news) (n : Nat) : ∀ {v : Value} {d : Dat}, DatIn news v d → Flat n d → Good h n v d := by
 k_with "w" =>
  induction n using Nat.strongRecOn with
  | ind n ih =>
    intro v d h1 h2
    cases h1 with
    | none => exact ⟨⟨_, Reads.none⟩, rfl, Nat.zero_le _⟩
    | bool b => exact ⟨⟨_, Reads.bool b⟩, rfl, Nat.zero_le _⟩
    | int i t => exact ⟨⟨_, Reads.int i t⟩, rfl, Nat.zero_le _⟩
    | str x t =>
      cases h2 with
      | str _ hx => exact ⟨⟨_, Reads.str x t⟩, by rw [kqdP, PyData.canLay0, hx], Nat.zero_le _⟩
    | bytes => cases h2
    | tuple hm r =>
      cases h2 with
      | tuple _ hk =>
        obtain ⟨⟨as, q⟩, c, d⟩ := good_all (ih _ (Nat.lt_succ_self _)) r hk
        refine ⟨⟨as, ?_⟩, ?_, ?_⟩
        · rw [kqdP]; exact reads_tuple_at (N.get hm) rfl rfl (by simpa using q)
        · rw [kqdP, PyData.canLay0]; exact c
        · rw [kqdP, PyData.depth]; omega
    | list hm r =>
      cases h2 with
      | list _ hk =>
        obtain ⟨⟨as, q⟩, c, d⟩ := good_all (ih _ (Nat.lt_succ_self _)) r hk
        refine ⟨?_, ?_, ?_⟩
        · rw [kqdP]; exact ⟨_, reads_list_at (N.get hm) rfl rfl (by simpa [W.listOf] using q)⟩
        · rw [kqdP, PyData.canLay0]; exact c
        · rw [kqdP, PyData.depth]; omega
 k_extra "q"
end
section
variable {prog : Program} {w : World} {A : Around} {E : Value → Shared → Prop} {s : Shared} {h₀ : Heap} {L : Addr} {news n₁ n₂ : List (Addr × Obj)} {a b : Value} {d e : Dat} {Q : Value → Shared → Prop} {n : Nat}
theorem dat_eq (N : News h₀ L s.heap news) (Da : DatIn n₁ a d) (sa : ∀ p ∈ n₁, p ∈ news) (Db : DatIn n₂ b e) (sb : ∀ p ∈ n₂, p ∈ news) (hd : d = e) (hf : Flat n d) (hn : n ≤ 64)
    (hu : A.units + 64 < cLine) (h : Q (.bool true) s) : wpAny (model prog w) A (compareOp .Eq a b) Q E s := by
  subst hd
  obtain ⟨⟨as, q⟩, c1, d1⟩ := good_in N n (Da.mono sa) hf
  obtain ⟨⟨bs, p⟩, _, _⟩ := good_in N n (Db.mono sb) hf
  have hs : PySem.SeqAt.shaped (kqdP d) = true := by unfold PySem.SeqAt.shaped; rw [c1, Bool.true_and]; exact decide_eq_true (Nat.le_trans d1 hn)
  exact eq_dataH q p hs hs hu (by rw [PySem.SeqAt.eqv_refl _ c1]; exact h)
theorem dat_ne (N : News h₀ L s.heap news) (Da : DatIn n₁ a d) (sa : ∀ p ∈ n₁, p ∈ news) (Db : DatIn n₂ b e) (sb : ∀ p ∈ n₂, p ∈ news) (hd : d = e) (hf : Flat n d) (hn : n ≤ 64)
    (hu : A.units + 64 < cLine) (h : Q (.bool false) s) : wpAny (model prog w) A (compareOp .NotEq a b) Q E s := by
  subst hd
  obtain ⟨⟨as, q⟩, c1, d1⟩ := good_in N n (Da.mono sa) hf
  obtain ⟨⟨bs, p⟩, _, _⟩ := good_in N n (Db.mono sb) hf
  have hs : PySem.SeqAt.shaped (kqdP d) = true := by unfold PySem.SeqAt.shaped; rw [c1, Bool.true_and]; exact decide_eq_true (Nat.le_trans d1 hn)
  exact ne_dataH q p hs hs hu (by rw [PySem.SeqAt.eqv_refl _ c1]; exact h)
end
theorem qid : @PySem.W.builtinNamed = @PySem.W.builtinNamed := rfl
name_quick tw8075568018651887793 for PySem.W.builtinNamed by Mine.qid
name_quick tw10892185277398426122 for PySem.W.builtinNamed by Mine.qid
name_quick tw14979626087600564940 for PySem.W.builtinNamed by Mine.qid
name_quick tw1134740558436851033 for PySem.W.builtinNamed by Mine.qid
name_quick tw10718892041063643863 for PySem.W.builtinNamed by Mine.qid
name_quick tw2244074263212557396 for PySem.W.builtinNamed by Mine.qid
name_quick tw11075218271163461481 for PySem.W.builtinNamed by Mine.qid
name_quick tw970078002132370370 for PySem.W.builtinNamed by Mine.qid
name_quick tw9714774721060221955 for PySem.W.builtinNamed by Mine.qid
name_quick tw266219710123235626 for PySem.W.builtinNamed by Mine.qid
name_quick tw303557385243925966 for PySem.W.builtinNamed by Mine.qid
name_quick tw5715658561523051193 for PySem.W.builtinNamed by Mine.qid
name_quick tw4630116404320636979 for PySem.W.builtinNamed by Mine.qid
name_quick tw15823609455315575823 for PySem.W.builtinNamed by Mine.qid
name_quick tw9305782018832362445 for PySem.W.builtinNamed by Mine.qid
name_quick tw16869277618539721502 for PySem.W.builtinNamed by Mine.qid
name_quick tw1617757218408452269 for PySem.W.builtinNamed by Mine.qid
name_quick tw12832477231654346042 for PySem.W.builtinNamed by Mine.qid
name_quick tw313226197891681235 for PySem.W.builtinNamed by Mine.qid
name_quick tw13729253559640862656 for PySem.W.builtinNamed by Mine.qid
name_quick tw11176043301313065506 for PySem.W.builtinNamed by Mine.qid
name_quick tw16180582048198870337 for PySem.W.builtinNamed by Mine.qid
name_quick tw6792406925840432001 for PySem.W.builtinNamed by Mine.qid
name_quick tw5882768191206486792 for PySem.W.builtinNamed by Mine.qid
name_quick tw14553827428707814869 for PySem.W.builtinNamed by Mine.qid
name_quick tw17537794083376710389 for PySem.W.builtinNamed by Mine.qid
name_quick tw15560500314895047343 for PySem.W.builtinNamed by Mine.qid
name_quick tw11445135464325071761 for PySem.W.builtinNamed by Mine.qid
name_quick tw9285146279643344392 for PySem.W.builtinNamed by Mine.qid
name_quick tw11939915149646268982 for PySem.W.builtinNamed by Mine.qid
name_quick tw878741703135273975 for PySem.W.builtinNamed by Mine.qid
name_quick tw7035115661146626270 for PySem.W.builtinNamed by Mine.qid
name_quick tw1184552218554016812 for PySem.W.builtinNamed by Mine.qid
name_quick tw5701610774189311196 for PySem.W.builtinNamed by Mine.qid
name_quick tw11994158751524154303 for PySem.W.builtinNamed by Mine.qid
name_quick tw9676229304581654039 for PySem.W.builtinNamed by Mine.qid
name_quick tw15766043655864335149 for PySem.W.builtinNamed by Mine.qid
name_quick tw8119918657739134586 for PySem.W.builtinNamed by Mine.qid
name_quick tw6426273055680023932 for PySem.W.builtinNamed by Mine.qid
name_quick tw16643379632663270332 for PySem.W.builtinNamed by Mine.qid
name_quick tw2627984346626558326 for PySem.W.builtinNamed by Mine.qid
name_quick tw2193789692954389824 for PySem.W.builtinNamed by Mine.qid
name_quick tw7094674258960923220 for PySem.W.builtinNamed by Mine.qid
name_quick tw3820604794100220378 for PySem.W.builtinNamed by Mine.qid
name_quick tw912392155897948271 for PySem.W.builtinNamed by Mine.qid
name_quick tw5135500740108067664 for PySem.W.builtinNamed by Mine.qid
name_quick tw12237943961548833269 for PySem.W.builtinNamed by Mine.qid
name_quick tw11964429278604863157 for PySem.W.builtinNamed by Mine.qid
name_quick tw6817277305950994716 for PySem.W.builtinNamed by Mine.qid
name_quick tw13642483538084851733 for PySem.W.builtinNamed by Mine.qid
name_quick tw15663404670287596823 for PySem.W.builtinNamed by Mine.qid
name_quick tw4075660801711882420 for PySem.W.builtinNamed by Mine.qid
name_quick tw5518745428033880147 for PySem.W.builtinNamed by Mine.qid
name_quick tw2447775223705975068 for PySem.W.builtinNamed by Mine.qid
name_quick tw8224813933742928703 for PySem.W.builtinNamed by Mine.qid
name_quick tw15278061642289888581 for PySem.W.builtinNamed by Mine.qid
name_quick tw5189142188285759775 for PySem.W.builtinNamed by Mine.qid
name_quick tw16979880578912567463 for PySem.W.builtinNamed by Mine.qid
name_quick tw9376109419431680627 for PySem.W.builtinNamed by Mine.qid
name_quick tw8376441433122354887 for PySem.W.builtinNamed by Mine.qid
name_quick tw11682084944484805031 for PySem.W.builtinNamed by Mine.qid
name_quick tw460243522976405022 for PySem.W.builtinNamed by Mine.qid
name_quick tw18260038339965228139 for PySem.W.builtinNamed by Mine.qid
name_quick tw4407734736301137906 for PySem.W.builtinNamed by Mine.qid
name_quick tw856264945809894966 for PySem.W.builtinNamed by Mine.qid
name_quick tw7323676302269181137 for PySem.W.builtinNamed by Mine.qid
name_quick tw15168306246750427876 for PySem.W.builtinNamed by Mine.qid
name_quick tw12022618010286034681 for PySem.W.builtinNamed by Mine.qid
name_quick tw18101931140130867144 for PySem.W.builtinNamed by Mine.qid
name_quick tw16817318245366136608 for PySem.W.builtinNamed by Mine.qid
name_quick tw6250672158363226905 for PySem.W.builtinNamed by Mine.qid
name_quick tw7581816359482902497 for PySem.W.builtinNamed by Mine.qid
name_quick tw1574873078441994576 for PySem.W.builtinNamed by Mine.qid
name_quick tw3766158894648301139 for PySem.W.builtinNamed by Mine.qid
name_quick tw8642067239939848140 for PySem.W.builtinNamed by Mine.qid
name_quick tw16350708796919097252 for PySem.W.builtinNamed by Mine.qid
name_quick tw9594665118957945026 for PySem.W.builtinNamed by Mine.qid
name_quick tw10317580896714288900 for PySem.W.builtinNamed by Mine.qid
name_quick tw5200128776193632040 for PySem.W.builtinNamed by Mine.qid
name_quick tw11853533878840232495 for PySem.W.builtinNamed by Mine.qid
name_quick tw3880421473898291048 for PySem.W.builtinNamed by Mine.qid
name_quick tw9529234661008812162 for PySem.W.builtinNamed by Mine.qid
name_quick tw5721027456603625697 for PySem.W.builtinNamed by Mine.qid
name_quick tw17164873540382356111 for PySem.W.builtinNamed by Mine.qid
name_quick tw3131671291697673992 for PySem.W.builtinNamed by Mine.qid
name_quick tw17804436615005485693 for PySem.W.builtinNamed by Mine.qid
name_quick tw9467589175468403638 for PySem.W.builtinNamed by Mine.qid
name_quick tw4434333111790514575 for PySem.W.builtinNamed by Mine.qid
name_quick tw12734952128020822468 for PySem.W.builtinNamed by Mine.qid
name_quick tw17057272898397164401 for PySem.W.builtinNamed by Mine.qid
name_quick tw1962928258387122110 for PySem.W.builtinNamed by Mine.qid
name_quick tw18350330562280901221 for PySem.W.builtinNamed by Mine.qid
name_quick tw7496433998918960881 for PySem.W.builtinNamed by Mine.qid
name_quick tw14224011070414065920 for PySem.W.builtinNamed by Mine.qid
name_quick tw8555734327229750603 for PySem.W.builtinNamed by Mine.qid
name_quick tw13981391230805400906 for PySem.W.builtinNamed by Mine.qid
name_quick tw18211773271919218964 for PySem.W.builtinNamed by Mine.qid
name_quick tw13145125596335152023 for PySem.W.builtinNamed by Mine.qid
name_quick tw6683783046931543321 for PySem.W.builtinNamed by Mine.qid
name_quick tw724751600484774222 for PySem.W.builtinNamed by Mine.qid
name_quick tw3698559305507148144 for PySem.W.builtinNamed by Mine.qid
name_quick tw7788680626742099145 for PySem.W.builtinNamed by Mine.qid
name_quick tw12813236842856870187 for PySem.W.builtinNamed by Mine.qid
name_quick tw7401281599722004195 for PySem.W.builtinNamed by Mine.qid
name_quick tw13512673800721320934 for PySem.W.builtinNamed by Mine.qid
name_quick tw9787463984185863102 for PySem.W.builtinNamed by Mine.qid
name_quick tw470574548607681690 for PySem.W.builtinNamed by Mine.qid
name_quick tw18220123701641295943 for PySem.W.builtinNamed by Mine.qid
name_quick tw10887116778572429059 for PySem.W.builtinNamed by Mine.qid
name_quick tw3105397867545767578 for PySem.W.builtinNamed by Mine.qid
name_quick tw11310463157757771331 for PySem.W.builtinNamed by Mine.qid
name_quick tw14311459727803291754 for PySem.W.builtinNamed by Mine.qid
name_quick tw14530364306720264245 for PySem.W.builtinNamed by Mine.qid
name_quick tw16241802466949684156 for PySem.W.builtinNamed by Mine.qid
name_quick tw17111948838632640456 for PySem.W.builtinNamed by Mine.qid
name_quick tw10010936943081839664 for PySem.W.builtinNamed by Mine.qid
name_quick tw15450981722951097364 for PySem.W.builtinNamed by Mine.qid
name_quick tw3315324234476444515 for PySem.W.builtinNamed by Mine.qid
name_quick tw2315820567201803617 for PySem.W.builtinNamed by Mine.qid
name_quick tw10424941004445345732 for PySem.W.builtinNamed by Mine.qid
name_quick tw1092655722715705105 for PySem.W.builtinNamed by Mine.qid
name_quick tw2283851925072248500 for PySem.W.builtinNamed by Mine.qid
name_quick tw14326252917377295143 for PySem.W.builtinNamed by Mine.qid
name_quick tw7250012664060256230 for PySem.W.builtinNamed by Mine.qid
name_quick tw10919533547850550483 for PySem.W.builtinNamed by Mine.qid
name_quick tw9458956999447867950 for PySem.W.builtinNamed by Mine.qid
name_quick tw16374537267813192141 for PySem.W.builtinNamed by Mine.qid
name_quick tw15900120412870309639 for PySem.W.builtinNamed by Mine.qid
name_quick tw10029231156530900338 for PySem.W.builtinNamed by Mine.qid
name_quick tw11306939235166856333 for PySem.W.builtinNamed by Mine.qid
name_quick tw13317431791736044220 for PySem.W.builtinNamed by Mine.qid
name_quick tw17279654841073493023 for PySem.W.builtinNamed by Mine.qid
name_quick tw1829445100760108279 for PySem.W.builtinNamed by Mine.qid
name_quick tw11543547407058413889 for PySem.W.builtinNamed by Mine.qid
name_quick tw1537898542681612871 for PySem.W.builtinNamed by Mine.qid
name_quick tw5902227825499142635 for PySem.W.builtinNamed by Mine.qid
name_quick tw12835720964997663042 for PySem.W.builtinNamed by Mine.qid
name_quick tw8719427161674164953 for PySem.W.builtinNamed by Mine.qid
name_quick tw9136488742655976645 for PySem.W.builtinNamed by Mine.qid
name_quick tw4558998842232669794 for PySem.W.builtinNamed by Mine.qid
name_quick tw14537914154153760125 for PySem.W.builtinNamed by Mine.qid
name_quick tw12172078356533094185 for PySem.W.builtinNamed by Mine.qid
name_quick tw17863021456227041891 for PySem.W.builtinNamed by Mine.qid
name_quick tw8253183596043897158 for PySem.W.builtinNamed by Mine.qid
name_quick tw11270796479367742343 for PySem.W.builtinNamed by Mine.qid
name_quick tw17730428716208468724 for PySem.W.builtinNamed by Mine.qid
name_quick tw15423634916342008072 for PySem.W.builtinNamed by Mine.qid
name_quick tw11636919720809706868 for PySem.W.builtinNamed by Mine.qid
name_quick tw6654550962395885724 for PySem.W.builtinNamed by Mine.qid
name_quick tw10706342367453228570 for PySem.W.builtinNamed by Mine.qid
name_quick tw5032809538720368765 for PySem.W.builtinNamed by Mine.qid
name_quick tw16414604833108395602 for PySem.W.builtinNamed by Mine.qid
name_quick tw15980859228951719591 for PySem.W.builtinNamed by Mine.qid
name_quick tw10007627690174824804 for PySem.W.builtinNamed by Mine.qid
name_quick tw9948023125614773506 for PySem.W.builtinNamed by Mine.qid
name_quick tw5732905514179830355 for PySem.W.builtinNamed by Mine.qid
name_quick tw282004115355043989 for PySem.W.builtinNamed by Mine.qid
name_quick tw3442601649717412197 for PySem.W.builtinNamed by Mine.qid
name_quick tw5111356299099525756 for PySem.W.builtinNamed by Mine.qid
name_quick tw4302124980754421698 for PySem.W.builtinNamed by Mine.qid
name_quick tw16916688483869632129 for PySem.W.builtinNamed by Mine.qid
name_quick tw8424611434330503625 for PySem.W.builtinNamed by Mine.qid
name_quick tw15742981410569661332 for PySem.W.builtinNamed by Mine.qid
name_quick tw10833955939284561965 for PySem.W.builtinNamed by Mine.qid
name_quick tw16145008321745377990 for PySem.W.builtinNamed by Mine.qid
name_quick tw14126943448341045398 for PySem.W.builtinNamed by Mine.qid
name_quick tw6004533443673955352 for PySem.W.builtinNamed by Mine.qid
name_quick tw1702518465993881591 for PySem.W.builtinNamed by Mine.qid
name_quick tw3856783459128436802 for PySem.W.builtinNamed by Mine.qid
name_quick tw13640514254501968386 for PySem.W.builtinNamed by Mine.qid
name_quick tw17517737089405305841 for PySem.W.builtinNamed by Mine.qid
name_quick tw3093977132361051618 for PySem.W.builtinNamed by Mine.qid
name_quick tw1620339239838986703 for PySem.W.builtinNamed by Mine.qid
name_quick tw2039238271031011813 for PySem.W.builtinNamed by Mine.qid
name_quick tw12393455550290869266 for PySem.W.builtinNamed by Mine.qid
name_quick tw10323183001455561277 for PySem.W.builtinNamed by Mine.qid
name_quick tw1735497430108182060 for PySem.W.builtinNamed by Mine.qid
name_quick tw13912434898499826684 for PySem.W.builtinNamed by Mine.qid
name_quick tw12898947447245864913 for PySem.W.builtinNamed by Mine.qid
name_quick tw13615603153576403970 for PySem.W.builtinNamed by Mine.qid
name_quick tw4224760802259116069 for PySem.W.builtinNamed by Mine.qid
name_quick tw5357591511691535388 for PySem.W.builtinNamed by Mine.qid
name_quick tw11729385059970357855 for PySem.W.builtinNamed by Mine.qid
name_quick tw6679490504615227074 for PySem.W.builtinNamed by Mine.qid
name_quick tw7198390536060210744 for PySem.W.builtinNamed by Mine.qid
name_quick tw7397068168572129948 for PySem.W.builtinNamed by Mine.qid
name_quick tw8693227569615203950 for PySem.W.builtinNamed by Mine.qid
name_quick tw10528696920762540405 for PySem.W.builtinNamed by Mine.qid
name_quick tw3619232141914619222 for PySem.W.builtinNamed by Mine.qid
name_quick tw17888162413812561239 for PySem.W.builtinNamed by Mine.qid
name_quick tw12233582284571471492 for PySem.W.builtinNamed by Mine.qid
name_quick tw3577408171920636059 for PySem.W.builtinNamed by Mine.qid
name_quick tw8579058602437062094 for PySem.W.builtinNamed by Mine.qid
name_quick tw4658958612460137192 for PySem.W.builtinNamed by Mine.qid
name_quick tw7365555872484859036 for PySem.W.builtinNamed by Mine.qid
name_quick tw14223099787259518943 for PySem.W.builtinNamed by Mine.qid
name_quick tw3362959441861295915 for PySem.W.builtinNamed by Mine.qid
name_quick tw8860024209350480642 for PySem.W.builtinNamed by Mine.qid
name_quick tw15263041282635125899 for PySem.W.builtinNamed by Mine.qid
name_quick tw662354867322794072 for PySem.W.builtinNamed by Mine.qid
name_quick tw4921902886906138986 for PySem.W.builtinNamed by Mine.qid
name_quick tw2334299552400917057 for PySem.W.builtinNamed by Mine.qid
name_quick tw7299951869573292228 for PySem.W.builtinNamed by Mine.qid
name_quick tw17975652961387846372 for PySem.W.builtinNamed by Mine.qid
name_quick tw183835017167291270 for PySem.W.builtinNamed by Mine.qid
name_quick tw11161088081135249708 for PySem.W.builtinNamed by Mine.qid
name_quick tw17274371674624000324 for PySem.W.builtinNamed by Mine.qid
name_quick tw347637069881736656 for PySem.W.builtinNamed by Mine.qid
name_quick tw16018607276475445134 for PySem.W.builtinNamed by Mine.qid
name_quick tw3282434896037501709 for PySem.W.builtinNamed by Mine.qid
name_quick tw16741492637210864865 for PySem.W.builtinNamed by Mine.qid
name_quick tw5978237884098788730 for PySem.W.builtinNamed by Mine.qid
name_quick tw1402947280878808549 for PySem.W.builtinNamed by Mine.qid
name_quick tw11186114360453789277 for PySem.W.builtinNamed by Mine.qid
name_quick tw8796240567053077481 for PySem.W.builtinNamed by Mine.qid
name_quick tw13776390136698705113 for PySem.W.builtinNamed by Mine.qid
name_quick tw14112274594779413971 for PySem.W.builtinNamed by Mine.qid
name_quick tw117213463901210413 for PySem.W.builtinNamed by Mine.qid
name_quick tw11013792430000457035 for PySem.W.builtinNamed by Mine.qid
name_quick tw3094477031063562474 for PySem.W.builtinNamed by Mine.qid
name_quick tw6019396324639902685 for PySem.W.builtinNamed by Mine.qid
name_quick tw8703263022893421829 for PySem.W.builtinNamed by Mine.qid
name_quick tw8017206721242287953 for PySem.W.builtinNamed by Mine.qid
name_quick tw16846860572762119324 for PySem.W.builtinNamed by Mine.qid
name_quick tw15542503528162795033 for PySem.W.builtinNamed by Mine.qid
name_quick tw13036272033356848781 for PySem.W.builtinNamed by Mine.qid
name_quick tw1414301608579184545 for PySem.W.builtinNamed by Mine.qid
name_quick tw9862997608875712007 for PySem.W.builtinNamed by Mine.qid
name_quick tw14821650378409806113 for PySem.W.builtinNamed by Mine.qid
name_quick tw3560238982266916124 for PySem.W.builtinNamed by Mine.qid
name_quick tw11317593695737139937 for PySem.W.builtinNamed by Mine.qid
name_quick tw17434858337260393937 for PySem.W.builtinNamed by Mine.qid
name_quick tw8989982439271903415 for PySem.W.builtinNamed by Mine.qid
name_quick tw7392212959928792091 for PySem.W.builtinNamed by Mine.qid
name_quick tw13678640442995254988 for PySem.W.builtinNamed by Mine.qid
name_quick tw5529568453561195837 for PySem.W.builtinNamed by Mine.qid
name_quick tw7745614565497352828 for PySem.W.builtinNamed by Mine.qid
name_quick tw17497748084772794779 for PySem.W.builtinNamed by Mine.qid
name_quick tw3152983702415266003 for PySem.W.builtinNamed by Mine.qid
name_quick tw4292500188555128830 for PySem.W.builtinNamed by Mine.qid
name_quick tw1377046205977697930 for PySem.W.builtinNamed by Mine.qid
name_quick tw2460228577881660442 for PySem.W.builtinNamed by Mine.qid
name_quick tw13559156169165276386 for PySem.W.builtinNamed by Mine.qid
name_quick tw8603108125212654177 for PySem.W.builtinNamed by Mine.qid
name_quick tw17000458434675057986 for PySem.W.builtinNamed by Mine.qid
name_quick tw1638017585896720355 for PySem.W.builtinNamed by Mine.qid
name_quick tw7275051467321613617 for PySem.W.builtinNamed by Mine.qid
name_quick tw11130039905162102590 for PySem.W.builtinNamed by Mine.qid
name_quick tw11333186260410459676 for PySem.W.builtinNamed by Mine.qid
name_quick tw3764465048917985505 for PySem.W.builtinNamed by Mine.qid
name_quick tw16531745337717519161 for PySem.W.builtinNamed by Mine.qid
name_quick tw4549333791460862111 for PySem.W.builtinNamed by Mine.qid
name_quick tw3976722010076183465 for PySem.W.builtinNamed by Mine.qid
name_quick tw6380047634161181297 for PySem.W.builtinNamed by Mine.qid
name_quick tw12850107946570832962 for PySem.W.builtinNamed by Mine.qid
name_quick tw1258717718454355964 for PySem.W.builtinNamed by Mine.qid
name_quick tw13016732220969518872 for PySem.W.builtinNamed by Mine.qid
name_quick tw5706481520468235054 for PySem.W.builtinNamed by Mine.qid
name_quick tw6550987210724342151 for PySem.W.builtinNamed by Mine.qid
name_quick tw13236226663087606529 for PySem.W.builtinNamed by Mine.qid
name_quick tw16176465441171805009 for PySem.W.builtinNamed by Mine.qid
name_quick tw6589095468515690095 for PySem.W.builtinNamed by Mine.qid
name_quick tw2711585505577850959 for PySem.W.builtinNamed by Mine.qid
name_quick tw16966814322356759819 for PySem.W.builtinNamed by Mine.qid
name_quick tw4071324889030633612 for PySem.W.builtinNamed by Mine.qid
name_quick tw17018628822417861297 for PySem.W.builtinNamed by Mine.qid
name_quick tw4636218855388986860 for PySem.W.builtinNamed by Mine.qid
name_quick tw17476080006546285661 for PySem.W.builtinNamed by Mine.qid
name_quick tw151948405760981731 for PySem.W.builtinNamed by Mine.qid
name_quick tw4980102563643897964 for PySem.W.builtinNamed by Mine.qid
name_quick tw10948738476641704880 for PySem.W.builtinNamed by Mine.qid
name_quick tw2408619945344806742 for PySem.W.builtinNamed by Mine.qid
name_quick tw4933834842325187142 for PySem.W.builtinNamed by Mine.qid
name_quick tw6122645084068987007 for PySem.W.builtinNamed by Mine.qid
name_quick tw14168537005229113720 for PySem.W.builtinNamed by Mine.qid
name_quick tw7892128664451923741 for PySem.W.builtinNamed by Mine.qid
name_quick tw136631920214876835 for PySem.W.builtinNamed by Mine.qid
name_quick tw18345786424863182364 for PySem.W.builtinNamed by Mine.qid
name_quick tw17069979004554194336 for PySem.W.builtinNamed by Mine.qid
name_quick tw8206430501311747189 for PySem.W.builtinNamed by Mine.qid
name_quick tw13607416678640721797 for PySem.W.builtinNamed by Mine.qid
name_quick tw3891137856419664920 for PySem.W.builtinNamed by Mine.qid
name_quick tw8753696776887207221 for PySem.W.builtinNamed by Mine.qid
name_quick tw16049961110935095269 for PySem.W.builtinNamed by Mine.qid
name_quick tw5268983451555188008 for PySem.W.builtinNamed by Mine.qid
name_quick tw9674257727999782656 for PySem.W.builtinNamed by Mine.qid
name_quick tw9011979029575296479 for PySem.W.builtinNamed by Mine.qid
name_quick tw7232422423428716515 for PySem.W.builtinNamed by Mine.qid
name_quick tw9979284746773624096 for PySem.W.builtinNamed by Mine.qid
name_quick tw6135381517318000843 for PySem.W.builtinNamed by Mine.qid
name_quick tw11277716924127702174 for PySem.W.builtinNamed by Mine.qid
name_quick tw2905824091091238844 for PySem.W.builtinNamed by Mine.qid
name_quick tw1291980286583624508 for PySem.W.builtinNamed by Mine.qid
name_quick tw7009043117176579089 for PySem.W.builtinNamed by Mine.qid
name_quick tw17552769576498331613 for PySem.W.builtinNamed by Mine.qid
name_quick tw13180171748994924942 for PySem.W.builtinNamed by Mine.qid
name_quick tw4978915544186085027 for PySem.W.builtinNamed by Mine.qid
name_quick tw17846936440860909165 for PySem.W.builtinNamed by Mine.qid
name_quick tw15079194523842364033 for PySem.W.builtinNamed by Mine.qid
name_quick tw1749818173716722547 for PySem.W.builtinNamed by Mine.qid
name_quick tw9931943479562821362 for PySem.W.builtinNamed by Mine.qid
name_quick tw10073347824450446311 for PySem.W.builtinNamed by Mine.qid
name_quick tw17730448691065144110 for PySem.W.builtinNamed by Mine.qid
name_quick tw5076957145309523181 for PySem.W.builtinNamed by Mine.qid
name_quick tw1355338860687761863 for PySem.W.builtinNamed by Mine.qid
name_quick tw15323854079317868165 for PySem.W.builtinNamed by Mine.qid
name_quick tw16349216596472256690 for PySem.W.builtinNamed by Mine.qid
name_quick tw5770868932273138760 for PySem.W.builtinNamed by Mine.qid
name_quick tw3424931102881643321 for PySem.W.builtinNamed by Mine.qid
name_quick tw5349121933718820234 for PySem.W.builtinNamed by Mine.qid
name_quick tw8537084889766193716 for PySem.W.builtinNamed by Mine.qid
name_quick tw17964007177503468958 for PySem.W.builtinNamed by Mine.qid
name_quick tw4090926877573551719 for PySem.W.builtinNamed by Mine.qid
name_quick tw6059929106960060952 for PySem.W.builtinNamed by Mine.qid
name_quick tw932993149863042379 for PySem.W.builtinNamed by Mine.qid
name_quick tw1333364371103165705 for PySem.W.builtinNamed by Mine.qid
name_quick tw3264259588550801142 for PySem.W.builtinNamed by Mine.qid
name_quick tw6662432510661729299 for PySem.W.builtinNamed by Mine.qid
name_quick tw15112985482279097393 for PySem.W.builtinNamed by Mine.qid
name_quick tw15919542637913265678 for PySem.W.builtinNamed by Mine.qid
name_quick tw12635297910168745909 for PySem.W.builtinNamed by Mine.qid
name_quick tw18340240734955500558 for PySem.W.builtinNamed by Mine.qid
name_quick tw11462045893675790159 for PySem.W.builtinNamed by Mine.qid
name_quick tw2422670821966735624 for PySem.W.builtinNamed by Mine.qid
name_quick tw13002492023102617099 for PySem.W.builtinNamed by Mine.qid
name_quick tw9501820088010722379 for PySem.W.builtinNamed by Mine.qid
name_quick tw17532440430192770315 for PySem.W.builtinNamed by Mine.qid
name_quick tw9151444980202551346 for PySem.W.builtinNamed by Mine.qid
name_quick tw4039474712603431140 for PySem.W.builtinNamed by Mine.qid
name_quick tw1218959903707654005 for PySem.W.builtinNamed by Mine.qid
name_quick tw11863081143760314161 for PySem.W.builtinNamed by Mine.qid
name_quick tw17954471519018878134 for PySem.W.builtinNamed by Mine.qid
name_quick tw14714103240675001986 for PySem.W.builtinNamed by Mine.qid
name_quick tw10942035263794033107 for PySem.W.builtinNamed by Mine.qid
name_quick tw1706496860858754268 for PySem.W.builtinNamed by Mine.qid
name_quick tw10205541121877940668 for PySem.W.builtinNamed by Mine.qid
name_quick tw9951705424602377420 for PySem.W.builtinNamed by Mine.qid
name_quick tw16548257151911338427 for PySem.W.builtinNamed by Mine.qid
name_quick tw12659028871203227004 for PySem.W.builtinNamed by Mine.qid
name_quick tw17000155066101142889 for PySem.W.builtinNamed by Mine.qid
name_quick tw13759679279233594173 for PySem.W.builtinNamed by Mine.qid
name_quick tw1886563365779066154 for PySem.W.builtinNamed by Mine.qid
name_quick tw4679858250743294509 for PySem.W.builtinNamed by Mine.qid
name_quick tw2354101950205528012 for PySem.W.builtinNamed by Mine.qid
name_quick tw4527066259768149269 for PySem.W.builtinNamed by Mine.qid
name_quick tw11707433790658880453 for PySem.W.builtinNamed by Mine.qid
name_quick tw9407582987413476825 for PySem.W.builtinNamed by Mine.qid
name_quick tw13254397897704925713 for PySem.W.builtinNamed by Mine.qid
name_quick tw7269565832213808900 for PySem.W.builtinNamed by Mine.qid
name_quick tw3778451253796500701 for PySem.W.builtinNamed by Mine.qid
name_quick tw3039592710220408265 for PySem.W.builtinNamed by Mine.qid
name_quick tw10314498396905981064 for PySem.W.builtinNamed by Mine.qid
name_quick tw9626621113073979434 for PySem.W.builtinNamed by Mine.qid
name_quick tw2660918139993853925 for PySem.W.builtinNamed by Mine.qid
name_quick tw558745408833754511 for PySem.W.builtinNamed by Mine.qid
name_quick tw11625766737575182897 for PySem.W.builtinNamed by Mine.qid
name_quick tw7581352650102555174 for PySem.W.builtinNamed by Mine.qid
name_quick tw14210447440969649564 for PySem.W.builtinNamed by Mine.qid
name_quick tw3972328310683599613 for PySem.W.builtinNamed by Mine.qid
name_quick tw16752143609539240740 for PySem.W.builtinNamed by Mine.qid
name_quick tw11420187438672877268 for PySem.W.builtinNamed by Mine.qid
name_quick tw17532718790514356516 for PySem.W.builtinNamed by Mine.qid
name_quick tw13141144453892091621 for PySem.W.builtinNamed by Mine.qid
name_quick tw4748654258956052638 for PySem.W.builtinNamed by Mine.qid
name_quick tw900395245841561262 for PySem.W.builtinNamed by Mine.qid
name_quick tw4797165386629745026 for PySem.W.builtinNamed by Mine.qid
name_quick tw14333388528381170442 for PySem.W.builtinNamed by Mine.qid
name_quick tw10938465397075749097 for PySem.W.builtinNamed by Mine.qid
name_quick tw11452132507678324671 for PySem.W.builtinNamed by Mine.qid
name_quick tw6434265647005701932 for PySem.W.builtinNamed by Mine.qid
name_quick tw3118938333895590913 for PySem.W.builtinNamed by Mine.qid
name_quick tw13900631225919944168 for PySem.W.builtinNamed by Mine.qid
name_quick tw14023627001141898710 for PySem.W.builtinNamed by Mine.qid
name_quick tw951843321253372498 for PySem.W.builtinNamed by Mine.qid
name_quick tw14386061602966655976 for PySem.W.builtinNamed by Mine.qid
name_quick tw6363645014702824404 for PySem.W.builtinNamed by Mine.qid
name_quick tw14108194823987119177 for PySem.W.builtinNamed by Mine.qid
name_quick tw15894407043143930727 for PySem.W.builtinNamed by Mine.qid
name_quick tw12635813782599140982 for PySem.W.builtinNamed by Mine.qid
name_quick tw10227693086864044499 for PySem.W.builtinNamed by Mine.qid
name_quick tw11985326045990495214 for PySem.W.builtinNamed by Mine.qid
name_quick tw4011157648589011858 for PySem.W.builtinNamed by Mine.qid
name_quick tw6245536207120538393 for PySem.W.builtinNamed by Mine.qid
name_quick tw16349804527192203551 for PySem.W.builtinNamed by Mine.qid
name_quick tw15490439104401381959 for PySem.W.builtinNamed by Mine.qid
name_quick tw387338674003428930 for PySem.W.builtinNamed by Mine.qid
name_quick tw14834023430324568649 for PySem.W.builtinNamed by Mine.qid
name_quick tw16643706677886111943 for PySem.W.builtinNamed by Mine.qid
name_quick tw15480198773659482676 for PySem.W.builtinNamed by Mine.qid
name_quick tw12945451867199242903 for PySem.W.builtinNamed by Mine.qid
name_quick tw8595292554425487202 for PySem.W.builtinNamed by Mine.qid
name_quick tw9763268239775435451 for PySem.W.builtinNamed by Mine.qid
name_quick tw8098380416015320538 for PySem.W.builtinNamed by Mine.qid
name_quick tw10470071008263537045 for PySem.W.builtinNamed by Mine.qid
name_quick tw12177639751122801600 for PySem.W.builtinNamed by Mine.qid
name_quick tw6929956602132211858 for PySem.W.builtinNamed by Mine.qid
name_quick tw11790162104776037713 for PySem.W.builtinNamed by Mine.qid
name_quick tw14433975572909055671 for PySem.W.builtinNamed by Mine.qid
name_quick tw392140993173905013 for PySem.W.builtinNamed by Mine.qid
name_quick tw16697116713213952808 for PySem.W.builtinNamed by Mine.qid
name_quick tw12290603225136948437 for PySem.W.builtinNamed by Mine.qid
name_quick tw4775785305629353868 for PySem.W.builtinNamed by Mine.qid
name_quick tw11566699232636054958 for PySem.W.builtinNamed by Mine.qid
name_quick tw5345256250457102556 for PySem.W.builtinNamed by Mine.qid
name_quick tw12371321757623732685 for PySem.W.builtinNamed by Mine.qid
name_quick tw9908251947323293946 for PySem.W.builtinNamed by Mine.qid
open_top hd for PySem.Challenge.rw_pq0846_01
theorem top_off : True := by
  w_top off
  trivial
local macro_rules | `(tactic| walk_at $s:str) => do let k := Lean.Syntax.mkStrLit ("." ++ s.getString); `(tactic| k_extra $k)
theorem reg0 : True := by
  k_with_none
  k_with "z0" => ((fail_if_success (with_reducible show KswEnd _ _ _ _ _ _ _ _ _ _ _ _)))
  k_with "z1" => ((fail_if_success (with_reducible show JB _ _ _ _ _ _ _ _)))
  k_with "z2" => ((fail_if_success (with_reducible show InvEndN _ _ _ _ _ _ _)))
  k_with "z3" => ((fail_if_success (with_reducible show AtMid _ _ _ _ _ _ _ _ _)))
  k_with "z4" => ((fail_if_success (with_reducible show UnrEndW _ _ _ _ _ _)))
  k_with "z5" => ((fail_if_success (with_reducible show wpAny _ _ (compareOp CmpOp.NotEq _ _) _ _ _)))
  k_with "z6" => ((fail_if_success (with_reducible show wpAny _ _ (call (Value.ref 399) _) _ _ _)))
  k_with "z7" => ((fail_if_success (with_reducible show wpAny _ _ (exec (Stmt.While _ _ _ _) _) _ _ _)))
  k_with "z8" => ((fail_if_success (with_reducible show AtE _ _ _ _ _ _ _ _)))
  k_with "z9" => ((fail_if_success (with_reducible show LCg.CompSrc _ _ _ _ _ _ _ _ _ _ _ _ _ _)))
  k_with "z10" => ((fail_if_success (with_reducible show GotAt _ _ _ _ _ _ _ _ _)))
  k_with "z11" => ((fail_if_success (with_reducible show wpAny _ _ (call (Value.ref 324) _) _ _ _)))
  k_with "z12" => ((fail_if_success (with_reducible show wpAny _ _ (subscriptTail _ _ _ _) _ _ _)))
  k_with "z13" => ((fail_if_success (with_reducible show wpAny _ _ (call (Value.ref 364) _) _ _ _)))
  k_with "z14" => ((fail_if_success (with_reducible show wpAny _ _ (call (Value.ref 378) _) _ _ _)))
  k_with "z15" => ((fail_if_success (with_reducible show wpAny _ _ (call (Value.ref 296) _) _ _ _)))
  k_with "z16" => ((fail_if_success (with_reducible show wpAny _ _ (call (Value.builtin _) [Value.ref _]) _ _ _)))
  k_with "z17" => ((fail_if_success (with_reducible show wpAny _ _ (call (Value.ref 406) _) _ _ _)))
  k_with "z18" => ((fail_if_success (with_reducible show wpAny _ _ (call (Value.ref 413) _) _ _ _)))
  k_with "q" => (exact no_implicit_lambda% noinfo)
  k_with "b" => (simp (disch := k_dflt (k_extra "w")) only [↓bxT])
  k_with "h1" => (with_reducible refine (all1 inferInstance ?_))
  k_with "a" => (with_reducible assumption)
  k_with "n1" => (with_reducible refine no_implicit_lambda% (all1 inferInstance ?_))
  k_with "n2" => (with_reducible refine no_implicit_lambda% (all2 inferInstance ?_); generalize c2 _ _ = T9)
  k_with "n3" => (with_reducible refine no_implicit_lambda% (all3 inferInstance ?_); generalize c3 _ _ = T9)
  k_with "n4" => (with_reducible refine no_implicit_lambda% (all4 inferInstance ?_); generalize c4 _ _ = T9)
  k_with "n5" => (with_reducible refine no_implicit_lambda% (all5 inferInstance ?_); generalize c5 _ _ = T9)
  k_with "n6" => (with_reducible refine no_implicit_lambda% (all6 inferInstance ?_); generalize c6 _ _ = T9)
  k_with "n7" => (with_reducible refine no_implicit_lambda% (all7 inferInstance ?_); generalize c7 _ _ = T9)
  k_with "n8" => (with_reducible refine no_implicit_lambda% (all8 inferInstance ?_); generalize c8 _ _ = T9)
  k_with "n9" => (with_reducible refine no_implicit_lambda% (all9 inferInstance ?_); generalize c9 _ _ = T9)
  k_with "n10" => (with_reducible refine no_implicit_lambda% (all10 inferInstance ?_); generalize c10 _ _ = T9)
  k_with "n11" => (with_reducible refine no_implicit_lambda% (all11 inferInstance ?_); generalize c11 _ _ = T9)
  k_with "ka" => (first | (k_end; (k_extra "post")) | (k_unfold; (try dsimp only)))
  k_with "kb" => (k_end; (k_extra "z0"); (k_extra "z1"); (k_extra "z2"); (k_extra "z3"); first | wrow_close | walk1 | (dsimp only; walk1) | (leave1; (try dsimp only)))
  k_with "kc" => (first | walk1 | (dsimp only; walk1) | (leave1; (try dsimp only)))
  k_with "sW" => ((fail_if_success (with_reducible show wpAny _ _ (exec (Stmt.While _ _ _) _) _ _ _)))
  k_with "sI" => ((fail_if_success (with_reducible show wpAny _ _ (exec (Stmt.If _ _ _ _) _) _ _ _)))
  k_with "sA" => ((fail_if_success (with_reducible show wpAny _ _ (exec (Stmt.Assign _ _ _) _) _ _ _)))
  k_with "sF" => ((fail_if_success (with_reducible show wpAny _ _ (exec (Stmt.For _ _ _ _ _) _) _ _ _)))
  k_with "sP" => ((fail_if_success (with_reducible show wpAny _ _ (pyIter _) _ _ _)))
  k_with "kq" => ((case kB => k_asm); (case kF => k_asm); (case kX => k_asm); (case kN => k_asm); (case kT => k_asm); (case kK => first | exact rfl | assumption))
  k_with "h2" => (with_reducible refine (all2 inferInstance ?_); generalize c2 _ _ = T9)
  k_with "h3" => (with_reducible refine (all3 inferInstance ?_); generalize c3 _ _ = T9)
  k_with "h4" => (with_reducible refine (all4 inferInstance ?_); generalize c4 _ _ = T9)
  k_with "h5" => (with_reducible refine (all5 inferInstance ?_); generalize c5 _ _ = T9)
  k_with "h6" => (with_reducible refine (all6 inferInstance ?_); generalize c6 _ _ = T9)
  k_with "h7" => (with_reducible refine (all7 inferInstance ?_); generalize c7 _ _ = T9)
  k_with "h8" => (with_reducible refine (all8 inferInstance ?_); generalize c8 _ _ = T9)
  k_with "h9" => (with_reducible refine (all9 inferInstance ?_); generalize c9 _ _ = T9)
  k_with "h10" => (with_reducible refine (all10 inferInstance ?_); generalize c10 _ _ = T9)
  k_with "h11" => (with_reducible refine (all11 inferInstance ?_); generalize c11 _ _ = T9)
  k_with "cp" => (with_reducible refine no_implicit_lambda% (allP ?_); generalize cP _ = P9; generalize Par.w P9 = w, Par.mean P9 = mean, Par.mg P9 = mg, Par.mb P9 = mb, Par.dp P9 = dp, Par.un P9 = un, Par.gd P9 = gd, Par.cn P9 = cn, Par.cs P9 = cs, Par.a P9 = a, Par.ccd P9 = ccd, Par.cl P9 = cl, Par.outer P9 = outer, Par.A₀ P9 = A₀, Par.base P9 = base, Par.h₀ P9 = h₀, Par.L P9 = L, Par.m P9 = m, Par.s P9 = s, Par.hp P9 = hp, Par.tk0 P9 = tk0, Par.news P9 = news, Par.Q P9 = Q, Par.E P9 = E; clear P9)
  trivial
noncomputable def pmap : List Str → List Value → Str → Option Value
  | x :: xs, v :: vs, y => if y = x then some v else pmap xs vs y
  | _, _, _ => none
theorem pmap_lookup_not : ∀ (xs : List Str) (vs : List Value) (y : Str), y ∉ xs → (xs.zip vs).lookup y = none
  | [], _, _, _ => by simp
  | _ :: _, [], _, _ => by simp
  | x :: xs, v :: vs, y, h => by
    simp only [List.mem_cons, not_or] at h
    simp only [List.zip_cons_cons, List.lookup_cons, beq_eq_false_iff_ne.mpr h.1]
    exact pmap_lookup_not xs vs y h.2
theorem lookup_app (y : Str) (l k : List (Str × Value)) : (l ++ k).lookup y = (l.lookup y).or (k.lookup y) := by
  induction l with
  | nil => simp
  | cons p l ih =>
    obtain ⟨x, v⟩ := p
    simp only [List.cons_append, List.lookup_cons]
    cases h : y == x <;> simp [ih]
theorem pmap_rev : ∀ (xs : List Str) (vs : List Value), xs.Nodup → (fun y => (xs.zip vs).reverse.lookup y) = pmap xs vs
  | [], vs, _ => by funext y; simp [pmap]
  | _ :: _, [], _ => by funext y; simp [pmap]
  | x :: xs, v :: vs, h => by
    funext y
    have ih : (xs.zip vs).reverse.lookup y = pmap xs vs y := congrFun (pmap_rev xs vs (List.nodup_cons.mp h).2) y
    simp only [List.zip_cons_cons, List.reverse_cons, pmap, lookup_app, ih, List.lookup_cons, List.lookup_nil]
    by_cases hy : y = x
    · subst hy
      have hn := pmap_lookup_not xs vs y (List.nodup_cons.mp h).1
      have : pmap xs vs y = none := by
        rw [← ih]
        have q : ∀ l : List (Str × Value), (∀ p ∈ l, p.1 ≠ y) → l.lookup y = none := by
          intro l
          induction l with
          | nil => intro _; rfl
          | cons p l ihl =>
            obtain ⟨z, u⟩ := p
            intro hp
            rw [List.lookup_cons, beq_eq_false_iff_ne.mpr (Ne.symm (hp _ (.head _)))]
            exact ihl fun q hq => hp q (.tail _ hq)
        refine q _ fun p hp e => ?_
        have hp' := List.mem_reverse.mp hp
        have := (List.of_mem_zip (a := p.1) (b := p.2) hp').1
        rw [e] at this
        exact (List.nodup_cons.mp h).1 this
      simp [this]
    · simp only [if_neg hy, beq_eq_false_iff_ne.mpr hy]
      cases pmap xs vs y <;> rfl
section
variable {prog : Program} {w : World} {A A₀ : Around} {E : Value → Shared → Prop} {s : Shared} {K : Frag} {C L : Addr} {h₀ base : Heap} {m mg mb : Str → Option Value} {news : List (Addr × Obj)} {p : Program} {loose : List Str} {mean : ExcName → Option Value} {Q : Value → Shared → Prop}
theorem code_pos {env : Env} {outer : List Env} {R : Result → Shared → Prop} {name qual : Str} {params : Arguments} {body : List Stmt} {scope : Scope} {dV kV doc pm cdv ct oc : Value} {an od : Option Addr} {osl : Array (Option Value)} {f : Addr} {pos : List Value}
    (B : Below A₀ base outer h₀) (F : Fr h₀ L s.heap m) (X₀ : K.In h₀) (N : News h₀ L s.heap news) (T : Top p loose mean mg mb h₀) (hA : A.frames = some (env :: outer)) (hf : env.frame = some L) (hke : env.scope.kind = .function)
    (ho : K.lookup f = some ⟨oc, od, .func (fnOf name qual params body scope dV kV doc pm an cdv ct), osl⟩) (hcd : codeIn K cdv qual = true) (hroom : A.depth < recursionLimit)
    (hbind : bindArgs (fnOf name qual params body scope dV kV doc pm an cdv ct) ⟨pos, []⟩ = pure ((params.args.map (·.arg)).zip pos)) (hloc : ∀ y ∈ (params.args.map (·.arg)).zip pos, scope.names.lookup y.1 = some .local)
    (hnd : (params.args.map (·.arg)).Nodup)
    (h : ∀ g L' h₁ tk, Fr h₀ L g m → Fr g L' h₁ (pmap (params.args.map (·.arg)) pos) → News g L' h₁ news → Below A base (env :: outer) g → K.In g → Top p loose mean mg mb g → (∀ p ∈ news, p.1 < L') →
      wpAny (model prog w) (A.deeper (envOf qual scope L' f cdv)) (execs body (envOf qual scope L' f cdv))
        (fun fl s' => LeaveK h₀ L m g R (match fl with | .ret v => v | _ => .none) s')
        (fun e s' => wpAny (model prog w) (A.deeper (envOf qual scope L' f cdv)) (leaving (envOf qual scope L' f cdv) e) (fun _ s'' => R (.error e) s'') (fun e' s'' => R (.error e') s'') s')
        { s with heap := h₁, toks := tk })
    (hco : scope.isCoroutine = false) (hgen : scope.isGenerator = false) (hk : scope.kind = .function)
    (hcell : ∀ x ∈ scope.names, x.2 ≠ .cell) : codeAny (model prog w) A (.call (.ref f) ⟨pos, []⟩) R s :=
  callX_plain (cl := []) B F N T.nolimit hA hf hke ((X₀.keeps F.keep) _ _ ho) rfl (codeRec_of (X₀.keeps F.keep) hcd) hroom (BindsTo.of_eq hbind) hloc
    (fun g L' h₁ FG F' N' B' st l => h g L' h₁ _ FG (by rw [← pmap_rev _ _ hnd]; exact F') N' B' (X₀.keeps st) (T.keeps st) l) hcell hco hgen hk
end
theorem reg1 : True := by
  k_with "my enter" => (( refine' code_pos ?zk1 ?zk2 ?zk3 ?zk4 ?zk5 ?zkA ?kF ?kK ?zk6 ?zk7 ?zk8 ?zk9 ?kB ?zkD ?_ ?zc2 ?zc3 ?zc4 ?zc5; (case zkA => exact rfl); (case kF => exact rfl); (case kK => first | exact rfl | assumption); (case zk1 => k_asm); (case zk2 => k_asm); (case zk3 => k_asm); (case zk4 => k_asm); (case zk5 => k_asm); (case zk6 => k_is); (case zk7 => k_is); (case zk8 => ktr_room); (case zk9 => exact rfl); (case zc5 => decide); (case kB => exact locs rfl); (case zkD => decide); (case zc2 => exact rfl); (case zc3 => exact rfl); (case zc4 => exact rfl); k_whole; intro g' L' h' tk' FG' F' N' B' X' T' l1; (try dsimp only [List.map, pmap] at F'); (try dsimp only); (try k_fold)))
  trivial
theorem fillK {w : World} {h₀ : Heap} (h : PySem.Challenge.rw_pq0846_01.row.prog = PySem.Challenge.rw_pq0846_01.row.prog) (X : (hd.heap_39 w.params).In h₀) : (hd.heap_39 w.params).In h₀ := by
  revert h X; k_fill; intro h X; exact X
abbrev excObj (C t : Addr) (dd : Option Addr) : Obj := { cls := .ref C, dict := dd, data := .fields #[.ref t, .none, .none, .none, .bool false, .none] }
abbrev tupObj (vs : List Value) : Obj := { cls := .type "tuple", data := .seq vs.toArray }
section
variable {prog : Program} {w : World} {A : Around} {E : Value → Shared → Prop} {h : Heap} {g : Array GenState} {d : Drawn} {t : Nat} {os : OsState}
variable {nm q : Str} {C N : Addr} {bs bm : List Value} {hdct : Bool} {sn : List Str} {sub : List Value} {ab : Bool} {col : Option Bool} {dd : Option Addr} {k0 k1 k2 k3 k5 : Option Value} {B newId initId : String} {bmB : List Value}

theorem check_new_own (F : ExcBaseFacts B newId initId bmB) (hB : bm.contains (.type B) = true) {M : Model} {rest : List Value} {Q : Unit → Shared → Prop} (hC : h.get? C = some (excClassObj nm q C N bs bm hdct sn sub ab col dd k0 k1 k2 k3 k5 newId))
    (hq : Q () ⟨h, g, d, t, os⟩) : wpAny M A (checkBuiltinCall newId ⟨.ref C :: rest, []⟩) Q E ⟨h, g, d, t, os⟩ := by
 k_with "w" =>
  revert A E h g d t os nm q C N bs bm hdct sn sub ab col dd k0 k1 k2 k3 k5 B newId initId bmB F hB M rest Q hC hq
  with_reducible refine no_implicit_lambda% (all1 ne_a ?_); generalize c1 _ _ = A
  (k_extra "n3"); generalize p3_1 T9 = E, p3_2 T9 = h, p3_3 T9 = g; clear T9
  with_reducible refine no_implicit_lambda% (all1 ne_d ?_); generalize c1 _ _ = d
  (k_extra "n6"); generalize p6_1 T9 = t, p6_2 T9 = os, p6_3 T9 = nm, p6_4 T9 = q, p6_5 T9 = C, p6_6 T9 = N; clear T9
  (k_extra "n8"); generalize p8_1 T9 = bs, p8_2 T9 = bm, p8_3 T9 = hdct, p8_4 T9 = sn, p8_5 T9 = sub, p8_6 T9 = ab, p8_7 T9 = col, p8_8 T9 = dd; clear T9
  (k_extra "n8"); generalize p8_1 T9 = k0, p8_2 T9 = k1, p8_3 T9 = k2, p8_4 T9 = k3, p8_5 T9 = k5, p8_6 T9 = B, p8_7 T9 = newId, p8_8 T9 = initId; clear T9
  (k_extra "n1"); generalize c1 _ _ = bmB
  intro F hB
  with_reducible refine no_implicit_lambda% (all1 ne_m ?_); generalize c1 _ _ = M
  (k_extra "n2"); generalize p2_1 T9 = rest, p2_2 T9 = Q; clear T9
  intro hC hq
  have hcont : (Value.ref C :: bm).contains (.type B) = true := by rw [List.contains_cons, hB, Bool.or_true]
  have hstar := F.noStar
  simp only [checkBuiltinCall, F.newKind, F.newSplit, F.newRow]
  repeat (first | refine wpAny_loadPart_at hC ?_ | (refine wpAny_isSubtype_exc hC ?_; rw [hcont]) | refine wpAny_staticBase_exc hC ?_ | refine wpAny_madeBy_exc hC ?_ | simp only [bne_self_eq_false, Bool.false_eq_true, if_false] | wp_step)
  exact hq
 k_extra "q"
theorem exc_new_own {R : Result → Shared → Prop} (F : ExcBaseFacts B newId initId bmB) (hB : bm.contains (.type B) = true) (hA : bm.contains (.type "AttributeError") = false) (hN : bm.contains (.type "NameError") = false)
    {rest : List Value} (hC : h.get? C = some (excClassObj nm q C N bs bm hdct sn sub ab col dd k0 k1 k2 k3 k5 newId))
    (hq : R (.ok (.ret (.ref (h.objs.size + 1)))) ⟨(h.push (tupObj rest)).push (excObj C h.objs.size none), g, d, t, os⟩) (hrest : rest.length ≤ sizeLine := by size_fits) :
    codeAny (model prog w) A (.builtin newId ⟨.ref C :: rest, []⟩) R ⟨h, g, d, t, os⟩ := by
 k_with "w" =>
  have hends := F.ends
  have hcB : (Value.ref C :: bm).contains (.type B) = true := by rw [List.contains_cons, hB, Bool.or_true]
  have hcA : (Value.ref C :: bm).contains (.type "AttributeError") = false := by rw [List.contains_cons, hA]; rfl
  have hcN : (Value.ref C :: bm).contains (.type "NameError") = false := by rw [List.contains_cons, hN]; rfl
  refine PySem.codeAny_builtinAt F.entry ?_
  unfold Builtin.«BaseException.__new__»
  refine PySem.wpAt_bind ?_
  show PySem.wpAt _ _ _ (stack >>= _) _ _ _
  refine PySem.wpAt_bind (PySem.wpAt_stack fun p below => PySem.wpAt_of_wpAny ?_)
  wp_walk
  refine PySem.wpAt_of_wpAny ?_
  rw [F.owner]
  repeat (first | with_reducible refine wpAny_madeHere_exc F.canon hC ?_ | with_reducible refine wpAny_loadPart_at hC ?_ | (with_reducible refine wpAny_isSubtype_exc hC ?_; first | rw [hcB] | rw [hcA] | rw [hcN]) | wp_step)
  show R _ _
  rw [Heap.size_push]
  exact hq
 k_extra "q"
theorem make_own {R : Result → Shared → Prop} (F : ExcBaseFacts B newId initId bmB) (hB : bm.contains (.type B) = true) (hAt : bm.contains (.type "AttributeError") = false) (hN : bm.contains (.type "NameError") = false)
    {rest : List Value} (hC : h.get? C = some (excClassObj nm q C N bs bm hdct sn sub ab col dd k0 k1 k2 k3 k5 newId)) {f : Addr}
    (hi : Looks (model prog w) h (typeLookup (.ref C) "__init__") (some (.ref f))) (hb : ∀ self, Looks (model prog w) h (bindSpecial (.ref f) self) (.ref f, [self]))
    (hq : codeAny (model prog w) (A.under (.builtin "type.__call__" ⟨.ref C :: rest, []⟩)) (.call (.ref f) ⟨.ref (h.objs.size + 1) :: rest, []⟩) (InitBack (h.objs.size + 1) R) ⟨(h.push (tupObj rest)).push (excObj C h.objs.size none), g, d, t, os⟩)
    (hrest : rest.length ≤ sizeLine := by size_fits) :
    codeAny (model prog w) A (.call (.ref C) ⟨rest, []⟩) R ⟨h, g, d, t, os⟩ := by
 k_with "w" =>
  revert prog w A h g d t os nm q C N bs bm hdct sn sub ab col dd k0 k1 k2 k3 k5 B newId initId bmB R F hB hAt hN rest hC f hi hb hq hrest
  (k_extra "n1"); generalize c1 _ _ = prog
  with_reducible refine no_implicit_lambda% (all1 ne_w ?_); generalize c1 _ _ = w
  with_reducible refine no_implicit_lambda% (all1 ne_a ?_); generalize c1 _ _ = A
  (k_extra "n2"); generalize p2_1 T9 = h, p2_2 T9 = g; clear T9
  with_reducible refine no_implicit_lambda% (all1 ne_d ?_); generalize c1 _ _ = d
  (k_extra "n6"); generalize p6_1 T9 = t, p6_2 T9 = os, p6_3 T9 = nm, p6_4 T9 = q, p6_5 T9 = C, p6_6 T9 = N; clear T9
  (k_extra "n8"); generalize p8_1 T9 = bs, p8_2 T9 = bm, p8_3 T9 = hdct, p8_4 T9 = sn, p8_5 T9 = sub, p8_6 T9 = ab, p8_7 T9 = col, p8_8 T9 = dd; clear T9
  (k_extra "n8"); generalize p8_1 T9 = k0, p8_2 T9 = k1, p8_3 T9 = k2, p8_4 T9 = k3, p8_5 T9 = k5, p8_6 T9 = B, p8_7 T9 = newId, p8_8 T9 = initId; clear T9
  (k_extra "n2"); generalize p2_1 T9 = bmB, p2_2 T9 = R; clear T9
  intro F hB hAt hN
  (k_extra "n1"); generalize c1 _ _ = rest
  intro hC
  (k_extra "n1"); generalize c1 _ _ = f
  intro hi hb hq hrest
  have f1 := tc_lookup
  have f2 := tc_bind (.ref C)
  have hT : (⟨h, g, d, t, os⟩ : Shared).TypeIs (.ref C) "type" := ⟨_, hC, rfl⟩
  refine codeAny_of_tree ?_
  show wpAny _ _ (callAny (.ref C) _) _ _ _
  repeat (any_goals (first | assumption | with_reducible refine wpAny_loadPart_at hC ?_ | wp_step))
  refine ⟨rfl, ?_⟩
  refine codeAny_call_builtin_at (Code.quiet_builtin _ (by decide +kernel)) entry_typeCall (wpAny_check_type_call_sub hC ?_)
  repeat (first | with_reducible refine wpAny_loadPart_at hC ?_ | with_reducible refine wpAny_madeBy_exc hC ?_ | wp_step)
  refine codeAny_call_builtin_code (Code.quiet_builtin _ F.quiet) (check_new_own F hB hC ?_)
  refine exc_new_own F hB hAt hN hC ?_ hrest
  show wpAny _ _ _ _ _ _
  have k : ∀ b o, h.get? b = some o → ((h.push (tupObj rest)).push (excObj C h.objs.size none)).get? b = some o := fun b o e => Heap.get?_push_of_some _ (Heap.get?_push_of_some _ e)
  have hC₁ := k _ _ hC
  have hget : ((h.push (tupObj rest)).push (excObj C h.objs.size none)).get? (h.objs.size + 1) = some (excObj C h.objs.size none) := by heap_get
  have hcC : (Value.ref C :: bm).contains (.ref C) = true := by simp
  unfold isInstance
  repeat (first | with_reducible refine wpAny_loadPart_at hget ?_ | wp_step)
  refine wpAny_isSubtype_exc hC₁ ?_
  rw [hcC]
  simp only [Bool.not_true, Bool.false_eq_true, if_false]
  have t1 : Looks (model prog w) ((h.push (tupObj rest)).push (excObj C h.objs.size none)) (typeOf (.ref (h.objs.size + 1))) (.ref C) := (Looks.ld hget).andThen .now
  have i1 := hi.keeps k
  have b1 := (hb (.ref (h.objs.size + 1))).keeps k
  unfold callSpecial? specialOf
  refine wpAny_bind (wpAny_holding (wpAny_bind (wpAny_bind (t1.at (i1.at ?_)))))
  repeat (first | with_reducible refine wpAny_call ?_ | lk)
  refine codeAny_mono hq fun r s' z => ?_
  rcases r with e | (v | _ | _ | _) <;> first | exact z | exact z.elim | skip
  obtain ⟨rfl, z⟩ := z
  exact wpAny_pure (wpAny_pure z)
 k_extra "q"
end
section
open Builtin Builtin.ObjectAttr Builtin.Getset_descriptor
theorem refuse_exc (self : Value) (a b : Addr) : refuseLoop self "__setattr__" [.ref a, .ref b, .type "Exception", .type "BaseException", .type "object"] = pure () := by
  rw [refuseLoop_ref, refuseLoop_ref]
  kernel_rfl
section
variable {prog : Program} {w : World} {A : Around} {E : Value → Shared → Prop} {s : Shared} {K : Frag} {C L x : Addr} {h₀ : Heap} {m : Str → Option Value} {news : List (Addr × Obj)} {R : Result → Shared → Prop}
theorem osa_openE {ox : Obj} {od : Option Obj} {cd : ClassData} {name : Str} {tk : Tok} {v : Value} {r : Option Value} (X : K.In s.heap) (I : InstAt s.heap x ox C od) (hc : clsIn K C = some cd)
    (ne : cd.mro.isEmpty = false) (ho : cd.mro.contains (.type "object") = true) (hrf : ∀ self, refuseLoop self "__setattr__" cd.mro = pure ()) (ht : takerIn K C name = some r)
    (h : ∀ b, wpAny (model prog w) A.in1 (match r with | some a => setByDescriptor a (.ref x) v | none => storeInOwnDict (.ref x) (.ref C) (.str name tk) name v b)
      (fun fin s' => match fin with | .done f => R (.ok f) s' | .again c' => c'.quiet = true ∧ codeAny (model prog w) A c' R s') (fun e s' => R (.error e) s') s) :
    codeAny (model prog w) A (.call (.builtin "object.__setattr__") ⟨[.ref x, .str name tk, v], []⟩) R s := by
 k_with "w" =>
  revert prog w A s K C x R ox od cd name tk v r X I hc ne ho hrf ht h
  (k_extra "n1"); generalize c1 _ _ = prog
  with_reducible refine no_implicit_lambda% (all1 ne_w ?_); generalize c1 _ _ = w
  with_reducible refine no_implicit_lambda% (all1 ne_a ?_); generalize c1 _ _ = A
  with_reducible refine no_implicit_lambda% (all1 ne_s ?_); generalize c1 _ _ = s
  (k_extra "n4"); generalize p4_1 T9 = K, p4_2 T9 = C, p4_3 T9 = x, p4_4 T9 = R; clear T9
  (k_extra "n7"); generalize p7_1 T9 = ox, p7_2 T9 = od, p7_3 T9 = cd, p7_4 T9 = name, p7_5 T9 = tk, p7_6 T9 = v, p7_7 T9 = r; clear T9
  intro X I hc ne ho hrf ht h
  have SF := PySem.F.store_object
  have sub : Looks (model prog w) s.heap (isInstance (.ref x) (.type "object")) true := I.type.andThen (looks_mroIn X (by unfold mroIn; rw [hc, Option.bind_some, if_neg (by rw [ne]; decide), ho]))
  refine codeAny_call_builtin SF.slot.plain SF.entry (@check_slot (model prog w) _ _ s "object.__setattr__" "object" "__setattr__" (.ref x) [.str name tk, v] [] _ SF.kind SF.split sub (SF.args (.ref x) (.str name tk) v) ?_)
  obtain ⟨attr, ha, hr⟩ := Option.bind_eq_some_iff.mp ht
  have hm : Looks (model prog w) s.heap (mroOf (.ref C)) cd.mro := (looks_clsIn X hc).andThen .now
  have L3 : Looks (model prog w) s.heap (storeTaker? attr) r := by
    cases attr with
    | none => cases hr; exact .now
    | some a =>
      obtain ⟨b, hb, rfl⟩ := Option.map_eq_some_iff.mp hr
      refine (looks_takesIn X hb).andThen ?_
      cases b <;> exact .now
  rw [osa_eq, refuse_eq]
  refine wpAny_bind (wpAny_bind (I.type.here (wpAny_bind (hm.here ?_))))
  rw [hrf]
  refine wpAny_pure (wpAny_bind (I.type.here (wpAny_bind ((looks_findIn X ha).here (wpAny_bind (L3.here ?_))))))
  exact h _
 k_extra "q"
theorem store_tail {od od' : Obj} {d : Addr} {name : Str} {tk : Tok} {v : Value} {pre post : List (Addr × Obj)} {es : List DictEntry} {n : Nat} {Q : Fin → Shared → Prop} (F : Fr h₀ L s.heap m) (N : News h₀ L s.heap (pre ++ (d, od) :: post))
    (hl : (lookIn name od).isSome = true) (h1 : ∀ p ∈ pre, p.1 ≠ d) (h2 : ∀ p ∈ post, p.1 ≠ d)
    (e : Obj.putName name (PyData.keyHash w.params name) (.str name s.toks) v od = od') (e' : od'.data = .dict es.toArray n) (hz : es.length ≤ 1000)
    (h : ∀ h', Fr h₀ L h' m → News h₀ L h' (pre ++ (d, od') :: post) → Q (.done (.ret .none)) { s with heap := h', toks := s.toks + 1 }) :
    wpAny (model prog w) A (storeInDict d (.str name tk) name v) Q E s := by
 k_with "w" =>
  revert prog w A E s L h₀ m od od' d name tk v pre post es n Q F N hl h1 h2 e e' hz h
  (k_extra "n1"); generalize c1 _ _ = prog
  with_reducible refine no_implicit_lambda% (all1 ne_w ?_); generalize c1 _ _ = w
  with_reducible refine no_implicit_lambda% (all1 ne_a ?_); generalize c1 _ _ = A
  (k_extra "n1"); generalize c1 _ _ = E
  with_reducible refine no_implicit_lambda% (all1 ne_s ?_); generalize c1 _ _ = s
  (k_extra "n3"); generalize p3_1 T9 = L, p3_2 T9 = h₀, p3_3 T9 = m; clear T9
  (k_extra "n8"); generalize p8_1 T9 = od, p8_2 T9 = od', p8_3 T9 = d, p8_4 T9 = name, p8_5 T9 = tk, p8_6 T9 = v, p8_7 T9 = pre, p8_8 T9 = post; clear T9
  (k_extra "n3"); generalize p3_1 T9 = es, p3_2 T9 = n, p3_3 T9 = Q; clear T9
  intro F N hl h1 h2 e e' hz h
  obtain ⟨U1, U2⟩ := news_upd (f := Obj.putName name (PyData.keyHash w.params name) (.str name s.toks) v) F N h1 h2 e (by obtain ⟨_, _, dd, _⟩ := od'; cases e'; rfl)
  have D := (N (d, od) (by simp)).1
  have D' := (U2 (d, od') (by simp)).1
  refine wpAny_bind (wpAny_pure (wpAny_bind ?_))
  unfold nsSet
  refine wpAny_bind (wpAny_bind (wpAny_askSetting (wpAny_pure (wpAny_bind (wpAny_mkText (wpAny_bind (wpAny_loadPart D ?_)))))))
  unfold lookIn at hl
  split at hl
  · rename_i es₀ n₀ q
    rw [q]
    dsimp only
    have c : (!es₀.any (·.key.isStr name) && es₀.any (·.refKey)) = false := by
      rw [← Array.any_toList, ← Array.any_toList]
      split at hl
      · rename_i en he
        rw [List.any_eq_true.mpr ⟨en, List.mem_of_find?_eq_some he, List.find?_some he⟩]; rfl
      · split at hl
        · cases hl
        · rename_i z; rw [Bool.not_eq_true] at z; rw [z, Bool.and_false]
    rw [aRefKeyMayBeTheName_at, c]
    refine wpAny_updatePart D ?_
    refine wpAny_bind (wpAny_lookBehind D' (by rw [e']; exact pastItsLine_dict (by rw [List.size_toArray, sizeLine_eq]; omega)) ?_)
    exact wpAny_pure (h _ U1 U2)
  · cases hl
 k_extra "q"
theorem osa_moreE {ox od od' : Obj} {cd : ClassData} {dx : Addr} {name : Str} {tk : Tok} {v : Value} {pre post : List (Addr × Obj)} {es : List DictEntry} {n : Nat} (F : Fr h₀ L s.heap m) (N : News h₀ L s.heap (pre ++ (dx, od) :: post)) (X : K.In s.heap)
    (I : InstAt s.heap x ox C (some od)) (hd : ox.dict = some dx) (hc : clsIn K C = some cd) (ne : cd.mro.isEmpty = false) (ho : cd.mro.contains (.type "object") = true) (hrf : ∀ self, refuseLoop self "__setattr__" cd.mro = pure ()) (ht : takerIn K C name = some none) (hh : cd.hasDict = true)
    (hl : (lookIn name od).isSome = true) (h1 : ∀ p ∈ pre, p.1 ≠ dx) (h2 : ∀ p ∈ post, p.1 ≠ dx)
    (e : Obj.putName name (PyData.keyHash w.params name) (.str name s.toks) v od = od') (e' : od'.data = .dict es.toArray n) (hz : es.length ≤ 1000)
    (h : ∀ h', Fr h₀ L h' m → News h₀ L h' (pre ++ (dx, od') :: post) → R (.ok (.ret .none)) { s with heap := h', toks := s.toks + 1 }) :
    codeAny (model prog w) A (.call (.builtin "object.__setattr__") ⟨[.ref x, .str name tk, v], []⟩) R s := by
  refine osa_openE X I hc ne ho hrf ht fun b => ?_
  obtain ⟨hx, hcl, hn, -⟩ := I
  obtain ⟨oc, odi, oda, osl⟩ := ox
  dsimp only at hcl hd
  subst hcl hd
  refine wpAny_bind (wpAny_pure (wpAny_bind (wpAny_bind (wpAny_loadPart hx (wpAny_bind ((looks_clsIn X hc).here ?_))))))
  rw [hh]
  refine wpAny_pure (a := some dx) ?_
  exact store_tail F N hl h1 h2 e e' hz h
theorem osa_makeE {t : Addr} {cd : ClassData} {name : Str} {tk : Tok} {v : Value} (F : Fr h₀ L s.heap m) (N : News h₀ L s.heap ((x, excObj C t none) :: news)) (X : K.In s.heap) (hx : ∀ p ∈ news, p.1 ≠ x)
    (hc : clsIn K C = some cd) (ne : cd.mro.isEmpty = false) (ho : cd.mro.contains (.type "object") = true) (hrf : ∀ self, refuseLoop self "__setattr__" cd.mro = pure ()) (ht : takerIn K C name = some none) (hh : cd.hasDict = true)
    (h : ∀ d h', Fr h₀ L h' m → News h₀ L h' ((x, excObj C t (some d)) :: (d, dictOf [⟨PyData.keyHash w.params name, .str name s.toks, v⟩] 1) :: news) → x < d → (∀ p ∈ news, p.1 < d) → R (.ok (.ret .none)) { s with heap := h', toks := s.toks + 1 }) :
    codeAny (model prog w) A (.call (.builtin "object.__setattr__") ⟨[.ref x, .str name tk, v], []⟩) R s := by
 k_with "w" =>
  revert prog w A s K C L x h₀ m news R t cd name tk v F N X hx hc ne ho hrf ht hh h
  (k_extra "n1"); generalize c1 _ _ = prog
  with_reducible refine no_implicit_lambda% (all1 ne_w ?_); generalize c1 _ _ = w
  with_reducible refine no_implicit_lambda% (all1 ne_a ?_); generalize c1 _ _ = A
  with_reducible refine no_implicit_lambda% (all1 ne_s ?_); generalize c1 _ _ = s
  (k_extra "n8"); generalize p8_1 T9 = K, p8_2 T9 = C, p8_3 T9 = L, p8_4 T9 = x, p8_5 T9 = h₀, p8_6 T9 = m, p8_7 T9 = news, p8_8 T9 = R; clear T9
  (k_extra "n5"); generalize p5_1 T9 = t, p5_2 T9 = cd, p5_3 T9 = name, p5_4 T9 = tk, p5_5 T9 = v; clear T9
  intro F N X hx hc ne ho hrf ht hh h
  have hat := (N _ (.head _)).1
  have I : InstAt s.heap x (excObj C t none) C none := ⟨hat, rfl, rfl, trivial⟩
  refine osa_openE X I hc ne ho hrf ht fun b => ?_
  refine wpAny_bind (wpAny_pure (wpAny_bind (wpAny_bind (wpAny_loadPart hat (wpAny_bind ((looks_clsIn X hc).here ?_))))))
  rw [hh]
  have F₁ := F.push emptyDict
  have N₁ := N.push F emptyDict
  have hlt : x < s.heap.objs.size := Heap.lt_size hat
  have hl : ∀ p ∈ news, p.1 < s.heap.objs.size := fun p hp => Heap.lt_size (N p (.tail _ hp)).1
  obtain ⟨F₂, N₂⟩ := news_upd (pre := [(s.heap.objs.size, emptyDict)]) (d := x) (o := excObj C t none) (o' := excObj C t (some s.heap.objs.size)) (post := news) (f := fun o => { o with dict := some s.heap.objs.size }) F₁ N₁
    (fun p hp => by rw [List.mem_singleton.mp hp]; exact Nat.ne_of_gt hlt) hx rfl rfl
  refine wpAny_bind (wpAny_alloc (wpAny_bind (wpAny_update (o := excObj C t none) (Heap.get?_push_of_some _ hat) (wpAny_pure (a := some s.heap.objs.size) ?_))))
  refine store_tail (s := { s with heap := _ }) (pre := [(x, excObj C t (some s.heap.objs.size))]) (post := news) (es := [⟨PyData.keyHash w.params name, .str name s.toks, v⟩]) (n := 1) (od := emptyDict) (od' := dictOf [⟨PyData.keyHash w.params name, .str name s.toks, v⟩] 1) F₂ (fun p hp => N₂ p ?_) rfl (fun p hp => by rw [List.mem_singleton.mp hp]; exact Nat.ne_of_lt hlt) (fun p hp => Nat.ne_of_lt (hl p hp)) rfl rfl (by simp) (fun h' F' N' => h _ h' F' N' hlt hl)
  rcases List.mem_cons.mp hp with rfl | hp
  · simp
  · rcases List.mem_cons.mp hp with rfl | hp
    · simp
    · simp [hp]
 k_extra "q"
end
end
section
variable {prog : Program} {w : World} {A : Around} {E : Value → Shared → Prop} {h : Heap} {g : Array GenState} {d : Drawn} {t : Nat} {os : OsState}
variable {nm q : Str} {C N : Addr} {bs bm bmB : List Value} {hdct : Bool} {sn : List Str} {sub : List Value} {ab : Bool} {col : Option Bool} {dd : Option Addr} {k0 k1 k2 k3 k5 : Option Value} {B newId initId : String}
theorem check_init_own (F : ExcBaseFacts B newId initId bmB) (hB : bm.contains (.type B) = true) {M : Model} {e : Addr} {oe : Obj} {rest : List Value} {Q : Unit → Shared → Prop}
    (hC : h.get? C = some (excClassObj nm q C N bs bm hdct sn sub ab col dd k0 k1 k2 k3 k5 newId)) (he : h.get? e = some oe) (hcls : oe.cls = .ref C) (hq : Q () ⟨h, g, d, t, os⟩) :
    wpAny M A (checkBuiltinCall initId ⟨.ref e :: rest, []⟩) Q E ⟨h, g, d, t, os⟩ := by
 k_with "w" =>
  revert A E h g d t os nm q C N bs bm bmB hdct sn sub ab col dd k0 k1 k2 k3 k5 B newId initId F hB M e oe rest Q hC he hcls hq
  with_reducible refine no_implicit_lambda% (all1 ne_a ?_); generalize c1 _ _ = A
  (k_extra "n3"); generalize p3_1 T9 = E, p3_2 T9 = h, p3_3 T9 = g; clear T9
  with_reducible refine no_implicit_lambda% (all1 ne_d ?_); generalize c1 _ _ = d
  (k_extra "n6"); generalize p6_1 T9 = t, p6_2 T9 = os, p6_3 T9 = nm, p6_4 T9 = q, p6_5 T9 = C, p6_6 T9 = N; clear T9
  (k_extra "n8"); generalize p8_1 T9 = bs, p8_2 T9 = bm, p8_3 T9 = bmB, p8_4 T9 = hdct, p8_5 T9 = sn, p8_6 T9 = sub, p8_7 T9 = ab, p8_8 T9 = col; clear T9
  (k_extra "n1"); generalize c1 _ _ = dd
  (k_extra "n8"); generalize p8_1 T9 = k0, p8_2 T9 = k1, p8_3 T9 = k2, p8_4 T9 = k3, p8_5 T9 = k5, p8_6 T9 = B, p8_7 T9 = newId, p8_8 T9 = initId; clear T9
  intro F hB
  with_reducible refine no_implicit_lambda% (all1 ne_m ?_); generalize c1 _ _ = M
  (k_extra "n4"); generalize p4_1 T9 = e, p4_2 T9 = oe, p4_3 T9 = rest, p4_4 T9 = Q; clear T9
  intro hC he hcls hq
  have hcB : (Value.ref C :: bm).contains (.type B) = true := by rw [List.contains_cons, hB, Bool.or_true]
  have hshort := F.noStar
  simp only [checkBuiltinCall, F.initKind, F.initSplit, F.initRow]
  repeat (first | (with_reducible refine wpAny_loadPart_at he ?_; rw [hcls]) | with_reducible refine wpAny_loadPart_at hC ?_ | (with_reducible refine wpAny_isSubtype_exc hC ?_; rw [hcB]) | wp_step)
  refine wpAny_onRaise ?_
  rw [show ∀ (a b : String) (n : Nat), Bind.check ⟨.positional, "*", B, .self, [⟨"args", .varPos, false⟩]⟩ a b n (List.map (fun x => x.fst) ({ pos := Value.ref e :: rest } : Args).kw) = pure () from
    fun a b n => check_star_args _ _ _ _ _ _]
  exact wpAny_pure hq
 k_extra "q"
theorem exc_init {x tt L : Addr} {h₀ : Heap} {m : Str → Option Value} {news : List (Addr × Obj)} {v : Value} {Q : Value → Shared → Prop} (F : ExcBaseFacts B newId initId bmB) (hB : bm.contains (.type B) = true)
    (hC : h.get? C = some (excClassObj nm q C N bs bm hdct sn sub ab col dd k0 k1 k2 k3 k5 newId)) (Fr₀ : Fr h₀ L h m) (N₀ : News h₀ L h ((x, excObj C tt none) :: news)) (hx : ∀ p ∈ news, p.1 ≠ x)
    (hq : ∀ t' h', Fr h₀ L h' m → News h₀ L h' ((x, excObj C t' none) :: (t', tupObj [v]) :: news) → x < t' → (∀ p ∈ news, p.1 < t') → Q .none ⟨h', g, d, t, os⟩) :
    wpAny (model prog w) A (call (.builtin initId) [.ref x, v]) Q E ⟨h, g, d, t, os⟩ := by
 k_with "w" =>
  have hat := (N₀ _ (.head _)).1
  have hlt : x < h.objs.size := Heap.lt_size hat
  have hl : ∀ p ∈ news, p.1 < h.objs.size := fun p hp => Heap.lt_size (N₀ p (.tail _ hp)).1
  have F₁ := Fr₀.push (tupObj [v])
  have N₁ := N₀.push Fr₀ (tupObj [v])
  obtain ⟨F₂, N₂⟩ := news_upd (pre := [(h.objs.size, tupObj [v])]) (d := x) (o := excObj C tt none) (o' := excObj C h.objs.size none) (post := news) (f := Obj.mapFields (·.setIfInBounds 0 (.ref h.objs.size))) F₁ N₁
    (fun p hp => by rw [List.mem_singleton.mp hp]; exact Nat.ne_of_gt hlt) hx rfl rfl
  refine wpAny_call (codeAny_call_builtin F.init.plain F.initEntry (check_init_own F hB hC hat rfl ?_))
  wp_walk
  refine hq h.objs.size _ F₂ (fun p hp => N₂ p ?_) hlt hl
  rcases List.mem_cons.mp hp with rfl | hp
  · simp
  · rcases List.mem_cons.mp hp with rfl | hp
    · simp
    · simp [hp]
 k_extra "q"
end
theorem fillK2 {w : World} {h₀ : Heap} (h : PySem.Challenge.rw_pq0846_01.row.prog = PySem.Challenge.rw_pq0846_01.row.prog) (X : (hd.heap_39 w.params).In h₀) : (hd.heap_39 w.params).In h₀ := by
  revert h X; k_fill; intro h X; exact X
abbrev pfDict (w : World) (y : Str) (ty : Tok) (n : Int) (tn k1 k2 : Tok) : Obj := dictOf [⟨PyData.keyHash w.params "why", .str "why" k1, .str y ty⟩, ⟨PyData.keyHash w.params "line", .str "line" k2, .int n tn⟩] 2
abbrev cls63 : Obj := excClassObj "ParseFault" "ParseFault" 63 62 [.ref 31] [.ref 31, .type "Exception", .type "BaseException", .type "object"] true [] [] false none none (some (.ref 47)) none (some (.str "ParseFault" 234)) (some (.str "ParseFault" 242)) (some (.bool true)) "Exception.__new__"
abbrev cd63 : ClassData := { name := "ParseFault", bases := [.ref 31], mro := [.ref 63, .ref 31, .type "Exception", .type "BaseException", .type "object"], ns := 62, qualname := "ParseFault" }
theorem look63 (p : Params) : (hd.heap_39 p).lookup 63 = some cls63 := by kernel_rfl
theorem clsIn63 (p : Params) : clsIn (hd.heap_39 p) 63 = some cd63 := by kernel_rfl
theorem init63 (p : Params) : findIn (hd.heap_39 p) (.ref 63) "__init__" = some (some (.ref 60)) := by kernel_rfl
theorem fn60 (p : Params) : typeIn (hd.heap_39 p) (.ref 60) = some (.type "function") := by kernel_rfl
theorem sa63 (p : Params) : findIn (hd.heap_39 p) (.ref 63) "__setattr__" = some (some (.builtin "object.__setattr__")) := by kernel_rfl
theorem taker63w (p : Params) : takerIn (hd.heap_39 p) 63 "why" = some none := by kernel_rfl
theorem taker63l (p : Params) : takerIn (hd.heap_39 p) 63 "line" = some none := by kernel_rfl
theorem mexc (p : Params) : findCls (hd.heap_39 p) (.type "Exception") (.type "type") "__init__" = some (.val (.builtin "Exception.__init__")) := by kernel_rfl
section
variable {prog : Program} {w : World} {A : Around} {E : Value → Shared → Prop} {s : Shared} {h₀ : Heap} {L : Addr} {m : Str → Option Value} {news : List (Addr × Obj)}
theorem meth_exc {pl : Sem Bool} {Q : Value × List Value → Shared → Prop} (F : Fr h₀ L s.heap m) (X : (hd.heap_39 w.params).In h₀) (h : Q (.builtin "Exception.__init__", []) { s with toks := s.toks + 1 }) :
    wpAny (model prog w) A (getMethod (.type "Exception") "__init__" pl) Q E s :=
  @method_type prog w A E s (hd.heap_39 w.params) L h₀ m _ (.builtin "Exception.__init__") "Exception" pl Q F X (by kernel_rfl) (by kernel_rfl) (mexc _) (by kernel_rfl) h
theorem init_exc {x tt : Addr} {v : Value} {Q : Value → Shared → Prop} (F : Fr h₀ L s.heap m) (X : (hd.heap_39 w.params).In h₀) (N : News h₀ L s.heap ((x, excObj 63 tt none) :: news)) (hx : ∀ p ∈ news, p.1 < x)
    (h : ∀ t' h', Fr h₀ L h' m → News h₀ L h' ((x, excObj 63 t' none) :: (t', tupObj [v]) :: news) → x < t' → (∀ p ∈ news, p.1 < t') → Q .none { s with heap := h' }) :
    wpAny (model prog w) A (call (.builtin "Exception.__init__") [.ref x, v]) Q E s :=
  exc_init (g := s.gens) (d := s.drawn) (t := s.toks) (os := s.os) PySem.F.excBase_Exception (by decide) ((X.keeps F.keep) 63 _ (look63 _)) F N (fun p hp => Nat.ne_of_lt (hx p hp)) h
theorem set_why {x t' : Addr} {v : Value} {Q : Unit → Shared → Prop} (F : Fr h₀ L s.heap m) (X : (hd.heap_39 w.params).In h₀) (N : News h₀ L s.heap ((x, excObj 63 t' none) :: news)) (hx : ∀ p ∈ news, p.1 ≠ x)
    (h : ∀ d h', Fr h₀ L h' m → News h₀ L h' ((x, excObj 63 t' (some d)) :: (d, dictOf [⟨PyData.keyHash w.params "why", .str "why" (s.toks + 1), v⟩] 1) :: news) → x < d → (∀ p ∈ news, p.1 < d) → Q () { s with heap := h', toks := s.toks + 1 + 1 }) :
    wpAny (model prog w) A (setAttr (.ref x) "why" v) Q E s := by
  have X₁ := X.keeps F.keep
  refine set_plain (od := none) X₁ ⟨(N _ (.head _)).1, rfl, rfl, trivial⟩ (sa63 _) ?_
  exact osa_makeE (s := { s with toks := s.toks + 1 }) (K := hd.heap_39 w.params) (cd := cd63) F N X₁ hx (clsIn63 _) (by rfl) (by decide) (fun self => refuse_exc self 63 31) (taker63w _) (by rfl) h
theorem set_line {x d t' : Addr} {v v0 : Value} {tk : Tok} {Q : Unit → Shared → Prop} (F : Fr h₀ L s.heap m) (X : (hd.heap_39 w.params).In h₀) (N : News h₀ L s.heap ((x, excObj 63 t' (some d)) :: (d, dictOf [⟨PyData.keyHash w.params "why", .str "why" tk, v0⟩] 1) :: news)) (hxd : x < d) (hx : ∀ p ∈ news, p.1 ≠ d)
    (h : ∀ h', Fr h₀ L h' m → News h₀ L h' ((x, excObj 63 t' (some d)) :: (d, dictOf [⟨PyData.keyHash w.params "why", .str "why" tk, v0⟩, ⟨PyData.keyHash w.params "line", .str "line" (s.toks + 1), v⟩] 2) :: news) → Q () { s with heap := h', toks := s.toks + 1 + 1 }) :
    wpAny (model prog w) A (setAttr (.ref x) "line" v) Q E s := by
 k_with "w" =>
  have X₁ := X.keeps F.keep
  have I : InstAt s.heap x (excObj 63 t' (some d)) 63 (some (dictOf [⟨PyData.keyHash w.params "why", .str "why" tk, v0⟩] 1)) := ⟨(N _ (.head _)).1, rfl, rfl, (N _ (.tail _ (.head _))).1⟩
  refine set_plain X₁ I (sa63 _) ?_
  exact osa_moreE (s := { s with toks := s.toks + 1 }) (K := hd.heap_39 w.params) (cd := cd63) (pre := [(x, excObj 63 t' (some d))]) (post := news) (es := [⟨PyData.keyHash w.params "why", .str "why" tk, v0⟩, ⟨PyData.keyHash w.params "line", .str "line" (s.toks + 1), v⟩]) (n := 2) F N X₁ I rfl (clsIn63 _) (by rfl) (by decide) (fun self => refuse_exc self 63 31) (taker63l _) (by rfl) (by rfl) (fun p hp => by rw [List.mem_singleton.mp hp]; exact Nat.ne_of_lt hxd) hx (by rfl) (by rfl) (by simp) h
 k_extra "q"
end
theorem reg2 : True := by
  k_with ".getMethod type" => ((k_here; k_dflt (refine' meth_exc ?zk1 ?zk2 ?_; (case zk1 => k_asm); (case zk2 => k_asm); k_whole)))
  k_with ".call builtin:Exception.__init__" => ((((k_here; k_dflt (refine' init_exc ?zk1 ?zk2 ?zk3 ?zk4 ?_; (case zk1 => k_asm); (case zk2 => k_asm); (case zk3 => k_asm); (case zk4 => assumption); k_whole); intro t' h' F' N' l1 l2; (try k_sweep))); (first | revert t' h' | ((try revert h'); (try revert t'))); intros))
  trivial
section
variable {w : World} {mean mg mb} {dp un : Nat} {gd cn} {cs : Scope} {a ccd cl} {outer : List Env} {A₀ base h₀ L m} {s : Shared} {hp tk0 news} {Q E : Value → Shared → Prop}
 (B : Below A₀ base outer h₀) (F : Fr h₀ L hp m) (X : (hd.heap_39 w.params).In h₀) (N : News h₀ L hp news) (T : Top hd.view_39 (looseW hd.view_39 []) mean mg mb h₀) (hk : cs.kind = .function)
include B F X N T hk
theorem pf_new {y : Str} {ty : Tok} {n : Int} {tn : Tok} (hdp : dp + 10 < recursionLimit) (hun : un + 80 < cLine) 
  (hret : ∀ e d t' k1 k2 h' tk', Fr h₀ L h' m → News h₀ L h' ((e, excObj 63 t' (some d)) :: (d, pfDict w y ty n tn k1 k2) :: (t', tupObj [.str y ty]) :: news) → (∀ p ∈ news, p.1 < e) → e < t' → t' < d → Q (.ref e) { s with heap := h', toks := tk' }) :
  wpAny (model PySem.Challenge.rw_pq0846_01.row.prog w) (ktrTop dp un gd cn cs L a ccd cl outer) (call (.ref 63) [.str y ty, .int n tn]) Q E { s with heap := hp, toks := tk0 } := by
 k_with "w" =>
  revert B F X N T hk hdp hun hret
  revert w mean mg mb dp un gd cn cs a ccd cl outer A₀ base h₀ L m s hp tk0 news Q E y ty n tn
  (k_extra "cp")
  (k_extra "n4"); generalize p4_1 T9 = y, p4_2 T9 = ty, p4_3 T9 = n, p4_4 T9 = tn; clear T9
  intro B F X N T hk hdp hun hret
  refine wpAny_call ?_
  have X₁ := X.keeps F.keep
  have hC : hp.get? 63 = some cls63 := X₁ 63 _ (look63 _)
  refine make_own (h := hp) (g := s.gens) (d := s.drawn) (t := tk0) (os := s.os) (rest := [.str y ty, .int n tn]) (f := 60) PySem.F.excBase_Exception (by decide) (by decide) (by decide) hC ?i1 ?i2 ?_
  case i1 => exact @looks_findIn (hd.heap_39 w.params) _ _ X₁ (.ref 63) "__init__" _ (init63 _)
  case i2 => exact fun self => @bind_fn (hd.heap_39 w.params) _ _ X₁ 60 self (fn60 _)
  clear hC
  have F₁ := (F.push (tupObj [.str y ty, .int n tn])).push (excObj 63 hp.objs.size none)
  have N₁ : News h₀ L ((hp.push (tupObj [Value.str y ty, Value.int n tn])).push (excObj 63 hp.objs.size none)) ((hp.objs.size + 1, excObj 63 hp.objs.size none) :: news) := by
    have := (N.push F (tupObj [.str y ty, .int n tn])).push (F.push _) (excObj 63 hp.objs.size none)
    rw [Heap.size_push] at this
    exact fun p hp => this p ((List.mem_cons.mp hp).elim (fun q => q ▸ .head _) fun q => .tail _ (.tail _ q))
  have hl : ∀ p ∈ news, p.1 < hp.objs.size + 1 := fun p hp => Nat.lt_succ_of_lt (Heap.lt_size (N p hp).1)
  clear F N X₁
  generalize ((hp.push (tupObj [Value.str y ty, Value.int n tn])).push (excObj 63 hp.objs.size none)) = h₁ at F₁ N₁ ⊢
  generalize hp.objs.size + 1 = x₁ at *
  generalize hp.objs.size = x₀ at *
  k_dflt (k_extra "my enter")
  k_steps
  refine wpAny_call ?_
  k_dflt (k_extra "my enter")
  k_steps
  refine meth_exc (by assumption) (by assumption) ?_
  k_steps
  refine set_why (by assumption) (by assumption) (by assumption) ?_ ?_
  · intro p hp; rcases List.mem_cons.mp hp with rfl | hp
    · exact Nat.ne_of_gt (by assumption)
    · exact Nat.ne_of_lt (hl _ hp)
  intro d' h' F' N' l3 l4
  k_steps
  refine set_line (by assumption) (by assumption) (by assumption) (by assumption) ?_ ?_
  · intro p hp; exact Nat.ne_of_lt (l4 p hp)
  intro h' F' N'
  k_steps
  exact hret _ _ _ _ _ _ _ (by assumption) (by assumption) hl (by assumption) (l4 _ (.head _))
 k_extra "q"
end
noncomputable def RaisedPF (w : World) (base G : Heap) (l : List Env) (e : Addr) (y : Str) (n : Int) (news : List (Addr × Obj)) (h : Heap) : Prop :=
  ∃ Bh a0 d ty tn k1 k2, base.StaysIn Bh ∧ (∀ b o, G.get? b = some o → b ∉ l.filterMap (·.frame) → Bh.get? b = some o) ∧ (∀ q ∈ (d, pfDict w y ty n tn k1 k2) :: news, Bh.get? q.1 = some q.2 ∧ G.get? q.1 = none ∧ base.get? q.1 = none) ∧ Heap.FlyingW Bh l e (.ref 63) a0 h ∧ DictAt e (some d) h
theorem RaisedPF.sub {w : World} {base G : Heap} {l : List Env} {e : Addr} {y : Str} {n : Int} {news news' : List (Addr × Obj)} {h : Heap} (x : RaisedPF w base G l e y n news h) (hs : ∀ q ∈ news', q ∈ news) : RaisedPF w base G l e y n news' h := by
  obtain ⟨Bh, a0, d, ty, tn, k1, k2, h1, hG, h2, h3, h4⟩ := x
  exact ⟨Bh, a0, d, ty, tn, k1, k2, h1, hG, fun q hq => h2 q ((List.mem_cons.mp hq).elim (fun z => z ▸ .head _) fun z => .tail _ (hs q z)), h3, h4⟩
theorem tame_k {M : Model} {A : Around} {α : Type} {c : Sem α} {e : Addr} {dd : Option Addr} {s' : Shared} {P : Heap → Prop} {Q : α → Shared → Prop} {E : Value → Shared → Prop} (t : Tame c) (dk : DictAt e dd s'.heap)
    (W : wpAny M A c (fun _ s'' => ∃ h', s'' = { s' with heap := h' } ∧ P h') (fun _ _ => False) s') (k : ∀ a h', P h' → DictAt e dd h' → Q a { s' with heap := h' }) : wpAny M A c Q E s' := by
  refine wpAny_mono (wpAny_tame t dk W) (fun a s'' q => ?_) fun _ _ q => q.1.elim
  obtain ⟨⟨h', rfl, p⟩, dk'⟩ := q
  exact k a h' p dk'
section
variable {M : Model} {A : Around} {E : Value → Shared → Prop} {s' : Shared} {w : World} {base g g₂ h : Heap} {outer : List Env} {L a e t d : Addr} {m : Str → Option Value} {name : Str} {scope : Scope} {cd : Value} {Q : Unit → Shared → Prop} {news : List (Addr × Obj)} {y : Str} {n : Int} {ty tn k1 k2 : Tok}
theorem leave_pf (K : Below A base outer g) (F : Fr g L s'.heap m) (N : News g L s'.heap ((e, excObj 63 t (some d)) :: (d, pfDict w y ty n tn k1 k2) :: news)) (hne : ∀ q ∈ (d, pfDict w y ty n tn k1 k2) :: news, q.1 ≠ e)
    (hQ : ∀ h', RaisedPF w base g outer e y n news h' → g.UpToSlots h' → Q () { s' with heap := h' }) (hk : scope.kind = .function := by rfl) :
    wpAny M (A.deeper (envOf name scope L a cd)) (leaving (envOf name scope L a cd) (.ref e)) Q E s' := by
 k_with "w" =>
  have K' := K.push (name := name) (a := a) (cd := cd) F hk
  have he := (N _ (.head _)).1
  have hin : ∀ env ∈ (envOf name scope L a cd :: outer), ∀ b, env.frame = some b → b ∈ e :: (envOf name scope L a cd :: outer).filterMap (·.frame) := fun env he b hb => .tail _ (List.mem_filterMap.mpr ⟨env, he, hb⟩)
  have st : base.StaysIn (hideAll s'.heap (e :: (envOf name scope L a cd :: outer).filterMap (·.frame))) := fun b o q => hideAll_get _ (K'.stays b o q) fun hm => by
    rcases List.mem_cons.mp hm with rfl | hm
    · have := (N _ (.head _)).2.2
      rw [K.stays _ _ q] at this; cases this
    · rw [(K'.frames.mem hm).1] at q; cases q
  have sg : ∀ b o, g.get? b = some o → b ∉ outer.filterMap (·.frame) → (hideAll s'.heap (e :: (envOf name scope L a cd :: outer).filterMap (·.frame))).get? b = some o := fun b o q nm => hideAll_get _ (F.keep b o q) fun hm => by
    rcases List.mem_cons.mp hm with rfl | hm
    · have := (N _ (.head _)).2.2
      rw [q] at this; cases this
    · rcases kts_mem hm with z | z
      · rw [z, kts_self F] at q
        cases q
      · exact nm z
  have hl : ∀ q ∈ (d, pfDict w y ty n tn k1 k2) :: news, (hideAll s'.heap (e :: (envOf name scope L a cd :: outer).filterMap (·.frame))).get? q.1 = some q.2 ∧ g.get? q.1 = none ∧ base.get? q.1 = none := fun q hq => by
    refine ⟨hideAll_get _ (N q (.tail _ hq)).1 fun hm => ?_, (N q (.tail _ hq)).2.2, fresh_of_stays K.stays (N q (.tail _ hq)).2.2⟩
    rcases List.mem_cons.mp hm with z | hm
    · exact hne q hq z
    · obtain ⟨env, he, hf⟩ := List.mem_filterMap.mp hm
      rcases List.mem_cons.mp he with rfl | he
      · exact (N q (.tail _ hq)).2.1 (Option.some.inj hf).symm
      · obtain ⟨o, ho, _⟩ := (K.frames.mem (List.mem_filterMap.mpr ⟨env, he, hf⟩)).2
        rw [(N q (.tail _ hq)).2.2] at ho; cases ho
  have hen : (hideAll s'.heap (e :: (envOf name scope L a cd :: outer).filterMap (·.frame))).get? e = none := hideAll_none _ (.head _)
  have W : wpAny M (A.deeper (envOf name scope L a cd)) (leaving (envOf name scope L a cd) (.ref e)) (fun _ s'' => ∃ h', s'' = { s' with heap := h' } ∧ Heap.LeftW (hideAll s'.heap (e :: (envOf name scope L a cd :: outer).filterMap (·.frame))) (envOf name scope L a cd :: outer) e (.ref 63) (.ref t) s'.heap h') (fun _ _ => False) s' :=
    wpAny_leaving_firstW (oe := excObj 63 t (some d)) (vs := #[.ref t, .none, .none, .none, .bool false, .none]) (a0 := .ref t) K'.stack (funFrames_hide K'.frames hin) rfl he (fun b o hb => of_hideAll _ hb) hen rfl rfl rfl fun h' hL => ⟨h', rfl, hL⟩
  refine tame_k (tame_leaving _ _) ⟨_, he, rfl⟩ W fun _ h' q dk => ?_
  obtain ⟨k1', ⟨_, _, k2'⟩, k3, k4⟩ := q
  exact hQ h' ⟨_, .ref t, d, ty, tn, k1, k2, st, sg, hl, ⟨k1', hen, k2', k3⟩, dk⟩ ((Heap.UpToSlots.of_keeps F.keep).trans k4)
 k_extra "q"
theorem leave_onPF (K : Below A base outer g) (F : Fr g L g₂ m) (R : RaisedPF w base g₂ (envOf name scope L a cd :: outer) e y n news s'.heap) (hsm : g₂.UpToSlots s'.heap)
    (hQ : ∀ h', RaisedPF w base g outer e y n news h' → g.UpToSlots h' → Q () { s' with heap := h' }) :
    wpAny M (A.deeper (envOf name scope L a cd)) (leaving (envOf name scope L a cd) (.ref e)) Q E s' := by
 k_with "w" =>
  obtain ⟨Bh, a0, d, ty, tn, k1, k2, hB, hBG, hl, hfl, dk⟩ := R
  have W : wpAny M (A.deeper (envOf name scope L a cd)) (leaving (envOf name scope L a cd) (.ref e)) (fun _ s'' => ∃ h', s'' = { s' with heap := h' } ∧ Heap.FlyingW Bh outer e (.ref 63) a0 h' ∧ s'.heap.UpToSlots h') (fun _ _ => False) s' :=
    wpAny_leaves_onW (Around.frames_deeper K.stack) rfl hfl fun h' x1 x2 => ⟨h', rfl, x1, x2⟩
  refine tame_k (tame_leaving _ _) dk W fun _ h' q dk' => ?_
  obtain ⟨x1, x2⟩ := q
  refine hQ h' ⟨Bh, a0, d, ty, tn, k1, k2, hB, fun b o q nm => hBG b o (F.keep b o q) (fun hm => ?_), fun q hq => ⟨(hl q hq).1, kts_none F.keep (hl q hq).2.1, (hl q hq).2.2⟩, x1, dk'⟩ ((Heap.UpToSlots.of_keeps F.keep).trans (hsm.trans x2))
  rcases kts_mem hm with z | z
  · rw [z, kts_self F] at q
    cases q
  · exact nm z
 k_extra "q"
end
section
variable {prog : Program} {w : World} {A₀ : Around} {E : Value → Shared → Prop} {s' : Shared} {base g g₀ G : Heap} {outer : List Env} {L a e t : Addr} {m : Str → Option Value} {name : Str} {scope : Scope} {cd : Value}
  {n : Str} {b₀ : Stmt} {suite : List Stmt} {pos np : Pos} {rest : List ExceptHandler} {Q : Flow → Shared → Prop} {news : List (Addr × Obj)} {KF : Frag}
  {p : Program} {loose : List Str} {mean : ExcName → Option Value} {mg mb : Str → Option Value} {x y : Str} {ln : Int}
theorem caught_PF (R : RaisedPF w base G (envOf name scope L a cd :: outer) e y ln news s'.heap) (F : Fr g L G m) (K : Below A₀ base outer g) (hsm : G.UpToSlots s'.heap) (XB : KF.In base) (TB : Top p loose mean mg mb base)
    (D : KtsDicts (outer.filterMap (·.frame)) g) (T0 : KtsTurn (outer.filterMap (·.frame)) g₀ g)
    (ex : nsIn KF mainGlobals x = some (some (.ref 63))) (q : ktsIn KF 63 "BaseException" = true)
    (k : ∀ h' g' oe vs d ty tn k1 k2 tk, KtsTurn (outer.filterMap (·.frame)) g₀ g' → Fr g' L h' (fun y => if y = n then some (.ref e) else m y) → News g' L h' ((e, oe) :: (d, pfDict w y ty ln tn k1 k2) :: news) → oe.cls = .ref 63 → oe.dict = some d → oe.data = .fields vs →
      Below A₀ base outer g' → KF.In g' → Top p loose mean mg mb g' → KtsDicts (outer.filterMap (·.frame)) g' →
      wpAny (model prog w) ((A₀.deeper (envOf name scope L a cd)).mark (some (.ref e))) (execs (b₀ :: suite) (envOf name scope L a cd))
        (fun f s₄ => wpAny (model prog w) (A₀.deeper (envOf name scope L a cd)) (do bindName (envOf name scope L a cd) n .none; unbindBehindTheSuite (envOf name scope L a cd) n pos) (fun _ s₅ => Q f s₅) E s₄)
        (AsSuiteRaised (model prog w) ((A₀.deeper (envOf name scope L a cd)).mark (some (.ref e))) (envOf name scope L a cd) n pos (notedBy (model prog w) ((A₀.deeper (envOf name scope L a cd)).mark (some (.ref e))) (envOf name scope L a cd) (cameBackBy (model prog w) (A₀.deeper (envOf name scope L a cd)) (envOf name scope L a cd) E)))
        { s' with heap := h', toks := tk })
    (hk : scope.kind = .function := by rfl) (hlo : (envOf name scope L a cd).kindOf n = some .local := by rfl) (hx : (envOf name scope L a cd).kindOf x = some .globalImplicit := by rfl) (hd : (x == ("__debug__" : Str)) = false := by decide) :
    wpAny (model prog w) (A₀.deeper (envOf name scope L a cd)) (noteFrame (.ref e) (envOf name scope L a cd))
      (fun _ s₂ => wpAny (model prog w) (A₀.deeper (envOf name scope L a cd)) (setFlight (.ref e) none) (fun _ s₃ =>
        wpAny (model prog w) (A₀.deeper (envOf name scope L a cd)) (handleBy (.ref e) (envOf name scope L a cd) (.ExceptHandler (some (.Name x np)) (some n) (b₀ :: suite) pos :: rest)) Q E s₃) E s₂) E s' := by
 k_with "w" =>
  revert prog w A₀ E s' base g g₀ G outer L a e m name scope cd n b₀ suite pos np rest Q news KF p loose mean mg mb x y ln R F K hsm XB TB D T0 ex q k hk hlo hx hd
  (k_extra "n1"); generalize c1 _ _ = prog
  with_reducible refine no_implicit_lambda% (all1 ne_w ?_); generalize c1 _ _ = w
  with_reducible refine no_implicit_lambda% (all1 ne_a ?_); generalize c1 _ _ = A₀
  (k_extra "n1"); generalize c1 _ _ = E
  with_reducible refine no_implicit_lambda% (all1 ne_s ?_); generalize c1 _ _ = s'
  (k_extra "n5"); generalize p5_1 T9 = base, p5_2 T9 = g, p5_3 T9 = g₀, p5_4 T9 = G, p5_5 T9 = outer; clear T9
  (k_extra "n7"); generalize p7_1 T9 = L, p7_2 T9 = a, p7_3 T9 = e, p7_4 T9 = m, p7_5 T9 = name, p7_6 T9 = scope, p7_7 T9 = cd; clear T9
  (k_extra "n6"); generalize p6_1 T9 = n, p6_2 T9 = b₀, p6_3 T9 = suite, p6_4 T9 = pos, p6_5 T9 = np, p6_6 T9 = rest; clear T9
  (k_extra "n4"); generalize p4_1 T9 = Q, p4_2 T9 = news, p4_3 T9 = KF, p4_4 T9 = p; clear T9
  (k_extra "n7"); generalize p7_1 T9 = loose, p7_2 T9 = mean, p7_3 T9 = mg, p7_4 T9 = mb, p7_5 T9 = x, p7_6 T9 = y, p7_7 T9 = ln; clear T9
  intro R F K hsm XB TB D T0 ex q k hk hlo hx hd
  refine exE R ?_; (try dsimp only); (k_extra "h1"); generalize c1 _ _ = B; intro hE9
  refine exE hE9 ?_; clear hE9; (try dsimp only); (k_extra "h1"); generalize c1 _ _ = a0; intro hE9
  refine exE hE9 ?_; clear hE9; (try dsimp only); (k_extra "h1"); generalize c1 _ _ = d; intro hE9
  refine exE hE9 ?_; clear hE9; (try dsimp only); (k_extra "h1"); generalize c1 _ _ = ty; intro hE9
  refine exE hE9 ?_; clear hE9; (try dsimp only); (k_extra "h1"); generalize c1 _ _ = tn; intro hE9
  refine exE hE9 ?_; clear hE9; (try dsimp only); (k_extra "h1"); generalize c1 _ _ = k1; intro hE9
  refine exE hE9 ?_; clear hE9; (try dsimp only); (k_extra "h1"); generalize c1 _ _ = k2; intro hE9
  obtain ⟨hB, hBG, hl, hfl, dk⟩ := hE9
  have hL : B.get? L = none := by
    obtain ⟨_, ⟨L', _, hf, hn', _⟩, _⟩ := hfl.2.2.1
    obtain rfl : L = L' := Option.some.inj hf
    exact hn'
  have W1 : wpAny (model prog w) (A₀.deeper (envOf name scope L a cd)) (noteFrame (.ref e) (envOf name scope L a cd)) (fun _ s'' => ∃ h', s'' = { s' with heap := h' } ∧ Heap.HeldW B (envOf name scope L a cd :: outer) e (.ref 63) a0 L h' ∧ s'.heap.UpToSlots h') (fun _ _ => False) s' :=
    wpAny_looks_onW (Around.frames_deeper K.stack) rfl hfl fun h' x1 x2 => ⟨h', rfl, x1, x2⟩
  refine tame_k (tame_note _ _) dk W1 fun _ => ?_
  (k_extra "h1"); generalize c1 _ _ = h₄; intro q dk₄
  obtain ⟨hheld₄, hsm₄⟩ := q
  have W2 : wpAny (model prog w) (A₀.deeper (envOf name scope L a cd)) (setFlight (.ref e) none) (fun _ s'' => ∃ h', s'' = { s' with heap := h' } ∧ Heap.FlyingW B (envOf name scope L a cd :: outer) e (.ref 63) a0 h' ∧ h₄.UpToSlots h') (fun _ _ => False) { s' with heap := h₄ } :=
    wpAny_landsW hheld₄ fun h' x1 x2 => ⟨h', rfl, x1, x2⟩
  refine tame_k (tame_setFlight _ _) dk₄ W2 fun _ => ?_
  (k_extra "h1"); generalize c1 _ _ = h₅; intro q dk₅
  obtain ⟨hheld, hsm₅'⟩ := q
  have hsm₅ := hsm₄.trans hsm₅'
  refine exE (kts_ground K F hBG hheld.1 (hsm.trans hsm₅)) ?_; (try dsimp only); (k_extra "h1"); generalize c1 _ _ = g₅; intro hE9
  obtain ⟨T₅, F₅, K₅⟩ := hE9
  have X₅ : KF.In g₅ := XB.keeps K₅.stays
  have P₅ : TopRead p loose mg mb g₅ := topRead_of (TB.keeps K₅.stays)
  obtain ⟨ob, hob, hobc⟩ := hheld.there
  obtain ⟨nm, q', N, bs, bm, hdct, sn, sub, ab, col, dd, k0, k1', k2', k3, k5, newId, hC, hbase, hbT⟩ := kts_cls X₅ q
  have hC₅ := F₅.keep _ _ hC
  refine wpAny_handleBy_cons (codeAny_handlers_test (name_K F₅ X₅ P₅ ex ?_ hk hx hd)) (by intro q; cases q)
  refine wpAny_excMatches_sub_self hC₅ hob hobc hbase (codeAny_handlers_suite_as ?_)
  have W3 : wpAny (model prog w) ((A₀.deeper (envOf name scope L a cd)).mark (some (.ref e))) (setFlight (.ref e) none) (fun _ s'' => ∃ h', s'' = { s' with heap := h' } ∧ Heap.FlyingW B (envOf name scope L a cd :: outer) e (.ref 63) a0 h' ∧ h₅.UpToSlots h') (fun _ _ => False) { s' with heap := h₅ } :=
    lands_againW hheld fun h' x1 x2 => ⟨h', rfl, x1, x2⟩
  refine tame_k (tame_setFlight _ _) dk₅ W3 fun _ => ?_
  (k_extra "h1"); generalize c1 _ _ = h₆; intro q dk₆
  obtain ⟨hfl₆, hsm₆⟩ := q
  refine exE (kts_ground K F hBG hfl₆.1 ((hsm.trans hsm₅).trans hsm₆)) ?_; (try dsimp only); (k_extra "h1"); generalize c1 _ _ = g₆; intro hE9
  obtain ⟨T₆, F₆, K₆⟩ := hE9
  obtain ⟨oe, ws, hoe, hoec, hoed, hoe0⟩ := hfl₆.first
  have hdict : oe.dict = some d := by
    obtain ⟨o', ho', hd'⟩ := dk₆
    rw [hoe] at ho'; cases ho'; exact hd'
  have ne₆ : g₆.get? e = none := T₆.none_ _ (kts_fresh F hBG hfl₆.2.1 fun o ho m => by
    obtain ⟨_, o', ho', hd⟩ := K.frames.mem m
    rw [ho] at ho'
    cases ho'
    obtain ⟨sl, hs⟩ := ((hsm.trans hsm₅).trans hsm₆) _ _ (F.keep _ _ ho) hd
    rw [hoe] at hs
    cases hs
    exact hd _ hoed)
  have X₆ : KF.In g₆ := XB.keeps K₆.stays
  have P₆ : Top p loose mean mg mb g₆ := TB.keeps K₆.stays
  have D₆ : KtsDicts (outer.filterMap (·.frame)) g₆ := D.turn T₆
  have Nl : News g₆ L h₆ ((d, pfDict w y ty ln tn k1 k2) :: news) := fun q hq => ⟨hfl₆.1 _ _ (hl q hq).1, (fun z => by have := (hl q hq).1; rw [z, hL] at this; cases this), T₆.none_ _ (kts_none F.keep (hl q hq).2.1)⟩
  have N₆ : News g₆ L h₆ ((e, oe) :: (d, pfDict w y ty ln tn k1 k2) :: news) := News.more F₆ Nl hoe (fun es n q => by rw [hoed] at q; cases q) ne₆
  refine stN F₆ N₆ (?_) hk hlo
  (k_extra "h1"); generalize c1 _ _ = h₇; intro F₇ N₇
  exact k h₇ g₆ oe ws d ty tn k1 k2 _ (T0.trans T₆) F₇ N₇ hoec hdict hoed K₆ X₆ P₆ D₆
 k_extra "q"
end
section
variable {prog : Program} {w : World} {A : Around} {E : Value → Shared → Prop} {s : Shared} {h₀ : Heap} {L : Addr} {m : Str → Option Value} {news : List (Addr × Obj)} {env : Env}
noncomputable def RaiseInst (E : Value → Shared → Prop) (v : Value) (s₁ : Shared) : Prop :=
  ∃ a t dd, v = .ref a ∧ s₁.heap.get? a = some (excObj 63 t dd) ∧ s₁.heap.get? 63 = some cls63 ∧ E (.ref a) s₁
theorem RaiseInst.intro {e t : Addr} {dd : Option Addr} (F : Fr h₀ L s.heap m) (X : (hd.heap_39 w.params).In h₀) (N : News h₀ L s.heap ((e, excObj 63 t dd) :: news)) (h : E (.ref e) s) : RaiseInst E (.ref e) s :=
  ⟨e, t, dd, rfl, (N _ (.head _)).1, (X.keeps F.keep) 63 _ (look63 _), h⟩
theorem raise_inst {e : Expr} {pos : Pos} {Q : Flow → Shared → Prop} (hh : A.handled = none)
    (h : wpAny (model prog w) A (eval e env) (RaiseInst E) E s) : wpAny (model prog w) A (exec (.Raise (some e) none pos) env) Q E s := by
 k_with "w" =>
  show wpAny (model prog w) A (do standAt pos; raiseStmt env (some (do let v ← eval e env; standAt pos; pure v)) none) Q E s
  refine wpAny_bind (wpAny_standAt ?_)
  unfold raiseStmt
  dsimp only
  refine wpAny_bind (wpAny_bind (wpAny_mono h (fun v s₁ h₁ => wpAny_bind (wpAny_standAt (wpAny_pure ?_))) fun _ _ x => x))
  obtain ⟨a, t, dd, rfl, ha, hC, hE⟩ := h₁
  have hnt : ∀ {Q' : Bool → Shared → Prop}, Q' false s₁ → wpAny (model prog w) A (isType (.ref a)) Q' E s₁ := by
    intro Q' hq
    simp only [isType, loadHead]
    refine wpAny_bind (wpAny_loadPart ha ?_)
    exact wpAny_pure hq
  have hb : ∀ {Q' : Bool → Shared → Prop}, Q' true s₁ → wpAny (model prog w) A (isInstance (.ref a) (.type "BaseException")) Q' E s₁ := by
    intro Q' hq
    unfold isInstance
    repeat (first | with_reducible refine wpAny_loadPart_at ha ?_ | wp_step)
    refine wpAny_isSubtype_exc hC ?_
    exact hq
  refine wpAny_bind (wpAny_pure ?_)
  dsimp only
  refine wpAny_bind (wpAny_holding ?_)
  unfold excFromValue isExcClass
  refine wpAny_bind (wpAny_bind (hnt ?_))
  simp only [Bool.false_eq_true, if_false]
  refine wpAny_pure ?_
  simp only [Bool.false_eq_true, if_false]
  refine wpAny_bind (hb ?_)
  simp only [if_true]
  refine wpAny_pure ?_
  refine wpAny_bind (hnt ?_)
  simp only [Bool.false_eq_true, if_false]
  unfold raisedInstance
  have hTC : s₁.TypeIs (.ref 63) "type" := ⟨_, hC, rfl⟩
  have ht : ∀ {Q' : Value → Shared → Prop}, Q' (.ref 63) s₁ → wpAny (model prog w) A (typeOf (.ref a)) Q' E s₁ := by
    intro Q' hq
    exact wpAny_bind (wpAny_loadPart ha (wpAny_pure hq))
  refine wpAny_bind (wpAny_bind (ht (wpAny_bind (wpAny_typeOf hTC ?_))))
  rw [if_pos (by rfl)]
  refine wpAny_pure ?_
  unfold setFlight raiseNew
  refine wpAny_bind (wpAny_bind (wpAny_field (i := 1) (x := Value.none) ha rfl rfl ?_))
  rw [if_neg (by decide)]
  refine wpAny_pure (wpAny_bind (wpAny_handled ?_))
  rw [hh]
  first
    | exact wpAny_throw hE
    | exact wpAny_bind (wpAny_pure (wpAny_throw hE))
 k_extra "q"
end
theorem reg4 : True := by
  k_with "post" => (((with_reducible refine Post.go (by k_extra "a") _ _ ?_); (try dsimp only)))
  trivial
noncomputable def enterOK (params : Arguments) (scope : Scope) : Bool := (params.args.all fun x => scope.names.lookup x.arg == some .local) && decide (params.args.map Arg.arg).Nodup && (scope.names.all fun x => x.2 != .cell) && (!scope.isCoroutine && !scope.isGenerator && scope.kind == .function)
section
variable {prog p : Program} {w : World} {A A₀ : Around} {s : Shared} {K : Frag} {h₀ base : Heap} {L : Addr} {m mg mb : Str → Option Value} {mean : ExcName → Option Value} {loose : List Str} {news : List (Addr × Obj)} {Q E : Value → Shared → Prop}
theorem code_in {env : Env} {outer : List Env} {name qual : Str} {params : Arguments} {body : List Stmt} {scope : Scope} {dV kV doc pm cdv ct oc : Value} {an od : Option Addr} {osl : Array (Option Value)} {f : Addr} {pos : List Value} {hp : Heap} {tk0 : Nat}
    (B : Below A₀ base outer h₀) (F : Fr h₀ L hp m) (X₀ : K.In h₀) (N : News h₀ L hp news) (T : Top p loose mean mg mb h₀) (hA : A.frames = some (env :: outer)) (hf : env.frame = some L) (hke : env.scope.kind = .function)
    (ho : K.lookup f = some ⟨oc, od, .func (fnOf name qual params body scope dV kV doc pm an cdv ct), osl⟩) (hcd : codeIn K cdv qual = true) (hroom : A.depth < recursionLimit)
    (hbind : bindArgs (fnOf name qual params body scope dV kV doc pm an cdv ct) ⟨pos, []⟩ = pure ((params.args.map Arg.arg).zip pos)) (hok : enterOK params scope = true)
    (h : ∀ g L' h₁ tk, Fr h₀ L g m → Fr g L' h₁ (pmap (params.args.map Arg.arg) pos) → News g L' h₁ news → Below A base (env :: outer) g → K.In g → Top p loose mean mg mb g → (∀ p ∈ news, p.1 < L') →
      wpAny (model prog w) (A.deeper (envOf qual scope L' f cdv)) (execs body (envOf qual scope L' f cdv))
        (fun fl s' => LeaveK h₀ L m g (fun r s' => match r with | .ok (.ret v) => Q v s' | .ok _ => False | .error e => E e s') (match fl with | .ret v => v | _ => .none) s')
        (fun e s' => wpAny (model prog w) (A.deeper (envOf qual scope L' f cdv)) (leaving (envOf qual scope L' f cdv) e) (fun _ s'' => E e s'') (fun e' s'' => E e' s'') s')
        { s with heap := h₁, toks := tk }) : codeAny (model prog w) A (.call (.ref f) ⟨pos, []⟩) (fun r s' => match r with | .ok (.ret v) => Q v s' | .ok _ => False | .error e => E e s') { s with heap := hp, toks := tk0 } := by
  unfold enterOK at hok
  simp only [Bool.and_eq_true, Bool.not_eq_true', List.all_eq_true, decide_eq_true_eq, beq_iff_eq, bne_iff_ne, ne_eq] at hok
  obtain ⟨⟨⟨h1, h2⟩, h3⟩, ⟨h4, h5⟩, h6⟩ := hok
  refine code_pos B F X₀ N T hA hf hke ho hcd hroom hbind (fun y hy => ?_) h2 h h4 h5 h6 h3
  obtain ⟨x, hx, e⟩ := List.mem_map.mp (List.of_mem_zip (show (y.1, y.2) ∈ _ from hy)).1
  rw [← e]; exact h1 x hx
theorem ret_go {g : Heap} {L' : Addr} {m' : Str → Option Value} {news' : List (Addr × Obj)} {v : Value} {s' : Shared} {qk : Flow → Shared → Prop} (hq : Post (fun fl s' => LeaveK h₀ L m g (fun r s' => match r with | .ok (.ret v) => Q v s' | .ok _ => False | .error e => E e s') (match fl with | .ret v => v | _ => .none) s') qk)
    (F : Fr g L' s'.heap m') (N : News g L' s'.heap news') (k : Fr h₀ L s'.heap m → News h₀ L s'.heap news' → Q v s') : qk (.ret v) s' := hq.go _ _ (leaveK_ F N k)
theorem ret_none {g : Heap} {L' : Addr} {m' : Str → Option Value} {news' : List (Addr × Obj)} {s' : Shared} {qk : Flow → Shared → Prop} (hq : Post (fun fl s' => LeaveK h₀ L m g (fun r s' => match r with | .ok (.ret v) => Q v s' | .ok _ => False | .error e => E e s') (match fl with | .ret v => v | _ => .none) s') qk)
    (F : Fr g L' s'.heap m') (N : News g L' s'.heap news') (k : Fr h₀ L s'.heap m → News h₀ L s'.heap news' → Q .none s') : qk .next s' := hq.go _ _ (leaveK_ F N k)
end
theorem reg5 : True := by
  k_with "post" => (((with_reducible first | refine' ret_go ?zhq ?zF ?zN ?_ | refine' ret_none ?zhq ?zF ?zN ?_); (case zhq => with_reducible assumption); (case zF => k_asm); (case zN => k_asm); intro F' N'; (try dsimp only at F' N'); (first | revert F' N' | ((try revert N'); (try revert F'))); intros))
  k_with "kf" => (((((fail_if_success (fail_if_success k_fold)); (with_reducible refine wp_fold1 ?_); (generalize wQ _ = qk); intro hqk)); (try revert qk); intros))
  k_with "my enter" => (((( refine' code_in ?zk1 ?zk2 ?zk3 ?zk4 ?zk5 ?zkA ?kF ?kK ?zk6 ?zk7 ?zk8 ?zk9 ?kB ?_; (case zkA => exact rfl); (case kF => exact rfl); (case kK => first | exact rfl | assumption); (case zk1 => k_asm); (case zk2 => k_asm); (case zk3 => k_asm); (case zk4 => k_asm); (case zk5 => k_asm); (case zk6 => k_is); (case zk7 => k_is); (case zk8 => first | exact room0 (by k_extra "a") | ktr_room); (case zk9 => exact rfl); (case kB => exact rfl); k_whole; (k_extra "h4"); generalize p4_1 T9 = g', p4_2 T9 = L', p4_3 T9 = h', p4_4 T9 = tk'; clear T9; intro FG' F' N' B' X' T' l1; (try dsimp only [List.map, pmap] at F'); (try dsimp only); (try (k_extra "kf")))); (first | revert g' L' h' tk' | ((try revert tk'); (try revert h'); (try revert L'); (try revert g'))); intros))
  trivial
section
variable {gs : Array GenState} {dr : Drawn} {os : OsState} {M : Model} {A : Around} {E : Value → Shared → Prop}
theorem cstr {env : Env} {k : Nat} {pos : Pos} {x : Str} {hp : Heap} {tk : Nat} {Q : Value → Shared → Prop} (h : Q (.str x tk) ⟨hp, gs, dr, tk + 1, os⟩) : wpAny M A (eval (.Constant (.str x) k pos) env) Q E ⟨hp, gs, dr, tk, os⟩ := fun _ _ _ => h
theorem cint {env : Env} {k : Nat} {pos : Pos} {i : Int} {hp : Heap} {tk : Nat} {Q : Value → Shared → Prop} (h : Q (.int i tk) ⟨hp, gs, dr, tk + 1, os⟩) : wpAny M A (eval (.Constant (.int i) k pos) env) Q E ⟨hp, gs, dr, tk, os⟩ := fun _ _ _ => h
variable {h₀ : Heap} {L : Addr}
theorem mk_tup {hp : Heap} {tk : Nat} {m : Str → Option Value} {news : List (Addr × Obj)} {vs : List Value} {Q : Value → Shared → Prop} (F : Fr h₀ L hp m) (N : News h₀ L hp news)
    (h : ∀ D h', Fr h₀ L h' m → News h₀ L h' ((D, ({ cls := .type "tuple", data := .seq vs.toArray } : Obj)) :: news) → (∀ p ∈ news, p.1 < D) → Q (.ref D) ⟨h', gs, dr, tk, os⟩) (hz : vs.length ≤ sizeLine) : wpAny M A (newTuple vs) Q E ⟨hp, gs, dr, tk, os⟩ :=
  kup_newTuple (s := ⟨hp, gs, dr, tk, os⟩) F N h hz
theorem mk_list {hp : Heap} {tk : Nat} {m : Str → Option Value} {news : List (Addr × Obj)} {vs : List Value} {Q : Value → Shared → Prop} (F : Fr h₀ L hp m) (N : News h₀ L hp news)
    (h : ∀ l h', Fr h₀ L h' m → News h₀ L h' ((l, listOf vs.toArray 0) :: news) → (∀ p ∈ news, p.1 < l) → Q (.ref l) ⟨h', gs, dr, tk, os⟩) (hsz : vs.length ≤ sizeLine := by size_fits) : wpAny M A (newList vs) Q E ⟨hp, gs, dr, tk, os⟩ :=
  newList_K (s := ⟨hp, gs, dr, tk, os⟩) F N h hsz
variable {cn : Str} {cs : Scope} {a : Addr} {ccd : Value} {cl : List (Str × Addr)}
theorem stoL (hk : cs.kind = .function) {x : Str} {v : Value} {m : Str → Option Value} (hx : (envX cn cs L a ccd cl).kindOf x = some .local) {hp : Heap} {tk : Nat} {news : List (Addr × Obj)} {Q : Unit → Shared → Prop} (F : Fr h₀ L hp m) (N : News h₀ L hp news)
    (h : ∀ h', Fr h₀ L h' (fun y => if y = x then some v else m y) → News h₀ L h' news → Q () ⟨h', gs, dr, tk + 1, os⟩) : wpAny M A (storeName (envX cn cs L a ccd cl) x v) Q E ⟨hp, gs, dr, tk, os⟩ :=
  storeX_L (s := ⟨hp, gs, dr, tk, os⟩) F N h hk hx
end
theorem reg8 : True := by
  k_with ".eval Constant str" => (with_reducible refine cstr ?_)
  k_with ".eval Constant int" => (with_reducible refine cint ?_)
  k_with ".storeName" => ((((k_here; k_dflt (refine' storeX_C ?zF ?zN ?zc ?zU ?zd ?_ ?za ?zb; (case za => rfl); (case zb => rfl); (case zF => k_asm); (case zN => k_asm); (case zc => rfl); (case zU => k_updF); (case zd => k_asm); k_whole); (try dsimp only); (k_extra "h2"); generalize p2_1 T9 = h', p2_2 T9 = o'; clear T9; intro F' N' d'; (try dsimp only at N'); (try k_sweep))); (first | revert h' o' | ((try revert o'); (try revert h'))); intros))
  k_with ".storeName" => ((((k_here; k_dflt (refine' stoL ?za ?zb ?zF ?zN ?_; (case zF => k_asm); (case zN => k_asm); (case za => first | exact rfl | assumption); (case zb => exact (rfl : some NameKind.local = some NameKind.local))); (try dsimp only); (k_extra "n1"); generalize c1 _ _ = h'; intro F' N'; (try k_sweep))); (try revert h'); intros))
  k_with ".newList" => ((((k_here; k_dflt (refine' mk_list ?zk1 ?zk2 ?_ ?zz; (case zk1 => k_asm); (case zk2 => k_asm); (case zz => first | kmk_size | size_fits); k_whole); (try dsimp only); (k_extra "h2"); generalize p2_1 T9 = l', p2_2 T9 = h'; clear T9; intro F' N' l1; (try k_lt l1); (try k_sweep))); (first | revert l' h' | ((try revert h'); (try revert l'))); intros))
  k_with ".newTuple" => ((((k_here; k_dflt (refine' mk_tup ?zF ?zN ?_ ?zz; (case zF => k_asm); (case zN => k_asm); (case zz => kmk_size)); (try dsimp only); (k_extra "h2"); generalize p2_1 T9 = D', p2_2 T9 = h'; clear T9; intro F' N' l1; (try k_lt l1); (try k_sweep))); (first | revert D' h' | ((try revert h'); (try revert D'))); intros))
  k_with "g1" => (((((with_reducible refine all1 inferInstance ?_); (try generalize c1 _ _ = d1))); (try revert d1); intros))
  k_with "g2" => (((((with_reducible refine all2 inferInstance ?_); generalize c2 _ _ = T9; generalize p2_1 T9 = d1, p2_2 T9 = d2; clear T9)); (first | revert d1 d2 | ((try revert d2); (try revert d1))); intros))
  k_with "g3" => (((((with_reducible refine all3 inferInstance ?_); generalize c3 _ _ = T9; generalize p3_1 T9 = d1, p3_2 T9 = d2, p3_3 T9 = d3; clear T9)); (first | revert d1 d2 d3 | ((try revert d3); (try revert d2); (try revert d1))); intros))
  k_with "g4" => (((((with_reducible refine all4 inferInstance ?_); generalize c4 _ _ = T9; generalize p4_1 T9 = d1, p4_2 T9 = d2, p4_3 T9 = d3, p4_4 T9 = d4; clear T9)); (first | revert d1 d2 d3 d4 | ((try revert d4); (try revert d3); (try revert d2); (try revert d1))); intros))
  k_with "g5" => (((((with_reducible refine all5 inferInstance ?_); generalize c5 _ _ = T9; generalize p5_1 T9 = d1, p5_2 T9 = d2, p5_3 T9 = d3, p5_4 T9 = d4, p5_5 T9 = d5; clear T9)); (first | revert d1 d2 d3 d4 d5 | ((try revert d5); (try revert d4); (try revert d3); (try revert d2); (try revert d1))); intros))
  k_with "g6" => (((((with_reducible refine all6 inferInstance ?_); generalize c6 _ _ = T9; generalize p6_1 T9 = d1, p6_2 T9 = d2, p6_3 T9 = d3, p6_4 T9 = d4, p6_5 T9 = d5, p6_6 T9 = d6; clear T9)); (first | revert d1 d2 d3 d4 d5 d6 | ((try revert d6); (try revert d5); (try revert d4); (try revert d3); (try revert d2); (try revert d1))); intros))
  k_with "g7" => (((((with_reducible refine all7 inferInstance ?_); generalize c7 _ _ = T9; generalize p7_1 T9 = d1, p7_2 T9 = d2, p7_3 T9 = d3, p7_4 T9 = d4, p7_5 T9 = d5, p7_6 T9 = d6, p7_7 T9 = d7; clear T9)); (first | revert d1 d2 d3 d4 d5 d6 d7 | ((try revert d7); (try revert d6); (try revert d5); (try revert d4); (try revert d3); (try revert d2); (try revert d1))); intros))
  k_with "g8" => (((((with_reducible refine all8 inferInstance ?_); generalize c8 _ _ = T9; generalize p8_1 T9 = d1, p8_2 T9 = d2, p8_3 T9 = d3, p8_4 T9 = d4, p8_5 T9 = d5, p8_6 T9 = d6, p8_7 T9 = d7, p8_8 T9 = d8; clear T9)); (first | revert d1 d2 d3 d4 d5 d6 d7 d8 | ((try revert d8); (try revert d7); (try revert d6); (try revert d5); (try revert d4); (try revert d3); (try revert d2); (try revert d1))); intros))
  k_with "g9" => (((((with_reducible refine all9 inferInstance ?_); generalize c9 _ _ = T9; generalize p9_1 T9 = d1, p9_2 T9 = d2, p9_3 T9 = d3, p9_4 T9 = d4, p9_5 T9 = d5, p9_6 T9 = d6, p9_7 T9 = d7, p9_8 T9 = d8, p9_9 T9 = d9; clear T9)); (first | revert d1 d2 d3 d4 d5 d6 d7 d8 d9 | ((try revert d9); (try revert d8); (try revert d7); (try revert d6); (try revert d5); (try revert d4); (try revert d3); (try revert d2); (try revert d1))); intros))
  k_with "g10" => (((((with_reducible refine all10 inferInstance ?_); generalize c10 _ _ = T9; generalize p10_1 T9 = d1, p10_2 T9 = d2, p10_3 T9 = d3, p10_4 T9 = d4, p10_5 T9 = d5, p10_6 T9 = d6, p10_7 T9 = d7, p10_8 T9 = d8, p10_9 T9 = d9, p10_10 T9 = d10; clear T9)); (first | revert d1 d2 d3 d4 d5 d6 d7 d8 d9 d10 | ((try revert d10); (try revert d9); (try revert d8); (try revert d7); (try revert d6); (try revert d5); (try revert d4); (try revert d3); (try revert d2); (try revert d1))); intros))
  k_with "g11" => (((((with_reducible refine all11 inferInstance ?_); generalize c11 _ _ = T9; generalize p11_1 T9 = d1, p11_2 T9 = d2, p11_3 T9 = d3, p11_4 T9 = d4, p11_5 T9 = d5, p11_6 T9 = d6, p11_7 T9 = d7, p11_8 T9 = d8, p11_9 T9 = d9, p11_10 T9 = d10, p11_11 T9 = d11; clear T9)); (first | revert d1 d2 d3 d4 d5 d6 d7 d8 d9 d10 d11 | ((try revert d11); (try revert d10); (try revert d9); (try revert d8); (try revert d7); (try revert d6); (try revert d5); (try revert d4); (try revert d3); (try revert d2); (try revert d1))); intros))
  k_with "ei" => (((try dsimp only); (first | (k_extra "g11") | (k_extra "g10") | (k_extra "g9") | (k_extra "g8") | (k_extra "g7") | (k_extra "g6") | (k_extra "g5") | (k_extra "g4") | (k_extra "g3") | (k_extra "g2") | (k_extra "g1") | skip); intros))
  trivial
section
variable {x : Str} {t : Tok} {y : Str} {p : Pos}
theorem len_sz {n : Nat} (h : n ≤ 65536) : n ≤ sizeLine := by rw [sizeLine_eq]; exact Nat.le_trans h (by decide)
theorem sl_s {a b : Option PySem.Expr} {r : Addr} : subscripted (.Slice a b none p) false (.str x t) (.ref r) = operate [.ref r, .str x t] (getItem (.str x t) (.ref r)) := by with_unfolding_all rfl
theorem sl_t (r : Value) : letTemporaryGo (.Name y p) (.str x t) r = pure () := by with_unfolding_all rfl
end
theorem reg26 : True := by
  k_with "sz" => (first | with_reducible exact len_sz (by k_extra "a") | size_fits)
  k_with ".subscriptTail Name Slice str ref" => ((((k_here; k_dflt (first | ((with_reducible show wpAny _ _ (subscriptTail _ (Expr.Slice (some _) (some _) none _) _ _) _ _ _); (refine slice_strN_ss_len (s := ⟨_, _, _, _, _⟩) (by k_asm) (by k_asm) ?_ sl_s sl_t (by k_extra "sz"))) | ((with_reducible show wpAny _ _ (subscriptTail _ (Expr.Slice (some _) none none _) _ _) _ _ _); (refine slice_strN_sn_len (s := ⟨_, _, _, _, _⟩) (by k_asm) (by k_asm) ?_ sl_s sl_t (by k_extra "sz"))) | ((with_reducible show wpAny _ _ (subscriptTail _ (Expr.Slice none (some _) none _) _ _) _ _ _); (refine slice_strN_ns_len (s := ⟨_, _, _, _, _⟩) (by k_asm) (by k_asm) ?_ sl_s sl_t (by k_extra "sz"))) | ((with_reducible show wpAny _ _ (subscriptTail _ (Expr.Slice none none none _) _ _) _ _ _); (refine slice_strN_nn_len (s := ⟨_, _, _, _, _⟩) (by k_asm) (by k_asm) ?_ sl_s sl_t (by k_extra "sz")))); (try dsimp only); (k_extra "h3"); generalize p3_1 T9 = h', p3_2 T9 = t', p3_3 T9 = k'; clear T9; intro F' N' hsl; (try k_sweep))); (first | revert h' t' k' | ((try revert k'); (try revert t'); (try revert h'))); intros))
  k_with ".call type:range" => ((k_here; k_dflt (first | (with_unfolding_all refine range1_rows (by k_asm) (by k_asm) ?_) | (with_unfolding_all refine range2_rows (by k_asm) (by k_asm) ?_)); (k_extra "g5"); intros))
  k_with "om" => (first | with_reducible assumption | with_reducible exact Nat.lt_succ_self _ | with_reducible exact Nat.sub_le _ _ | with_reducible exact Nat.add_sub_cancel_left .. | with_reducible exact sub_le_step (by k_extra "a") (by decide) | with_reducible exact sub_lt_step (by k_extra "a") (by k_extra "a") (by decide) | with_reducible exact pred_succ (by k_extra "a") | with_reducible exact tns0 (by k_extra "a") (by first | decide | exact rfl) | with_reducible exact tns (by k_extra "a") (by decide) (by first | decide | exact rfl) | with_reducible exact Nat.le_trans (Nat.sub_le _ _) (by k_extra "a") | with_reducible exact nn_add (by k_extra "a") (by decide) | with_reducible exact nn_add2 (by k_extra "a") (by decide) | with_reducible exact Nat.le_trans (by k_extra "a") (by decide) | with_reducible exact Nat.lt_of_le_of_lt (by k_extra "a") (by decide) | with_reducible exact Int.natCast_nonneg _ | with_reducible exact Int.le_trans (by k_extra "a") (by k_extra "a") | with_reducible exact Int.lt_of_lt_of_le (by k_extra "a") (by k_extra "a") | with_reducible exact len_ilt (by k_extra "a") (by decide) | with_reducible exact len_ile (by k_extra "a") (by decide) | with_reducible exact len_nge (by k_extra "a") (by decide) | with_reducible exact ix_lt (by k_extra "a") (by k_extra "a") (by decide) | with_reducible exact ix_gt (by k_extra "a") (by decide) | with_reducible exact ix_neg (by k_extra "a") | with_reducible exact le_add_k (by k_extra "a") (by decide) | with_reducible exact rm0 (by decide) (by decide) | with_reducible exact rm (by decide) (by decide) (by decide) | with_reducible exact rd (by k_extra "a") (by k_extra "a") (by decide) (by decide) (by decide) | with_reducible exact rd (by k_extra "a") (Int.le_of_lt (by k_extra "a")) (by decide) (by decide) (by decide) | with_reducible exact meas1 (by k_extra "a") | with_reducible exact meas2 (by k_extra "a") | decide | lia)
  k_with "mac1" => (((fail_if_success (fail_if_success (omega +splitDisjunctions))); (k_extra "om")))
  trivial
local macro_rules | `(tactic| omega) => `(tactic| k_extra "mac1")
theorem nmL {M : Model} {A : Around} {E : Value → Shared → Prop} {h₀ : Heap} {L : Addr} {cn : Str} {cs : Scope} {a : Addr} {ccd : Value} {cl : List (Str × Addr)} (hk : cs.kind = .function) {s : Shared} {m : Str → Option Value} {x : Str} {v : Value} (hv : m x = some v) (hx : (envX cn cs L a ccd cl).kindOf x = some .local) (hd : (x == ("__debug__" : Str)) = false) {pos : Pos} {Q : Value → Shared → Prop} (F : Fr h₀ L s.heap m) (h : Q v s) :
    wpAny M A (eval (.Name x pos) (envX cn cs L a ccd cl)) Q E s := nameX_L F hv h hk hx hd
theorem reg30 : True := by
  k_with ".eval Name" => ((k_here; k_dflt (refine' nmL ?zb ?zv ?za ?zd ?zF ?_; (case zF => k_asm); (case za => exact (rfl : some NameKind.local = some NameKind.local)); (case zv => exact (rfl : (some _ : Option Value) = some _)); (case zb => first | exact (rfl : ScopeKind.function = ScopeKind.function) | assumption); (case zd => first | exact (rfl : false = false) | decide); k_whole)))
  k_with "mac2" => (first | exact Nat.le_of_ble_eq_true (rfl : true = true) | ((with_reducible show (_ == _) = false); exact (rfl : false = false)) | decide (config := {}))
  trivial
local macro_rules | `(tactic| decide) => `(tactic| k_extra "mac2")
noncomputable def plainE : PySem.Expr → Bool
  | .Starred _ _ => false
  | _ => true
section
variable {M : Model} {A : Around} {E : Value → Shared → Prop} {env : Env} {e1 e2 e3 : PySem.Expr} {rest : List PySem.Expr}
theorem plain_star (h : plainE e1 = true) : starEach (e1 :: rest) env = (false, eval e1 env) :: starEach rest env := by
  cases e1 <;> first | rfl | cases h
theorem args1 (p1 : plainE e1 = true) {pos : Pos} {Q : List Value → Shared → Prop} {s : Shared} (h : wpAny M A (eval e1 env) (fun v s => Q [v] s) E s) :
    wpAny M A (spliced (backTo pos (starEach [e1] env))) Q E s := args_cons (wpAny_mono h (fun _ _ q => args_nil q) fun _ _ q => q) (plain_star p1)
theorem args2 (p1 : plainE e1 = true) (p2 : plainE e2 = true) {pos : Pos} {Q : List Value → Shared → Prop} {s : Shared} (h : wpAny M A (eval e1 env) (fun v s => wpAny M A (eval e2 env) (fun u s => Q [v, u] s) E s) E s) :
    wpAny M A (spliced (backTo pos (starEach [e1, e2] env))) Q E s := args_cons (wpAny_mono h (fun _ _ q => args1 p2 q) fun _ _ q => q) (plain_star p1)
theorem args3 (p1 : plainE e1 = true) (p2 : plainE e2 = true) (p3 : plainE e3 = true) {pos : Pos} {Q : List Value → Shared → Prop} {s : Shared} (h : wpAny M A (eval e1 env) (fun v s => wpAny M A (eval e2 env) (fun u s => wpAny M A (eval e3 env) (fun z s => Q [v, u, z] s) E s) E s) E s) :
    wpAny M A (spliced (backTo pos (starEach [e1, e2, e3] env))) Q E s := args_cons (wpAny_mono h (fun _ _ q => args2 p2 p3 q) fun _ _ q => q) (plain_star p1)
end
theorem reg31 : True := by
  k_with ".spliced" => ((k_here; (with_reducible first | refine args1 ?_ ?_ | refine args2 ?_ ?_ ?_ | refine args3 ?_ ?_ ?_ ?_); (k_dflt (all_goals first | exact (rfl : true = true) | skip)); (try dsimp only [List.cons_append, List.nil_append])))
  trivial
noncomputable def mSignAt (x : Str) (i : Int) : Str := Txt.slice x (some i) (some (i + 1))

noncomputable def mDigit (x : Str) : Int := if x ≠ Str.ofString "" ∧ (0 : Int) ≤ Txt.find (Str.ofString "0123456789abcdef") (Txt.lower x) then Txt.find (Str.ofString "0123456789abcdef") (Txt.lower x) else 99
theorem reg32 : True := by
  k_with "my room" => ((dsimp only [Around.deeper, ktrTop]; first | exact room_lt (by k_extra "a") (by decide) | omega))
  k_with "my side" => (first | with_reducible assumption | omega)
  k_with ".exec Raise some none" => ((k_here; k_dflt (refine raise_inst (by first | exact rfl | assumption) ?_)))
  k_with ".RaiseInst" => ((k_dflt (refine' RaiseInst.intro ?zk1 ?zk2 ?zk3 ?_; (case zk1 => k_asm); (case zk2 => k_asm); (case zk3 => k_asm); k_whole)))
  trivial
theorem pf_apart {e d t : Addr} {o1 o2 : Obj} {news : List (Addr × Obj)} (h1 : ∀ p ∈ news, p.1 < e) (h2 : e < t) (h3 : t < d) : ∀ q ∈ (d, o1) :: (t, o2) :: news, q.1 ≠ e := by
  intro q hq
  rcases List.mem_cons.mp hq with rfl | hq
  · exact Nat.ne_of_gt (Nat.lt_trans h2 h3)
  · rcases List.mem_cons.mp hq with rfl | hq
    · exact Nat.ne_of_gt h2
    · exact Nat.ne_of_lt (h1 q hq)
theorem reg36 : True := by
  k_with ".leaving ref" => ((((k_here; first | (k_dflt (refine' leave_pf ?zk1 ?zk2 ?zk3 ?zk4 ?_; (case zk1 => k_asm); (case zk2 => k_asm); (case zk3 => k_asm); (case zk4 => exact pf_apart (by assumption) (by assumption) (by assumption)); k_whole); (k_extra "h1"); (try generalize c1 _ _ = h'); intro R' U'; (try dsimp only at R' U' ⊢)) | (k_dflt (refine' leave_onPF ?zk1 ?zk2 ?zk3 ?zk4 ?_; (case zk3 => assumption); (case zk1 => k_asm); (case zk4 => assumption); (case zk2 => assumption); k_whole); (k_extra "h1"); (try generalize c1 _ _ = h'); intro R' U'; (try dsimp only at R' U' ⊢)))); (try revert h'); intros))
  trivial
theorem fillE1 {w : World} {h₀ : Heap} (h : PySem.Challenge.rw_pq0846_01.row.prog = PySem.Challenge.rw_pq0846_01.row.prog) (X : (hd.heap_39 w.params).In h₀) : (hd.heap_39 w.params).In h₀ := by
  revert h X; k_fill; intro h X; exact X
theorem reg37 : True := by
  k_with ".call ref" => ((k_here; (with_reducible show wpAny _ _ (call (Value.ref 63) _) _ _ _); k_dflt (refine' pf_new ?kB ?kF ?kX ?kN ?kT ?kK ?zkd ?zku ?_; (k_extra "kq"); (case zkd => k_extra "my room"); (case zku => k_extra "my room"); all_goals ((k_extra "ei"); (try k_sweep); (try (k_extra "kf"))))))
  trivial
theorem sign_at_c : ∀ {w : World} {mean mg mb} {dp un : Nat} {gd cn} {cs : Scope} {a ccd cl} {outer : List Env} {A₀ base h₀ L m} {s : Shared} {hp tk0 news} {Q E : Value → Shared → Prop} {x : Str} {tx : Tok} {i : Int} {ti : Tok} (B : Below A₀ base outer h₀) (F : Fr h₀ L hp m) (X : (hd.heap_39 w.params).In h₀) (N : News h₀ L hp news) (T : Top hd.view_39 (looseW hd.view_39 []) mean mg mb h₀) (hk : cs.kind = .function) (hdp : dp + 1 < recursionLimit) (hun : un + 8 < cLine) (hx : x.length ≤ 1048576) (h0 : 0 ≤ i)
  (hret : ∀ t h' tk', Fr h₀ L h' m → News h₀ L h' news → Q (.str (mSignAt x i) t) { s with heap := h', toks := tk' }),
  wpAny (model PySem.Challenge.rw_pq0846_01.row.prog w) (ktrTop dp un gd cn cs L a ccd cl outer) (call (.ref 177) [.str x tx, .int i ti]) Q E { s with heap := hp, toks := tk0 } := by
  (k_extra "cp")
  (k_extra "n4"); generalize p4_1 T9 = x, p4_2 T9 = tx, p4_3 T9 = i, p4_4 T9 = ti; clear T9
  intro B F X N T hk hdp hun hx h0 hret
  refine wpAny_call ?_
  k_dflt (k_extra "my enter")
  repeat' (first | (k_extra "ka") | (k_extra "kb") | ((fail_if_success k_end); (k_extra "kc")))
  all_goals cb_end hret
theorem reg38 : True := by
  k_with ".call ref" => ((k_here; (with_reducible show wpAny _ _ (call (Value.ref 177) _) _ _ _); k_dflt (refine' sign_at_c ?kB ?kF ?kX ?kN ?kT ?kK ?zkd ?zku ?zkhx ?zkh0 ?_; (k_extra "kq"); (case zkd => k_extra "my room"); (case zku => k_extra "my room"); (case zkhx => k_extra "my side"); (case zkh0 => k_extra "my side"); ((try dsimp only); (k_extra "h3"); generalize p3_1 T9 = t, p3_2 T9 = h', p3_3 T9 = tk'; clear T9; (first | revert t h' tk' | ((try revert tk'); (try revert h'); (try revert t))); intros; (try k_sweep); (try (k_extra "kf"))))))
  trivial
theorem digit_of_c : ∀ {w : World} {mean mg mb} {dp un : Nat} {gd cn} {cs : Scope} {a ccd cl} {outer : List Env} {A₀ base h₀ L m} {s : Shared} {hp tk0 news} {Q E : Value → Shared → Prop} {x : Str} {tx : Tok} (B : Below A₀ base outer h₀) (F : Fr h₀ L hp m) (X : (hd.heap_39 w.params).In h₀) (N : News h₀ L hp news) (T : Top hd.view_39 (looseW hd.view_39 []) mean mg mb h₀) (hk : cs.kind = .function) (hdp : dp + 1 < recursionLimit) (hun : un + 8 < cLine) (hx : x.length ≤ 1048576)
  (hret : ∀ t h' tk', Fr h₀ L h' m → News h₀ L h' news → Q (.int (mDigit x) t) { s with heap := h', toks := tk' }),
  wpAny (model PySem.Challenge.rw_pq0846_01.row.prog w) (ktrTop dp un gd cn cs L a ccd cl outer) (call (.ref 170) [.str x tx]) Q E { s with heap := hp, toks := tk0 } := by
  (k_extra "cp")
  (k_extra "n2"); generalize p2_1 T9 = x, p2_2 T9 = tx; clear T9
  intro B F X N T hk hdp hun hx hret
  refine wpAny_call ?_
  k_dflt (k_extra "my enter")
  repeat' (first | (k_extra "ka") | (k_extra "kb") | ((fail_if_success k_end); (k_extra "kc")))
  all_goals (first | cb_end hret | (refine cb_retI (Q := Q) hret ?_ (by k_asm) (by k_asm); first | (simp_all [mDigit]; done) | (simp_all [mDigit]; omega)))
theorem reg39 : True := by
  k_with ".call ref" => ((k_here; (with_reducible show wpAny _ _ (call (Value.ref 170) _) _ _ _); k_dflt (refine' digit_of_c ?kB ?kF ?kX ?kN ?kT ?kK ?zkd ?zku ?zkhx ?_; (k_extra "kq"); (case zkd => k_extra "my room"); (case zku => k_extra "my room"); (case zkhx => k_extra "my side"); ((try dsimp only); (k_extra "h3"); generalize p3_1 T9 = t, p3_2 T9 = h', p3_3 T9 = tk'; clear T9; (first | revert t h' tk' | ((try revert tk'); (try revert h'); (try revert t))); intros; (try k_sweep); (try (k_extra "kf"))))))
  trivial
theorem no_end_c : ∀ {w : World} {mean mg mb} {dp un : Nat} {gd cn} {cs : Scope} {a ccd cl} {outer : List Env} {A₀ base h₀ L m} {s : Shared} {hp tk0 news} {Q E : Value → Shared → Prop} {n : Int} {tn : Tok} (B : Below A₀ base outer h₀) (F : Fr h₀ L hp m) (X : (hd.heap_39 w.params).In h₀) (N : News h₀ L hp news) (T : Top hd.view_39 (looseW hd.view_39 []) mean mg mb h₀) (hk : cs.kind = .function) (hdp : dp + 12 < recursionLimit) (hun : un + 96 < cLine) 
  (hret : ∀ e d t' ty k1 k2 h' tk', Fr h₀ L h' m → News h₀ L h' ((e, excObj 63 t' (some d)) :: (d, pfDict w "syntax error, unexpected end of file" ty n tn k1 k2) :: (t', tupObj [.str "syntax error, unexpected end of file" ty]) :: news) → (∀ p ∈ news, p.1 < e) → e < t' → t' < d → Q (.ref e) { s with heap := h', toks := tk' }),
  wpAny (model PySem.Challenge.rw_pq0846_01.row.prog w) (ktrTop dp un gd cn cs L a ccd cl outer) (call (.ref 191) [.int n tn]) Q E { s with heap := hp, toks := tk0 } := by
  (k_extra "cp")
  (k_extra "n2"); generalize p2_1 T9 = n, p2_2 T9 = tn; clear T9
  intro B F X N T hk hdp hun hret
  refine wpAny_call ?_
  k_dflt (k_extra "my enter")
  repeat' (first | (k_extra "ka") | (k_extra "kb") | ((fail_if_success k_end); (k_extra "kc")))
  all_goals exact hret _ _ _ _ _ _ _ _ (by k_asm) (by k_asm) (by assumption) (by assumption) (by assumption)
theorem reg40 : True := by
  k_with ".call ref" => ((k_here; (with_reducible show wpAny _ _ (call (Value.ref 191) _) _ _ _); k_dflt (refine' no_end_c ?kB ?kF ?kX ?kN ?kT ?kK ?zkd ?zku  ?_; (k_extra "kq"); (case zkd => k_extra "my room"); (case zku => k_extra "my room"); ((try dsimp only); (k_extra "h8"); generalize p8_1 T9 = e, p8_2 T9 = d, p8_3 T9 = t', p8_4 T9 = ty, p8_5 T9 = k1, p8_6 T9 = k2, p8_7 T9 = h', p8_8 T9 = tk'; clear T9; (first | revert e d t' ty k1 k2 h' tk' | ((try revert tk'); (try revert h'); (try revert k2); (try revert k1); (try revert ty); (try revert t'); (try revert d); (try revert e))); intros; (try k_sweep); (try (k_extra "kf"))))))
  trivial
theorem is_before_int : ∀ {w : World} {mean mg mb} {dp un : Nat} {gd cn} {cs : Scope} {a ccd cl} {outer : List Env} {A₀ base h₀ L m} {s : Shared} {hp tk0 news} {Q E : Value → Shared → Prop} {x : Str} {tx : Tok} {i st n : Int} {ti tst tn : Tok} (B : Below A₀ base outer h₀) (F : Fr h₀ L hp m) (X : (hd.heap_39 w.params).In h₀) (N : News h₀ L hp news) (T : Top hd.view_39 (looseW hd.view_39 []) mean mg mb h₀) (hk : cs.kind = .function) (hdp : dp + 14 < recursionLimit) (hun : un + 112 < cLine) 
  (hret : ∀ (t : Tok) h' tk', i ≤ st → Fr h₀ L h' m → News h₀ L h' news → Q (.bool (decide (i < st))) { s with heap := h', toks := tk' })
  (hexc : ∀ e g h' tk', st < i → Fr h₀ L g m → g.UpToSlots h' → RaisedPF w base g (envX cn cs L a ccd cl :: outer) e ("syntax error, unexpected end of file") (n) news h' → E (.ref e) { s with heap := h', toks := tk' }),
  wpAny (model PySem.Challenge.rw_pq0846_01.row.prog w) (ktrTop dp un gd cn cs L a ccd cl outer) (call (.ref 275) [.str x tx, .int i ti, .int st tst, .int n tn]) Q E { s with heap := hp, toks := tk0 } := by
 k_with "w" =>
  (k_extra "cp")
  (k_extra "n8"); generalize p8_1 T9 = x, p8_2 T9 = tx, p8_3 T9 = i, p8_4 T9 = st, p8_5 T9 = n, p8_6 T9 = ti, p8_7 T9 = tst, p8_8 T9 = tn; clear T9
  intro B F X N T hk hdp hun hret hexc
  refine wpAny_call ?_
  k_dflt (k_extra "my enter")
  repeat' (first | (k_extra "ka") | (k_extra "kb") | ((fail_if_success k_end); (k_extra "kc")))
  · exact hexc _ _ _ _ (by omega) (by k_asm) (by assumption) (RaisedPF.sub (by assumption) (by intro q hq; exact .tail _ hq))
  · exact hret 0 _ _ (by omega) (by k_asm) (by k_asm)
 k_extra "q"
theorem reg41 : True := by
  k_with ".call ref" => ((k_here; (with_reducible show wpAny _ _ (call (Value.ref 275) _) _ _ _); k_dflt (refine' is_before_int ?kB ?kF ?kX ?kN ?kT ?kK ?zkd ?zku  ?_ ?_; (k_extra "kq"); (case zkd => k_extra "my room"); (case zku => k_extra "my room"); ((try dsimp only); (k_extra "h3"); generalize p3_1 T9 = t, p3_2 T9 = h', p3_3 T9 = tk'; clear T9; (first | revert t h' tk' | ((try revert tk'); (try revert h'); (try revert t))); intros; (try k_sweep); (try (k_extra "kf"))); rotate_left; ((try dsimp only); (k_extra "h4"); generalize p4_1 T9 = e, p4_2 T9 = g, p4_3 T9 = h', p4_4 T9 = tk'; clear T9; (first | revert e g h' tk' | ((try revert tk'); (try revert h'); (try revert g); (try revert e))); intros; (try k_sweep)); rotate_left)))
  trivial
theorem is_before_str : ∀ {w : World} {mean mg mb} {dp un : Nat} {gd cn} {cs : Scope} {a ccd cl} {outer : List Env} {A₀ base h₀ L m} {s : Shared} {hp tk0 news} {Q E : Value → Shared → Prop} {x y : Str} {tx ty : Tok} {i n : Int} {ti tn : Tok} (B : Below A₀ base outer h₀) (F : Fr h₀ L hp m) (X : (hd.heap_39 w.params).In h₀) (N : News h₀ L hp news) (T : Top hd.view_39 (looseW hd.view_39 []) mean mg mb h₀) (hk : cs.kind = .function) (hdp : dp + 14 < recursionLimit) (hun : un + 112 < cLine) (hx : x.length ≤ 1048576) (h0 : 0 ≤ i)
  (hret : ∀ (t : Tok) h' tk', i < (x.length : Int) → Fr h₀ L h' m → News h₀ L h' news → Q (.bool ((Txt.item x i != y))) { s with heap := h', toks := tk' })
  (hexc : ∀ e g h' tk', (x.length : Int) ≤ i → Fr h₀ L g m → g.UpToSlots h' → RaisedPF w base g (envX cn cs L a ccd cl :: outer) e ("syntax error, unexpected end of file") (n) news h' → E (.ref e) { s with heap := h', toks := tk' }),
  wpAny (model PySem.Challenge.rw_pq0846_01.row.prog w) (ktrTop dp un gd cn cs L a ccd cl outer) (call (.ref 275) [.str x tx, .int i ti, .str y ty, .int n tn]) Q E { s with heap := hp, toks := tk0 } := by
 k_with "w" =>
  (k_extra "cp")
  (k_extra "n8"); generalize p8_1 T9 = x, p8_2 T9 = y, p8_3 T9 = tx, p8_4 T9 = ty, p8_5 T9 = i, p8_6 T9 = n, p8_7 T9 = ti, p8_8 T9 = tn; clear T9
  intro B F X N T hk hdp hun hx h0 hret hexc
  refine wpAny_call ?_
  k_dflt (k_extra "my enter")
  repeat' (first | (k_extra "ka") | (k_extra "kb") | ((fail_if_success k_end); (k_extra "kc")))
  · exact hexc _ _ _ _ (by omega) (by k_asm) (by assumption) (RaisedPF.sub (by assumption) (by intro q hq; exact .tail _ hq))
  · exact hret 0 _ _ (by omega) (by k_asm) (by k_asm)
 k_extra "q"
theorem reg42 : True := by
  k_with ".call ref" => ((k_here; (with_reducible show wpAny _ _ (call (Value.ref 275) _) _ _ _); k_dflt (refine' is_before_str ?kB ?kF ?kX ?kN ?kT ?kK ?zkd ?zku ?zkhx ?zkh0 ?_ ?_; (k_extra "kq"); (case zkd => k_extra "my room"); (case zku => k_extra "my room"); (case zkhx => k_extra "my side"); (case zkh0 => k_extra "my side"); ((try dsimp only); (k_extra "h3"); generalize p3_1 T9 = t, p3_2 T9 = h', p3_3 T9 = tk'; clear T9; (first | revert t h' tk' | ((try revert tk'); (try revert h'); (try revert t))); intros; (try k_sweep); (try (k_extra "kf"))); rotate_left; ((try dsimp only); (k_extra "h4"); generalize p4_1 T9 = e, p4_2 T9 = g, p4_3 T9 = h', p4_4 T9 = tk'; clear T9; (first | revert e g h' tk' | ((try revert tk'); (try revert h'); (try revert g); (try revert e))); intros; (try k_sweep)); rotate_left)))
  trivial
noncomputable def mRows (x : Str) : Int := ((Txt.split x (Str.ofString "\n")).length : Int) - 1
noncomputable def mStart (x : Str) : Bool := match x.cps.toList with
  | [] => false
  | c :: _ => c == 95 || (97 ≤ c && c ≤ 122) || (65 ≤ c && c ≤ 90) || 128 ≤ c
noncomputable def mSign (x : Str) : Bool := mStart x || match x.cps.toList with
  | [] => false
  | c :: _ => 48 ≤ c && c ≤ 57
noncomputable def mNl (x : Str) (i : Int) : Int := if Txt.slice x (some i) (some (i + 2)) = Str.ofString "\r\n" then i + 2 else if mSignAt x i = Str.ofString "\n" then i + 1 else i
theorem one_cases {x : Str} (h : x.length ≤ 1) : x = ⟨#[]⟩ ∨ ∃ c, x = ⟨#[c]⟩ := by
  obtain ⟨⟨l⟩⟩ := x
  match l, h with
  | [], _ => exact .inl rfl
  | [c], _ => exact .inr ⟨c, rfl⟩
  | _ :: _ :: _, h => simp [Str.length] at h
theorem cps_lits : (Str.ofString "a").cps.toList = [97] ∧ (Str.ofString "z").cps.toList = [122] ∧ (Str.ofString "A").cps.toList = [65] ∧ (Str.ofString "Z").cps.toList = [90] ∧ (Str.ofString "0").cps.toList = [48] ∧ (Str.ofString "9").cps.toList = [57] := by decide
theorem lit_us : Str.ofString "_" = ⟨#[95]⟩ := by decide
theorem lit_e : Str.ofString "" = ⟨#[]⟩ := by decide
theorem cat_e (c : Nat) : ((⟨#[c]⟩ : Str) != ⟨#[]⟩) = true := by
  rw [bne_iff_ne]; intro q; cases q
theorem eq_one (c d : Nat) : ((⟨#[c]⟩ : Str) == ⟨#[d]⟩) = (c == d) := by
  by_cases h : c = d
  · subst h; simp
  · have : (⟨#[c]⟩ : Str) ≠ ⟨#[d]⟩ := by intro q; cases q; exact h rfl
    rw [beq_eq_false_iff_ne.mpr this, beq_eq_false_iff_ne.mpr h]
theorem reg43 : True := by
  k_with "my news" => (first | k_asm | (refine' cb_drop ?zcbN ?zcbS; (case zcbN => k_asm); (case zcbS => (intro p hp; simp [hp]))))
  k_with ".call builtin:str.split" => ((((k_here; (with_reducible show wpAny _ _ (call (Value.builtin "str.split") [Value.str _ _, Value.str _ _]) _ _ _); refine KSpl.split1 (by k_asm) (by k_asm) (by decide) ?_ (by (rw [sizeLine_eq]; omega)); (k_extra "h4"); generalize p4_1 T9 = D', p4_2 T9 = l', p4_3 T9 = h', p4_4 T9 = k'; clear T9; (intro e' a' F' N' l1); (try k_sweep))); (first | revert D' l' h' k' | ((try revert k'); (try revert h'); (try revert l'); (try revert D'))); intros))
  trivial
theorem fillE2 {w : World} {h₀ : Heap} (h : PySem.Challenge.rw_pq0846_01.row.prog = PySem.Challenge.rw_pq0846_01.row.prog) (X : (hd.heap_39 w.params).In h₀) : (hd.heap_39 w.params).In h₀ := by
  revert h X; k_fill; intro h X; exact X
theorem rows_in_c : ∀ {w : World} {mean mg mb} {dp un : Nat} {gd cn} {cs : Scope} {a ccd cl} {outer : List Env} {A₀ base h₀ L m} {s : Shared} {hp tk0 news} {Q E : Value → Shared → Prop} {x : Str} {tx : Tok} (B : Below A₀ base outer h₀) (F : Fr h₀ L hp m) (X : (hd.heap_39 w.params).In h₀) (N : News h₀ L hp news) (T : Top hd.view_39 (looseW hd.view_39 []) mean mg mb h₀) (hk : cs.kind = .function) (hdp : dp + 1 < recursionLimit) (hun : un + 8 < cLine) (hx : x.length ≤ 1048576)
  (hret : ∀ t h' tk', Fr h₀ L h' m → News h₀ L h' news → Q (.int (mRows x) t) { s with heap := h', toks := tk' }),
  wpAny (model PySem.Challenge.rw_pq0846_01.row.prog w) (ktrTop dp un gd cn cs L a ccd cl outer) (call (.ref 184) [.str x tx]) Q E { s with heap := hp, toks := tk0 } := by
 k_with "w" =>
  (k_extra "cp")
  (k_extra "n2"); generalize p2_1 T9 = x, p2_2 T9 = tx; clear T9
  intro B F X N T hk hdp hun hx hret
  refine wpAny_call ?_
  k_dflt (k_extra "my enter")
  repeat' (first | (k_extra "ka") | (k_extra "kb") | ((fail_if_success k_end); (k_extra "kc")))
  all_goals (refine cb_retI (Q := Q) hret ?_ (by k_asm) (by k_extra "my news"); unfold mRows)
  all_goals (have q := congrArg List.length (by assumption : List.map _ _ = Txt.split x _); rw [List.length_map] at q; rw [q])
 k_extra "q"
theorem reg45 : True := by
  k_with ".call ref" => ((k_here; (with_reducible show wpAny _ _ (call (Value.ref 184) _) _ _ _); k_dflt (refine' rows_in_c ?kB ?kF ?kX ?kN ?kT ?kK ?zkd ?zku ?zkhx ?_; (k_extra "kq"); (case zkd => k_extra "my room"); (case zku => k_extra "my room"); (case zkhx => k_extra "my side"); ((try dsimp only); (k_extra "h3"); generalize p3_1 T9 = t, p3_2 T9 = h', p3_3 T9 = tk'; clear T9; (first | revert t h' tk' | ((try revert tk'); (try revert h'); (try revert t))); intros; (try k_sweep); (try (k_extra "kf"))))))
  trivial
theorem is_name_start_c : ∀ {w : World} {mean mg mb} {dp un : Nat} {gd cn} {cs : Scope} {a ccd cl} {outer : List Env} {A₀ base h₀ L m} {s : Shared} {hp tk0 news} {Q E : Value → Shared → Prop} {x : Str} {tx : Tok} (B : Below A₀ base outer h₀) (F : Fr h₀ L hp m) (X : (hd.heap_39 w.params).In h₀) (N : News h₀ L hp news) (T : Top hd.view_39 (looseW hd.view_39 []) mean mg mb h₀) (hk : cs.kind = .function) (hdp : dp + 1 < recursionLimit) (hun : un + 8 < cLine) (h1 : x.length ≤ 1)
  (hret : ∀ (t : Tok) h' tk', Fr h₀ L h' m → News h₀ L h' news → Q (.bool (mStart x)) { s with heap := h', toks := tk' }),
  wpAny (model PySem.Challenge.rw_pq0846_01.row.prog w) (ktrTop dp un gd cn cs L a ccd cl outer) (call (.ref 142) [.str x tx]) Q E { s with heap := hp, toks := tk0 } := by
 k_with "w" =>
  (k_extra "cp")
  (k_extra "n2"); generalize p2_1 T9 = x, p2_2 T9 = tx; clear T9
  intro B F X N T hk hdp hun h1 hret
  rcases one_cases h1 with rfl | hE9
  · refine wpAny_call ?_
    k_dflt (k_extra "my enter")
    repeat' (first | (k_extra "ka") | (k_extra "kb") | ((fail_if_success k_end); (k_extra "kc")))
    all_goals (refine cb_retB (Q := Q) hret ?_ (by k_asm) (by k_asm); simp_all [mStart, lit_e])
  · refine exE hE9 ?_; clear hE9; (k_extra "h1"); generalize c1 _ _ = c; intro hE9; subst hE9
    refine wpAny_call ?_
    k_dflt (k_extra "my enter")
    repeat' (first | (k_extra "ka") | (k_extra "kb") | ((fail_if_success k_end); (k_extra "kc")))
    all_goals (refine cb_retB (Q := Q) hret ?_ (by k_asm) (by k_asm))
    all_goals (rw [Bool.eq_iff_iff])
    all_goals simp_all [mStart, cps_lits.1, cps_lits.2.1, cps_lits.2.2.1, cps_lits.2.2.2.1, lit_us, lit_e, List.cons_lt_cons_iff]
    all_goals omega
 k_extra "q"
theorem reg46 : True := by
  k_with ".call ref" => ((k_here; (with_reducible show wpAny _ _ (call (Value.ref 142) _) _ _ _); k_dflt (refine' is_name_start_c ?kB ?kF ?kX ?kN ?kT ?kK ?zkd ?zku ?zkh1 ?_; (k_extra "kq"); (case zkd => k_extra "my room"); (case zku => k_extra "my room"); (case zkh1 => k_extra "my side"); ((try dsimp only); (k_extra "h3"); generalize p3_1 T9 = t, p3_2 T9 = h', p3_3 T9 = tk'; clear T9; (first | revert t h' tk' | ((try revert tk'); (try revert h'); (try revert t))); intros; (try k_sweep); (try (k_extra "kf"))))))
  trivial
theorem newline_behind_c : ∀ {w : World} {mean mg mb} {dp un : Nat} {gd cn} {cs : Scope} {a ccd cl} {outer : List Env} {A₀ base h₀ L m} {s : Shared} {hp tk0 news} {Q E : Value → Shared → Prop} {x : Str} {tx : Tok} {i : Int} {ti : Tok} (B : Below A₀ base outer h₀) (F : Fr h₀ L hp m) (X : (hd.heap_39 w.params).In h₀) (N : News h₀ L hp news) (T : Top hd.view_39 (looseW hd.view_39 []) mean mg mb h₀) (hk : cs.kind = .function) (hdp : dp + 3 < recursionLimit) (hun : un + 24 < cLine) (hx : x.length ≤ 1048576) (h0 : 0 ≤ i)
  (hret : ∀ t h' tk', Fr h₀ L h' m → News h₀ L h' news → Q (.int (mNl x i) t) { s with heap := h', toks := tk' }),
  wpAny (model PySem.Challenge.rw_pq0846_01.row.prog w) (ktrTop dp un gd cn cs L a ccd cl outer) (call (.ref 289) [.str x tx, .int i ti]) Q E { s with heap := hp, toks := tk0 } := by
  (k_extra "cp")
  (k_extra "n4"); generalize p4_1 T9 = x, p4_2 T9 = tx, p4_3 T9 = i, p4_4 T9 = ti; clear T9
  intro B F X N T hk hdp hun hx h0 hret
  refine wpAny_call ?_
  k_dflt (k_extra "my enter")
  repeat' (first | (k_extra "ka") | (k_extra "kb") | ((fail_if_success k_end); (k_extra "kc")))
  all_goals (refine cb_retI (Q := Q) hret ?_ (by k_asm) (by k_asm); simp_all [mNl])
theorem reg47 : True := by
  k_with ".call ref" => ((k_here; (with_reducible show wpAny _ _ (call (Value.ref 289) _) _ _ _); k_dflt (refine' newline_behind_c ?kB ?kF ?kX ?kN ?kT ?kK ?zkd ?zku ?zkhx ?zkh0 ?_; (k_extra "kq"); (case zkd => k_extra "my room"); (case zku => k_extra "my room"); (case zkhx => k_extra "my side"); (case zkh0 => k_extra "my side"); ((try dsimp only); (k_extra "h3"); generalize p3_1 T9 = t, p3_2 T9 = h', p3_3 T9 = tk'; clear T9; (first | revert t h' tk' | ((try revert tk'); (try revert h'); (try revert t))); intros; (try k_sweep); (try (k_extra "kf"))))))
  trivial
noncomputable def scanF : Nat → (Int → Bool) → Int → Int
  | 0, _, i => i
  | k + 1, p, i => if p i then scanF k p (i + 1) else i
noncomputable def scan (n : Int) (p : Int → Bool) (i : Int) : Int := scanF (n - i).toNat p i
theorem scan_step {n : Int} {p : Int → Bool} {i : Int} (h : i < n) (hp : p i = true) : scan n p i = scan n p (i + 1) := by
  unfold scan
  rw [i_sub h, scanF, if_pos hp]
theorem scan_stop {n : Int} {p : Int → Bool} {i : Int} (h : i < n → p i = false) : scan n p i = i := by
  unfold scan
  by_cases q : i < n
  · rw [i_sub q, scanF, h q]; rfl
  · have : (n - i).toNat = 0 := Int.toNat_of_nonpos (Int.sub_nonpos_of_le (Int.not_lt.mp q))
    rw [this]; rfl
noncomputable def mReadName (x : Str) (i : Int) : Int := scan x.length (fun j => mSign (Txt.item x j)) i
noncomputable def mBlank (c : Str) : Bool := [Str.ofString " ", Str.ofString "\t"].any fun y => y == c
noncomputable def mBlanks (x : Str) (i : Int) : Int := scan x.length (fun j => mBlank (Txt.item x j)) i
theorem item_len (x : Str) (i : Int) : (Txt.item x i).length ≤ 1 := Nat.le_refl 1
theorem reg48 : True := by
  k_with "my len1" => (first | assumption | exact item_len _ _ | omega)
  trivial
theorem fillE3 {w : World} {h₀ : Heap} (h : PySem.Challenge.rw_pq0846_01.row.prog = PySem.Challenge.rw_pq0846_01.row.prog) (X : (hd.heap_39 w.params).In h₀) : (hd.heap_39 w.params).In h₀ := by
  revert h X; k_fill; intro h X; exact X
theorem is_name_sign_c : ∀ {w : World} {mean mg mb} {dp un : Nat} {gd cn} {cs : Scope} {a ccd cl} {outer : List Env} {A₀ base h₀ L m} {s : Shared} {hp tk0 news} {Q E : Value → Shared → Prop} {x : Str} {tx : Tok} (B : Below A₀ base outer h₀) (F : Fr h₀ L hp m) (X : (hd.heap_39 w.params).In h₀) (N : News h₀ L hp news) (T : Top hd.view_39 (looseW hd.view_39 []) mean mg mb h₀) (hk : cs.kind = .function) (hdp : dp + 3 < recursionLimit) (hun : un + 24 < cLine) (h1 : x.length ≤ 1)
  (hret : ∀ (t : Tok) h' tk', Fr h₀ L h' m → News h₀ L h' news → Q (.bool (mSign x)) { s with heap := h', toks := tk' }),
  wpAny (model PySem.Challenge.rw_pq0846_01.row.prog w) (ktrTop dp un gd cn cs L a ccd cl outer) (call (.ref 149) [.str x tx]) Q E { s with heap := hp, toks := tk0 } := by
 k_with "w" =>
  (k_extra "cp")
  (k_extra "n2"); generalize p2_1 T9 = x, p2_2 T9 = tx; clear T9
  intro B F X N T hk hdp hun h1 hret
  rcases one_cases h1 with rfl | hE9
  · refine wpAny_call ?_
    k_dflt (k_extra "my enter")
    repeat' (first | (k_extra "ka") | (k_extra "kb") | ((fail_if_success k_end); (k_extra "kc")))
    all_goals (refine cb_retB (Q := Q) hret ?_ (by k_asm) (by k_asm); (rw [Bool.eq_iff_iff]); simp_all [mSign, mStart, cps_lits.2.2.2.2.1, cps_lits.2.2.2.2.2])
  · refine exE hE9 ?_; clear hE9; (k_extra "h1"); generalize c1 _ _ = c; intro hE9; subst hE9
    refine wpAny_call ?_
    k_dflt (k_extra "my enter")
    repeat' (first | (k_extra "ka") | (k_extra "kb") | ((fail_if_success k_end); (k_extra "kc")))
    all_goals (refine cb_retB (Q := Q) hret ?_ (by k_asm) (by k_asm); (rw [Bool.eq_iff_iff]); simp_all [mSign, cps_lits.2.2.2.2.1, cps_lits.2.2.2.2.2, List.cons_lt_cons_iff])
    all_goals omega
 k_extra "q"
theorem reg49 : True := by
  k_with ".call ref" => ((k_here; (with_reducible show wpAny _ _ (call (Value.ref 149) _) _ _ _); k_dflt (refine' is_name_sign_c ?kB ?kF ?kX ?kN ?kT ?kK ?zkd ?zku ?zkh1 ?_; (k_extra "kq"); (case zkd => k_extra "my room"); (case zku => k_extra "my room"); (case zkh1 => k_extra "my len1"); ((try dsimp only); (k_extra "h3"); generalize p3_1 T9 = t, p3_2 T9 = h', p3_3 T9 = tk'; clear T9; (first | revert t h' tk' | ((try revert tk'); (try revert h'); (try revert t))); intros; (try k_sweep); (try (k_extra "kf"))))))
  trivial
theorem read_name_c : ∀ {w : World} {mean mg mb} {dp un : Nat} {gd cn} {cs : Scope} {a ccd cl} {outer : List Env} {A₀ base h₀ L m} {s : Shared} {hp tk0 news} {Q E : Value → Shared → Prop} {x : Str} {tx : Tok} {i : Int} {ti : Tok} (B : Below A₀ base outer h₀) (F : Fr h₀ L hp m) (X : (hd.heap_39 w.params).In h₀) (N : News h₀ L hp news) (T : Top hd.view_39 (looseW hd.view_39 []) mean mg mb h₀) (hk : cs.kind = .function) (hdp : dp + 5 < recursionLimit) (hun : un + 40 < cLine) (hx : x.length ≤ 1048576) (h0 : 0 ≤ i)
  (hret : ∀ t h' tk', Fr h₀ L h' m → News h₀ L h' news → Q (.int (mReadName x i) t) { s with heap := h', toks := tk' }),
  wpAny (model PySem.Challenge.rw_pq0846_01.row.prog w) (ktrTop dp un gd cn cs L a ccd cl outer) (call (.ref 156) [.str x tx, .int i ti]) Q E { s with heap := hp, toks := tk0 } := by
 k_with "w" =>
  (k_extra "cp")
  (k_extra "n4"); generalize p4_1 T9 = x, p4_2 T9 = tx, p4_3 T9 = i, p4_4 T9 = ti; clear T9
  intro B F X N T hk hdp hun hx h0 hret
  refine wpAny_call ?_
  k_dflt (k_extra "my enter")
  repeat' (first | (k_extra "ka") | (k_extra "kb") | ((fail_if_success k_end); (k_extra "z7"); (k_extra "kc")))
  refine ksw_while (fun _ : Int × Tok => news) (fun c => [(Str.ofString "at", .int c.1 c.2)]) (fun _ => True) [] (fun c => 0 ≤ c.1 ∧ mReadName x i = mReadName x c.1) (fun c => ((x.length : Int) - c.1).toNat) (i, ti) (by k_asm) (by k_asm) trivial (by intro p hp; rw [List.mem_singleton.mp hp]; rfl) ⟨h0, rfl⟩ ?_
  (try dsimp only); with_reducible refine (all_xx inferInstance ?_); generalize c2 _ _ = T9; generalize p2_1 T9 = j, p2_2 T9 = tj; clear T9; (k_extra "h3"); generalize p3_1 T9 = u', p3_2 T9 = h', p3_3 T9 = tk'; clear T9; intro _ I' F' N'; (try dsimp only at I' F' N' ⊢); obtain ⟨I1, I2⟩ := I'
  repeat' (first | (k_extra "ka") | (k_extra "kb") | ((fail_if_success k_end); (k_extra "kc")))
  · refine ksw_end (_, _) (by k_asm) (by k_asm) (fun p hp => hp) trivial (by intro p hp; rw [List.mem_singleton.mp hp]; rfl) (by intro z h2 h3; simp only [List.forall_mem_cons, List.not_mem_nil, false_implies, implies_true, and_true, ne_eq] at h2; simp [h2, kstB]) ⟨by dsimp only; omega, ?_⟩ (by dsimp only; omega)
    rw [I2]; exact scan_step (by assumption) (by assumption)
  · refine cb_retI (Q := Q) hret ?_ (by k_asm) (by k_asm)
    rw [I2]; exact (scan_stop fun _ => by assumption).symm
  · refine cb_retI (Q := Q) hret ?_ (by k_asm) (by k_asm)
    rw [I2]; exact (scan_stop fun q => absurd q (by assumption)).symm
 k_extra "q"
theorem reg50 : True := by
  k_with ".call ref" => ((k_here; (with_reducible show wpAny _ _ (call (Value.ref 156) _) _ _ _); k_dflt (refine' read_name_c ?kB ?kF ?kX ?kN ?kT ?kK ?zkd ?zku ?zkhx ?zkh0 ?_; (k_extra "kq"); (case zkd => k_extra "my room"); (case zku => k_extra "my room"); (case zkhx => k_extra "my side"); (case zkh0 => k_extra "my side"); ((try dsimp only); (k_extra "h3"); generalize p3_1 T9 = t, p3_2 T9 = h', p3_3 T9 = tk'; clear T9; (first | revert t h' tk' | ((try revert tk'); (try revert h'); (try revert t))); intros; (try k_sweep); (try (k_extra "kf"))))))
  trivial
theorem sign_len (x : Str) (i : Int) (h : 0 ≤ i) : (mSignAt x i).length ≤ 1 := slice1_len x i h
theorem reg51 : True := by
  k_with "my side" => (first | with_reducible assumption | with_reducible exact Nat.le_trans (by k_extra "a") (by decide) | with_reducible exact Nat.le_trans (PyProof.Txt.length_slice_le _ _ _) (by k_extra "a") | with_reducible exact Nat.le_trans (Nat.le_trans (PyProof.Txt.length_slice_le _ _ _) (by k_extra "a")) (by decide) | omega | with_reducible exact Nat.le_trans (sign_len _ _ (by omega)) (by decide) | with_reducible exact Nat.le_trans (item_len _ _) (by decide) | exact Nat.le_trans (sign_len _ _ (by omega)) (by decide) | exact Nat.le_trans (item_len _ _) (by decide) | assumption | exact Nat.le_trans (PyProof.Txt.length_slice_le _ _ _) (by assumption) | exact Nat.le_trans (Nat.le_trans (PyProof.Txt.length_slice_le _ _ _) (by assumption)) (by decide) | exact Nat.le_trans (by assumption) (by decide))
  trivial
theorem digit_nn (x : Str) : 0 ≤ mDigit x := by unfold mDigit; split <;> omega
theorem sign_none {x : Str} {i : Int} (h0 : 0 ≤ i) (h : (x.length : Int) ≤ i) : mSignAt x i = Str.ofString "" := by
  apply L_inj
  show L (Txt.slice x (some i) (some (i + 1))) = _
  rw [slice_ss x h0 (by omega), List.drop_of_length_le (by rw [L_len]; omega), List.take_nil]; decide
theorem digit_in {x : Str} {i b : Int} (h0 : 0 ≤ i) (hb : b ≤ 16) (h : mDigit (mSignAt x i) < b) : i < (x.length : Int) := by
  apply Classical.byContradiction
  intro q
  rw [sign_none h0 (by omega)] at h
  have : mDigit (Str.ofString "") = 99 := by unfold mDigit; rw [if_neg (by simp)]
  omega
theorem chr_any {prog : Program} {w : World} {A : Around} {E : Value → Shared → Prop} {s : Shared} {i : Int} {t : Tok} {Q : Value → Shared → Prop} (h0 : 0 ≤ i ∧ i ≤ 1114111) (h : Q (.str ⟨#[i.toNat]⟩ s.toks) { s with toks := s.toks + 1 }) :
    wpAny (model prog w) A (call (.builtin "chr") [.int i t]) Q E s := chr_of_range h0.1 h0.2 h
theorem shift6 (n : Int) : n.fdiv (2 ^ Int.toNat 6) = n / 64 := by rw [show (2 : Int) ^ Int.toNat 6 = 64 by rfl]; exact Int.fdiv_eq_ediv_of_nonneg n (by decide)
theorem shift12 (n : Int) : n.fdiv (2 ^ Int.toNat 12) = n / 4096 := by rw [show (2 : Int) ^ Int.toNat 12 = 4096 by rfl]; exact Int.fdiv_eq_ediv_of_nonneg n (by decide)
theorem shift18 (n : Int) : n.fdiv (2 ^ Int.toNat 18) = n / 262144 := by rw [show (2 : Int) ^ Int.toNat 18 = 262144 by rfl]; exact Int.fdiv_eq_ediv_of_nonneg n (by decide)
theorem fdiv_n (a : Int) {b : Int} (h : 0 ≤ b) : a.fdiv b = a / b := Int.fdiv_eq_ediv_of_nonneg a h
theorem fmod_n (a : Int) {b : Int} (h : 0 ≤ b) : a.fmod b = a % b := Int.fmod_eq_emod_of_nonneg a h
theorem reg52 : True := by
  k_with ".call builtin:chr" => ((k_here; (with_reducible show wpAny _ _ (call (Value.builtin "chr") [Value.int _ _]) _ _ _); k_dflt (refine' chr_any ?zkc ?_; (case zkc => first | omega | (simp only [shift6, shift12, shift18, bitAnd_m6, bitAnd_m8]; omega)))))
  k_with ".binaryOp Add str str" => ((k_here; (with_reducible show wpAny _ _ (binaryOp Operator.Add (Value.str _ _) (Value.str _ _)) _ _ _); (first | (refine' KXadd.add ?zkxaa ?zkxab ?zkxac ?_; (case zkxaa => kt_len); (case zkxab => kt_len); (case zkxac => exact Nat.le_of_ble_eq_true rfl)) | (refine' KOpn.add ?zkxac ?_; (case zkxac => first | (simp only [Str.length_append]; omega) | omega)) | (refine KLn.add_r (by kln_le) (by kln_w) (by decide) ?_) | (refine KLn.add_l (by kln_w) (by kln_le) (by decide) ?_) | (refine KLn.add_n (by kln_le) (by kln_le) (by decide) ?_) | (refine SBL.add (hsz := ?zhsz) ?_; (case zhsz => size_fits))); (try dsimp only); (k_extra "h2"); generalize p2_1 T9 = t', p2_2 T9 = k'; clear T9; (first | revert t' k' | ((try revert k'); (try revert t'))); intros))
  trivial
theorem all_ne_lt {r : List (Addr × Obj)} {d : Addr} (h : ∀ p ∈ r, p.1 < d) : ∀ p ∈ r, p.1 ≠ d := fun p hp => Nat.ne_of_lt (h p hp)
theorem all_ne_gt {r : List (Addr × Obj)} {d : Addr} (h : ∀ p ∈ r, d < p.1) : ∀ p ∈ r, p.1 ≠ d := fun p hp => Nat.ne_of_gt (h p hp)
theorem all_lt_trans {r : List (Addr × Obj)} {d e : Addr} (h : ∀ p ∈ r, p.1 < d) (q : d < e) : ∀ p ∈ r, p.1 < e := fun p hp => Nat.lt_trans (h p hp) q
theorem all_lt_le {r : List (Addr × Obj)} {d e : Addr} (h : ∀ p ∈ r, p.1 < d) (q : d ≤ e) : ∀ p ∈ r, p.1 < e := fun p hp => Nat.lt_of_lt_of_le (h p hp) q
theorem strVals_snoc (l : List (Str × Tok)) (x : Str) (t : Tok) : strValues (l ++ [(x, t)]) = strValues l ++ [.str x t] := by simp [strValues]
theorem push_list (vs : List Value) (v : Value) : vs.toArray.push v = (vs ++ [v]).toArray := by simp
theorem allLt_iff {d : Addr} : ∀ {l : List (Addr × Obj)}, AllLt d l ↔ ∀ p ∈ l, p.1 < d
  | [] => by simp [AllLt]
  | p :: r => by rw [AllLt, allLt_iff (l := r), List.forall_mem_cons]
theorem reg54 : True := by
  k_with "wh low" => (first | assumption | exact allLt_iff.mp (by assumption) | exact allLt_iff.mp (And.right (by assumption)) | exact allLt_iff.mp (And.right (And.right (by assumption))) | exact allLt_iff.mp (And.right (And.right (And.right (by assumption)))) | exact (List.forall_mem_cons.mp (by assumption)).2 | exact (List.forall_mem_cons.mp (List.forall_mem_cons.mp (by assumption)).2).2 | exact (List.forall_mem_append.mp (by assumption)).2 | exact (List.forall_mem_append.mp (List.forall_mem_cons.mp (by assumption)).2).2 | fail "low")
  k_with "mac3" => (first | assumption | exact all_ne_gt (by assumption) | exact all_ne_lt (by (k_extra "wh low")))
  trivial
local macro_rules | `(tactic| k_all) => `(tactic| k_extra "mac3")
theorem mac4 : True := by
  k_with "mac4" => (first | exact List.forall_mem_nil _ | (refine' (fmc ?_ ?_); focus ((first | k_ne | ((try simp only [List.forall_mem_cons, List.forall_mem_append] at *); refine neN ?_; (try dsimp only at *); omega)); done); k_all))
  trivial
local macro_rules | `(tactic| k_all) => `(tactic| k_extra "mac4")
section
variable {prog : Program} {w : World} {A : Around} {E : Value → Shared → Prop} {s : Shared} {h₀ : Heap} {L : Addr} {m : Str → Option Value} {news news' : List (Addr × Obj)}
theorem append_any {D : Addr} {vs : List Value} {n : Nat} {v : Value} {Q : Value → Shared → Prop} (F : Fr h₀ L s.heap m) (N : News h₀ L s.heap news) (U : Upd D (listOf vs.toArray n) (listOf (vs ++ [v]).toArray (n + 1)) news news')
    (h : ∀ h', Fr h₀ L h' m → News h₀ L h' news' → Q .none { s with heap := h' }) (hsz : vs.length ≤ 1048576) : wpAny (model prog w) A (call (.builtin "list.append") [.ref D, v]) Q E s := by
  rw [← push_list] at U
  exact append_K F N U h (by rw [List.size_toArray, sizeLine_eq]; omega)
theorem join_strs {D : Addr} {l : List (Str × Tok)} {n : Nat} {x : Str} {t : Tok} {Q : Value → Shared → Prop} (N : News h₀ L s.heap news) (hm : (D, listOf (strValues l).toArray n) ∈ news) (hw : ((l.map (·.1)).map (·.length)).sum + l.length ≤ 1048576) (hx : x.length ≤ 16)
    (h : ∀ t' k, Q (.str (Txt.join x (l.map (·.1))) t') { s with toks := k }) : wpAny (model prog w) A (call (.builtin "str.join") [.str x t, .ref D]) Q E s :=
  join_listW ⟨_, (N _ hm).1, rfl, _, rfl⟩ (by simpa using strsAre_of_values l) hx (by simpa using hw) h
end
section
variable {prog : Program} {w : World} {A : Around} {E : Value → Shared → Prop} {s : Shared} {h₀ : Heap} {L : Addr} {m : Str → Option Value} {news news' : List (Addr × Obj)}
theorem clear_any {D : Addr} {vs : List Value} {n : Nat} {g : Nat → List (Addr × Obj)} {Q : Value → Shared → Prop} (F : Fr h₀ L s.heap m) (N : News h₀ L s.heap news) (U : ∀ n', Upd D (listOf vs.toArray n) (listOf #[] n') news (g n'))
    (hz : vs.length ≤ 1048576) (h : ∀ h' n', Fr h₀ L h' m → News h₀ L h' (g n') → Q .none { s with heap := h' }) : wpAny (model prog w) A (call (.builtin "list.clear") [.ref D]) Q E s := by
 k_with "w" =>
  by_cases q : vs = []
  · subst q
    obtain ⟨pre, post, rfl, e2, a, c⟩ := (U n).split
    have z := N (D, listOf [].toArray n) (List.mem_append.mpr (.inr (.head _)))
    refine call_meets PySem.F.slot_list_clear ⟨_, z.1, rfl⟩ PySem.F.entry_list_clear (PySem.F.args_list_clear_1 _) (PySem.AutoSeq1.list_clear_list_0 D _ n (by simp)) ⟨z.1, h _ n (F.change (Heap.SameBut.update ..) z.2.1 z.2.2) ?_⟩
    rw [e2]
    exact kl_turn0 (fun _ => #[]) N a c rfl (by simp)
  · exact kl_clear F N (U (n + 1)) (by simpa using q) (by rw [sizeLine_eq]; simpa using Nat.le_trans hz (by decide)) (fun h' F' N' => h h' _ F' N')
 k_extra "q"
end
theorem reg55 : True := by
  k_with ".call builtin:list.clear" => ((((k_here; (with_reducible show wpAny _ _ (call (Value.builtin "list.clear") [Value.ref _]) _ _ _); k_dflt (refine' clear_any ?zk1 ?zk2 ?zk3 ?zz ?_; (case zk1 => k_asm); (case zk2 => k_asm); (case zk3 => (intro n'; k_upd)); (case zz => k_extra "my size")); (k_extra "h2"); generalize p2_1 T9 = h', p2_2 T9 = n2'; clear T9; intro F' N'; (try dsimp only at N'))); (first | revert h' n2' | ((try revert n2'); (try revert h'))); intros))
  k_with ".truthy ref" => ((k_here; (with_reducible show wpAny _ _ (truthy (Value.ref _)) _ _ _); k_dflt (refine' kgr_truthy ?zk1 ?zk2 rfl rfl ?zk3 ?_; (case zk1 => k_asm); (case zk2 => k_mem); (case zk3 => exact Nat.lt_of_le_of_lt (by k_extra "my size") (by decide : 1048576 < 2 ^ 62)))))
  k_with "my size" => (first | omega | (simp only [strValues, List.length_map, List.length_append, List.length_cons, List.length_nil] at *; omega))
  k_with ".call builtin:list.append" => ((((k_here; (with_reducible show wpAny _ _ (call (Value.builtin "list.append") [Value.ref _, _]) _ _ _); k_dflt (refine' append_any ?zk1 ?zk2 ?zk3 ?_ ?zz; (case zk1 => k_asm); (case zk2 => k_asm); (case zk3 => k_upd); (case zz => k_extra "my size"); k_whole); (k_extra "h1"); (try generalize c1 _ _ = h'); intro F' N'; (try k_sweep))); (try revert h'); intros))
  k_with ".call builtin:str.join" => ((((k_here; (with_reducible show wpAny _ _ (call (Value.builtin "str.join") [Value.str _ _, Value.ref _]) _ _ _); k_dflt (refine' join_strs ?zk1 ?zk2 ?zk3 ?zk4 ?_; (case zk1 => k_asm); (case zk2 => k_mem); (case zk3 => k_extra "my size"); (case zk4 => decide)); (k_extra "h2"); generalize p2_1 T9 = t', p2_2 T9 = k'; clear T9)); (first | revert t' k' | ((try revert k'); (try revert t'))); intros))
  trivial
theorem cb_drop1 {h₀ h : Heap} {L : Addr} {news r : List (Addr × Obj)} {q : Addr × Obj} (N : News h₀ L h (q :: r)) (hs : ∀ p ∈ news, p ∈ r) : News h₀ L h (q :: news) :=
  cb_drop N ((fmc (.head _) (fun p hp => .tail _ (hs p hp))))
theorem reg60 : True := by
  k_with "wh in" => (first | exact List.mem_cons_self | (refine List.mem_append_left _ ?_; (k_extra "wh in")) | (refine List.mem_append_right _ ?_; (k_extra "wh in")) | (refine List.mem_cons_of_mem _ ?_; (k_extra "wh in")))
  k_with "wh sub" => (first | (with_reducible exact fun _ hp => hp) | (with_reducible exact fun _ hp => List.mem_cons_of_mem _ hp) | (with_reducible exact List.forall_mem_nil _) | ((with_reducible refine (fmc ?_ ?_)); (with_reducible (k_extra "wh in")); (k_extra "wh sub")) | ((with_reducible refine (fma ?_ ?_)); (k_extra "wh sub"); (k_extra "wh sub")) | (with_reducible (intro p hp; repeat (first | exact hp | exact List.mem_append_left _ hp | refine List.mem_append_right _ ?_ | refine List.mem_cons_of_mem _ ?_))))
  k_with "wh mem" => (((try dsimp only); (try simp only [strVals_snoc]); (k_extra "wh sub")))
  k_with "wh drop" => (first | with_reducible assumption | ((with_reducible refine cb_drop (by assumption) ?_); (k_extra "wh mem")) | assumption | (refine cb_drop (by assumption) ?_; (k_extra "wh mem")))
  k_with "wh drop1" => (first | with_reducible assumption | ((with_reducible refine cb_drop1 (by k_extra "a") ?_); (k_extra "wh mem")) | (refine cb_drop1 (by assumption) ?_; (k_extra "wh mem")))
  k_with "wh lt" => (first | assumption | exact And.left (by assumption) | exact And.left (And.right (by assumption)) | exact And.left (And.right (And.right (by assumption))) | exact (List.forall_mem_cons.mp (by assumption)).1 | exact (List.forall_mem_cons.mp (List.forall_mem_cons.mp (by assumption)).2).1 | exact (List.forall_mem_cons.mp (List.forall_mem_cons.mp (List.forall_mem_cons.mp (by assumption)).2).2).1 | (refine ltN ?_; omega) | omega)
  trivial
theorem cb_drop2 {h₀ h : Heap} {L : Addr} {news r : List (Addr × Obj)} {q q2 : Addr × Obj} (N : News h₀ L h (q :: r)) (h2 : q2 ∈ r) (hs : ∀ p ∈ news, p ∈ r) : News h₀ L h (q :: q2 :: news) :=
  cb_drop N ((fmc (.head _) ((fmc (.tail _ h2) (fun p hp => .tail _ (hs p hp))))))
theorem reg66 : True := by
  k_with "wh drop2" => (first | with_reducible assumption | ((with_reducible refine cb_drop2 (by k_extra "a") ?_ ?_); (first | exact List.mem_cons_self | exact List.mem_cons_of_mem _ List.mem_cons_self | exact List.mem_cons_of_mem _ (List.mem_cons_of_mem _ List.mem_cons_self)); (k_extra "wh mem")))
  trivial
theorem same_step {ps : List (Str × Value)} {stored : List Str} {x : Str} {v : Option Value} {f g : Str → Option Value} (hx : (ps.map (·.1) ++ stored).contains x = true)
    (h : ∀ z, (∀ p ∈ ps, z ≠ p.1) → stored.contains z = false → f z = g z) : ∀ z, (∀ p ∈ ps, z ≠ p.1) → stored.contains z = false → (if z = x then v else f z) = g z := by
  intro z h1 h2
  by_cases e : z = x
  · subst e
    rw [List.contains_iff_mem, List.mem_append] at hx
    rcases hx with hx | hx
    · obtain ⟨p, hp, e⟩ := List.mem_map.mp hx
      exact absurd e.symm (h1 p hp)
    · rw [← List.contains_iff_mem, h2] at hx; cases hx
  · rw [if_neg e]; exact h z h1 h2
theorem same_base {ps : List (Str × Value)} {stored : List Str} {u g : Str → Option Value} : ∀ z, (∀ p ∈ ps, z ≠ p.1) → stored.contains z = false → (if stored.contains z = true then u z else g z) = g z := by
  intro z _ h2; rw [h2]; simp
theorem same_kst {ps lst : List (Str × Value)} {stored : List Str} {u g : Str → Option Value} (hx : (lst.all fun p => (ps.map (·.1) ++ stored).contains p.1) = true) :
    ∀ z, (∀ p ∈ ps, z ≠ p.1) → stored.contains z = false → kstB (fun z => if stored.contains z = true then u z else g z) lst z = g z := by
  induction lst with
  | nil => exact same_base
  | cons p r ih =>
    rw [List.all_cons, Bool.and_eq_true] at hx
    exact same_step hx.1 (ih hx.2)
theorem same3_step {y : Str} {ps : List (Str × Value)} {stored : List Str} {x : Str} {v : Option Value} {f g : Str → Option Value} (hx : (y :: ps.map (·.1) ++ stored).contains x = true)
    (h : ∀ z, z ≠ y → (∀ p ∈ ps, z ≠ p.1) → stored.contains z = false → f z = g z) : ∀ z, z ≠ y → (∀ p ∈ ps, z ≠ p.1) → stored.contains z = false → (if z = x then v else f z) = g z := by
  intro z h0 h1 h2
  by_cases e : z = x
  · subst e
    rw [List.contains_iff_mem, List.mem_append, List.mem_cons] at hx
    rcases hx with (hx | hx) | hx
    · exact absurd hx h0
    · obtain ⟨p, hp, e⟩ := List.mem_map.mp hx
      exact absurd e.symm (h1 p hp)
    · rw [← List.contains_iff_mem, h2] at hx; cases hx
  · rw [if_neg e]; exact h z h0 h1 h2
theorem same3_base {y : Str} {ps : List (Str × Value)} {stored : List Str} {u g : Str → Option Value} : ∀ z, z ≠ y → (∀ p ∈ ps, z ≠ p.1) → stored.contains z = false → (if stored.contains z = true then u z else g z) = g z := by
  intro z _ _ h2; rw [h2]; simp
theorem same3_kst {y : Str} {ps lst : List (Str × Value)} {stored : List Str} {u g : Str → Option Value} (hx : (lst.all fun p => (y :: ps.map (·.1) ++ stored).contains p.1) = true) :
    ∀ z, z ≠ y → (∀ p ∈ ps, z ≠ p.1) → stored.contains z = false → kstB (fun z => if stored.contains z = true then u z else g z) lst z = g z := by
  induction lst with
  | nil => exact same3_base
  | cons p r ih =>
    rw [List.all_cons, Bool.and_eq_true] at hx
    exact same3_step hx.1 (ih hx.2)
theorem reg67 : True := by
  k_with "wh same3" => ((intro z h1 h2 h3; (try simp only [List.forall_mem_cons, List.not_mem_nil, false_implies, implies_true, and_true, ne_eq] at h2); (try simp only [List.contains_cons, List.contains_nil, Bool.or_false, Bool.or_eq_false_iff, beq_eq_false_iff_ne, ne_eq] at h3); first | rfl | (simp [h1, h2, h3, kstB]; done) | (simp [h1, h2, kstB]; done) | (simp [h1, h3, kstB]; done)))
  trivial
theorem low_of_news {h₀ h : Heap} {L : Addr} {news r : List (Addr × Obj)} (N : News h₀ L h r) (hs : ∀ p ∈ news, p ∈ r) : ∀ p ∈ news, p.1 < h.objs.size := fun p hp => Heap.lt_size (N p (hs p hp)).1
theorem reg68 : True := by
  k_with "wh low" => (first | ((refine low_of_news (by assumption) ?_); (k_extra "wh mem")) | fail "low")
  k_with "wh keep" => (first | exact List.forall_mem_nil _ | ((with_reducible refine (fmc ?_ ?_)); (rfl); (k_extra "wh keep")) | (fail "keep"))
  k_with "wh same" => ((intro z h2 h3; (try simp only [List.forall_mem_cons, List.not_mem_nil, false_implies, implies_true, and_true, ne_eq] at h2); (try simp only [List.contains_cons, List.contains_nil, Bool.or_false, Bool.or_eq_false_iff, beq_eq_false_iff_ne, ne_eq] at h3); first | rfl | (simp [h2, h3, kstB]; done) | (simp [h2, kstB]; done) | (simp [h3, kstB]; done)))
  k_with "wh same" => (((repeat ((with_reducible refine same_step ?_ ?_); rotate_left)); first | with_reducible exact same_base | ((with_reducible refine same_kst ?_)) | with_reducible exact fun _ _ _ => rfl); all_goals exact (rfl : true = true))
  k_with "wh same3" => (((repeat ((with_reducible refine same3_step ?_ ?_); rotate_left)); first | with_reducible exact same3_base | ((with_reducible refine same3_kst ?_)) | with_reducible exact fun _ _ _ _ => rfl); all_goals exact (rfl : true = true))
  trivial
structure JB (P : Prop) (h₀ : Heap) (L : Addr) (m : Str → Option Value) (news : List (Addr × Obj)) (s : Shared) (k : Bool) (s' : Shared) : Prop where
  out : k = true ↔ P
  here : KJoinAt h₀ L m news s s'
section
variable {M : Model} {A : Around} {E : Value → Shared → Prop} {s : Shared} {env : Env} {h₀ : Heap} {L : Addr} {m : Str → Option Value} {news : List (Addr × Obj)}
theorem if_join (P : Prop) {test : Expr} {body els : List Stmt} {pos : Pos} {Q : Flow → Shared → Prop} (F : Fr h₀ L s.heap m) (N : News h₀ L s.heap news)
    (hc : wpAny M A (isTrue test env (eval test env)) (JB P h₀ L m news s) E s)
    (ht : P → ∀ h' tk', Fr h₀ L h' m → News h₀ L h' news → wpAny M A (execs body env) Q E { s with heap := h', toks := tk' })
    (hf : ¬ P → ∀ h' tk', Fr h₀ L h' m → News h₀ L h' news → wpAny M A (execs els env) Q E { s with heap := h', toks := tk' }) :
    wpAny M A (exec (.If test body els pos) env) Q E s := by
  refine wpAny_If (wpAny_mono hc (fun k s₂ hkc => ?_) fun _ _ h => h)
  obtain ⟨hkc, ⟨h, tk, rfl, F', N'⟩⟩ := hkc
  cases k with
  | true => exact ht (hkc.mp rfl) h tk F' N'
  | false => exact hf (fun q => by have := hkc.mpr q; cases this) h tk F' N'
end
theorem reg73 : True := by
  k_with "jb" => ((refine ⟨?zjp, ⟨_, _, rfl, ?zjF, ?zjN⟩⟩; (case zjF => k_asm); (case zjN => (k_extra "wh drop")); (case zjp => (simp [*]; done))))
  k_with "jb" => ((refine ⟨?zjp, ⟨_, _, rfl, ?zjF, ?zjN⟩⟩; (case zjF => k_asm); (case zjN => (k_extra "wh drop")); (case zjp => (simp only [*, Bool.false_eq_true, and_self, and_true, true_and, and_false, false_and, or_true, true_or, or_false, false_or, not_true_eq_false, not_false_eq_true, iff_true, iff_false, iff_self, true_iff, false_iff, ne_eq, if_true, if_false]; done))))
  trivial
@[irreducible] noncomputable def mSingle (x : Str) (i : Int) (l : List Str) : Option (List Str × Int) :=
  WellFounded.fix (measure fun p : Int × List Str => ((x.length : Int) - p.1).toNat).wf (C := fun _ => Option (List Str × Int)) (fun p rec =>
    if h : p.1 < x.length then
      if (Txt.item x p.1 == Str.ofString "'") = true then some (p.2, p.1 + 1)
      else if (Txt.item x p.1 == Str.ofString "\\") = true then
        if ([Str.ofString "\\", Str.ofString "'"].any fun y => y == mSignAt x (p.1 + 1)) = true then rec (p.1 + 1 + 1, p.2 ++ [mSignAt x (p.1 + 1)]) (meas2 h)
        else rec (p.1 + 1, p.2 ++ [Txt.item x p.1]) (meas1 h)
      else rec (p.1 + 1, p.2 ++ [Txt.item x p.1]) (meas1 h)
    else none) (i, l)
theorem mSingle_eq (x : Str) (i : Int) (l : List Str) : mSingle x i l =
    if i < x.length then
      if (Txt.item x i == Str.ofString "'") = true then some (l, i + 1)
      else if (Txt.item x i == Str.ofString "\\") = true then
        if ([Str.ofString "\\", Str.ofString "'"].any fun y => y == mSignAt x (i + 1)) = true then mSingle x (i + 1 + 1) (l ++ [mSignAt x (i + 1)])
        else mSingle x (i + 1) (l ++ [Txt.item x i])
      else mSingle x (i + 1) (l ++ [Txt.item x i])
    else none := by
  delta mSingle
  rw [WellFounded.fix_eq]
  simp only [dite_eq_ite]
theorem fillE4 {w : World} {h₀ : Heap} (h : PySem.Challenge.rw_pq0846_01.row.prog = PySem.Challenge.rw_pq0846_01.row.prog) (X : (hd.heap_39 w.params).In h₀) : (hd.heap_39 w.params).In h₀ := by
  revert h X; k_fill; intro h X; exact X
theorem single_c : ∀ {w : World} {mean mg mb} {dp un : Nat} {gd cn} {cs : Scope} {a ccd cl} {outer : List Env} {A₀ base h₀ L m} {s : Shared} {hp tk0 news} {Q E : Value → Shared → Prop} {x : Str} {tx : Tok} {i : Int} {ti : Tok} {n : Int} {tn : Tok} (B : Below A₀ base outer h₀) (F : Fr h₀ L hp m) (X : (hd.heap_39 w.params).In h₀) (N : News h₀ L hp news) (T : Top hd.view_39 (looseW hd.view_39 []) mean mg mb h₀) (hk : cs.kind = .function) (hdp : dp + 14 < recursionLimit) (hun : un + 112 < cLine) (hx : x.length ≤ 65536) (h0 : 0 ≤ i)
  (hret : ∀ l j r k1 k2 h' tk', mSingle x (i + 1) [] = some (l, j) → Fr h₀ L h' m → News h₀ L h' ((r, tupObj [.str (Txt.join (Str.ofString "") l) k1, .int (j) k2]) :: news) → (∀ p ∈ news, p.1 < r) → Q (.ref r) { s with heap := h', toks := tk' })
  (hexc : ∀ e g h' tk', mSingle x (i + 1) [] = none → Fr h₀ L g m → g.UpToSlots h' → RaisedPF w base g (envX cn cs L a ccd cl :: outer) e ("syntax error, unexpected end of file") (n) news h' → E (.ref e) { s with heap := h', toks := tk' }),
  wpAny (model PySem.Challenge.rw_pq0846_01.row.prog w) (ktrTop dp un gd cn cs L a ccd cl outer) (call (.ref 198) [.str x tx, .int i ti, .int n tn]) Q E { s with heap := hp, toks := tk0 } := by
 k_with "w" =>
  (k_extra "cp")
  (k_extra "n6"); generalize p6_1 T9 = x, p6_2 T9 = tx, p6_3 T9 = i, p6_4 T9 = ti, p6_5 T9 = n, p6_6 T9 = tn; clear T9
  intro B F X N T hk hdp hun hx h0 hret hexc
  refine wpAny_call ?_
  k_dflt (k_extra "my enter")
  repeat' (first | (k_extra "ka") | (k_extra "kb") | ((fail_if_success k_end); (k_extra "z7"); (k_extra "kc")))
  expose_names
  refine ksw_while (fun c : List (Str × Tok) × Nat × Int × Tok => (l', W.listOf (strValues c.1).toArray c.2.1) :: news) (fun c => [(Str.ofString "at", .int c.2.2.1 c.2.2.2)]) (fun _ => True) [Str.ofString "c"] (fun c => 0 ≤ c.2.2.1 ∧ c.1.length ≤ c.2.2.1 ∧ ((c.1.map (·.1)).map (·.length)).sum ≤ c.2.2.1 ∧ mSingle x (i + 1) [] = mSingle x c.2.2.1 (c.1.map (·.1))) (fun c => ((x.length : Int) - c.2.2.1).toNat) ([], _, _, _) (by k_asm) (by k_asm) trivial (by intro p hp; rw [List.mem_singleton.mp hp]; rfl) ⟨by dsimp only; omega, by dsimp only; simp; omega, by dsimp only; simp; omega, rfl⟩ ?_
  (try dsimp only); with_reducible refine (all_xxxx inferInstance ?_); generalize c4 _ _ = T9; generalize p4_1 T9 = l, p4_2 T9 = ln, p4_3 T9 = j, p4_4 T9 = tj; clear T9; (k_extra "h3"); generalize p3_1 T9 = u', p3_2 T9 = h', p3_3 T9 = tk'; clear T9; intro _ I' F' N'; (try dsimp only at I' F' N' ⊢); obtain ⟨I1, I2, I3, I4⟩ := I'
  repeat' (first | (k_extra "ka") | (k_extra "kb") | ((fail_if_success k_end); (k_extra "kc")))
  all_goals rw [mSingle_eq x j] at I4
  all_goals ((repeat (first | replace I4 := tp I4 (by k_extra "a") | replace I4 := tf I4 (by k_extra "a") | replace I4 := tn I4 (by k_extra "a") | replace I4 := sp I4 (by k_extra "a") | replace I4 := sf I4 (by k_extra "a") | replace I4 := sn I4 (by k_extra "a"))); (try simp only [*, if_true, if_false, Bool.false_eq_true, reduceCtorEq] at I4))
  · exact hret _ _ _ _ _ _ _ I4 (by k_asm) (by (k_extra "wh drop1")) (by (k_extra "wh low"))
  · refine ksw_end (l ++ [(_, _)], _, _, _) (by k_asm) (by k_asm) (by (k_extra "wh mem")) trivial (by (try dsimp only); (k_extra "wh keep")) (by (k_extra "wh same")) ?_ ?_
    · refine ⟨by dsimp only; omega, by simp; omega, ?_, by rw [I4]; simp⟩
      have := sign_len x (j + 1) (by omega)
      simp at I3 ⊢; omega
    · dsimp only; omega
  · refine ksw_end (l ++ [(_, _)], _, _, _) (by k_asm) (by k_asm) (by (k_extra "wh mem")) trivial (by (try dsimp only); (k_extra "wh keep")) (by (k_extra "wh same")) ?_ ?_
    · refine ⟨by dsimp only; omega, by simp; omega, by simp at I3 ⊢; omega, by rw [I4]; simp⟩
    · dsimp only; omega
  · refine ksw_end (l ++ [(_, _)], _, _, _) (by k_asm) (by k_asm) (by (k_extra "wh mem")) trivial (by (try dsimp only); (k_extra "wh keep")) (by (k_extra "wh same")) ?_ ?_
    · refine ⟨by dsimp only; omega, by simp; omega, by simp at I3 ⊢; omega, by rw [I4]; simp⟩
    · dsimp only; omega
  · exact hexc _ _ _ _ I4 (by k_asm) (by assumption) (RaisedPF.sub (by assumption) (by (k_extra "wh mem")))
 k_extra "q"
theorem reg75 : True := by
  k_with ".call ref" => ((k_here; (with_reducible show wpAny _ _ (call (Value.ref 198) _) _ _ _); k_dflt (refine' single_c ?kB ?kF ?kX ?kN ?kT ?kK ?zkd ?zku ?zkhx ?zkh0 ?_ ?_; (k_extra "kq"); (case zkd => k_extra "my room"); (case zku => k_extra "my room"); (case zkhx => k_extra "my side"); (case zkh0 => k_extra "my side"); ((try dsimp only); (k_extra "h7"); generalize p7_1 T9 = l, p7_2 T9 = j, p7_3 T9 = r, p7_4 T9 = k1, p7_5 T9 = k2, p7_6 T9 = h', p7_7 T9 = tk'; clear T9; (first | revert l j r k1 k2 h' tk' | ((try revert tk'); (try revert h'); (try revert k2); (try revert k1); (try revert r); (try revert j); (try revert l))); intros; (try k_sweep); (try (k_extra "kf"))); rotate_left; ((try dsimp only); (k_extra "h4"); generalize p4_1 T9 = e, p4_2 T9 = g, p4_3 T9 = h', p4_4 T9 = tk'; clear T9; (first | revert e g h' tk' | ((try revert tk'); (try revert h'); (try revert g); (try revert e))); intros; (try k_sweep)); rotate_left)))
  trivial
noncomputable def chr1 (n : Int) : Str := ⟨#[n.toNat]⟩
noncomputable def mOctets (n : Int) : Str :=
  if n < 128 then chr1 n else if n < 2048 then chr1 (192 + n / 64) ++ chr1 (128 + n % 64)
  else if n < 65536 then chr1 (224 + n / 4096) ++ (chr1 (128 + n / 64 % 64) ++ chr1 (128 + n % 64))
  else chr1 (240 + n / 262144) ++ chr1 (128 + n / 4096 % 64) ++ (chr1 (128 + n / 64 % 64) ++ chr1 (128 + n % 64))
@[irreducible] noncomputable def mDigits (x : Str) (bs most : Int) (v i : Int) : Int × Int :=
  WellFounded.fix (measure fun p : Int × Int => (most - p.2).toNat).wf (C := fun _ => Int × Int) (fun p rec =>
    if h : p.2 < most then if mDigit (mSignAt x p.2) < bs then rec (p.1 * bs + mDigit (Txt.item x p.2), p.2 + 1) (meas1 h) else (p.1, p.2) else (p.1, p.2)) (v, i)
theorem mDigits_eq (x : Str) (bs most v i : Int) : mDigits x bs most v i =
    if i < most then if mDigit (mSignAt x i) < bs then mDigits x bs most (v * bs + mDigit (Txt.item x i)) (i + 1) else (v, i) else (v, i) := by
  delta mDigits
  rw [WellFounded.fix_eq]
  simp only [dite_eq_ite]
theorem mDigits_ind (x : Str) (bs most : Int) {motive : Int → Int → Prop} (case1 : ∀ v i, i < most → mDigit (mSignAt x i) < bs → motive (v * bs + mDigit (Txt.item x i)) (i + 1) → motive v i)
    (case2 : ∀ v i, i < most → ¬ mDigit (mSignAt x i) < bs → motive v i) (case3 : ∀ v i, ¬ i < most → motive v i) (v i : Int) : motive v i :=
  WellFounded.fix (measure fun p : Int × Int => (most - p.2).toNat).wf (C := fun p => motive p.1 p.2) (fun p rec =>
    if h : p.2 < most then if k : mDigit (mSignAt x p.2) < bs then case1 p.1 p.2 h k (rec (p.1 * bs + mDigit (Txt.item x p.2), p.2 + 1) (meas1 h)) else case2 p.1 p.2 h k else case3 p.1 p.2 h) (v, i)
theorem fillE5 {w : World} {h₀ : Heap} (h : PySem.Challenge.rw_pq0846_01.row.prog = PySem.Challenge.rw_pq0846_01.row.prog) (X : (hd.heap_39 w.params).In h₀) : (hd.heap_39 w.params).In h₀ := by
  revert h X; k_fill; intro h X; exact X
theorem octets_c : ∀ {w : World} {mean mg mb} {dp un : Nat} {gd cn} {cs : Scope} {a ccd cl} {outer : List Env} {A₀ base h₀ L m} {s : Shared} {hp tk0 news} {Q E : Value → Shared → Prop} {n : Int} {tn : Tok} (B : Below A₀ base outer h₀) (F : Fr h₀ L hp m) (X : (hd.heap_39 w.params).In h₀) (N : News h₀ L hp news) (T : Top hd.view_39 (looseW hd.view_39 []) mean mg mb h₀) (hk : cs.kind = .function) (hdp : dp + 1 < recursionLimit) (hun : un + 8 < cLine) (h0 : 0 ≤ n) (h1 : n ≤ 1114111)
  (hret : ∀ t h' tk', Fr h₀ L h' m → News h₀ L h' news → Q (.str (mOctets n) t) { s with heap := h', toks := tk' }),
  wpAny (model PySem.Challenge.rw_pq0846_01.row.prog w) (ktrTop dp un gd cn cs L a ccd cl outer) (call (.ref 205) [.int n tn]) Q E { s with heap := hp, toks := tk0 } := by
  (k_extra "cp")
  (k_extra "n2"); generalize p2_1 T9 = n, p2_2 T9 = tn; clear T9
  intro B F X N T hk hdp hun h0 h1 hret
  refine wpAny_call ?_
  k_dflt (k_extra "my enter")
  repeat' (first | (k_extra "ka") | (k_extra "kb") | ((fail_if_success k_end); (k_extra "kc")))
  all_goals (refine cb_retS (Q := Q) hret ?_ (by k_asm) (by k_asm); unfold mOctets; simp only [*, if_true, if_false, shift6, shift12, shift18, bitAnd_m6]; rfl)
theorem reg76 : True := by
  k_with ".call ref" => ((k_here; (with_reducible show wpAny _ _ (call (Value.ref 205) _) _ _ _); k_dflt (refine' octets_c ?kB ?kF ?kX ?kN ?kT ?kK ?zkd ?zku ?zkh0 ?zkh1 ?_; (k_extra "kq"); (case zkd => k_extra "my room"); (case zku => k_extra "my room"); (case zkh0 => k_extra "my side"); (case zkh1 => k_extra "my side"); ((try dsimp only); (k_extra "h3"); generalize p3_1 T9 = t, p3_2 T9 = h', p3_3 T9 = tk'; clear T9; (first | revert t h' tk' | ((try revert tk'); (try revert h'); (try revert t))); intros; (try k_sweep); (try (k_extra "kf"))))))
  trivial
theorem digits_c : ∀ {w : World} {mean mg mb} {dp un : Nat} {gd cn} {cs : Scope} {a ccd cl} {outer : List Env} {A₀ base h₀ L m} {s : Shared} {hp tk0 news} {Q E : Value → Shared → Prop} {x : Str} {tx : Tok} {i bs most : Int} {ti tb tm : Tok} (B : Below A₀ base outer h₀) (F : Fr h₀ L hp m) (X : (hd.heap_39 w.params).In h₀) (N : News h₀ L hp news) (T : Top hd.view_39 (looseW hd.view_39 []) mean mg mb h₀) (hk : cs.kind = .function) (hdp : dp + 3 < recursionLimit) (hun : un + 24 < cLine) (hx : x.length ≤ 65536) (h0 : 0 ≤ i) (hb : 0 ≤ bs ∧ bs ≤ 16)
  (hret : ∀ r k1 k2 h' tk', Fr h₀ L h' m → News h₀ L h' ((r, tupObj [.int (mDigits x bs (i + most) 0 i).1 k1, .int (mDigits x bs (i + most) 0 i).2 k2]) :: news) → (∀ p ∈ news, p.1 < r) → 0 ≤ (mDigits x bs (i + most) 0 i).1 → i ≤ (mDigits x bs (i + most) 0 i).2 → Q (.ref r) { s with heap := h', toks := tk' }),
  wpAny (model PySem.Challenge.rw_pq0846_01.row.prog w) (ktrTop dp un gd cn cs L a ccd cl outer) (call (.ref 212) [.str x tx, .int i ti, .int bs tb, .int most tm]) Q E { s with heap := hp, toks := tk0 } := by
 k_with "w" =>
  (k_extra "cp")
  (k_extra "n8"); generalize p8_1 T9 = x, p8_2 T9 = tx, p8_3 T9 = i, p8_4 T9 = bs, p8_5 T9 = most, p8_6 T9 = ti, p8_7 T9 = tb, p8_8 T9 = tm; clear T9
  intro B F X N T hk hdp hun hx h0 hb hret
  refine wpAny_call ?_
  k_dflt (k_extra "my enter")
  repeat' (first | (k_extra "ka") | (k_extra "kb") | ((fail_if_success k_end); (k_extra "z7"); (k_extra "kc")))
  expose_names
  refine ksw_while (fun c : Int × Tok × Int × Tok => news) (fun c => [(Str.ofString "value", .int c.1 c.2.1), (Str.ofString "behind", .int c.2.2.1 c.2.2.2)]) (fun _ => True) [] (fun c => i ≤ c.2.2.1 ∧ 0 ≤ c.1 ∧ mDigits x bs (i + most) 0 i = mDigits x bs (i + most) c.1 c.2.2.1) (fun c => (i + most - c.2.2.1).toNat) (0, _, i, _) (by k_asm) (by k_asm) trivial (by (k_extra "wh keep")) ⟨by dsimp only; omega, by dsimp only; omega, rfl⟩ ?_
  (try dsimp only); with_reducible refine (all_xxxx inferInstance ?_); generalize c4 _ _ = T9; generalize p4_1 T9 = v, p4_2 T9 = tv, p4_3 T9 = j, p4_4 T9 = tj; clear T9; (k_extra "h3"); generalize p3_1 T9 = u', p3_2 T9 = h', p3_3 T9 = tk'; clear T9; intro _ I' F' N'; (try dsimp only at I' F' N' ⊢); obtain ⟨I1, I2, I3⟩ := I'
  rw [mDigits_eq x bs _ v j] at I3
  repeat' (first | (k_extra "ka") | (k_extra "kb") | ((fail_if_success k_end); (k_extra "sA"); (k_extra "kc")))
  · have hj : j < (x.length : Int) := digit_in (by omega) hb.2 (by assumption)
    repeat' (first | (k_extra "ka") | (k_extra "kb") | ((fail_if_success k_end); (k_extra "kc")))
    refine ksw_end (_, _, _, _) (by k_asm) (by k_asm) (by (k_extra "wh mem")) trivial (by (try dsimp only); (k_extra "wh keep")) (by (k_extra "wh same")) ?_ ?_
    · ((repeat (first | replace I3 := tp I3 (by k_extra "a") | replace I3 := tf I3 (by k_extra "a") | replace I3 := tn I3 (by k_extra "a") | replace I3 := sp I3 (by k_extra "a") | replace I3 := sf I3 (by k_extra "a") | replace I3 := sn I3 (by k_extra "a"))); (try simp only [*, if_true, if_false, Bool.false_eq_true, reduceCtorEq] at I3))
      refine ⟨by dsimp only; omega, ?_, I3⟩
      have := digit_nn (Txt.item x j)
      have := Int.mul_nonneg I2 hb.1
      dsimp only; omega
    · dsimp only; omega
  all_goals repeat' (first | (k_extra "ka") | (k_extra "kb") | ((fail_if_success k_end); (k_extra "kc")))
  all_goals (((repeat (first | replace I3 := tp I3 (by k_extra "a") | replace I3 := tf I3 (by k_extra "a") | replace I3 := tn I3 (by k_extra "a") | replace I3 := sp I3 (by k_extra "a") | replace I3 := sf I3 (by k_extra "a") | replace I3 := sn I3 (by k_extra "a"))); (try simp only [*, if_true, if_false, Bool.false_eq_true, reduceCtorEq] at I3)); have e1 := congrArg Prod.fst I3; have e2 := congrArg Prod.snd I3; dsimp only at e1 e2)
  all_goals exact hret _ _ _ _ _ (by k_asm) (by rw [e1, e2]; (k_extra "wh drop1")) (by (k_extra "wh low")) (by omega) (by omega)
 k_extra "q"
theorem reg77 : True := by
  k_with ".call ref" => ((k_here; (with_reducible show wpAny _ _ (call (Value.ref 212) _) _ _ _); k_dflt (refine' digits_c ?kB ?kF ?kX ?kN ?kT ?kK ?zkd ?zku ?zkhx ?zkh0 ?zkhb ?_; (k_extra "kq"); (case zkd => k_extra "my room"); (case zku => k_extra "my room"); (case zkhx => k_extra "my side"); (case zkh0 => k_extra "my side"); (case zkhb => k_extra "my side"); ((try dsimp only); (k_extra "h5"); generalize p5_1 T9 = r, p5_2 T9 = k1, p5_3 T9 = k2, p5_4 T9 = h', p5_5 T9 = tk'; clear T9; (first | revert r k1 k2 h' tk' | ((try revert tk'); (try revert h'); (try revert k2); (try revert k1); (try revert r))); intros; (try k_sweep); (try (k_extra "kf"))))))
  trivial
noncomputable def why1 : Str := Str.ofString "Invalid UTF-8 codepoint escape sequence"
noncomputable def why2 : Str := Str.ofString "Invalid UTF-8 codepoint escape sequence: Codepoint too large"
noncomputable def mPoint (x : Str) (i : Int) : Except Str (Str × Int) :=
  if (mDigits x 16 (i + x.length) 0 i).2 = i then .error why1
  else if (mSignAt x (mDigits x 16 (i + x.length) 0 i).2 != Str.ofString "}") = true then .error why1
  else if (mDigits x 16 (i + x.length) 0 i).1 > 1114111 then .error why2
  else .ok (mOctets (mDigits x 16 (i + x.length) 0 i).1, (mDigits x 16 (i + x.length) 0 i).2 + 1)
theorem fillE6 {w : World} {h₀ : Heap} (h : PySem.Challenge.rw_pq0846_01.row.prog = PySem.Challenge.rw_pq0846_01.row.prog) (X : (hd.heap_39 w.params).In h₀) : (hd.heap_39 w.params).In h₀ := by
  revert h X; k_fill; intro h X; exact X
theorem point_c : ∀ {w : World} {mean mg mb} {dp un : Nat} {gd cn} {cs : Scope} {a ccd cl} {outer : List Env} {A₀ base h₀ L m} {s : Shared} {hp tk0 news} {Q E : Value → Shared → Prop} {x : Str} {tx : Tok} {i n : Int} {ti tn : Tok} (B : Below A₀ base outer h₀) (F : Fr h₀ L hp m) (X : (hd.heap_39 w.params).In h₀) (N : News h₀ L hp news) (T : Top hd.view_39 (looseW hd.view_39 []) mean mg mb h₀) (hk : cs.kind = .function) (hdp : dp + 14 < recursionLimit) (hun : un + 112 < cLine) (hx : x.length ≤ 65536) (h0 : 0 ≤ i)
  (hret : ∀ y j r k1 k2 h' tk', mPoint x i = .ok (y, j) → Fr h₀ L h' m → News h₀ L h' ((r, tupObj [.str (y) k1, .int (j) k2]) :: news) → (∀ p ∈ news, p.1 < r) → Q (.ref r) { s with heap := h', toks := tk' })
  (hexc : ∀ y e g h' tk', mPoint x i = .error y → Fr h₀ L g m → g.UpToSlots h' → RaisedPF w base g (envX cn cs L a ccd cl :: outer) e (y) (n) news h' → E (.ref e) { s with heap := h', toks := tk' }),
  wpAny (model PySem.Challenge.rw_pq0846_01.row.prog w) (ktrTop dp un gd cn cs L a ccd cl outer) (call (.ref 219) [.str x tx, .int i ti, .int n tn]) Q E { s with heap := hp, toks := tk0 } := by
 k_with "w" =>
  (k_extra "cp")
  (k_extra "n6"); generalize p6_1 T9 = x, p6_2 T9 = tx, p6_3 T9 = i, p6_4 T9 = n, p6_5 T9 = ti, p6_6 T9 = tn; clear T9
  intro B F X N T hk hdp hun hx h0 hret hexc
  refine wpAny_call ?_
  k_dflt (k_extra "my enter")
  repeat' (first | (k_extra "ka") | (k_extra "kb") | ((fail_if_success k_end); (k_extra "kc")))
  all_goals first | exact hexc _ _ _ _ _ (by unfold mPoint; simp only [*, if_true, if_false, Bool.false_eq_true, ne_eq, not_false_eq_true, not_true_eq_false]; first | done | rfl) (by k_asm) (by assumption) (RaisedPF.sub (by assumption) (by (k_extra "wh mem"))) | exact hret _ _ _ _ _ _ _ (by unfold mPoint; simp only [*, if_true, if_false, Bool.false_eq_true, ne_eq, not_false_eq_true, not_true_eq_false]; first | done | rfl) (by k_asm) (by (k_extra "wh drop1")) (by (k_extra "wh low"))
 k_extra "q"
theorem reg78 : True := by
  k_with ".call ref" => ((k_here; (with_reducible show wpAny _ _ (call (Value.ref 219) _) _ _ _); k_dflt (refine' point_c ?kB ?kF ?kX ?kN ?kT ?kK ?zkd ?zku ?zkhx ?zkh0 ?_ ?_; (k_extra "kq"); (case zkd => k_extra "my room"); (case zku => k_extra "my room"); (case zkhx => k_extra "my side"); (case zkh0 => k_extra "my side"); ((try dsimp only); (k_extra "h7"); generalize p7_1 T9 = y, p7_2 T9 = j, p7_3 T9 = r, p7_4 T9 = k1, p7_5 T9 = k2, p7_6 T9 = h', p7_7 T9 = tk'; clear T9; (first | revert y j r k1 k2 h' tk' | ((try revert tk'); (try revert h'); (try revert k2); (try revert k1); (try revert r); (try revert j); (try revert y))); intros; (try k_sweep); (try (k_extra "kf"))); rotate_left; ((try dsimp only); (k_extra "h5"); generalize p5_1 T9 = y, p5_2 T9 = e, p5_3 T9 = g, p5_4 T9 = h', p5_5 T9 = tk'; clear T9; (first | revert y e g h' tk' | ((try revert tk'); (try revert h'); (try revert g); (try revert e); (try revert y))); intros; (try k_sweep)); rotate_left)))
  trivial
noncomputable def plainOf (k : Str) : Option Str := if k = Str.ofString "n" then some (Str.ofString "\n") else if k = Str.ofString "t" then some (Str.ofString "\t") else if k = Str.ofString "r" then some (Str.ofString "\r") else if k = Str.ofString "v" then some (Str.ofString "\x0b") else if k = Str.ofString "e" then some (Str.ofString "\x1b") else if k = Str.ofString "f" then some (Str.ofString "\x0c") else if k = Str.ofString "\\" then some (Str.ofString "\\") else if k = Str.ofString "$" then some (Str.ofString "$") else none
noncomputable def PlainKV (kvs : List (Str × Value)) : Prop := ∀ k, (plainOf k = none ∧ (PySem.valueAt kvs k).isSome = false) ∨ ∃ y u, plainOf k = some y ∧ PySem.valueAt kvs k = some (.str y u) ∧ (PySem.valueAt kvs k).isSome = true
theorem plain_kv (u0 u1 u2 u3 u4 u5 u6 u7 : Tok) : PlainKV [(Str.ofString "n", .str (Str.ofString "\n") u0), (Str.ofString "t", .str (Str.ofString "\t") u1), (Str.ofString "r", .str (Str.ofString "\r") u2), (Str.ofString "v", .str (Str.ofString "\x0b") u3), (Str.ofString "e", .str (Str.ofString "\x1b") u4), (Str.ofString "f", .str (Str.ofString "\x0c") u5), (Str.ofString "\\", .str (Str.ofString "\\") u6), (Str.ofString "$", .str (Str.ofString "$") u7)] := by
 k_with "w" =>
  revert u0 u1 u2 u3 u4 u5 u6 u7
  (k_extra "n8"); generalize p8_1 T9 = u0, p8_2 T9 = u1, p8_3 T9 = u2, p8_4 T9 = u3, p8_5 T9 = u4, p8_6 T9 = u5, p8_7 T9 = u6, p8_8 T9 = u7; clear T9
  unfold PlainKV
  (k_extra "n1"); generalize c1 _ _ = k
  unfold plainOf PySem.valueAt
  by_cases h0 : Str.ofString "n" = k
  · right; subst h0; exact ⟨Str.ofString "\n", u0, by decide, by rfl, by rfl⟩
  by_cases h1 : Str.ofString "t" = k
  · right; subst h1; exact ⟨Str.ofString "\t", u1, by decide, by rfl, by rfl⟩
  by_cases h2 : Str.ofString "r" = k
  · right; subst h2; exact ⟨Str.ofString "\r", u2, by decide, by rfl, by rfl⟩
  by_cases h3 : Str.ofString "v" = k
  · right; subst h3; exact ⟨Str.ofString "\x0b", u3, by decide, by rfl, by rfl⟩
  by_cases h4 : Str.ofString "e" = k
  · right; subst h4; exact ⟨Str.ofString "\x1b", u4, by decide, by rfl, by rfl⟩
  by_cases h5 : Str.ofString "f" = k
  · right; subst h5; exact ⟨Str.ofString "\x0c", u5, by decide, by rfl, by rfl⟩
  by_cases h6 : Str.ofString "\\" = k
  · right; subst h6; exact ⟨Str.ofString "\\", u6, by decide, by rfl, by rfl⟩
  by_cases h7 : Str.ofString "$" = k
  · right; subst h7; exact ⟨Str.ofString "$", u7, by decide, by rfl, by rfl⟩
  left
  simp [List.find?, h0, Ne.symm h0, h1, Ne.symm h1, h2, Ne.symm h2, h3, Ne.symm h3, h4, Ne.symm h4, h5, Ne.symm h5, h6, Ne.symm h6, h7, Ne.symm h7]
 k_extra "q"
theorem plain_dict {prog : Program} {w : World} {o : Obj} {t0 u0 t1 u1 t2 u2 t3 u3 t4 u4 t5 u5 t6 u6 t7 u7 : Tok} (hd : o.IsDictOf (PySem.strKind prog w) (PySem.strPairs [(.str (Str.ofString "n") t0, .str (Str.ofString "\n") u0), (.str (Str.ofString "t") t1, .str (Str.ofString "\t") u1), (.str (Str.ofString "r") t2, .str (Str.ofString "\r") u2), (.str (Str.ofString "v") t3, .str (Str.ofString "\x0b") u3), (.str (Str.ofString "e") t4, .str (Str.ofString "\x1b") u4), (.str (Str.ofString "f") t5, .str (Str.ofString "\x0c") u5), (.str (Str.ofString "\\") t6, .str (Str.ofString "\\") u6), (.str (Str.ofString "$") t7, .str (Str.ofString "$") u7)])) : ∃ kvs, o.IsDictOf (PySem.strKind prog w) kvs ∧ PlainKV kvs := ⟨_, hd, plain_kv u0 u1 u2 u3 u4 u5 u6 u7⟩
theorem item_sign {x : Str} {i : Int} (h0 : 0 ≤ i) (h : i < (x.length : Int)) : Txt.item x i = mSignAt x i := item_slice x h0 h
theorem digits_2 (x : Str) (i : Int) (h : 0 ≤ i) : (mDigits x 16 (i + 2) 0 i).1 ≤ 255 ∧ 0 ≤ (mDigits x 16 (i + 2) 0 i).1 := by
 k_with "w" =>
  rw [mDigits_eq, if_pos (by omega)]
  split
  · rename_i h1
    have a1 := digit_nn (mSignAt x i)
    have b1 := item_sign h (digit_in h (by decide) h1)
    rw [mDigits_eq, if_pos (by omega), b1]
    split
    · rename_i h2
      have a2 := digit_nn (mSignAt x (i + 1))
      have b2 := item_sign (by omega) (digit_in (by omega) (by decide) h2)
      rw [mDigits_eq, if_neg (by omega), b2]
      dsimp only; omega
    · dsimp only; omega
  · dsimp only; omega
 k_extra "q"
theorem digits_nn (x : Str) (b m : Int) (hb : 0 ≤ b) : ∀ (v i : Int), 0 ≤ v → 0 ≤ (mDigits x b m v i).1 := by
  intro v i
  induction v, i using mDigits_ind x b m with
  | case1 v i h1 h2 ih =>
    intro hv
    rw [mDigits_eq, if_pos h1, if_pos h2]
    have := digit_nn (Txt.item x i)
    have := Int.mul_nonneg hv hb
    exact ih (by omega)
  | case2 v i h1 h2 => intro hv; rw [mDigits_eq, if_pos h1, if_neg h2]; exact hv
  | case3 v i h1 => intro hv; rw [mDigits_eq, if_neg h1]; exact hv
noncomputable def mEscape (x : Str) (i : Int) (q : Str) : Except Str (Str × Int) :=
  match plainOf (mSignAt x (i + 1)) with
  | some y => .ok (y, i + 2)
  | none =>
    if (mSignAt x (i + 1) != Str.ofString "") = true ∧ (mSignAt x (i + 1) == q) = true then .ok (mSignAt x (i + 1), i + 2)
    else if mDigit (mSignAt x (i + 1)) < 8 then .ok (chr1 (Builtin.bitAnd (mDigits x 8 (i + 1 + 3) 0 (i + 1)).1 255), (mDigits x 8 (i + 1 + 3) 0 (i + 1)).2)
    else if ([Str.ofString "x", Str.ofString "X"].any fun y => y == mSignAt x (i + 1)) = true ∧ mDigit (mSignAt x (i + 2)) < 16 then .ok (chr1 (mDigits x 16 (i + 2 + 2) 0 (i + 2)).1, (mDigits x 16 (i + 2 + 2) 0 (i + 2)).2)
    else if (mSignAt x (i + 1) == Str.ofString "u") = true ∧ (mSignAt x (i + 2) == Str.ofString "{") = true then mPoint x (i + 3)
    else if (mSignAt x (i + 1) == Str.ofString "{") = true then .ok (Str.ofString "\\{", i + 2)
    else .ok (Str.ofString "\\", i + 1)
theorem reg79 : True := by
  k_with ".compareOp In str ref" => ((k_here; (with_reducible show wpAny _ _ (compareOp CmpOp.In (Value.str _ _) (Value.ref _)) _ _ _); k_dflt (first | refine kda_in (knd := PySem.strKind _ _) (by k_asm) (by k_mem) (by k_asm) (by k_asm) (strKind_is _ _ _ _) true (by k_extra "a") ?_ | refine kda_in (knd := PySem.strKind _ _) (by k_asm) (by k_mem) (by k_asm) (by k_asm) (strKind_is _ _ _ _) false (by k_extra "a") ?_)))
  k_with ".subscriptTail" => ((k_here; (with_reducible show wpAny _ _ (subscriptTail _ _ (Value.ref _) (Value.str _ _)) _ _ _); k_dflt (refine kda_item (knd := PySem.strKind _ _) (by k_asm) (by k_mem) (by k_asm) (strKind_is _ _ _ _) (by k_extra "a") ?_)))
  trivial
theorem fillE7 {w : World} {h₀ : Heap} (h : PySem.Challenge.rw_pq0846_01.row.prog = PySem.Challenge.rw_pq0846_01.row.prog) (X : (hd.heap_39 w.params).In h₀) : (hd.heap_39 w.params).In h₀ := by
  revert h X; k_fill; intro h X; exact X
theorem escape_c : ∀ {w : World} {mean mg mb} {dp un : Nat} {gd cn} {cs : Scope} {a ccd cl} {outer : List Env} {A₀ base h₀ L m} {s : Shared} {hp tk0 news} {Q E : Value → Shared → Prop} {x q : Str} {tx tq : Tok} {i n : Int} {ti tn : Tok} (B : Below A₀ base outer h₀) (F : Fr h₀ L hp m) (X : (hd.heap_39 w.params).In h₀) (N : News h₀ L hp news) (T : Top hd.view_39 (looseW hd.view_39 []) mean mg mb h₀) (hk : cs.kind = .function) (hdp : dp + 18 < recursionLimit) (hun : un + 144 < cLine) (hx : x.length ≤ 65536) (h0 : 0 ≤ i)
  (hret : ∀ y j r k1 k2 h' tk', mEscape x i q = .ok (y, j) → Fr h₀ L h' m → News h₀ L h' ((r, tupObj [.str (y) k1, .int (j) k2]) :: news) → (∀ p ∈ news, p.1 < r) → Q (.ref r) { s with heap := h', toks := tk' })
  (hexc : ∀ y e g h' tk', mEscape x i q = .error y → Fr h₀ L g m → g.UpToSlots h' → RaisedPF w base g (envX cn cs L a ccd cl :: outer) e (y) (n) news h' → E (.ref e) { s with heap := h', toks := tk' }),
  wpAny (model PySem.Challenge.rw_pq0846_01.row.prog w) (ktrTop dp un gd cn cs L a ccd cl outer) (call (.ref 226) [.str x tx, .int i ti, .str q tq, .int n tn]) Q E { s with heap := hp, toks := tk0 } := by
 k_with "w" =>
  (k_extra "cp")
  (k_extra "n8"); generalize p8_1 T9 = x, p8_2 T9 = q, p8_3 T9 = tx, p8_4 T9 = tq, p8_5 T9 = i, p8_6 T9 = n, p8_7 T9 = ti, p8_8 T9 = tn; clear T9
  intro B F X N T hk hdp hun hx h0 hret hexc
  refine wpAny_call ?_
  k_dflt (k_extra "my enter")
  repeat' (first | (k_extra "ka") | (k_extra "kb") | ((fail_if_success k_end); (k_extra "sI"); (k_extra "kc")))
  expose_names
  have hx9 := plain_dict hd'
  clear hd'
  (with_reducible rename Heap => h9); revert o' h9; (k_extra "g2"); intros
  (with_reducible rename Exists _ => hx9)
  obtain ⟨kvs, hd2, hp⟩ := hx9
  have hdg := digits_2 x (i + 2) (by omega)
  have hdo := digits_nn x 8 (i + 1 + 3) (by decide) 0 (i + 1) (by decide)
  rcases hp (mSignAt x (i + 1)) with ⟨q1, q2⟩ | ⟨y, u, q1, q2, q3⟩
  rotate_left
  · repeat' (first | (k_extra "ka") | (k_extra "kb") | ((fail_if_success k_end); (k_extra "kc")))
    exact hret _ _ _ _ _ _ _ (by unfold mEscape; rw [q1]; (try simp only [*, if_true, if_false, Bool.false_eq_true, and_self]); try rfl) (by k_asm) (by (k_extra "wh drop1")) (by (k_extra "wh low"))
  refine wpAny_If ?_
  repeat' (first | (k_extra "ka") | (k_extra "kb") | ((fail_if_success k_end); (k_extra "sI"); (k_extra "kc")))
  refine if_join ((mSignAt x (i + 1) != Str.ofString "") = true ∧ (mSignAt x (i + 1) == q) = true) (by k_asm) (by k_asm) ?_ ?_ ?_
  · repeat' (first | (k_extra "ka") | (k_extra "kb") | ((fail_if_success k_end); (k_extra "kc")))
    all_goals first | (k_extra "jb") | (fail "open")
  · intro hP; (try dsimp only); (k_extra "h2"); generalize p2_1 T9 = h', p2_2 T9 = tk'; clear T9; intro F' N'
    repeat' (first | (k_extra "ka") | (k_extra "kb") | ((fail_if_success k_end); (k_extra "kc")))
    exact hret _ _ _ _ _ _ _ (by unfold mEscape; rw [q1]; (try simp only [*, if_true, if_false, Bool.false_eq_true, and_self]); try rfl) (by k_asm) (by (k_extra "wh drop1")) (by (k_extra "wh low"))
  intro hP; (try dsimp only); (k_extra "h2"); generalize p2_1 T9 = h', p2_2 T9 = tk'; clear T9; intro F' N'
  repeat' (first | (k_extra "ka") | (k_extra "kb") | ((fail_if_success k_end); (k_extra "sI"); (k_extra "kc")))
  refine if_join (mDigit (mSignAt x (i + 1)) < 8) (by k_asm) (by k_asm) ?_ ?_ ?_
  · repeat' (first | (k_extra "ka") | (k_extra "kb") | ((fail_if_success k_end); (k_extra "kc")))
    all_goals first | (k_extra "jb") | (fail "open")
  · intro hP; (try dsimp only); (k_extra "h2"); generalize p2_1 T9 = h', p2_2 T9 = tk'; clear T9; intro F' N'
    repeat' (first | (k_extra "ka") | (k_extra "kb") | ((fail_if_success k_end); (k_extra "kc")))
    exact hret _ _ _ _ _ _ _ (by unfold mEscape; rw [q1]; (try simp only [*, if_true, if_false, Bool.false_eq_true, and_self]); try rfl) (by k_asm) (by (k_extra "wh drop1")) (by (k_extra "wh low"))
  intro hP; (try dsimp only); (k_extra "h2"); generalize p2_1 T9 = h', p2_2 T9 = tk'; clear T9; intro F' N'
  repeat' (first | (k_extra "ka") | (k_extra "kb") | ((fail_if_success k_end); (k_extra "sI"); (k_extra "kc")))
  refine if_join (([Str.ofString "x", Str.ofString "X"].any fun y => y == mSignAt x (i + 1)) = true ∧ mDigit (mSignAt x (i + 2)) < 16) (by k_asm) (by k_asm) ?_ ?_ ?_
  · repeat' (first | (k_extra "ka") | (k_extra "kb") | ((fail_if_success k_end); (k_extra "kc")))
    all_goals first | (k_extra "jb") | (fail "open")
  · intro hP; (try dsimp only); (k_extra "h2"); generalize p2_1 T9 = h', p2_2 T9 = tk'; clear T9; intro F' N'
    repeat' (first | (k_extra "ka") | (k_extra "kb") | ((fail_if_success k_end); (k_extra "kc")))
    exact hret _ _ _ _ _ _ _ (by unfold mEscape; rw [q1]; (try simp only [*, if_true, if_false, Bool.false_eq_true, and_self]); try rfl) (by k_asm) (by (k_extra "wh drop1")) (by (k_extra "wh low"))
  intro hP; (try dsimp only); (k_extra "h2"); generalize p2_1 T9 = h', p2_2 T9 = tk'; clear T9; intro F' N'
  repeat' (first | (k_extra "ka") | (k_extra "kb") | ((fail_if_success k_end); (k_extra "sI"); (k_extra "kc")))
  refine if_join ((mSignAt x (i + 1) == Str.ofString "u") = true ∧ (mSignAt x (i + 2) == Str.ofString "{") = true) (by k_asm) (by k_asm) ?_ ?_ ?_
  · repeat' (first | (k_extra "ka") | (k_extra "kb") | ((fail_if_success k_end); (k_extra "kc")))
    all_goals first | (k_extra "jb") | (fail "open")
  · intro hP; (try dsimp only); (k_extra "h2"); generalize p2_1 T9 = h', p2_2 T9 = tk'; clear T9; intro F' N'
    repeat' (first | (k_extra "ka") | (k_extra "kb") | ((fail_if_success k_end); (k_extra "kc")))
    all_goals first | exact hret _ _ _ _ _ _ _ (by unfold mEscape; rw [q1]; (try simp only [*, if_true, if_false, Bool.false_eq_true, and_self]); try rfl) (by k_asm) (by (k_extra "wh drop1")) (by (k_extra "wh low")) | exact hexc _ _ _ _ _ (by unfold mEscape; rw [q1]; (try simp only [*, if_true, if_false, Bool.false_eq_true, and_self]); try rfl) (by k_asm) (by assumption) (RaisedPF.sub (by assumption) (by (k_extra "wh mem")))
  intro hP; (try dsimp only); (k_extra "h2"); generalize p2_1 T9 = h', p2_2 T9 = tk'; clear T9; intro F' N'
  repeat' (first | (k_extra "ka") | (k_extra "kb") | ((fail_if_success k_end); (k_extra "kc")))
  all_goals exact hret _ _ _ _ _ _ _ (by unfold mEscape; rw [q1]; (try simp only [*, if_true, if_false, Bool.false_eq_true, and_self]); try rfl) (by k_asm) (by (k_extra "wh drop1")) (by (k_extra "wh low"))
 k_extra "q"
theorem reg81 : True := by
  k_with ".call ref" => ((k_here; (with_reducible show wpAny _ _ (call (Value.ref 226) _) _ _ _); k_dflt (refine' escape_c ?kB ?kF ?kX ?kN ?kT ?kK ?zkd ?zku ?zkhx ?zkh0 ?_ ?_; (k_extra "kq"); (case zkd => k_extra "my room"); (case zku => k_extra "my room"); (case zkhx => k_extra "my side"); (case zkh0 => k_extra "my side"); ((try dsimp only); (k_extra "h7"); generalize p7_1 T9 = y, p7_2 T9 = j, p7_3 T9 = r, p7_4 T9 = k1, p7_5 T9 = k2, p7_6 T9 = h', p7_7 T9 = tk'; clear T9; (first | revert y j r k1 k2 h' tk' | ((try revert tk'); (try revert h'); (try revert k2); (try revert k1); (try revert r); (try revert j); (try revert y))); intros; (try k_sweep); (try (k_extra "kf"))); rotate_left; ((try dsimp only); (k_extra "h5"); generalize p5_1 T9 = y, p5_2 T9 = e, p5_3 T9 = g, p5_4 T9 = h', p5_5 T9 = tk'; clear T9; (first | revert y e g h' tk' | ((try revert tk'); (try revert h'); (try revert g); (try revert e); (try revert y))); intros; (try k_sweep)); rotate_left)))
  trivial
noncomputable def mLexEnd (x : Str) (i : Int) : Int := Txt.find3 x (Str.ofString "}") i + 1
noncomputable def mLexTok (x : Str) (i : Int) : Str := Txt.slice x (some i) (some (mLexEnd x i))
theorem fillE8 {w : World} {h₀ : Heap} (h : PySem.Challenge.rw_pq0846_01.row.prog = PySem.Challenge.rw_pq0846_01.row.prog) (X : (hd.heap_39 w.params).In h₀) : (hd.heap_39 w.params).In h₀ := by
  revert h X; k_fill; intro h X; exact X
theorem lex_c : ∀ {w : World} {mean mg mb} {dp un : Nat} {gd cn} {cs : Scope} {a ccd cl} {outer : List Env} {A₀ base h₀ L m} {s : Shared} {hp tk0 news} {Q E : Value → Shared → Prop} {x : Str} {tx : Tok} {i n : Int} {ti tn : Tok} (B : Below A₀ base outer h₀) (F : Fr h₀ L hp m) (X : (hd.heap_39 w.params).In h₀) (N : News h₀ L hp news) (T : Top hd.view_39 (looseW hd.view_39 []) mean mg mb h₀) (hk : cs.kind = .function) (hdp : dp + 18 < recursionLimit) (hun : un + 144 < cLine) (hx : x.length ≤ 65536) (h0 : 0 ≤ i)
  (hret : ∀ r t k1 k2 k3 k4 h' tk', Fr h₀ L h' m → News h₀ L h' ((r, tupObj [.ref t, .int (mLexEnd x i) k1, .int n k2]) :: (t, tupObj [.str (mLexTok x i) k3, .int n k4]) :: news) → (∀ p ∈ news, p.1 < t) → t < r → Q (.ref r) { s with heap := h', toks := tk' }),
  wpAny (model PySem.Challenge.rw_pq0846_01.row.prog w) (ktrTop dp un gd cn cs L a ccd cl outer) (call (.ref 392) [.str x tx, .int i ti, .int n tn]) Q E { s with heap := hp, toks := tk0 } := by
  (k_extra "cp")
  (k_extra "n6"); generalize p6_1 T9 = x, p6_2 T9 = tx, p6_3 T9 = i, p6_4 T9 = n, p6_5 T9 = ti, p6_6 T9 = tn; clear T9
  intro B F X N T hk hdp hun hx h0 hret
  refine wpAny_call ?_
  k_dflt (k_extra "my enter")
  repeat' (first | (k_extra "ka") | (k_extra "kb") | ((fail_if_success k_end); (k_extra "kc")))
  exact hret _ _ _ _ _ _ _ _ (by k_asm) (by k_asm) (by (k_extra "wh low")) (by (k_extra "wh lt"))
theorem reg82 : True := by
  k_with ".call ref" => ((k_here; (with_reducible show wpAny _ _ (call (Value.ref 392) _) _ _ _); k_dflt (refine' lex_c ?kB ?kF ?kX ?kN ?kT ?kK ?zkd ?zku ?zkhx ?zkh0 ?_; (k_extra "kq"); (case zkd => k_extra "my room"); (case zku => k_extra "my room"); (case zkhx => k_extra "my side"); (case zkh0 => k_extra "my side"); ((try dsimp only); (k_extra "h8"); generalize p8_1 T9 = r, p8_2 T9 = t, p8_3 T9 = k1, p8_4 T9 = k2, p8_5 T9 = k3, p8_6 T9 = k4, p8_7 T9 = h', p8_8 T9 = tk'; clear T9; (first | revert r t k1 k2 k3 k4 h' tk' | ((try revert tk'); (try revert h'); (try revert k4); (try revert k3); (try revert k2); (try revert k1); (try revert t); (try revert r))); intros; (try k_sweep); (try (k_extra "kf"))))))
  trivial
theorem blanks_c : ∀ {w : World} {mean mg mb} {dp un : Nat} {gd cn} {cs : Scope} {a ccd cl} {outer : List Env} {A₀ base h₀ L m} {s : Shared} {hp tk0 news} {Q E : Value → Shared → Prop} {x : Str} {tx : Tok} {i : Int} {ti : Tok} (B : Below A₀ base outer h₀) (F : Fr h₀ L hp m) (X : (hd.heap_39 w.params).In h₀) (N : News h₀ L hp news) (T : Top hd.view_39 (looseW hd.view_39 []) mean mg mb h₀) (hk : cs.kind = .function) (hdp : dp + 5 < recursionLimit) (hun : un + 40 < cLine) (hx : x.length ≤ 65536) (h0 : 0 ≤ i)
  (hret : ∀ t h' tk', Fr h₀ L h' m → News h₀ L h' news → Q (.int (mBlanks x i) t) { s with heap := h', toks := tk' }),
  wpAny (model PySem.Challenge.rw_pq0846_01.row.prog w) (ktrTop dp un gd cn cs L a ccd cl outer) (call (.ref 163) [.str x tx, .int i ti]) Q E { s with heap := hp, toks := tk0 } := by
 k_with "w" =>
  (k_extra "cp")
  (k_extra "n4"); generalize p4_1 T9 = x, p4_2 T9 = tx, p4_3 T9 = i, p4_4 T9 = ti; clear T9
  intro B F X N T hk hdp hun hx h0 hret
  refine wpAny_call ?_
  k_dflt (k_extra "my enter")
  repeat' (first | (k_extra "ka") | (k_extra "kb") | ((fail_if_success k_end); (k_extra "z7"); (k_extra "kc")))
  expose_names
  refine ksw_while (fun _ : Int × Tok => news) (fun c => [(Str.ofString "at", .int c.1 c.2)]) (fun _ => True) [] (fun c => 0 ≤ c.1 ∧ mBlanks x i = mBlanks x c.1) (fun c => ((x.length : Int) - c.1).toNat) (i, ti) (by k_asm) (by k_asm) trivial (by (k_extra "wh keep")) ⟨h0, rfl⟩ ?_
  (try dsimp only); with_reducible refine (all_xx inferInstance ?_); generalize c2 _ _ = T9; generalize p2_1 T9 = j, p2_2 T9 = tj; clear T9; (k_extra "h3"); generalize p3_1 T9 = u', p3_2 T9 = h', p3_3 T9 = tk'; clear T9; intro _ I' F' N'; (try dsimp only at I' F' N' ⊢); obtain ⟨I1, I2⟩ := I'
  repeat' (first | (k_extra "ka") | (k_extra "kb") | ((fail_if_success k_end); (k_extra "kc")))
  · refine ksw_end (_, _) (by k_asm) (by k_asm) (by (k_extra "wh mem")) trivial (by (try dsimp only); (k_extra "wh keep")) (by (k_extra "wh same")) ?_ ?_
    · exact ⟨by dsimp only; omega, by rw [I2]; exact scan_step (by assumption) (by assumption)⟩
    · dsimp only; omega
  · refine cb_retI (Q := Q) hret ?_ (by k_asm) (by (k_extra "wh drop"))
    rw [I2]; exact (scan_stop fun _ => by assumption).symm
  · refine cb_retI (Q := Q) hret ?_ (by k_asm) (by (k_extra "wh drop"))
    rw [I2]; exact (scan_stop fun q => absurd q (by assumption)).symm
 k_extra "q"
theorem reg83 : True := by
  k_with ".call ref" => ((k_here; (with_reducible show wpAny _ _ (call (Value.ref 163) _) _ _ _); k_dflt (refine' blanks_c ?kB ?kF ?kX ?kN ?kT ?kK ?zkd ?zku ?zkhx ?zkh0 ?_; (k_extra "kq"); (case zkd => k_extra "my room"); (case zku => k_extra "my room"); (case zkhx => k_extra "my side"); (case zkh0 => k_extra "my side"); ((try dsimp only); (k_extra "h3"); generalize p3_1 T9 = t, p3_2 T9 = h', p3_3 T9 = tk'; clear T9; (first | revert t h' tk' | ((try revert tk'); (try revert h'); (try revert t))); intros; (try k_sweep); (try (k_extra "kf"))))))
  trivial
theorem code_c : ∀ {w : World} {mean mg mb} {dp un : Nat} {gd cn} {cs : Scope} {a ccd cl} {outer : List Env} {A₀ base h₀ L m} {s : Shared} {hp tk0 news} {Q E : Value → Shared → Prop} {x : Str} {tx : Tok} {i n : Int} {ti tn : Tok} (B : Below A₀ base outer h₀) (F : Fr h₀ L hp m) (X : (hd.heap_39 w.params).In h₀) (N : News h₀ L hp news) (T : Top hd.view_39 (looseW hd.view_39 []) mean mg mb h₀) (hk : cs.kind = .function) (hdp : dp + 20 < recursionLimit) (hun : un + 160 < cLine) (hx : x.length ≤ 65536) (h0 : 0 ≤ i) (hi : i < (x.length : Int)) (hd : (Txt.item x i == Str.ofString "$") = true → (mSignAt x (i + 1) == Str.ofString "{") = false ∧ mStart (mSignAt x (i + 1)) = false)
  (hcode : ∀ r t k1 k2 k3 h' tk', (Txt.item x i == Str.ofString "{") = true → (mSignAt x (i + 1) == Str.ofString "$") = true → Fr h₀ L h' m → News h₀ L h' ((r, tupObj [.ref t, .int (mLexEnd x (i + 1)) k1]) :: (t, tupObj [.str (mLexTok x (i + 1)) k2, .int n k3]) :: news) → (∀ p ∈ news, p.1 < t) → t < r → Q (.ref r) { s with heap := h', toks := tk' })
  (hnone : ∀ h' tk', ¬ ((Txt.item x i == Str.ofString "{") = true ∧ (mSignAt x (i + 1) == Str.ofString "$") = true) → Fr h₀ L h' m → News h₀ L h' news → Q .none { s with heap := h', toks := tk' }),
  wpAny (model PySem.Challenge.rw_pq0846_01.row.prog w) (ktrTop dp un gd cn cs L a ccd cl outer) (call (.ref 261) [.str x tx, .int i ti, .int n tn, .ref 392]) Q E { s with heap := hp, toks := tk0 } := by
 k_with "w" =>
  (k_extra "cp")
  (k_extra "n6"); generalize p6_1 T9 = x, p6_2 T9 = tx, p6_3 T9 = i, p6_4 T9 = n, p6_5 T9 = ti, p6_6 T9 = tn; clear T9
  intro B F X N T hk hdp hun hx h0 hi hd hcode hnone
  refine wpAny_call ?_
  k_dflt (k_extra "my enter")
  repeat' (first | (k_extra "ka") | (k_extra "kb") | ((fail_if_success k_end); (k_extra "sI"); (k_extra "kc")))
  refine if_join ((Txt.item x i == Str.ofString "{") = true ∧ (mSignAt x (i + 1) == Str.ofString "$") = true) (by k_asm) (by k_asm) ?_ ?_ ?_
  · repeat' (first | (k_extra "ka") | (k_extra "kb") | ((fail_if_success k_end); (k_extra "kc")))
    all_goals first | (k_extra "jb") | (fail "open")
  · intro hP; (try dsimp only); (k_extra "h2"); generalize p2_1 T9 = h', p2_2 T9 = tk'; clear T9; intro F' N'
    repeat' (first | (k_extra "ka") | (k_extra "kb") | ((fail_if_success k_end); (k_extra "kc")))
    exact hcode _ _ _ _ _ _ _ hP.1 hP.2 (by k_asm) (by (k_extra "wh drop2")) (by (k_extra "wh low")) (by (k_extra "wh lt"))
  intro hP; (try dsimp only); (k_extra "h2"); generalize p2_1 T9 = h', p2_2 T9 = tk'; clear T9; intro F' N'
  by_cases hq : (Txt.item x i == Str.ofString "$") = true
  · have hd1 := hd hq
    repeat' (first | (k_extra "ka") | (k_extra "kb") | ((fail_if_success k_end); (k_extra "kc")))
    all_goals first | exact Bool.noConfusion (hd1.1.symm.trans (by assumption) : false = true) | exact Bool.noConfusion (hd1.2.symm.trans (by assumption) : false = true) | exact hnone _ _ hP (by k_asm) (by (k_extra "wh drop"))
  · repeat' (first | (k_extra "ka") | (k_extra "kb") | ((fail_if_success k_end); (k_extra "kc")))
    exact hnone _ _ hP (by k_asm) (by (k_extra "wh drop"))
 k_extra "q"
theorem reg84 : True := by
  k_with ".call ref" => ((k_here; (with_reducible show wpAny _ _ (call (Value.ref 261) _) _ _ _); k_dflt (refine' code_c ?kB ?kF ?kX ?kN ?kT ?kK ?zkd ?zku ?zkhx ?zkh0 ?zkhi ?zkhd ?_ ?_; (k_extra "kq"); (case zkd => k_extra "my room"); (case zku => k_extra "my room"); (case zkhx => k_extra "my side"); (case zkh0 => k_extra "my side"); (case zkhi => k_extra "my side"); (case zkhd => k_extra "my side"); ((try dsimp only); (k_extra "h7"); generalize p7_1 T9 = r, p7_2 T9 = t, p7_3 T9 = k1, p7_4 T9 = k2, p7_5 T9 = k3, p7_6 T9 = h', p7_7 T9 = tk'; clear T9; (first | revert r t k1 k2 k3 h' tk' | ((try revert tk'); (try revert h'); (try revert k3); (try revert k2); (try revert k1); (try revert t); (try revert r))); intros; (try k_sweep); (try (k_extra "kf"))); rotate_left; ((try dsimp only); (k_extra "h2"); generalize p2_1 T9 = h', p2_2 T9 = tk'; clear T9; (first | revert h' tk' | ((try revert tk'); (try revert h'))); intros; (try k_sweep); (try (k_extra "kf"))); rotate_left)))
  trivial
noncomputable def whyM : Str := Str.ofString "Invalid indentation - tabs and spaces cannot be mixed"
noncomputable def whyL (d : Str) : Str := Str.ofString "Invalid body indentation level (expecting an indentation level of at least " ++ Str.ofString (toString (d.length : Int)) ++ Str.ofString ")"
noncomputable def mPass (x d : Str) (st : Int) : Nat → Int → Except Str Int
  | 0, i => .ok i
  | k + 1, i => if st ≤ i ∨ i < mNl x i then .ok i
    else if ([Str.ofString " ", Str.ofString "\t"].any fun y => y == Txt.item x i) = false then .error (whyL d)
    else if (Txt.item x i != Txt.item d 0) = true then .error whyM
    else mPass x d st k (i + 1)
theorem fillE9 {w : World} {h₀ : Heap} (h : PySem.Challenge.rw_pq0846_01.row.prog = PySem.Challenge.rw_pq0846_01.row.prog) (X : (hd.heap_39 w.params).In h₀) : (hd.heap_39 w.params).In h₀ := by
  revert h X; k_fill; intro h X; exact X
theorem pass_c : ∀ {w : World} {mean mg mb} {dp un : Nat} {gd cn} {cs : Scope} {a ccd cl} {outer : List Env} {A₀ base h₀ L m} {s : Shared} {hp tk0 news} {Q E : Value → Shared → Prop} {x d : Str} {tx td : Tok} {i st n : Int} {ti ts tn : Tok} (B : Below A₀ base outer h₀) (F : Fr h₀ L hp m) (X : (hd.heap_39 w.params).In h₀) (N : News h₀ L hp news) (T : Top hd.view_39 (looseW hd.view_39 []) mean mg mb h₀) (hk : cs.kind = .function) (hdp : dp + 20 < recursionLimit) (hun : un + 160 < cLine) (hx : x.length ≤ 65536) (h0 : 0 ≤ i) (hs : st ≤ x.length) (hd : d.length ≤ 8)
  (hret : ∀ j t h' tk', mPass x d st d.length i = .ok j → i ≤ j → Fr h₀ L h' m → News h₀ L h' news → Q (.int j t) { s with heap := h', toks := tk' })
  (hexc : ∀ y e g h' tk', mPass x d st d.length i = .error y → Fr h₀ L g m → g.UpToSlots h' → RaisedPF w base g (envX cn cs L a ccd cl :: outer) e (y) (n) news h' → E (.ref e) { s with heap := h', toks := tk' }),
  wpAny (model PySem.Challenge.rw_pq0846_01.row.prog w) (ktrTop dp un gd cn cs L a ccd cl outer) (call (.ref 310) [.str x tx, .int i ti, .int st ts, .str d td, .int n tn]) Q E { s with heap := hp, toks := tk0 } := by
 k_with "w" =>
  (k_extra "cp")
  (k_extra "n8"); generalize p8_1 T9 = x, p8_2 T9 = d, p8_3 T9 = tx, p8_4 T9 = td, p8_5 T9 = i, p8_6 T9 = st, p8_7 T9 = n, p8_8 T9 = ti; clear T9
  (k_extra "n2"); generalize p2_1 T9 = ts, p2_2 T9 = tn; clear T9
  intro B F X N T hk hdp hun hx h0 hs hd hret hexc
  refine wpAny_call ?_
  k_dflt (k_extra "my enter")
  repeat' (first | (k_extra "ka") | (k_extra "kb") | ((fail_if_success k_end); (k_extra "sP"); (k_extra "kc")))
  (with_reducible rename Heap => h9); revert h9; (try dsimp only); (k_extra "g1"); intros
  expose_names
  refine kst_range (n := d.length) (fun _ : Int × Tok => news) (fun c => [(Str.ofString "at", .int c.1 c.2)]) (fun _ => True) [Str.ofString "why"] (fun pre c => i ≤ c.1 ∧ mPass x d st d.length i = mPass x d st (d.length - pre.length) c.1) (i, ti) (by rfl) (by assumption) (small_one (by omega) (by omega) (by omega) (by omega)) (rangeSize_nat _ _) (by k_asm) (by k_asm) trivial (by (k_extra "wh keep")) ⟨by simp, rfl⟩ ?_ ?_
  · (try dsimp only); with_reducible refine (all_xx inferInstance ?_); generalize c2 _ _ = T9; generalize p2_1 T9 = j, p2_2 T9 = tj; clear T9; (k_extra "h7"); generalize p7_1 T9 = pre', p7_2 T9 = k', p7_3 T9 = t', p7_4 T9 = u', p7_5 T9 = h', p7_6 T9 = tk', p7_7 T9 = own; clear T9; intro e1 e2 hoff _ I' F' N'; (try dsimp only [envOf] at F' N'); (try dsimp only at I' F' N' ⊢); obtain ⟨I1, I2⟩ := I'
    repeat' (first | (k_extra "ka") | (k_extra "kb") | ((fail_if_success k_end); (k_extra "sI"); (k_extra "kc")))
    obtain ⟨q, hq⟩ : ∃ q, d.length - pre'.length = q + 1 := ⟨d.length - pre'.length - 1, sub1 (by assumption)⟩
    rw [hq, mPass] at I2
    refine if_join (st ≤ j ∨ j < mNl x j) (by k_asm) (by k_asm) ?_ ?_ ?_
    · repeat' (first | (k_extra "ka") | (k_extra "kb") | ((fail_if_success k_end); (k_extra "kc")))
      all_goals first | (k_extra "jb") | (fail "open")
    · intro hP; (try dsimp only); (k_extra "h2"); generalize p2_1 T9 = h', p2_2 T9 = tk'; clear T9; intro F' N'
      repeat' (first | (k_extra "ka") | (k_extra "kb") | ((fail_if_success k_end); (k_extra "kc")))
      exact hret _ _ _ _ (by rw [I2, if_pos hP]) I1 (by k_asm) (by (k_extra "wh drop"))
    intro hP; (try dsimp only); (k_extra "h2"); generalize p2_1 T9 = h', p2_2 T9 = tk'; clear T9; intro F' N'

    rw [if_neg hP] at I2
    repeat' (first | (k_extra "ka") | (k_extra "kb") | ((fail_if_success k_end); (k_extra "kc")))
    all_goals ((repeat (first | replace I2 := tp I2 (by k_extra "a") | replace I2 := tf I2 (by k_extra "a") | replace I2 := tn I2 (by k_extra "a") | replace I2 := sp I2 (by k_extra "a") | replace I2 := sf I2 (by k_extra "a") | replace I2 := sn I2 (by k_extra "a"))); (try simp only [*, if_true, if_false, Bool.false_eq_true, reduceCtorEq] at I2))
    · exact hexc _ _ _ _ _ (by rw [I2]) (by k_asm) (by assumption) (RaisedPF.sub (by assumption) (by (k_extra "wh mem")))
    · refine kst_end (_, _) (by k_asm) (by k_asm) (by (k_extra "wh mem")) (by (k_extra "wh mem")) rfl trivial (by (try dsimp only); (k_extra "wh keep")) (by (k_extra "wh same3")) ?_
      refine ⟨by dsimp only; omega, ?_⟩
      have eq1 : d.length - (pre' ++ [k']).length = q := by rw [List.length_append]; exact succ_sub hq
      rw [I2, eq1]
    · exact hexc _ _ _ _ _ (by rw [I2]) (by k_asm) (by assumption) (RaisedPF.sub (by assumption) (by (k_extra "wh mem")))
  · (try dsimp only); with_reducible refine (all_xx inferInstance ?_); generalize c2 _ _ = T9; generalize p2_1 T9 = j, p2_2 T9 = tj; clear T9; (k_extra "h3"); generalize p3_1 T9 = u', p3_2 T9 = h', p3_3 T9 = tk'; clear T9; intro _ I' F' N'; (try dsimp only [envOf] at F' N'); (try dsimp only at I' F' N' ⊢); obtain ⟨I1, I2⟩ := I'
    repeat' (first | (k_extra "ka") | (k_extra "kb") | ((fail_if_success k_end); (k_extra "kc")))
    exact hret _ _ _ _ (by rw [rangeKs_length, Nat.sub_self, mPass] at I2; exact I2) I1 (by k_asm) (by (k_extra "wh drop"))
 k_extra "q"
theorem reg85 : True := by
  k_with ".call ref" => ((k_here; (with_reducible show wpAny _ _ (call (Value.ref 310) _) _ _ _); k_dflt (refine' pass_c ?kB ?kF ?kX ?kN ?kT ?kK ?zkd ?zku ?zkhx ?zkh0 ?zkhs ?zkhd ?_ ?_; (k_extra "kq"); (case zkd => k_extra "my room"); (case zku => k_extra "my room"); (case zkhx => k_extra "my side"); (case zkh0 => k_extra "my side"); (case zkhs => k_extra "my side"); (case zkhd => k_extra "my side"); ((try dsimp only); (k_extra "h4"); generalize p4_1 T9 = j, p4_2 T9 = t, p4_3 T9 = h', p4_4 T9 = tk'; clear T9; (first | revert j t h' tk' | ((try revert tk'); (try revert h'); (try revert t); (try revert j))); intros; (try k_sweep); (try (k_extra "kf"))); rotate_left; ((try dsimp only); (k_extra "h5"); generalize p5_1 T9 = y, p5_2 T9 = e, p5_3 T9 = g, p5_4 T9 = h', p5_5 T9 = tk'; clear T9; (first | revert y e g h' tk' | ((try revert tk'); (try revert h'); (try revert g); (try revert e); (try revert y))); intros; (try k_sweep)); rotate_left)))
  trivial
theorem strVals_len (l : List (Str × Tok)) : (strValues l).length = l.length := by simp [strValues]
theorem reg86 : True := by
  k_with "my size" => (first | omega | (rw [strVals_len]; omega) | (simp only [strVals_len, List.length_append, List.length_cons, List.length_nil]; omega))
  trivial
section
variable {prog : Program} {w : World} {A : Around} {E : Value → Shared → Prop} {s : Shared} {h₀ : Heap} {L : Addr} {m : Str → Option Value} {news news' : List (Addr × Obj)}
theorem truthy_made {a : Addr} {vs : List Value} {n : Nat} {Q : Bool → Shared → Prop} (N : News h₀ L s.heap news) (hm : (a, listOf vs.toArray n) ∈ news) (hz : vs.length ≤ 1048576)
    (h : Q (!vs.isEmpty) { s with toks := s.toks + 1 + 1 }) : wpAny (model prog w) A (truthy (.ref a)) Q E s := kgr_truthy N hm rfl rfl (Nat.lt_of_le_of_lt hz (by decide)) h
end
theorem reg87 : True := by
  k_with ".truthy ref" => ((k_here; (with_reducible show wpAny _ _ (truthy (Value.ref _)) _ _ _); k_dflt (refine' truthy_made ?zk1 ?zk2 ?zk3 ?_; (case zk1 => k_asm); (case zk2 => k_mem); (case zk3 => (k_extra "my size")))))
  k_with "mac5" => (first | assumption | exact Ne.symm (by assumption) | exact Nat.ne_of_lt (by assumption) | exact Nat.ne_of_gt (by assumption))
  trivial
local macro_rules | `(tactic| k_ne) => `(tactic| k_extra "mac5")
theorem reg88 : True := by
  k_with ".callWith builtin:list.append" => (first | with_reducible refine callWith_method1 ?_ | refine callWith_method1 ?_)
  trivial
structure AtMid (C : Int → Prop) (x : Str) (h₀ : Heap) (L : Addr) (m : Str → Option Value) (news : List (Addr × Obj)) (s : Shared) (f : Flow) (s' : Shared) : Prop where
  next : f = .next
  here : ∃ i t h tk, C i ∧ s' = { s with heap := h, toks := tk } ∧ Fr h₀ L h (fun y => if y = x then some (.int i t) else m y) ∧ News h₀ L h news
section
variable {M : Model} {A : Around} {E : Value → Shared → Prop} {s : Shared} {env : Env} {h₀ h : Heap} {L : Addr} {m : Str → Option Value} {news : List (Addr × Obj)}
theorem AtMid.set {C : Int → Prop} {x : Str} {i : Int} {t : Tok} {tk : Nat} (hc : C i) (F : Fr h₀ L h (fun y => if y = x then some (.int i t) else m y)) (N : News h₀ L h news) : AtMid C x h₀ L m news s .next { s with heap := h, toks := tk } := ⟨rfl, i, t, h, tk, hc, rfl, F, N⟩
theorem AtMid.same {C : Int → Prop} {x : Str} {i : Int} {t : Tok} {tk : Nat} (hm : m x = some (.int i t)) (hc : C i) (F : Fr h₀ L h m) (N : News h₀ L h news) : AtMid C x h₀ L m news s .next { s with heap := h, toks := tk } := by
  refine ⟨rfl, i, t, h, tk, hc, rfl, ?_, N⟩
  have e : (fun y => if y = x then some (Value.int i t) else m y) = m := by
    funext y
    by_cases hy : y = x
    · rw [if_pos hy, hy, hm]
    · rw [if_neg hy]
  rw [e]; exact F
theorem at_mid (C : Int → Prop) (x : Str) {st : Stmt} {Q : Flow → Shared → Prop} (F : Fr h₀ L s.heap m) (N : News h₀ L s.heap news)
    (h1 : wpAny M A (exec st env) (AtMid C x h₀ L m news s) E s)
    (h2 : ∀ i t h tk, C i → Fr h₀ L h (fun y => if y = x then some (.int i t) else m y) → News h₀ L h news → Q .next { s with heap := h, toks := tk }) : wpAny M A (exec st env) Q E s :=
  wpAny_mono h1 (fun f s' q => by obtain ⟨rfl, i, t, h, tk, c, rfl, F', N'⟩ := q; exact h2 i t h tk c F' N') fun _ _ x => x
end
structure AtE (C : Value → Prop) (h₀ : Heap) (L : Addr) (m : Str → Option Value) (news : List (Addr × Obj)) (s : Shared) (v : Value) (s' : Shared) : Prop where
  val : C v
  here : ∃ h tk, s' = { s with heap := h, toks := tk } ∧ Fr h₀ L h m ∧ News h₀ L h news
section
variable {M : Model} {A : Around} {E : Value → Shared → Prop} {s : Shared} {env : Env} {h₀ h : Heap} {L : Addr} {m : Str → Option Value} {news : List (Addr × Obj)}
theorem AtE.set {C : Value → Prop} {v : Value} {tk : Nat} (hc : C v) (F : Fr h₀ L h m) (N : News h₀ L h news) : AtE C h₀ L m news s v { s with heap := h, toks := tk } := ⟨hc, h, tk, rfl, F, N⟩
theorem at_e (C : Value → Prop) {e : PySem.Expr} {Q : Value → Shared → Prop} (F : Fr h₀ L s.heap m) (N : News h₀ L s.heap news)
    (h1 : wpAny M A (eval e env) (AtE C h₀ L m news s) E s)
    (h2 : ∀ v h tk, C v → Fr h₀ L h m → News h₀ L h news → Q v { s with heap := h, toks := tk }) : wpAny M A (eval e env) Q E s :=
  wpAny_mono h1 (fun v s' q => by obtain ⟨c, h, tk, rfl, F', N'⟩ := q; exact h2 v h tk c F' N') fun _ _ x => x
end
theorem lt_hd {r : List (Addr × Obj)} {a d : Addr} {o : Obj} (h : ∀ p ∈ (a, o) :: r, p.1 < d) : a < d := h _ (.head _)
theorem lt_tl {r : List (Addr × Obj)} {a d : Addr} {o : Obj} (h : ∀ p ∈ (a, o) :: r, p.1 < d) : ∀ p ∈ r, p.1 < d := fun p hp => h p (.tail _ hp)
theorem lt_rt {r r' : List (Addr × Obj)} {d : Addr} (h : ∀ p ∈ r' ++ r, p.1 < d) : ∀ p ∈ r, p.1 < d := fun p hp => h p (List.mem_append_right _ hp)
theorem lt_lf {r r' : List (Addr × Obj)} {d : Addr} (h : ∀ p ∈ r ++ r', p.1 < d) : ∀ p ∈ r, p.1 < d := fun p hp => h p (List.mem_append_left _ hp)
theorem reg89 : True := by
  k_with "wh lt" => (first | assumption | exact lt_hd (by assumption) | exact lt_hd (lt_tl (by assumption)) | exact lt_hd (lt_tl (lt_tl (by assumption))) | exact lt_hd (lt_tl (lt_tl (lt_tl (by assumption)))) | exact And.left (by assumption) | exact And.left (And.right (by assumption)) | exact And.left (And.right (And.right (by assumption))) | exact And.left (And.right (And.right (And.right (by assumption)))) | exact Nat.lt_trans (lt_hd (by assumption)) (by assumption) | exact Nat.lt_trans (lt_hd (lt_tl (by assumption))) (by assumption) | (refine ltN ?_; omega))
  trivial
theorem news_swap {h₀ h : Heap} {L : Addr} {a b : Addr × Obj} {e : List (Addr × Obj)} (N : News h₀ L h (a :: b :: e)) : News h₀ L h (b :: a :: e) := cb_drop N (by (k_extra "wh mem"))
theorem reg90 : True := by
  k_with "wh low" => (first | assumption | exact allLt_iff.mp (by assumption) | exact allLt_iff.mp (And.right (by assumption)) | exact allLt_iff.mp (And.right (And.right (by assumption))) | exact allLt_iff.mp (And.right (And.right (And.right (by assumption)))) | exact allLt_iff.mp (And.right (And.right (And.right (And.right (by assumption))))) | exact lt_rt (allLt_iff.mp (And.right (And.right (And.right (by assumption))))) | exact lt_rt (allLt_iff.mp (And.right (And.right (And.right (And.right (by assumption)))))) | exact lt_tl (by assumption) | exact lt_tl (lt_tl (by assumption)) | exact lt_tl (lt_tl (lt_tl (by assumption))) | exact lt_rt (lt_tl (lt_tl (by assumption))) | ((refine low_of_news (by assumption) ?_); (k_extra "wh mem")) | fail "low")
  k_with "mac6" => (first | exact Nat.ne_of_lt (by k_extra "wh lt") | exact Nat.ne_of_gt (by k_extra "wh lt"))
  trivial
local macro_rules | `(tactic| k_ne) => `(tactic| k_extra "mac6")
theorem fillE10 {w : World} {h₀ : Heap} (h : PySem.Challenge.rw_pq0846_01.row.prog = PySem.Challenge.rw_pq0846_01.row.prog) (X : (hd.heap_39 w.params).In h₀) : (hd.heap_39 w.params).In h₀ := by
  revert h X; k_fill; intro h X; exact X
section
variable {w : World} {mean mg mb} {dp un : Nat} {gd cn} {cs : Scope} {a ccd cl} {outer : List Env} {A₀ base h₀ L m} {s : Shared} {hp tk0 news} {Q E : Value → Shared → Prop} {pa ma : Addr} {vs : List Value} {n1 n2 : Nat} {l : List (Str × Tok)}
 (B : Below A₀ base outer h₀) (F : Fr h₀ L hp m) (X : (hd.heap_39 w.params).In h₀) (N : News h₀ L hp ((pa, W.listOf vs.toArray n1) :: (ma, W.listOf (strValues l).toArray n2) :: news)) (T : Top hd.view_39 (looseW hd.view_39 []) mean mg mb h₀) (hk : cs.kind = .function)
include B F X N T hk
theorem put_c  (hdp : dp + 3 < recursionLimit) (hun : un + 24 < cLine) (hab : pa ≠ ma) (hpa : ∀ p ∈ news, p.1 ≠ pa) (hma : ∀ p ∈ news, p.1 ≠ ma) (hw : ((l.map (·.1)).map (·.length)).sum + l.length ≤ 1048576) (hv : vs.length ≤ 1048576)
  (hnil : ∀ n2' h' tk', l = [] → Fr h₀ L h' m → News h₀ L h' ((pa, W.listOf vs.toArray n1) :: (ma, W.listOf (strValues []).toArray n2') :: news) → Q .none { s with heap := h', toks := tk' })
  (hput : ∀ t k1 k2 n2' h' tk', l ≠ [] → Fr h₀ L h' m → News h₀ L h' ((t, tupObj [.str "text" k1, .str (Txt.join (Str.ofString "") (l.map (·.1))) k2]) :: (pa, W.listOf (vs ++ [Value.ref t]).toArray (n1 + 1)) :: (ma, W.listOf (strValues []).toArray n2') :: news) → (∀ p ∈ news, p.1 < t) → pa < t → ma < t → Q .none { s with heap := h', toks := tk' }) :
  wpAny (model PySem.Challenge.rw_pq0846_01.row.prog w) (ktrTop dp un gd cn cs L a ccd cl outer) (call (.ref 268) [.ref pa, .ref ma]) Q E { s with heap := hp, toks := tk0 } := by
 k_with "w" =>
  revert B F X N T hk hdp hun hab hpa hma hw hv hnil hput
  revert w mean mg mb dp un gd cn cs a ccd cl outer A₀ base h₀ L m s hp tk0 news Q E pa ma vs n1 n2 l
  (k_extra "cp")
  (k_extra "n6"); generalize p6_1 T9 = pa, p6_2 T9 = ma, p6_3 T9 = vs, p6_4 T9 = n1, p6_5 T9 = n2, p6_6 T9 = l; clear T9
  intro B F X N T hk hdp hun hab hpa hma hw hv hnil hput
  refine wpAny_call ?_
  k_dflt (k_extra "my enter")
  repeat' (first | (k_extra "ka") | (k_extra "kb") | ((fail_if_success k_end); (k_extra "kc")))
  · exact hnil _ _ _ (by cases l with | nil => rfl | cons p r => exact Bool.noConfusion (by assumption : (strValues (p :: r)).isEmpty = true)) (by k_asm) (by k_asm)
  · exact hput _ _ _ _ _ _ (by rintro rfl; exact Bool.noConfusion (by assumption : (strValues []).isEmpty = false)) (by k_asm) (by k_asm) (by (k_extra "wh low")) (by (k_extra "wh lt")) (by (k_extra "wh lt"))
 k_extra "q"
end
theorem reg91 : True := by
  k_with ".call ref" => ((k_here; (with_reducible show wpAny _ _ (call (Value.ref 268) _) _ _ _); k_dflt (refine' put_c ?kB ?kF ?kX ?kN ?kT ?kK ?zkd ?zku ?zkhab ?zkhpa ?zkhma ?zkhw ?zkhv ?_ ?_; (k_extra "kq"); (case zkd => k_extra "my room"); (case zku => k_extra "my room"); (case zkhab => k_extra "my side"); (case zkhpa => k_extra "my side"); (case zkhma => k_extra "my side"); (case zkhw => k_extra "my side"); (case zkhv => k_extra "my side"); ((try dsimp only); (k_extra "h3"); generalize p3_1 T9 = n2', p3_2 T9 = h', p3_3 T9 = tk'; clear T9; (first | revert n2' h' tk' | ((try revert tk'); (try revert h'); (try revert n2'))); intros; (try k_sweep); (try (k_extra "kf"))); rotate_left; ((try dsimp only); (k_extra "h6"); generalize p6_1 T9 = t, p6_2 T9 = k1, p6_3 T9 = k2, p6_4 T9 = n2', p6_5 T9 = h', p6_6 T9 = tk'; clear T9; (first | revert t k1 k2 n2' h' tk' | ((try revert tk'); (try revert h'); (try revert n2'); (try revert k2); (try revert k1); (try revert t))); intros; (try k_sweep); (try (k_extra "kf"))); rotate_left)))
  trivial
inductive Part where
  | text (y : Str)
  | code (y : Str) (n : Int)
noncomputable def Part.dat : Part → Dat
  | .text y => .tuple [.str (Str.ofString "text"), .str y]
  | .code y n => .tuple [.str (Str.ofString "code"), .tuple [.str y, .int n]]
noncomputable def flush (ps : List Part) (ms : List Str) : List Part := if ms.isEmpty = true then ps else ps ++ [.text (Txt.join (Str.ofString "") ms)]
noncomputable def whyE : Str := Str.ofString "syntax error, unexpected end of file"
noncomputable def mLoop (bf : Int → Option Bool) (fin : Int → Int) (x q d : Str) (st : Int) : Nat → Int → Int → List Part → List Str → Option (Except (Str × Int) (List Part × Int))
  | 0, _, _, _, _ => none
  | k + 1, i, n, ps, ms => match bf i with
    | none => some (.error (whyE, n))
    | some false => some (.ok (flush ps ms, fin i))
    | some true =>
      if (Txt.item x i == Str.ofString "{") = true ∧ (mSignAt x (i + 1) == Str.ofString "$") = true then
        mLoop bf fin x q d st k (mLexEnd x (i + 1)) (n + mRows (Txt.slice x (some i) (some (mLexEnd x (i + 1))))) (flush ps ms ++ [.code (mLexTok x (i + 1)) n]) []
      else if (Txt.item x i == Str.ofString "\\") = true then
        match mEscape x i q with
        | .error y => some (.error (y, n))
        | .ok (y, j) => mLoop bf fin x q d st k j (n + mRows (Txt.slice x (some i) (some j))) ps (ms ++ [y])
      else if (Txt.item x i == Str.ofString "\n") = true ∧ (d != Str.ofString "") = true then
        match mPass x d st d.length (i + 1) with
        | .error y => some (.error (y, n + 1))
        | .ok j => mLoop bf fin x q d st k j (n + mRows (Txt.slice x (some i) (some j))) ps (ms ++ [Txt.item x i])
      else mLoop bf fin x q d st k (i + 1) (n + mRows (Txt.slice x (some i) (some (i + 1)))) ps (ms ++ [Txt.item x i])
theorem mLoop_zero (bf : Int → Option Bool) (fin : Int → Int) (x q d : Str) (st : Int) (i n : Int) (ps : List Part) (ms : List Str) : mLoop bf fin x q d st 0 i n ps ms = none := rfl
theorem mLoop_succ (bf : Int → Option Bool) (fin : Int → Int) (x q d : Str) (st : Int) (k : Nat) (i n : Int) (ps : List Part) (ms : List Str) : mLoop bf fin x q d st (k + 1) i n ps ms = (match bf i with
    | none => some (.error (whyE, n))
    | some false => some (.ok (flush ps ms, fin i))
    | some true =>
      if (Txt.item x i == Str.ofString "{") = true ∧ (mSignAt x (i + 1) == Str.ofString "$") = true then
        mLoop bf fin x q d st k (mLexEnd x (i + 1)) (n + mRows (Txt.slice x (some i) (some (mLexEnd x (i + 1))))) (flush ps ms ++ [.code (mLexTok x (i + 1)) n]) []
      else if (Txt.item x i == Str.ofString "\\") = true then
        match mEscape x i q with
        | .error y => some (.error (y, n))
        | .ok (y, j) => mLoop bf fin x q d st k j (n + mRows (Txt.slice x (some i) (some j))) ps (ms ++ [y])
      else if (Txt.item x i == Str.ofString "\n") = true ∧ (d != Str.ofString "") = true then
        match mPass x d st d.length (i + 1) with
        | .error y => some (.error (y, n + 1))
        | .ok j => mLoop bf fin x q d st k j (n + mRows (Txt.slice x (some i) (some j))) ps (ms ++ [Txt.item x i])
      else mLoop bf fin x q d st k (i + 1) (n + mRows (Txt.slice x (some i) (some (i + 1)))) ps (ms ++ [Txt.item x i])) := id rfl
noncomputable def bfI (st : Int) (i : Int) : Option Bool := if st < i then none else some (decide (i < st))
noncomputable def bfS (x y : Str) (i : Int) : Option Bool := if (x.length : Int) ≤ i then none else some (Txt.item x i != y)
noncomputable def StopV (x d : Str) (st : Int) (v : Value) (bf : Int → Option Bool) (fin : Int → Int) : Prop :=
  (∃ t, v = .int st t ∧ bf = bfI st ∧ fin = (fun i => i) ∧ st ≤ x.length) ∨ (∃ y t, v = .str y t ∧ bf = bfS x y ∧ fin = (fun i => i + 1) ∧ d = Str.ofString "")
theorem StopV.int {x d : Str} {st : Int} {t : Tok} (h : st ≤ x.length) : StopV x d st (.int st t) (bfI st) (fun i => i) := .inl ⟨t, rfl, rfl, rfl, h⟩
theorem StopV.str {x y : Str} {st : Int} {t : Tok} : StopV x (Str.ofString "") st (.str y t) (bfS x y) (fun i => i + 1) := .inr ⟨y, t, rfl, rfl, rfl, rfl⟩
theorem bfI_t {st i : Int} (h : i ≤ st) : bfI st i = some (decide (i < st)) := if_neg (Int.not_lt.mpr h)
theorem bfI_n {st i : Int} (h : st < i) : bfI st i = none := if_pos h
theorem bfS_t {x y : Str} {i : Int} (h : i < x.length) : bfS x y i = some (Txt.item x i != y) := if_neg (Int.not_le.mpr h)
theorem bfS_n {x y : Str} {i : Int} (h : (x.length : Int) ≤ i) : bfS x y i = none := if_pos h
theorem some_b {o : Option Bool} {b c : Bool} (h : o = some b) (e : b = c) : o = some c := h.trans (congrArg some e)
theorem StopV.lt {x d : Str} {st j : Int} {v : Value} {bf : Int → Option Bool} {fin : Int → Int} (hv : StopV x d st v bf fin) (h : bf j = some true) : j < (x.length : Int) := by
  rcases hv with ⟨t, rfl, rfl, rfl, hs⟩ | ⟨y, t, rfl, rfl, rfl, hd⟩
  · refine Int.lt_of_lt_of_le (Classical.byContradiction fun q => ?_) hs
    unfold bfI at h; split at h
    · cases h
    · exact q (of_decide_eq_true (Option.some.inj h))
  · refine Int.not_le.mp fun q => ?_
    rw [bfS_n q] at h; cases h
structure PS where
  vs : List Value
  n1 : Nat
  l : List (Str × Tok)
  n2 : Nat
  data : List (Addr × Obj)
  ps : List Part
  i : Int
  ti : Tok
  n : Int
  tn : Tok
  k : Nat
theorem ne_PS : Nonempty PS := ⟨⟨[], 0, [], 0, [], [], 0, 0, 0, 0, 0⟩⟩
theorem all_PS {G : PS → Prop} (h : G ⟨(c1 ne_PS G).vs, (c1 ne_PS G).n1, (c1 ne_PS G).l, (c1 ne_PS G).n2, (c1 ne_PS G).data, (c1 ne_PS G).ps, (c1 ne_PS G).i, (c1 ne_PS G).ti, (c1 ne_PS G).n, (c1 ne_PS G).tn, (c1 ne_PS G).k⟩) : ∀ c, G c := all1 ne_PS h
theorem lexEnd_nn (x : Str) (i : Int) : 0 ≤ mLexEnd x i := by
  have := fact_find3 x (Str.ofString "}") i
  unfold mLexEnd; omega
theorem octets_len (n : Int) : (mOctets n).length ≤ 4 := by
  unfold mOctets
  split
  · simp [chr1, Str.length]
  · split
    · rw [Str.length_append]; simp [chr1, Str.length]
    · split
      · rw [Str.length_append, Str.length_append]; simp [chr1, Str.length]
      · rw [Str.length_append, Str.length_append, Str.length_append]; simp [chr1, Str.length]
theorem digits_ge (x : Str) (b m : Int) : ∀ (v i : Int), i ≤ (mDigits x b m v i).2 := by
  intro v i
  induction v, i using mDigits_ind x b m with
  | case1 v i h1 h2 ih => rw [mDigits_eq, if_pos h1, if_pos h2]; omega
  | case2 v i h1 h2 => rw [mDigits_eq, if_pos h1, if_neg h2]; exact Int.le_refl _
  | case3 v i h1 => rw [mDigits_eq, if_neg h1]; exact Int.le_refl _
theorem point_ok {x y : Str} {i j : Int} (h : mPoint x i = .ok (y, j)) : y.length ≤ 4 ∧ i < j := by
  revert x y i j h
  (k_extra "n4"); generalize p4_1 T9 = x, p4_2 T9 = y, p4_3 T9 = i, p4_4 T9 = j; clear T9
  intro h
  unfold mPoint at h
  have := digits_ge x 16 (i + x.length) 0 i
  split at h
  · cases h
  · split at h
    · cases h
    · split at h
      · cases h
      · cases h; exact ⟨octets_len _, by omega⟩
theorem plain_len {c y : Str} (h : plainOf c = some y) : y.length ≤ 4 := by
  revert c y h
  (k_extra "n2"); generalize p2_1 T9 = c, p2_2 T9 = y; clear T9
  intro h
  unfold plainOf at h
  repeat (split at h; (· cases h; decide))
  cases h
theorem escape_ok {x q y : Str} {i j : Int} (h0 : 0 ≤ i) (h : mEscape x i q = .ok (y, j)) : y.length ≤ 4 ∧ i < j := by
 k_with "w" =>
  revert x q y i j h0 h
  (k_extra "n5"); generalize p5_1 T9 = x, p5_2 T9 = q, p5_3 T9 = y, p5_4 T9 = i, p5_5 T9 = j; clear T9
  intro h0 h
  unfold mEscape at h
  have d8 := digits_ge x 8 (i + 1 + 3) 0 (i + 1)
  have d16 := digits_ge x 16 (i + 2 + 2) 0 (i + 2)
  split at h
  · rename_i y' e; cases h; exact ⟨plain_len e, by omega⟩
  · split at h
    · cases h; exact ⟨Nat.le_trans (sign_len _ _ (by omega)) (by decide), by omega⟩
    · split at h
      · cases h; exact ⟨by show 1 ≤ 4; decide, by omega⟩
      · split at h
        · cases h; exact ⟨by show 1 ≤ 4; decide, by omega⟩
        · split at h
          · have := point_ok h; exact ⟨this.1, by omega⟩
          · split at h
            · cases h; exact ⟨by decide, by omega⟩
            · cases h; exact ⟨by decide, by omega⟩
 k_extra "q"
theorem news_rot {h₀ h : Heap} {L : Addr} {a b c d : Addr × Obj} {e : List (Addr × Obj)} (N : News h₀ L h (a :: b :: c :: d :: e)) : News h₀ L h (c :: d :: a :: b :: e) := cb_drop N (by (k_extra "wh mem"))
theorem fillE11 {w : World} {h₀ : Heap} (h : PySem.Challenge.rw_pq0846_01.row.prog = PySem.Challenge.rw_pq0846_01.row.prog) (X : (hd.heap_39 w.params).In h₀) : (hd.heap_39 w.params).In h₀ := by
  revert h X; k_fill; intro h X; exact X
section
variable {w : World} {mean mg mb} {dp un : Nat} {gd cn} {cs : Scope} {a ccd cl} {outer : List Env} {A₀ base h₀ L m} {s : Shared} {hp tk0 news} {Q E : Value → Shared → Prop}
 (B : Below A₀ base outer h₀) (F : Fr h₀ L hp m) (X : (hd.heap_39 w.params).In h₀) (N : News h₀ L hp news) (T : Top hd.view_39 (looseW hd.view_39 []) mean mg mb h₀) (hk : cs.kind = .function)
include B F X N T hk
theorem is_before_any {x d : Str} {st : Int} {v : Value} {bf : Int → Option Bool} {fin : Int → Int} {tx : Tok} {i n : Int} {ti tn : Tok} (hdp : dp + 14 < recursionLimit) (hun : un + 112 < cLine) (hx : x.length ≤ 65536) (h0 : 0 ≤ i) (hv : StopV x d st v bf fin)
  (hret : ∀ (b : Bool) h' tk', bf i = some b → Fr h₀ L h' m → News h₀ L h' news → Q (.bool b) { s with heap := h', toks := tk' })
  (hexc : ∀ e g h' tk', bf i = none → Fr h₀ L g m → g.UpToSlots h' → RaisedPF w base g (envX cn cs L a ccd cl :: outer) e ("syntax error, unexpected end of file") (n) news h' → E (.ref e) { s with heap := h', toks := tk' }) :
  wpAny (model PySem.Challenge.rw_pq0846_01.row.prog w) (ktrTop dp un gd cn cs L a ccd cl outer) (call (.ref 275) [.str x tx, .int i ti, v, .int n tn]) Q E { s with heap := hp, toks := tk0 } := by
  rcases hv with ⟨t, rfl, rfl, rfl, hs⟩ | ⟨y, t, rfl, rfl, rfl, hd⟩
  · exact is_before_int B F X N T hk hdp hun (fun t' h' tk' p F' N' => hret _ _ _ (bfI_t p) F' N') (fun e g h' tk' p FG U Rz => hexc e g h' tk' (bfI_n p) FG U Rz)
  · exact is_before_str B F X N T hk hdp hun (Nat.le_trans hx (by decide)) h0 (fun t' h' tk' p F' N' => hret _ _ _ (bfS_t p) F' N') (fun e g h' tk' p FG U Rz => hexc e g h' tk' (bfS_n p) FG U Rz)
end
theorem reg92 : True := by
  k_with ".call ref" => ((k_here; (with_reducible show wpAny _ _ (call (Value.ref 275) _) _ _ _); k_dflt (refine' is_before_any ?kB ?kF ?kX ?kN ?kT ?kK ?zkd ?zku ?zkhx ?zkh0 ?zkhv ?_ ?_; (k_extra "kq"); (case zkd => k_extra "my room"); (case zku => k_extra "my room"); (case zkhx => k_extra "my side"); (case zkh0 => k_extra "my side"); (case zkhv => with_reducible assumption); ((try dsimp only); (k_extra "h3"); generalize p3_1 T9 = b, p3_2 T9 = h', p3_3 T9 = tk'; clear T9; (first | revert b h' tk' | ((try revert tk'); (try revert h'); (try revert b))); intros; (try k_sweep); (try (k_extra "kf"))); rotate_left; ((try dsimp only); (k_extra "h4"); generalize p4_1 T9 = e, p4_2 T9 = g, p4_3 T9 = h', p4_4 T9 = tk'; clear T9; (first | revert e g h' tk' | ((try revert tk'); (try revert h'); (try revert g); (try revert e))); intros; (try k_sweep)); rotate_left)))
  trivial
section
variable {w : World} {mean mg mb} {dp un : Nat} {gd cn} {cs : Scope} {a ccd cl} {outer : List Env} {A₀ base h₀ L m} {s : Shared} {hp tk0 news} {Q E : Value → Shared → Prop}
 (B : Below A₀ base outer h₀) (F : Fr h₀ L hp m) (X : (hd.heap_39 w.params).In h₀) (N : News h₀ L hp news) (T : Top hd.view_39 (looseW hd.view_39 []) mean mg mb h₀) (hk : cs.kind = .function)
include B F X N T hk
theorem pass_any {x d : Str} {tx td : Tok} {i st n : Int} {ti tn : Tok} {v : Value} {bf : Int → Option Bool} {fin : Int → Int} (hdp : dp + 20 < recursionLimit) (hun : un + 160 < cLine) (hx : x.length ≤ 65536) (h0 : 0 ≤ i) (hv : StopV x d st v bf fin) (hd : d.length ≤ 8) (hne : (d != Str.ofString "") = true)
  (hret : ∀ j t h' tk', mPass x d st d.length i = .ok j → i ≤ j → Fr h₀ L h' m → News h₀ L h' news → Q (.int j t) { s with heap := h', toks := tk' })
  (hexc : ∀ y e g h' tk', mPass x d st d.length i = .error y → Fr h₀ L g m → g.UpToSlots h' → RaisedPF w base g (envX cn cs L a ccd cl :: outer) e (y) (n) news h' → E (.ref e) { s with heap := h', toks := tk' }) :
  wpAny (model PySem.Challenge.rw_pq0846_01.row.prog w) (ktrTop dp un gd cn cs L a ccd cl outer) (call (.ref 310) [.str x tx, .int i ti, v, .str d td, .int n tn]) Q E { s with heap := hp, toks := tk0 } := by
  rcases hv with ⟨t, rfl, rfl, rfl, hs⟩ | ⟨y, t, rfl, rfl, rfl, rfl⟩
  · exact pass_c B F X N T hk hdp hun hx h0 hs hd hret hexc
  · exact absurd hne (by decide)
end
theorem reg93 : True := by
  k_with ".call ref" => ((k_here; (with_reducible show wpAny _ _ (call (Value.ref 310) _) _ _ _); k_dflt (refine' pass_any ?kB ?kF ?kX ?kN ?kT ?kK ?zkd ?zku ?zkhx ?zkh0 ?zkhv ?zkhd ?zkhne ?_ ?_; (k_extra "kq"); (case zkd => k_extra "my room"); (case zku => k_extra "my room"); (case zkhx => k_extra "my side"); (case zkh0 => k_extra "my side"); (case zkhv => with_reducible assumption); (case zkhd => k_extra "my side"); (case zkhne => assumption); ((try dsimp only); (k_extra "h4"); generalize p4_1 T9 = j, p4_2 T9 = t, p4_3 T9 = h', p4_4 T9 = tk'; clear T9; (first | revert j t h' tk' | ((try revert tk'); (try revert h'); (try revert t); (try revert j))); intros; (try k_sweep); (try (k_extra "kf"))); rotate_left; ((try dsimp only); (k_extra "h5"); generalize p5_1 T9 = y, p5_2 T9 = e, p5_3 T9 = g, p5_4 T9 = h', p5_5 T9 = tk'; clear T9; (first | revert y e g h' tk' | ((try revert tk'); (try revert h'); (try revert g); (try revert e); (try revert y))); intros; (try k_sweep)); rotate_left)))
  trivial
section
variable {w : World} {mean mg mb} {dp un : Nat} {gd cn} {cs : Scope} {a ccd cl} {outer : List Env} {A₀ base h₀ L m} {s : Shared} {hp tk0 news} {Q E : Value → Shared → Prop}
 (B : Below A₀ base outer h₀) (F : Fr h₀ L hp m) (X : (hd.heap_39 w.params).In h₀) (N : News h₀ L hp news) (T : Top hd.view_39 (looseW hd.view_39 []) mean mg mb h₀) (hk : cs.kind = .function)
include B F X N T hk
theorem parts_c {x q d : Str} {tx tq td tn : Tok} {i st n : Int} {ti : Tok} {v : Value} {bf : Int → Option Bool} {fin : Int → Int} {R : Except (Str × Int) (List Part × Int)} (K : Nat)  (hdp : dp + 50 < recursionLimit) (hun : un + 400 < cLine) (hx : x.length ≤ 65536) (h0 : 0 ≤ i) (hv : StopV x d st v bf fin) (hR : (match (if (d != Str.ofString "") = true then mPass x d st d.length i else .ok i) with | .error y => some (.error (y, n)) | .ok i' => mLoop bf fin x q d st K i' n [] []) = some R) (hdl : d.length ≤ 8) (hdol : ∀ j, 0 ≤ j → j < (x.length : Int) → (Txt.item x j == Str.ofString "$") = true → (mSignAt x (j + 1) == Str.ofString "{") = false ∧ mStart (mSignAt x (j + 1)) = false) (hK : K ≤ 65536)
  (hret : ∀ ps j r t vs data k1 h' tk', R = .ok (ps, j) → DatAll data vs (ps.map Part.dat) → Fr h₀ L h' m → News h₀ L h' ((r, tupObj [.ref t, .int j k1]) :: (t, tupObj vs) :: (data ++ news)) → Q (.ref r) { s with heap := h', toks := tk' })
  (hexc : ∀ y n' e g h' tk', R = .error (y, n') → Fr h₀ L g m → g.UpToSlots h' → RaisedPF w base g (envX cn cs L a ccd cl :: outer) e (y) (n') news h' → E (.ref e) { s with heap := h', toks := tk' }) :
  wpAny (model PySem.Challenge.rw_pq0846_01.row.prog w) (ktrTop dp un gd cn cs L a ccd cl outer) (call (.ref 282) [.str x tx, .int i ti, v, .str q tq, .str (d) td, .int n tn, .ref 392]) Q E { s with heap := hp, toks := tk0 } := by
 k_with "w" =>
  revert B F X N T hk hdp hun hx h0 hv hR hdl hdol hK hret hexc
  revert w mean mg mb dp un gd cn cs a ccd cl outer A₀ base h₀ L m s hp tk0 news Q E x q d tx tq td tn i st n ti v bf fin R K
  (k_extra "cp")
  (k_extra "n8"); generalize p8_1 T9 = x, p8_2 T9 = q, p8_3 T9 = d, p8_4 T9 = tx, p8_5 T9 = tq, p8_6 T9 = td, p8_7 T9 = tn, p8_8 T9 = i; clear T9
  (k_extra "n8"); generalize p8_1 T9 = st, p8_2 T9 = n, p8_3 T9 = ti, p8_4 T9 = v, p8_5 T9 = bf, p8_6 T9 = fin, p8_7 T9 = R, p8_8 T9 = K; clear T9
  intro B F X N T hk hdp hun hx h0 hv hR hdl hdol hK hret hexc
  refine wpAny_call ?_
  k_dflt (k_extra "my enter")
  repeat' (first | (k_extra "ka") | (k_extra "kb") | ((fail_if_success k_end); (k_extra "sI"); (k_extra "kc")))
  expose_names
  refine at_mid (fun i' => mLoop (bf) (fin) x q (d) st K i' n [] [] = some R ∧ 0 ≤ i') (Str.ofString "at") (by k_asm) (by k_asm) ?_ ?_
  · repeat' (first | (k_extra "ka") | (k_extra "kb") | ((fail_if_success k_end); (k_extra "kc")))
    all_goals ((repeat (first | replace hR := tp hR (by k_extra "a") | replace hR := tf hR (by k_extra "a") | replace hR := tn hR (by k_extra "a") | replace hR := sp hR (by k_extra "a") | replace hR := sf hR (by k_extra "a") | replace hR := sn hR (by k_extra "a"))); (try simp only [*, if_true, if_false, Bool.false_eq_true, reduceCtorEq] at hR))
    · exact AtMid.set ⟨hR, by omega⟩ (by k_asm) (by (k_extra "wh drop"))
    · exact hexc _ _ _ _ _ _ (Option.some.inj hR).symm (by k_asm) (by assumption) (RaisedPF.sub (by assumption) (by (k_extra "wh mem")))
    · exact AtMid.same rfl ⟨hR, h0⟩ (by k_asm) (by (k_extra "wh drop"))
  (try dsimp only); (k_extra "h4"); generalize p4_1 T9 = i', p4_2 T9 = t', p4_3 T9 = h', p4_4 T9 = tk'; clear T9; intro hc F' N'
  obtain ⟨hc, hi'⟩ := hc
  repeat' (first | (k_extra "ka") | (k_extra "kb") | ((fail_if_success k_end); (k_extra "z7"); (k_extra "kc")))
  refine ksw_while (fun c : PS => (l', W.listOf c.vs.toArray c.n1) :: (l'_1, W.listOf (strValues c.l).toArray c.n2) :: (c.data ++ news)) (fun c => [(Str.ofString "at", .int c.i c.ti), (Str.ofString "line", .int c.n c.tn)]) (fun _ => True) [Str.ofString "c", Str.ofString "code", Str.ofString "tokens", Str.ofString "behind", Str.ofString "signs"]
    (fun c => 0 ≤ c.i ∧ DatAll c.data c.vs (c.ps.map Part.dat) ∧ (∀ p ∈ c.data ++ news, p.1 ≠ l') ∧ (∀ p ∈ c.data ++ news, p.1 ≠ l'_1) ∧ ((c.l.map (·.1)).map (·.length)).sum + c.l.length + 5 * c.k ≤ 5 * K ∧ c.vs.length + 2 * c.k ≤ 2 * K ∧ mLoop (bf) (fin) x q (d) st c.k c.i c.n c.ps (c.l.map (·.1)) = some R) (fun c => c.k)
    ⟨[], 0, [], 0, [], [], i', t', n, tn, K⟩ (by k_asm) (news_swap N') trivial (by (k_extra "wh keep")) ⟨hi', .nil, all_ne_lt l1_1, all_ne_lt (allLt_iff.mp l1_2.2), by simp, by simp, hc⟩ ?_
  (try dsimp only); with_reducible refine (all_PS ?_); generalize c1 _ _ = T9; generalize PS.vs T9 = vs, PS.n1 T9 = n1, PS.l T9 = l, PS.n2 T9 = n2, PS.data T9 = data, PS.ps T9 = ps, PS.i T9 = j, PS.ti T9 = tj, PS.n T9 = nn, PS.tn T9 = tnn, PS.k T9 = k; clear T9; (k_extra "h3"); generalize p3_1 T9 = u', p3_2 T9 = h', p3_3 T9 = tk'; clear T9; intro _ I' F' N'; (try dsimp only at I' F' N' ⊢); obtain ⟨I1, I2, I3, I4, I5, I6, I7⟩ := I'
  revert k
  refine allK ?_ ?_
  · intro I5 I6 I7; rw [mLoop_zero] at I7; cases I7
  generalize c1 _ _ = k; intro I5 I6 I7
  rw [mLoop_succ] at I7
  have hpm : l' ≠ l'_1 := Nat.ne_of_lt l1_2.1
  repeat' (first | (k_extra "ka") | (k_extra "kb") | ((fail_if_success k_end); (k_extra "sA"); (fail_if_success (with_reducible show wpAny _ _ (exec (Stmt.Expr _ _) _) _ _ _)); (k_extra "kc")))
  ·
    have hb : bf j = some true := by exact some_b (by assumption) (by assumption)
    rw [hb] at I7; dsimp only at I7
    have hj : j < (x.length : Int) := by exact hv.lt hb
    have hdj := hdol j I1 hj
    repeat' (first | (k_extra "ka") | (k_extra "kb") | ((fail_if_success k_end); (k_extra "sI"); (k_extra "kc")))
    · rw [if_pos ⟨by assumption, by assumption⟩] at I7
      repeat' (first | (k_extra "ka") | (k_extra "kb") | ((fail_if_success k_end); (fail_if_success (with_reducible show wpAny _ _ (call (Value.ref 268) _) _ _ _)); (k_extra "kc")))
      refine put_c (by k_asm) (by k_asm) (by k_asm) (news_rot (by k_extra "a")) (by k_asm) (by first | exact rfl | assumption) (by k_extra "my room") (by k_extra "my room") hpm (by k_all) (by k_all) (by omega) (by omega) ?_ ?_
      · (k_extra "ei")
        (try dsimp only)
        (try (k_extra "kf"))
        repeat' (first | (k_extra "ka") | (k_extra "kb") | ((fail_if_success k_end); (k_extra "kc")))
        refine ksw_end (PS.mk (vs ++ [Value.ref _]) _ [] _ ((_, tupObj [Value.str (Str.ofString "code") _, Value.ref _]) :: (_, tupObj [Value.str (mLexTok x (j + 1)) _, Value.int nn _]) :: data) (ps ++ [Part.code (mLexTok x (j + 1)) nn]) _ _ _ _ k) (by k_asm) (by k_asm) (by (k_extra "wh mem")) trivial (by (try dsimp only); (k_extra "wh keep")) (by (k_extra "wh same")) ?_ ?_
        · refine ⟨lexEnd_nn _ _, ?_, ?_, ?_, by simp; omega, by (try simp only [List.length_append, List.length_cons, List.length_nil]); omega, ?_⟩
          · simp only [List.map_append, List.map_cons, List.map_nil, Part.dat]
            exact DatAll.append (DatAll.mono (by (k_extra "wh sub")) I2) (DatAll.one (DatIn.tuple (by (with_reducible (k_extra "wh in"))) (DatAll.cons (DatIn.str _ _) (DatAll.cons (DatIn.tuple (by (with_reducible (k_extra "wh in"))) (DatAll.cons (DatIn.str _ _) (DatAll.cons (DatIn.int _ _) .nil))) .nil))))
          · simp only [List.cons_append]; k_all
          · simp only [List.cons_append]; k_all
          · have hl : l = [] := by assumption
            subst hl; exact I7
        · dsimp only; omega
      · (k_extra "ei")
        (try dsimp only)
        (try (k_extra "kf"))
        repeat' (first | (k_extra "ka") | (k_extra "kb") | ((fail_if_success k_end); (k_extra "kc")))
        refine ksw_end (PS.mk (vs ++ [Value.ref _] ++ [Value.ref _]) _ [] _ ((_, tupObj [Value.str (Str.ofString "code") _, Value.ref _]) :: (_, tupObj [Value.str (Str.ofString "text") _, Value.str (Txt.join (Str.ofString "") (l.map (·.1))) _]) :: (_, tupObj [Value.str (mLexTok x (j + 1)) _, Value.int nn _]) :: data) (ps ++ [Part.text (Txt.join (Str.ofString "") (l.map (·.1)))] ++ [Part.code (mLexTok x (j + 1)) nn]) _ _ _ _ k) (by k_asm) (by k_asm) (by (k_extra "wh mem")) trivial (by (try dsimp only); (k_extra "wh keep")) (by (k_extra "wh same")) ?_ ?_
        · refine ⟨lexEnd_nn _ _, ?_, ?_, ?_, by simp; omega, by (try simp only [List.length_append, List.length_cons, List.length_nil]); omega, ?_⟩
          · simp only [List.map_append, List.map_cons, List.map_nil, Part.dat]
            exact DatAll.append (DatAll.append (DatAll.mono (by (k_extra "wh sub")) I2) (DatAll.one (DatIn.tuple (by (with_reducible (k_extra "wh in"))) (DatAll.cons (DatIn.str _ _) (DatAll.cons (DatIn.str _ _) .nil))))) (DatAll.one (DatIn.tuple (by (with_reducible (k_extra "wh in"))) (DatAll.cons (DatIn.str _ _) (DatAll.cons (DatIn.tuple (by (with_reducible (k_extra "wh in"))) (DatAll.cons (DatIn.str _ _) (DatAll.cons (DatIn.int _ _) .nil))) .nil))))
          · simp only [List.cons_append]; k_all
          · simp only [List.cons_append]; k_all
          · have hl : l ≠ [] := by assumption
            rw [flush, if_neg (by cases l with | nil => exact absurd rfl hl | cons p r => simp)] at I7; exact I7
        · dsimp only; omega
    · rw [if_neg (by assumption)] at I7
      repeat' (first | (k_extra "ka") | (k_extra "kb") | ((fail_if_success k_end); (k_extra "kc")))
      all_goals ((repeat (first | replace I7 := tp I7 (by k_extra "a") | replace I7 := tf I7 (by k_extra "a") | replace I7 := tn I7 (by k_extra "a") | replace I7 := sp I7 (by k_extra "a") | replace I7 := sf I7 (by k_extra "a") | replace I7 := sn I7 (by k_extra "a"))); (try simp only [*, if_true, if_false, Bool.false_eq_true, reduceCtorEq] at I7))
      · have ok := escape_ok I1 (by assumption)
        refine ksw_end (PS.mk vs n1 (l ++ [(_, _)]) _ data ps _ _ _ _ k) (by k_asm) (by k_asm) (by (k_extra "wh mem")) trivial (by (try dsimp only); (k_extra "wh keep")) (by (k_extra "wh same")) ?_ ?_
        · refine ⟨by dsimp only; omega, I2, I3, I4, ?_, by dsimp only; omega, by rw [List.map_append]; exact I7⟩
          simp only [List.map_append, List.map_cons, List.map_nil, List.sum_append, List.sum_cons, List.sum_nil, List.length_append, List.length_cons, List.length_nil]; omega
        · dsimp only; omega
      · exact hexc _ _ _ _ _ _ (Option.some.inj I7).symm (by k_asm) (by assumption) (RaisedPF.sub (by assumption) (by (k_extra "wh mem")))
      · refine ksw_end (PS.mk vs n1 (l ++ [(_, _)]) _ data ps _ _ _ _ k) (by k_asm) (by k_asm) (by (k_extra "wh mem")) trivial (by (try dsimp only); (k_extra "wh keep")) (by (k_extra "wh same")) ?_ ?_
        · refine ⟨by dsimp only; omega, I2, I3, I4, ?_, by dsimp only; omega, by rw [List.map_append]; exact I7⟩
          simp only [List.map_append, List.map_cons, List.map_nil, List.sum_append, List.sum_cons, List.sum_nil, List.length_append, List.length_cons, List.length_nil]; omega
        · dsimp only; omega
      · exact hexc _ _ _ _ _ _ (Option.some.inj I7).symm (by k_asm) (by assumption) (RaisedPF.sub (by assumption) (by (k_extra "wh mem")))
      · refine ksw_end (PS.mk vs n1 (l ++ [(_, _)]) _ data ps _ _ _ _ k) (by k_asm) (by k_asm) (by (k_extra "wh mem")) trivial (by (try dsimp only); (k_extra "wh keep")) (by (k_extra "wh same")) ?_ ?_
        · refine ⟨by dsimp only; omega, I2, I3, I4, ?_, by dsimp only; omega, by rw [List.map_append]; exact I7⟩
          simp only [List.map_append, List.map_cons, List.map_nil, List.sum_append, List.sum_cons, List.sum_nil, List.length_append, List.length_cons, List.length_nil]; omega
        · dsimp only; omega
      · refine ksw_end (PS.mk vs n1 (l ++ [(_, _)]) _ data ps _ _ _ _ k) (by k_asm) (by k_asm) (by (k_extra "wh mem")) trivial (by (try dsimp only); (k_extra "wh keep")) (by (k_extra "wh same")) ?_ ?_
        · refine ⟨by dsimp only; omega, I2, I3, I4, ?_, by dsimp only; omega, by rw [List.map_append]; exact I7⟩
          simp only [List.map_append, List.map_cons, List.map_nil, List.sum_append, List.sum_cons, List.sum_nil, List.length_append, List.length_cons, List.length_nil]; omega
        · dsimp only; omega
  ·
    have hb : bf j = some false := by exact some_b (by assumption) (by assumption)
    rw [hb] at I7; dsimp only at I7
    repeat' (first | (k_extra "ka") | (k_extra "kb") | ((fail_if_success k_end); (fail_if_success (with_reducible show wpAny _ _ (eval (PySem.Expr.IfExp _ _ _ _) _) _ _ _)); (k_extra "kc")))
    · have hl : l = [] := by assumption
      refine at_e (fun r => ∃ t, r = .int (fin j) t) (by k_asm) (by k_asm) ?_ ?_
      · rcases hv with ⟨t9, rfl, rfl, rfl, hs⟩ | ⟨y9, t9, rfl, rfl, rfl, hd⟩
        · repeat' (first | (k_extra "ka") | (k_end; (k_extra "z0"); (k_extra "z1"); (k_extra "z2"); (k_extra "z3"); (k_extra "z8"); first | wrow_close | walk1 | (dsimp only; walk1) | (leave1; (try dsimp only))) | ((fail_if_success k_end); (k_extra "z8"); (k_extra "kc")))
          exact AtE.set ⟨_, rfl⟩ (by k_asm) (by (k_extra "wh drop"))
        · repeat' (first | (k_extra "ka") | (k_end; (k_extra "z0"); (k_extra "z1"); (k_extra "z2"); (k_extra "z3"); (k_extra "z8"); first | wrow_close | walk1 | (dsimp only; walk1) | (leave1; (try dsimp only))) | ((fail_if_success k_end); (k_extra "z8"); (k_extra "kc")))
          exact AtE.set ⟨_, rfl⟩ (by k_asm) (by (k_extra "wh drop"))
      (try dsimp only); (k_extra "h3"); generalize p3_1 T9 = v8, p3_2 T9 = h8, p3_3 T9 = tk8; clear T9; intro hv8 F8 N8
      refine exE hv8 ?_; clear hv8; (try dsimp only); ((k_extra "h1"); generalize c1 _ _ = t8); intro hE9; obtain rfl := hE9
      repeat' (first | (k_extra "ka") | (k_extra "kb") | ((fail_if_success k_end); (k_extra "kc")))
      exact hret ps _ _ _ vs data _ _ _ (by rw [hl] at I7; exact (Option.some.inj I7).symm) I2 (by k_asm) (cb_drop (by assumption) (by (k_extra "wh sub")))
    · have hl : l ≠ [] := by assumption
      refine at_e (fun r => ∃ t, r = .int (fin j) t) (by k_asm) (by k_asm) ?_ ?_
      · rcases hv with ⟨t9, rfl, rfl, rfl, hs⟩ | ⟨y9, t9, rfl, rfl, rfl, hd⟩
        · repeat' (first | (k_extra "ka") | (k_end; (k_extra "z0"); (k_extra "z1"); (k_extra "z2"); (k_extra "z3"); (k_extra "z8"); first | wrow_close | walk1 | (dsimp only; walk1) | (leave1; (try dsimp only))) | ((fail_if_success k_end); (k_extra "z8"); (k_extra "kc")))
          exact AtE.set ⟨_, rfl⟩ (by k_asm) (by (k_extra "wh drop"))
        · repeat' (first | (k_extra "ka") | (k_end; (k_extra "z0"); (k_extra "z1"); (k_extra "z2"); (k_extra "z3"); (k_extra "z8"); first | wrow_close | walk1 | (dsimp only; walk1) | (leave1; (try dsimp only))) | ((fail_if_success k_end); (k_extra "z8"); (k_extra "kc")))
          exact AtE.set ⟨_, rfl⟩ (by k_asm) (by (k_extra "wh drop"))
      (try dsimp only); (k_extra "h3"); generalize p3_1 T9 = v8, p3_2 T9 = h8, p3_3 T9 = tk8; clear T9; intro hv8 F8 N8
      refine exE hv8 ?_; clear hv8; (try dsimp only); ((k_extra "h1"); generalize c1 _ _ = t8); intro hE9; obtain rfl := hE9
      repeat' (first | (k_extra "ka") | (k_extra "kb") | ((fail_if_success k_end); (k_extra "kc")))
      expose_names
      refine hret (ps ++ [Part.text (Txt.join (Str.ofString "") (l.map (·.1)))]) _ _ _ _ ((_, tupObj [Value.str (Str.ofString "text") _, Value.str (Txt.join (Str.ofString "") (l.map (·.1))) _]) :: data) _ _ _ ?_ ?_ (by k_asm) (cb_drop (by assumption) (by (k_extra "wh sub")))
      · rw [flush, if_neg (by cases l with | nil => exact absurd rfl hl | cons p r => simp)] at I7; exact (Option.some.inj I7).symm
      · simp only [List.map_append, List.map_cons, List.map_nil, Part.dat]
        exact DatAll.append (DatAll.mono (by (k_extra "wh sub")) I2) (DatAll.one (DatIn.tuple (by (with_reducible (k_extra "wh in"))) (DatAll.cons (DatIn.str _ _) (DatAll.cons (DatIn.str _ _) .nil))))
  ·
    have hb : bf j = none := by assumption
    rw [hb] at I7; dsimp only at I7
    exact hexc _ _ _ _ _ _ (Option.some.inj I7).symm (by k_asm) (by assumption) (RaisedPF.sub (by assumption) (by (k_extra "wh mem")))
 k_extra "q"
end
theorem reg94 : True := by
  k_with ".call ref" => ((k_here; (with_reducible show wpAny _ _ (call (Value.ref 282) _) _ _ _); k_dflt (refine' parts_c ?kB ?kF ?kX ?kN ?kT ?kK ?zkd ?zku ?zkhx ?zkh0 ?zkhv ?zkhR ?zkhdl ?zkhdol ?zkhK ?_ ?_; (k_extra "kq"); (case zkd => k_extra "my room"); (case zku => k_extra "my room"); (case zkhx => k_extra "my side"); (case zkh0 => k_extra "my side"); (case zkhv => assumption); (case zkhR => assumption); (case zkhdl => k_extra "my side"); (case zkhdol => k_extra "my side"); (case zkhK => k_extra "my side"); ((try dsimp only); (k_extra "h9"); generalize p9_1 T9 = ps, p9_2 T9 = j, p9_3 T9 = r, p9_4 T9 = t, p9_5 T9 = vs, p9_6 T9 = data, p9_7 T9 = k1, p9_8 T9 = h', p9_9 T9 = tk'; clear T9; (first | revert ps j r t vs data k1 h' tk' | ((try revert tk'); (try revert h'); (try revert k1); (try revert data); (try revert vs); (try revert t); (try revert r); (try revert j); (try revert ps))); intros; (try k_sweep); (try (k_extra "kf"))); rotate_left; ((try dsimp only); (k_extra "h6"); generalize p6_1 T9 = y, p6_2 T9 = n', p6_3 T9 = e, p6_4 T9 = g, p6_5 T9 = h', p6_6 T9 = tk'; clear T9; (first | revert y n' e g h' tk' | ((try revert tk'); (try revert h'); (try revert g); (try revert e); (try revert n'); (try revert y))); intros; (try k_sweep)); rotate_left)))
  trivial
noncomputable def mRawEnd (x : Str) (st j : Int) : Int := if 0 ≤ Txt.find3 x (Str.ofString "\n") j ∧ Txt.find3 x (Str.ofString "\n") j < st then Txt.find3 x (Str.ofString "\n") j + 1 else st
noncomputable def mRaw (x d : Str) (st : Int) : Nat → Int → Int → List Str → Option (Except (Str × Int) (List Str))
  | 0, _, _, _ => none
  | k + 1, i, n, ms => if i < st then
      match mPass x d st d.length i with
      | .error y => some (.error (y, n))
      | .ok j => mRaw x d st k (mRawEnd x st j) (n + 1) (ms ++ [Txt.slice x (some j) (some (mRawEnd x st j))])
    else some (.ok ms)
noncomputable def mMark (c : Str) : Bool := [Str.ofString "'", Str.ofString "\""].any fun y => y == c
noncomputable def mHeadFin (x : Str) (m : Str) (f b e : Int) : Option (Str × Bool × Int) :=
  if mStart (mSignAt x f) = true then if mNl x e = e then none else some (Txt.slice x (some f) (some b), m == Str.ofString "'", mNl x e) else none
noncomputable def mHead (x : Str) (i : Int) : Option (Str × Bool × Int) :=
  if (Txt.slice x (some i) (some (i + 3)) != Str.ofString "<<<") = true then none
  else if mMark (mSignAt x (mBlanks x (i + 3))) = true then
    if (mSignAt x (mReadName x (mBlanks x (i + 3) + 1)) != mSignAt x (mBlanks x (i + 3))) = true then none
    else mHeadFin x (mSignAt x (mBlanks x (i + 3))) (mBlanks x (i + 3) + 1) (mReadName x (mBlanks x (i + 3) + 1)) (mReadName x (mBlanks x (i + 3) + 1) + 1)
  else mHeadFin x (mSignAt x (mBlanks x (i + 3))) (mBlanks x (i + 3)) (mReadName x (mBlanks x (i + 3))) (mReadName x (mBlanks x (i + 3)))
theorem scanF_ge (p : Int → Bool) : ∀ (k : Nat) (i : Int), i ≤ scanF k p i
  | 0, i => Int.le_refl _
  | k + 1, i => by
    rw [scanF]
    split
    · have := scanF_ge p k (i + 1); omega
    · exact Int.le_refl _
theorem blanks_ge (x : Str) (i : Int) : i ≤ mBlanks x i := scanF_ge _ _ _
theorem name_ge (x : Str) (i : Int) : i ≤ mReadName x i := scanF_ge _ _ _
theorem find3_nn (x y : Str) (i : Int) : -1 ≤ Txt.find3 x y i := (fact_find3 x y i).1
theorem fillE13 {w : World} {h₀ : Heap} (h : PySem.Challenge.rw_pq0846_01.row.prog = PySem.Challenge.rw_pq0846_01.row.prog) (X : (hd.heap_39 w.params).In h₀) : (hd.heap_39 w.params).In h₀ := by
  revert h X; k_fill; intro h X; exact X
section
variable {w : World} {mean mg mb} {dp un : Nat} {gd cn} {cs : Scope} {a ccd cl} {outer : List Env} {A₀ base h₀ L m} {s : Shared} {hp tk0 news} {Q E : Value → Shared → Prop}
 (B : Below A₀ base outer h₀) (F : Fr h₀ L hp m) (X : (hd.heap_39 w.params).In h₀) (N : News h₀ L hp news) (T : Top hd.view_39 (looseW hd.view_39 []) mean mg mb h₀) (hk : cs.kind = .function)
include B F X N T hk
theorem raw_c {x d : Str} {tx td : Tok} {i st n : Int} {ti ts tn : Tok} {R : Except (Str × Int) (List Str)} (K : Nat) (hdp : dp + 30 < recursionLimit) (hun : un + 240 < cLine) (hx : x.length ≤ 65536) (h0 : 0 ≤ i) (hs : st ≤ x.length) (hs0 : 0 ≤ st) (hd : d.length ≤ 8) (hK : K ≤ 8) (hR : mRaw x d st K i n [] = some R)
  (hret : ∀ ms t h' tk', R = .ok ms → Fr h₀ L h' m → News h₀ L h' news → Q (.str (Txt.join (Str.ofString "") ms) t) { s with heap := h', toks := tk' })
  (hexc : ∀ y n' e g h' tk', R = .error (y, n') → Fr h₀ L g m → g.UpToSlots h' → RaisedPF w base g (envX cn cs L a ccd cl :: outer) e (y) (n') news h' → E (.ref e) { s with heap := h', toks := tk' }) :
  wpAny (model PySem.Challenge.rw_pq0846_01.row.prog w) (ktrTop dp un gd cn cs L a ccd cl outer) (call (.ref 317) [.str x tx, .int i ti, .int st ts, .str d td, .int n tn]) Q E { s with heap := hp, toks := tk0 } := by
 k_with "w" =>
  revert B F X N T hk hdp hun hx h0 hs hs0 hd hK hR hret hexc
  revert w mean mg mb dp un gd cn cs a ccd cl outer A₀ base h₀ L m s hp tk0 news Q E x d tx td i st n ti ts tn R K
  (k_extra "cp")
  (k_extra "n8"); generalize p8_1 T9 = x, p8_2 T9 = d, p8_3 T9 = tx, p8_4 T9 = td, p8_5 T9 = i, p8_6 T9 = st, p8_7 T9 = n, p8_8 T9 = ti; clear T9
  (k_extra "n4"); generalize p4_1 T9 = ts, p4_2 T9 = tn, p4_3 T9 = R, p4_4 T9 = K; clear T9
  intro B F X N T hk hdp hun hx h0 hs hs0 hd hK hR hret hexc
  refine wpAny_call ?_
  k_dflt (k_extra "my enter")
  repeat' (first | (k_extra "ka") | (k_extra "kb") | ((fail_if_success k_end); (k_extra "z7"); (k_extra "kc")))
  expose_names
  refine ksw_while (fun c : List (Str × Tok) × Nat × (Int × Tok) × (Int × Tok) × Nat => (l', W.listOf (strValues c.1).toArray c.2.1) :: news) (fun c => [(Str.ofString "at", .int c.2.2.1.1 c.2.2.1.2), (Str.ofString "line", .int c.2.2.2.1.1 c.2.2.2.1.2)]) (fun _ => True) [Str.ofString "newline", Str.ofString "behind"]
    (fun c => 0 ≤ c.2.2.1.1 ∧ ((c.1.map (·.1)).map (·.length)).sum + c.1.length + 65537 * c.2.2.2.2 ≤ 65537 * K ∧ mRaw x d st c.2.2.2.2 c.2.2.1.1 c.2.2.2.1.1 (c.1.map (·.1)) = some R) (fun c => c.2.2.2.2)
    ([], _, (i, _), (n, _), K) (by k_asm) (by k_asm) trivial (by (k_extra "wh keep")) ⟨h0, by simp, hR⟩ ?_
  (try dsimp only); with_reducible refine (all_xxoxxcoxxcx inferInstance ?_); generalize c7 _ _ = T9; generalize p7_1 T9 = l, p7_2 T9 = ln, p7_3 T9 = j, p7_4 T9 = tj, p7_5 T9 = nn, p7_6 T9 = tnn, p7_7 T9 = k; clear T9; (k_extra "h3"); generalize p3_1 T9 = u', p3_2 T9 = h', p3_3 T9 = tk'; clear T9; intro _ I' F' N'; (try dsimp only at I' F' N' ⊢); obtain ⟨I1, I2, I3⟩ := I'
  revert k
  refine allK ?_ ?_
  · intro I2 I3; rw [mRaw] at I3; cases I3
  generalize c1 _ _ = k; intro I2 I3
  rw [mRaw] at I3
  repeat' (first | (k_extra "ka") | (k_extra "kb") | ((fail_if_success k_end); (k_extra "kc")))
  all_goals (try unfold mRawEnd at I3)
  all_goals (simp only [*, and_true, true_and, and_false, false_and, if_true, if_false, Bool.false_eq_true, reduceCtorEq] at I3)
  all_goals first
    | exact hret _ _ _ _ (Option.some.inj I3).symm (by k_asm) (by (k_extra "wh drop"))
    | skip
  · refine ksw_end (l ++ [(_, _)], _, (_, _), (_, _), k) (by k_asm) (by k_asm) (by (k_extra "wh mem")) trivial (by (try dsimp only); (k_extra "wh keep")) (by (k_extra "wh same")) ?_ ?_
    · refine ⟨by dsimp only; omega, ?_, by rw [List.map_append]; exact I3⟩
      simp only [List.map_append, List.map_cons, List.map_nil, List.sum_append, List.sum_cons, List.sum_nil, List.length_append, List.length_cons, List.length_nil]; omega
    · dsimp only; omega
  · refine ksw_end (l ++ [(_, _)], _, (_, _), (_, _), k) (by k_asm) (by k_asm) (by (k_extra "wh mem")) trivial (by (try dsimp only); (k_extra "wh keep")) (by (k_extra "wh same")) ?_ ?_
    · refine ⟨by dsimp only; omega, ?_, by rw [List.map_append]; exact I3⟩
      simp only [List.map_append, List.map_cons, List.map_nil, List.sum_append, List.sum_cons, List.sum_nil, List.length_append, List.length_cons, List.length_nil]; omega
    · dsimp only; omega
  · refine ksw_end (l ++ [(_, _)], _, (_, _), (_, _), k) (by k_asm) (by k_asm) (by (k_extra "wh mem")) trivial (by (try dsimp only); (k_extra "wh keep")) (by (k_extra "wh same")) ?_ ?_
    · refine ⟨by dsimp only; omega, ?_, by rw [List.map_append]; exact I3⟩
      simp only [List.map_append, List.map_cons, List.map_nil, List.sum_append, List.sum_cons, List.sum_nil, List.length_append, List.length_cons, List.length_nil]; omega
    · dsimp only; omega
  · exact hexc _ _ _ _ _ _ (Option.some.inj I3).symm (by k_asm) (by assumption) (RaisedPF.sub (by assumption) (by (k_extra "wh mem")))
 k_extra "q"
end
theorem reg95 : True := by
  k_with ".call ref" => ((k_here; (with_reducible show wpAny _ _ (call (Value.ref 317) _) _ _ _); k_dflt (refine' raw_c ?kB ?kF ?kX ?kN ?kT ?kK ?zkd ?zku ?zkhx ?zkh0 ?zkhs ?zkhs0 ?zkhd ?zkhK ?zkhR ?_ ?_; (k_extra "kq"); (case zkd => k_extra "my room"); (case zku => k_extra "my room"); (case zkhx => k_extra "my side"); (case zkh0 => k_extra "my side"); (case zkhs => k_extra "my side"); (case zkhs0 => k_extra "my side"); (case zkhd => k_extra "my side"); (case zkhK => k_extra "my side"); (case zkhR => assumption); ((try dsimp only); (k_extra "h4"); generalize p4_1 T9 = ms, p4_2 T9 = t, p4_3 T9 = h', p4_4 T9 = tk'; clear T9; (first | revert ms t h' tk' | ((try revert tk'); (try revert h'); (try revert t); (try revert ms))); intros; (try k_sweep); (try (k_extra "kf"))); rotate_left; ((try dsimp only); (k_extra "h6"); generalize p6_1 T9 = y, p6_2 T9 = n', p6_3 T9 = e, p6_4 T9 = g, p6_5 T9 = h', p6_6 T9 = tk'; clear T9; (first | revert y n' e g h' tk' | ((try revert tk'); (try revert h'); (try revert g); (try revert e); (try revert n'); (try revert y))); intros; (try k_sweep)); rotate_left)))
  trivial
theorem head_c : ∀ {w : World} {mean mg mb} {dp un : Nat} {gd cn} {cs : Scope} {a ccd cl} {outer : List Env} {A₀ base h₀ L m} {s : Shared} {hp tk0 news} {Q E : Value → Shared → Prop} {x : Str} {tx : Tok} {i : Int} {ti : Tok} (B : Below A₀ base outer h₀) (F : Fr h₀ L hp m) (X : (hd.heap_39 w.params).In h₀) (N : News h₀ L hp news) (T : Top hd.view_39 (looseW hd.view_39 []) mean mg mb h₀) (hk : cs.kind = .function) (hdp : dp + 12 < recursionLimit) (hun : un + 96 < cLine) (hx : x.length ≤ 65536) (h0 : 0 ≤ i)
  (hnone : ∀ h' tk', mHead x i = none → Fr h₀ L h' m → News h₀ L h' news → Q .none { s with heap := h', toks := tk' })
  (hsome : ∀ y b j r k1 k2 h' tk', mHead x i = some (y, b, j) → Fr h₀ L h' m → News h₀ L h' ((r, tupObj [.str y k1, .bool b, .int j k2]) :: news) → (∀ p ∈ news, p.1 < r) → Q (.ref r) { s with heap := h', toks := tk' }),
  wpAny (model PySem.Challenge.rw_pq0846_01.row.prog w) (ktrTop dp un gd cn cs L a ccd cl outer) (call (.ref 296) [.str x tx, .int i ti]) Q E { s with heap := hp, toks := tk0 } := by
 k_with "w" =>
  (k_extra "cp")
  (k_extra "n4"); generalize p4_1 T9 = x, p4_2 T9 = tx, p4_3 T9 = i, p4_4 T9 = ti; clear T9
  intro B F X N T hk hdp hun hx h0 hnone hsome
  have g1 := blanks_ge x (i + 3)
  have g2 := name_ge x (mBlanks x (i + 3) + 1)
  have g3 := name_ge x (mBlanks x (i + 3))
  refine wpAny_call ?_
  k_dflt (k_extra "my enter")
  repeat' (first | (k_extra "ka") | (k_extra "kb") | ((fail_if_success k_end); (k_extra "kc")))
  all_goals first
    | exact hnone _ _ (by unfold mHead mHeadFin mMark; (try simp only [*, if_true, if_false, Bool.false_eq_true, ne_eq, not_false_eq_true]); (try rfl)) (by k_asm) (by (k_extra "wh drop"))
    | exact hsome _ _ _ _ _ _ _ _ (by unfold mHead mHeadFin mMark; (try simp only [*, if_true, if_false, Bool.false_eq_true, ne_eq, not_false_eq_true]); (try rfl)) (by k_asm) (by (k_extra "wh drop1")) (by (k_extra "wh low"))
 k_extra "q"
theorem reg96 : True := by
  k_with ".call ref" => ((k_here; (with_reducible show wpAny _ _ (call (Value.ref 296) _) _ _ _); k_dflt (refine' head_c ?kB ?kF ?kX ?kN ?kT ?kK ?zkd ?zku ?zkhx ?zkh0 ?_ ?_; (k_extra "kq"); (case zkd => k_extra "my room"); (case zku => k_extra "my room"); (case zkhx => k_extra "my side"); (case zkh0 => k_extra "my side"); ((try dsimp only); (k_extra "h2"); generalize p2_1 T9 = h', p2_2 T9 = tk'; clear T9; (first | revert h' tk' | ((try revert tk'); (try revert h'))); intros; (try k_sweep); (try (k_extra "kf"))); rotate_left; ((try dsimp only); (k_extra "h8"); generalize p8_1 T9 = y, p8_2 T9 = b, p8_3 T9 = j, p8_4 T9 = r, p8_5 T9 = k1, p8_6 T9 = k2, p8_7 T9 = h', p8_8 T9 = tk'; clear T9; (first | revert y b j r k1 k2 h' tk' | ((try revert tk'); (try revert h'); (try revert k2); (try revert k1); (try revert r); (try revert j); (try revert b); (try revert y))); intros; (try k_sweep); (try (k_extra "kf"))); rotate_left)))
  trivial
noncomputable def mEndAt (x : Str) (i r : Int) : Int := if i ≤ r - 2 ∧ (Txt.item x (r - 2) == Str.ofString "\r") = true then r - 2 else r - 1
noncomputable def mEnd (x y : Str) (i : Int) : Nat → Int → Option (Except Str (Int × Str × Int))
  | 0, _ => none
  | k + 1, r => if r ≤ x.length then
      if (Txt.slice x (some (mBlanks x r)) (some (mBlanks x r + y.length)) == y) = true ∧ mSign (mSignAt x (mBlanks x r + y.length)) = false then
        if (Builtin.Str.occurrences (Txt.slice x (some r) (some (mBlanks x r))) (Str.ofString " ") 0 (Txt.slice x (some r) (some (mBlanks x r))).length 1).isEmpty = false ∧ (Builtin.Str.occurrences (Txt.slice x (some r) (some (mBlanks x r))) (Str.ofString "\t") 0 (Txt.slice x (some r) (some (mBlanks x r))).length 1).isEmpty = false then some (.error whyM)
        else if r = i then some (.ok (i, Txt.slice x (some r) (some (mBlanks x r)), mBlanks x r + y.length))
        else some (.ok (mEndAt x i r, Txt.slice x (some r) (some (mBlanks x r)), mBlanks x r + y.length))
      else if 0 ≤ Txt.find3 x (Str.ofString "\n") r then mEnd x y i k (Txt.find3 x (Str.ofString "\n") r + 1)
      else mEnd x y i k (x.length + 1)
    else some (.error whyE)
theorem reg97 : True := by
  k_with "my len1" => (exact sign_len _ _ (by omega))
  trivial
theorem fillE14 {w : World} {h₀ : Heap} (h : PySem.Challenge.rw_pq0846_01.row.prog = PySem.Challenge.rw_pq0846_01.row.prog) (X : (hd.heap_39 w.params).In h₀) : (hd.heap_39 w.params).In h₀ := by
  revert h X; k_fill; intro h X; exact X
section
variable {w : World} {mean mg mb} {dp un : Nat} {gd cn} {cs : Scope} {a ccd cl} {outer : List Env} {A₀ base h₀ L m} {s : Shared} {hp tk0 news} {Q E : Value → Shared → Prop}
 (B : Below A₀ base outer h₀) (F : Fr h₀ L hp m) (X : (hd.heap_39 w.params).In h₀) (N : News h₀ L hp news) (T : Top hd.view_39 (looseW hd.view_39 []) mean mg mb h₀) (hk : cs.kind = .function)
include B F X N T hk
theorem end_c {x y : Str} {tx ty : Tok} {i n : Int} {ti tn : Tok} {R : Except Str (Int × Str × Int)} (K : Nat) (hdp : dp + 30 < recursionLimit) (hun : un + 240 < cLine) (hx : x.length ≤ 65536) (h0 : 0 ≤ i) (hy : y.length ≤ 8) (hR : mEnd x y i K i = some R)
  (hret : ∀ e d b r k1 k2 k3 h' tk', R = .ok (e, d, b) → Fr h₀ L h' m → News h₀ L h' ((r, tupObj [.int e k1, .str d k2, .int b k3]) :: news) → (∀ p ∈ news, p.1 < r) → Q (.ref r) { s with heap := h', toks := tk' })
  (hexc : ∀ y' e g h' tk', R = .error y' → Fr h₀ L g m → g.UpToSlots h' → RaisedPF w base g (envX cn cs L a ccd cl :: outer) e (y') (n) news h' → E (.ref e) { s with heap := h', toks := tk' }) :
  wpAny (model PySem.Challenge.rw_pq0846_01.row.prog w) (ktrTop dp un gd cn cs L a ccd cl outer) (call (.ref 303) [.str x tx, .int i ti, .str y ty, .int n tn]) Q E { s with heap := hp, toks := tk0 } := by
 k_with "w" =>
  revert B F X N T hk hdp hun hx h0 hy hR hret hexc
  revert w mean mg mb dp un gd cn cs a ccd cl outer A₀ base h₀ L m s hp tk0 news Q E x y tx ty i n ti tn R K
  (k_extra "cp")
  (k_extra "n8"); generalize p8_1 T9 = x, p8_2 T9 = y, p8_3 T9 = tx, p8_4 T9 = ty, p8_5 T9 = i, p8_6 T9 = n, p8_7 T9 = ti, p8_8 T9 = tn; clear T9
  (k_extra "n2"); generalize p2_1 T9 = R, p2_2 T9 = K; clear T9
  intro B F X N T hk hdp hun hx h0 hy hR hret hexc
  refine wpAny_call ?_
  k_dflt (k_extra "my enter")
  repeat' (first | (k_extra "ka") | (k_extra "kb") | ((fail_if_success k_end); (k_extra "z7"); (k_extra "kc")))
  expose_names
  refine ksw_while (fun c : (Int × Tok) × Nat => news) (fun c => [(Str.ofString "row", .int c.1.1 c.1.2)]) (fun _ => True) [Str.ofString "first", Str.ofString "behind", Str.ofString "indent", Str.ofString "end", Str.ofString "newline"]
    (fun c => 0 ≤ c.1.1 ∧ i ≤ c.1.1 ∧ mEnd x y i c.2 c.1.1 = some R) (fun c => c.2)
    ((i, _), K) (by k_asm) (by k_asm) trivial (by (k_extra "wh keep")) ⟨h0, Int.le_refl _, hR⟩ ?_
  (try dsimp only); with_reducible refine (all_oxxcx inferInstance ?_); generalize c3 _ _ = T9; generalize p3_1 T9 = j, p3_2 T9 = tj, p3_3 T9 = k; clear T9; (k_extra "h3"); generalize p3_1 T9 = u', p3_2 T9 = h', p3_3 T9 = tk'; clear T9; intro _ I' F' N'; (try dsimp only at I' F' N' ⊢); obtain ⟨I1, I2, I3⟩ := I'
  revert k
  refine allK ?_ ?_
  · intro I3; rw [mEnd] at I3; cases I3
  generalize c1 _ _ = k; intro I3
  rw [mEnd] at I3
  have g1 := blanks_ge x j
  repeat' (first | (k_extra "ka") | (k_extra "kb") | ((fail_if_success k_end); (k_extra "sI"); (k_extra "kc")))
  ·
    (simp only [*, if_true] at I3)
    refine if_join ((Txt.slice x (some (mBlanks x j)) (some (mBlanks x j + y.length)) == y) = true ∧ mSign (mSignAt x (mBlanks x j + y.length)) = false) (by k_asm) (by k_asm) ?_ ?_ ?_
    · repeat' (first | (k_extra "ka") | (k_extra "kb") | ((fail_if_success k_end); (k_extra "kc")))
      all_goals first | (k_extra "jb") | (fail "open")
    · intro hP; (try dsimp only); (k_extra "h2"); generalize p2_1 T9 = h', p2_2 T9 = tk'; clear T9; intro F' N'
      rw [if_pos hP] at I3
      repeat' (first | (k_extra "ka") | (k_extra "kb") | ((fail_if_success k_end); (k_extra "kc")))
      all_goals (first | (rename j = i => eji; subst eji) | skip)
      all_goals first
        | exact hexc _ _ _ _ _ (by (try unfold mEndAt at I3); (simp only [*, and_self, if_true, if_false, and_true, and_false, false_and, true_and, Bool.false_eq_true, reduceCtorEq] at I3); exact (Option.some.inj I3).symm) (by k_asm) (by assumption) (RaisedPF.sub (by assumption) (by (k_extra "wh mem")))
        | exact hret _ _ _ _ _ _ _ _ _ (by (try unfold mEndAt at I3); (simp only [*, and_self, if_true, if_false, and_true, and_false, false_and, true_and, Bool.false_eq_true, reduceCtorEq] at I3); exact (Option.some.inj I3).symm) (by k_asm) (by (k_extra "wh drop1")) (by (k_extra "wh low"))
        | (fail "open")
    intro hP; (try dsimp only); (k_extra "h2"); generalize p2_1 T9 = h', p2_2 T9 = tk'; clear T9; intro F' N'
    rw [if_neg hP] at I3
    have hf := find3_step x j I1
    repeat' (first | (k_extra "ka") | (k_extra "kb") | ((fail_if_success k_end); (k_extra "kc")))
    · rw [if_pos (by assumption)] at I3
      refine ksw_end ((_, _), k) (by k_asm) (by k_asm) (by (k_extra "wh mem")) trivial (by (try dsimp only); (k_extra "wh keep")) (by (k_extra "wh same")) ?_ ?_
      · exact ⟨by dsimp only; omega, by dsimp only; omega, I3⟩
      · dsimp only; omega
    · rw [if_neg (by assumption)] at I3
      refine ksw_end ((_, _), k) (by k_asm) (by k_asm) (by (k_extra "wh mem")) trivial (by (try dsimp only); (k_extra "wh keep")) (by (k_extra "wh same")) ?_ ?_
      · exact ⟨by dsimp only; omega, by dsimp only; omega, I3⟩
      · dsimp only; omega
  all_goals repeat' (first | (k_extra "ka") | (k_extra "kb") | ((fail_if_success k_end); (k_extra "kc")))
  rw [if_neg (by assumption)] at I3
  exact hexc _ _ _ _ _ (Option.some.inj I3).symm (by k_asm) (by assumption) (RaisedPF.sub (by assumption) (by (k_extra "wh mem")))
 k_extra "q"
end
theorem reg98 : True := by
  k_with ".call ref" => ((k_here; (with_reducible show wpAny _ _ (call (Value.ref 303) _) _ _ _); k_dflt (refine' end_c ?kB ?kF ?kX ?kN ?kT ?kK ?zkd ?zku ?zkhx ?zkh0 ?zkhy ?zkhR ?_ ?_; (k_extra "kq"); (case zkd => k_extra "my room"); (case zku => k_extra "my room"); (case zkhx => k_extra "my side"); (case zkh0 => k_extra "my side"); (case zkhy => k_extra "my side"); (case zkhR => assumption); ((try dsimp only); (k_extra "h9"); generalize p9_1 T9 = e, p9_2 T9 = d, p9_3 T9 = b, p9_4 T9 = r, p9_5 T9 = k1, p9_6 T9 = k2, p9_7 T9 = k3, p9_8 T9 = h', p9_9 T9 = tk'; clear T9; (first | revert e d b r k1 k2 k3 h' tk' | ((try revert tk'); (try revert h'); (try revert k3); (try revert k2); (try revert k1); (try revert r); (try revert b); (try revert d); (try revert e))); intros; (try k_sweep); (try (k_extra "kf"))); rotate_left; ((try dsimp only); (k_extra "h5"); generalize p5_1 T9 = y', p5_2 T9 = e, p5_3 T9 = g, p5_4 T9 = h', p5_5 T9 = tk'; clear T9; (first | revert y' e g h' tk' | ((try revert tk'); (try revert h'); (try revert g); (try revert e); (try revert y'))); intros; (try k_sweep)); rotate_left)))
  trivial
noncomputable def mUnits : List Str := [Str.ofString "a", Str.ofString "\\", Str.ofString "n", Str.ofString "t", Str.ofString "u{", Str.ofString "}", Str.ofString "0", Str.ofString "7", Str.ofString "1F", Str.ofString "x", Str.ofString "X4", Str.ofString "8", Str.ofString "e", Str.ofString "'", Str.ofString "\\$5", Str.ofString "\\\\", Str.ofString "{", Str.ofString "{$5}", Str.ofString "Ã", Str.ofString "\\u{1F600}", Str.ofString "\\u{D800}", Str.ofString "\\101", Str.ofString "g", Str.ofString "\"", Str.ofString " ", Str.ofString "\\u{800}", Str.ofString "\n"]
noncomputable def OctAt (n : Int) (c : (Str × Tok) × (Int × Tok) × (Int × Tok)) : Prop :=
  (c.2.2.1 = 0 ∧ c.2.1.1 = n ∧ c.1.1 = Str.ofString "") ∨ (c.2.2.1 = 1 ∧ c.2.1.1 = n / 64 ∧ c.1.1 = chr1 (128 + n % 64) ++ Str.ofString "") ∨
  (c.2.2.1 = 2 ∧ 2048 ≤ n ∧ c.2.1.1 = n / 64 / 64 ∧ c.1.1 = chr1 (128 + n / 64 % 64) ++ (chr1 (128 + n % 64) ++ Str.ofString "")) ∨
  (c.2.2.1 = 3 ∧ 65536 ≤ n ∧ c.2.1.1 = n / 64 / 64 / 64 ∧ c.1.1 = chr1 (128 + n / 64 / 64 % 64) ++ (chr1 (128 + n / 64 % 64) ++ (chr1 (128 + n % 64) ++ Str.ofString "")))
theorem chr1_len (n : Int) : (chr1 n).length = 1 := id rfl
theorem oct_len {n : Int} {c : (Str × Tok) × (Int × Tok) × (Int × Tok)} (h : OctAt n c) : c.1.1.length ≤ 4 := by
  rcases h with ⟨_, _, e⟩ | ⟨_, _, e⟩ | ⟨_, _, _, e⟩ | ⟨_, _, _, e⟩ <;> rw [e] <;> simp only [Str.length_append, chr1_len, (by decide : (Str.ofString "").length = 0)] <;> omega
theorem app_nil (x : Str) : x ++ Str.ofString "" = x := by
  rw [show Str.ofString "" = Str.empty by decide]; exact Str.append_empty x
theorem fillF1 {w : World} {h₀ : Heap} (h : PySem.Challenge.rw_pq0846_01.row.prog = PySem.Challenge.rw_pq0846_01.row.prog) (X : (hd.heap_39 w.params).In h₀) : (hd.heap_39 w.params).In h₀ := by
  revert h X; k_fill; intro h X; exact X
theorem lead_c : ∀ {w : World} {mean mg mb} {dp un : Nat} {gd cn} {cs : Scope} {a ccd cl} {outer : List Env} {A₀ base h₀ L m} {s : Shared} {hp tk0 news} {Q E : Value → Shared → Prop} {x y : Str} {tx ty : Tok} (B : Below A₀ base outer h₀) (F : Fr h₀ L hp m) (X : (hd.heap_39 w.params).In h₀) (N : News h₀ L hp news) (T : Top hd.view_39 (looseW hd.view_39 []) mean mg mb h₀) (hk : cs.kind = .function) (hdp : dp + 12 < recursionLimit) (hun : un + 96 < cLine) (hx : x.length ≤ 65536) (hy : y.length ≤ 65536)
  (hret : ∀ t h' tk', Fr h₀ L h' m → News h₀ L h' news → Q (.str (mLead x y) t) { s with heap := h', toks := tk' }),
  wpAny (model PySem.Challenge.rw_pq0846_01.row.prog w) (ktrTop dp un gd cn cs L a ccd cl outer) (call (.ref 350) [.str x tx, .str y ty]) Q E { s with heap := hp, toks := tk0 } := by
  (k_extra "cp")
  (k_extra "n4"); generalize p4_1 T9 = x, p4_2 T9 = y, p4_3 T9 = tx, p4_4 T9 = ty; clear T9
  intro B F X N T hk hdp hun hx hy hret
  refine wpAny_call ?_
  k_dflt (k_extra "my enter")
  repeat' (first | (k_extra "ka") | (k_extra "kb") | ((fail_if_success k_end); (k_extra "kc")))
  exact cb_retS (Q := Q) hret (lead_eq _ _).symm (by k_asm) (by k_asm)
theorem reg99 : True := by
  k_with ".call ref" => ((k_here; (with_reducible show wpAny _ _ (call (Value.ref 350) _) _ _ _); k_dflt (refine' lead_c ?kB ?kF ?kX ?kN ?kT ?kK ?zkd ?zku ?zkhx ?zkhy ?_; (k_extra "kq"); (case zkd => k_extra "my room"); (case zku => k_extra "my room"); (case zkhx => k_extra "my side"); (case zkhy => k_extra "my side"); ((try dsimp only); (k_extra "h3"); generalize p3_1 T9 = t, p3_2 T9 = h', p3_3 T9 = tk'; clear T9; (first | revert t h' tk' | ((try revert tk'); (try revert h'); (try revert t))); intros; (try k_sweep); (try (k_extra "kf"))))))
  trivial
theorem loct_c : ∀ {w : World} {mean mg mb} {dp un : Nat} {gd cn} {cs : Scope} {a ccd cl} {outer : List Env} {A₀ base h₀ L m} {s : Shared} {hp tk0 news} {Q E : Value → Shared → Prop} {n : Int} {tn : Tok} (B : Below A₀ base outer h₀) (F : Fr h₀ L hp m) (X : (hd.heap_39 w.params).In h₀) (N : News h₀ L hp news) (T : Top hd.view_39 (looseW hd.view_39 []) mean mg mb h₀) (hk : cs.kind = .function) (hdp : dp + 12 < recursionLimit) (hun : un + 96 < cLine) (h0 : 0 ≤ n) (h1 : n ≤ 1114111)
  (hret : ∀ t h' tk', Fr h₀ L h' m → News h₀ L h' news → Q (.str (mOctets n) t) { s with heap := h', toks := tk' }),
  wpAny (model PySem.Challenge.rw_pq0846_01.row.prog w) (ktrTop dp un gd cn cs L a ccd cl outer) (call (.ref 357) [.int n tn]) Q E { s with heap := hp, toks := tk0 } := by
 k_with "w" =>
  (k_extra "cp")
  (k_extra "n2"); generalize p2_1 T9 = n, p2_2 T9 = tn; clear T9
  intro B F X N T hk hdp hun h0 h1 hret
  refine wpAny_call ?_
  k_dflt (k_extra "my enter")
  repeat' (first | (k_extra "ka") | (k_extra "kb") | ((fail_if_success k_end); (k_extra "z7"); (k_extra "kc")))
  · refine cb_retS (Q := Q) hret ?_ (by k_asm) (by k_asm)
    unfold mOctets; rw [if_pos (by assumption)]; rfl
  expose_names
  refine ksw_while (fun c : (Str × Tok) × (Int × Tok) × (Int × Tok) => news) (fun c => [(Str.ofString "made", .str c.1.1 c.1.2), (Str.ofString "point", .int c.2.1.1 c.2.1.2), (Str.ofString "behind", .int c.2.2.1 c.2.2.2)]) (fun _ => True) [] (OctAt n) (fun c => (4 - c.2.2.1).toNat) ((_, _), (n, _), (0, _)) (by k_asm) (by (k_extra "wh drop")) trivial (by (k_extra "wh keep")) (.inl ⟨rfl, rfl, rfl⟩) ?_
  (try dsimp only); with_reducible refine (all_oxxcoxxcoxxc inferInstance ?_); generalize c6 _ _ = T9; generalize p6_1 T9 = md, p6_2 T9 = tmd, p6_3 T9 = p, p6_4 T9 = tp, p6_5 T9 = b, p6_6 T9 = tb; clear T9; (k_extra "h3"); generalize p3_1 T9 = u', p3_2 T9 = h', p3_3 T9 = tk'; clear T9; intro _ I' F' N'; (try dsimp only at I' F' N' ⊢)
  have hml := oct_len I'
  dsimp only at hml
  rcases I' with ⟨e1, e2, e3⟩ | ⟨e1, e2, e3⟩ | ⟨e1, e2, e3, e4⟩ | ⟨e1, e2, e3, e4⟩ <;> dsimp only at e1 e2 e3 <;> subst e1
  all_goals repeat' (first | (k_extra "ka") | (k_extra "kb") | ((fail_if_success k_end); (k_extra "kc")))
  · refine ksw_end ((_, _), (_, _), (_, _)) (by k_asm) (by k_asm) (by (k_extra "wh mem")) trivial (by (try dsimp only); (k_extra "wh keep")) (by (k_extra "wh same")) ?_ ?_
    · exact .inr (.inl ⟨rfl, by dsimp only; rw [e2, fdiv_n _ (by decide)], by dsimp only; rw [e2, e3, fmod_n _ (by decide)]; rfl⟩)
    · dsimp only; omega
  · refine ksw_end ((_, _), (_, _), (_, _)) (by k_asm) (by k_asm) (by (k_extra "wh mem")) trivial (by (try dsimp only); (k_extra "wh keep")) (by (k_extra "wh same")) ?_ ?_
    · exact .inr (.inr (.inl ⟨rfl, by omega, by dsimp only; rw [e2, fdiv_n _ (by decide)], by dsimp only; rw [e2, e3, fmod_n _ (by decide)]; rfl⟩))
    · dsimp only; omega
  · refine cb_retS (Q := Q) hret ?_ (by k_asm) (by (k_extra "wh drop"))
    unfold mOctets
    rw [if_neg (by omega), if_pos (by omega), e3, e2, app_nil]; rfl
  · dsimp only at e4
    refine ksw_end ((_, _), (_, _), (_, _)) (by k_asm) (by k_asm) (by (k_extra "wh mem")) trivial (by (try dsimp only); (k_extra "wh keep")) (by (k_extra "wh same")) ?_ ?_
    · exact .inr (.inr (.inr ⟨rfl, by omega, by dsimp only; rw [e3, fdiv_n _ (by decide)], by dsimp only; rw [e3, e4, fmod_n _ (by decide)]; rfl⟩))
    · dsimp only; omega
  · dsimp only at e4
    refine cb_retS (Q := Q) hret ?_ (by k_asm) (by (k_extra "wh drop"))
    unfold mOctets
    rw [if_neg (by omega), if_neg (by omega), if_pos (by omega), e4, e3, app_nil, show n / 64 / 64 = n / 4096 by omega]; rfl
  · dsimp only at e4
    refine cb_retS (Q := Q) hret ?_ (by k_asm) (by (k_extra "wh drop"))
    unfold mOctets
    rw [if_neg (by omega), if_neg (by omega), if_neg (by omega), e4, e3, app_nil, show n / 64 / 64 / 64 = n / 262144 by omega, show n / 64 / 64 = n / 4096 by omega, ← Str.append_assoc]; rfl
 k_extra "q"
theorem reg100 : True := by
  k_with ".call ref" => ((k_here; (with_reducible show wpAny _ _ (call (Value.ref 357) _) _ _ _); k_dflt (refine' loct_c ?kB ?kF ?kX ?kN ?kT ?kK ?zkd ?zku ?zkh0 ?zkh1 ?_; (k_extra "kq"); (case zkd => k_extra "my room"); (case zku => k_extra "my room"); (case zkh0 => k_extra "my side"); (case zkh1 => k_extra "my side"); ((try dsimp only); (k_extra "h3"); generalize p3_1 T9 = t, p3_2 T9 = h', p3_3 T9 = tk'; clear T9; (first | revert t h' tk' | ((try revert tk'); (try revert h'); (try revert t))); intros; (try k_sweep); (try (k_extra "kf"))))))
  trivial
theorem number_c : ∀ {w : World} {mean mg mb} {dp un : Nat} {gd cn} {cs : Scope} {a ccd cl} {outer : List Env} {A₀ base h₀ L m} {s : Shared} {hp tk0 news} {Q E : Value → Shared → Prop} {x : Str} {tx : Tok} {b : Int} {tb : Tok} (B : Below A₀ base outer h₀) (F : Fr h₀ L hp m) (X : (hd.heap_39 w.params).In h₀) (N : News h₀ L hp news) (T : Top hd.view_39 (looseW hd.view_39 []) mean mg mb h₀) (hk : cs.kind = .function) (hdp : dp + 12 < recursionLimit) (hun : un + 96 < cLine) (hx : x.length ≤ 65536) (hb : 0 ≤ b ∧ b ≤ 16)
  (hret : ∀ t h' tk', Fr h₀ L h' m → News h₀ L h' news → Q (.int (mNum b x) t) { s with heap := h', toks := tk' }),
  wpAny (model PySem.Challenge.rw_pq0846_01.row.prog w) (ktrTop dp un gd cn cs L a ccd cl outer) (call (.ref 343) [.str x tx, .int b tb]) Q E { s with heap := hp, toks := tk0 } := by
 k_with "w" =>
  (k_extra "cp")
  (k_extra "n4"); generalize p4_1 T9 = x, p4_2 T9 = tx, p4_3 T9 = b, p4_4 T9 = tb; clear T9
  intro B F X N T hk hdp hun hx hb hret
  refine wpAny_call ?_
  k_dflt (k_extra "my enter")
  repeat' (first | (k_extra "ka") | (k_extra "kb") | ((fail_if_success k_end); (k_extra "sF"); (k_extra "kc")))
  with_unfolding_all refine' For_invVF (by k_asm) ?kk1 ?kk2 ?_
  case kk1 => exact rfl
  case kk2 => exact rfl
  repeat' (first | (k_extra "ka") | (k_extra "kb") | ((fail_if_success k_end); (k_extra "sP"); (k_extra "kc")))
  expose_names
  refine KStt.kst_text (fun _ : Int × Tok => news) (fun c => [(Str.ofString "total", .int c.1 c.2)]) (fun _ => True) [] (fun pre c => c.1 = pre.foldl (numStep b) 0) (0, _) (by rfl) (by k_asm) (by k_asm) trivial (by (k_extra "wh keep")) rfl ?_ ?_
  · (try dsimp only); with_reducible refine (all_xx inferInstance ?_); generalize c2 _ _ = T9; generalize p2_1 T9 = j, p2_2 T9 = tj; clear T9; (k_extra "h8"); generalize p8_1 T9 = pre', p8_2 T9 = post', p8_3 T9 = k', p8_4 T9 = t', p8_5 T9 = u', p8_6 T9 = h', p8_7 T9 = tk', p8_8 T9 = own; clear T9; intro e1 hoff _ I' F' N'; (try dsimp only [envOf] at F' N'); (try dsimp only at I' F' N' ⊢)
    have hk1 : (Str.mk #[k']).length ≤ 1048576 := (by decide : 1 ≤ 1048576)
    repeat' (first | (k_extra "ka") | (k_extra "kb") | ((fail_if_success k_end); (k_extra "kc")))
    refine kst_end (_, _) (by k_asm) (by k_asm) (by (k_extra "wh mem")) (by (k_extra "wh mem")) rfl trivial (by (try dsimp only); (k_extra "wh keep")) (by (k_extra "wh same3")) ?_
    rw [List.foldl_append, ← I']; rfl
  · (try dsimp only); with_reducible refine (all_xx inferInstance ?_); generalize c2 _ _ = T9; generalize p2_1 T9 = j, p2_2 T9 = tj; clear T9; (k_extra "h3"); generalize p3_1 T9 = u', p3_2 T9 = h', p3_3 T9 = tk'; clear T9; intro _ I' F' N'; (try dsimp only [envOf] at F' N'); (try dsimp only at I' F' N' ⊢)
    repeat' (first | (k_extra "ka") | (k_extra "kb") | ((fail_if_success k_end); (k_extra "kc")))
    exact cb_retI (Q := Q) hret (I'.trans (mNum_eq _ _).symm) (by k_asm) (by k_asm)
 k_extra "q"
theorem reg101 : True := by
  k_with ".call ref" => ((k_here; (with_reducible show wpAny _ _ (call (Value.ref 343) _) _ _ _); k_dflt (refine' number_c ?kB ?kF ?kX ?kN ?kT ?kK ?zkd ?zku ?zkhx ?zkhb ?_; (k_extra "kq"); (case zkd => k_extra "my room"); (case zku => k_extra "my room"); (case zkhx => k_extra "my side"); (case zkhb => k_extra "my side"); ((try dsimp only); (k_extra "h3"); generalize p3_1 T9 = t, p3_2 T9 = h', p3_3 T9 = tk'; clear T9; (first | revert t h' tk' | ((try revert tk'); (try revert h'); (try revert t))); intros; (try k_sweep); (try (k_extra "kf"))))))
  trivial
theorem drawn_c : ∀ {w : World} {mean mg mb} {dp un : Nat} {gd cn} {cs : Scope} {a ccd cl} {outer : List Env} {A₀ base h₀ L m} {s : Shared} {hp tk0 news} {Q E : Value → Shared → Prop} {l : Addr} {p : Int} {tp : Tok} {nn : Nat} {told many : Int} {tt tm : Tok} (B : Below A₀ base outer h₀) (F : Fr h₀ L hp m) (X : (hd.heap_39 w.params).In h₀) (N : News h₀ L hp ((l, W.listOf [Value.int p tp].toArray nn) :: news)) (T : Top hd.view_39 (looseW hd.view_39 []) mean mg mb h₀) (hk : cs.kind = .function) (hdp : dp + 12 < recursionLimit) (hun : un + 96 < cLine) (hl : ∀ p ∈ news, p.1 ≠ l) (hm : 0 < many ∧ many ≤ 100)
  (hret : ∀ t k1 h' tk', Fr h₀ L h' m → News h₀ L h' ((l, W.listOf [Value.int (p.fdiv many) k1].toArray nn) :: news) → Q (.int ((told + p.fmod many).fmod many) t) { s with heap := h', toks := tk' }),
  wpAny (model PySem.Challenge.rw_pq0846_01.row.prog w) (ktrTop dp un gd cn cs L a ccd cl outer) (call (.ref 324) [.ref l, .int told tt, .int many tm]) Q E { s with heap := hp, toks := tk0 } := by
  (k_extra "cp")
  (k_extra "n8"); generalize p8_1 T9 = l, p8_2 T9 = p, p8_3 T9 = tp, p8_4 T9 = nn, p8_5 T9 = told, p8_6 T9 = many, p8_7 T9 = tt, p8_8 T9 = tm; clear T9
  intro B F X N T hk hdp hun hl hm hret
  refine wpAny_call ?_
  k_dflt (k_extra "my enter")
  repeat' (first | (k_extra "ka") | (k_extra "kb") | ((fail_if_success k_end); (k_extra "kc")))
  exact hret _ _ _ _ (by k_asm) (by k_asm)
theorem reg102 : True := by
  k_with ".call ref" => ((k_here; (with_reducible show wpAny _ _ (call (Value.ref 324) _) _ _ _); k_dflt (refine' drawn_c ?kB ?kF ?kX ?kN ?kT ?kK ?zkd ?zku ?zkhl ?zkhm ?_; (k_extra "kq"); (case zkd => k_extra "my room"); (case zku => k_extra "my room"); (case zkhl => k_extra "my side"); (case zkhm => k_extra "my side"); ((try dsimp only); (k_extra "h4"); generalize p4_1 T9 = t, p4_2 T9 = k1, p4_3 T9 = h', p4_4 T9 = tk'; clear T9; (first | revert t k1 h' tk' | ((try revert tk'); (try revert h'); (try revert k1); (try revert t))); intros; (try k_sweep); (try (k_extra "kf"))))))
  trivial
section
variable {w : World} {mean mg mb} {dp un : Nat} {gd cn} {cs : Scope} {a ccd cl} {outer : List Env} {A₀ base h₀ L m} {s : Shared} {hp tk0 news} {Q E : Value → Shared → Prop}
 (B : Below A₀ base outer h₀) (F : Fr h₀ L hp m) (X : (hd.heap_39 w.params).In h₀) (N : News h₀ L hp news) (T : Top hd.view_39 (looseW hd.view_39 []) mean mg mb h₀) (hk : cs.kind = .function)
include B F X N T hk
theorem units_c  (hdp : dp + 12 < recursionLimit) (hun : un + 96 < cLine) 
  (hret : ∀ us D nn h' tk', us.map (·.1) = mUnits → us.length = 27 → Fr h₀ L h' m → News h₀ L h' ((D, W.listOf (strValues us).toArray nn) :: news) → (∀ p ∈ news, p.1 < D) → Q (.ref D) { s with heap := h', toks := tk' }) :
  wpAny (model PySem.Challenge.rw_pq0846_01.row.prog w) (ktrTop dp un gd cn cs L a ccd cl outer) (call (.ref 331) []) Q E { s with heap := hp, toks := tk0 } := by
 k_with "w" =>
  revert B F X N T hk hdp hun hret
  revert w mean mg mb dp un gd cn cs a ccd cl outer A₀ base h₀ L m s hp tk0 news Q E
  (k_extra "cp")
  intro B F X N T hk hdp hun hret
  refine wpAny_call ?_
  k_dflt (k_extra "my enter")
  repeat' (first | (k_extra "ka") | (k_extra "kb") | ((fail_if_success k_end); (k_extra "kc")))
  exact hret [(_, _), (_, _), (_, _), (_, _), (_, _), (_, _), (_, _), (_, _), (_, _), (_, _), (_, _), (_, _), (_, _), (_, _), (_, _), (_, _), (_, _), (_, _), (_, _), (_, _), (_, _), (_, _), (_, _), (_, _), (_, _), (_, _), (_, _)] _ _ _ _ (by rfl) (by rfl) (by k_asm) (by (k_extra "wh drop1")) (by (k_extra "wh low"))
 k_extra "q"
end
theorem reg103 : True := by
  k_with ".call ref" => ((k_here; (with_reducible show wpAny _ _ (call (Value.ref 331) _) _ _ _); k_dflt (refine' units_c ?kB ?kF ?kX ?kN ?kT ?kK ?zkd ?zku  ?_; (k_extra "kq"); (case zkd => k_extra "my room"); (case zku => k_extra "my room"); ((try dsimp only); (k_extra "h5"); generalize p5_1 T9 = us, p5_2 T9 = D, p5_3 T9 = nn, p5_4 T9 = h', p5_5 T9 = tk'; clear T9; (first | revert us D nn h' tk' | ((try revert tk'); (try revert h'); (try revert nn); (try revert D); (try revert us))); intros; (try k_sweep); (try (k_extra "kf"))))))
  trivial
theorem find_in {y c : Str} (hc : (c != Str.ofString "") = true) (ho : (Builtin.Str.occurrences y c 0 y.length 1).isEmpty = false) : 0 ≤ Txt.find y c ∧ Txt.find y c < (y.length : Int) := by
  unfold Txt.find
  rcases StrLaws.occ_head y c 1 (Nat.le_refl 1) with ⟨e, _⟩ | ⟨i, r, e, h1, _⟩
  · rw [e] at ho; cases ho
  · rw [e]
    have hl : c.length ≠ 0 := by
      intro q
      obtain ⟨⟨l⟩⟩ := c
      have : l = [] := List.eq_nil_of_length_eq_zero q
      subst this
      exact Bool.noConfusion ((by decide : ((⟨⟨[]⟩⟩ : Str) != Str.ofString "") = false).symm.trans hc)
    have := h1.1
    dsimp only
    omega

structure Box (p : Prop) : Prop where
  out : p
theorem reg104 : True := by
  k_with "my room" => ((dsimp only [Around.deeper, ktrTop]; exact room_lt (by k_extra "a") (by decide)))
  k_with "my side" => (first | with_reducible assumption | ((with_reducible show PySem.Str.length (Str.ofString _) ≤ _); decide) | ((with_reducible show _ ∧ _); exact ⟨by decide, by decide⟩) | (with_reducible exact Nat.le_trans (PyProof.Txt.length_slice_le _ _ _) (by k_extra "a")))
  trivial
noncomputable def lesc : Str := Str.ofString "ntrvef\\$"
noncomputable def lesv : Str := Str.ofString "\n\t\r\x0b\x1b\x0c\\$"
noncomputable def hexes : Str := Str.ofString "0123456789abcdefABCDEF"
noncomputable def octs : Str := Str.ofString "01234567"
noncomputable def lC (x : Str) (i : Int) : Str := Txt.slice x (some (i + 1)) (some (i + 2))
noncomputable def lO (x : Str) (i : Int) : Str := mLead (Txt.slice x (some (i + 1)) (some (i + 4))) octs
noncomputable def lX (x : Str) (i : Int) : Str := mLead (Txt.slice x (some (i + 2)) (some (i + 4))) hexes
noncomputable def lP (x : Str) (i : Int) : Str := mLead (Txt.slice x (some (i + 3)) none) hexes
noncomputable def mLEsc (x : Str) (i : Int) (q : Str) : Str × Int :=
  if (lC x i != Str.ofString "") = true ∧ (Builtin.Str.occurrences lesc (lC x i) 0 lesc.length 1).isEmpty = false then (Txt.item lesv (Txt.find lesc (lC x i)), i + 2)
  else if (lC x i != Str.ofString "") = true ∧ (lC x i == q) = true then (lC x i, i + 2)
  else if (lO x i != Str.ofString "") = true then (chr1 ((mNum 8 (lO x i)).fmod 256), i + 1 + (lO x i).length)
  else if ([Str.ofString "x", Str.ofString "X"].any fun y => y == lC x i) = true ∧ (lX x i != Str.ofString "") = true then (chr1 (mNum 16 (lX x i)), i + 2 + (lX x i).length)
  else if (Txt.slice x (some (i + 1)) (some (i + 3)) == Str.ofString "u{") = true then
    if (lP x i == Str.ofString "") = true ∨ (Txt.slice x (some (i + 3 + (lP x i).length)) (some (i + 3 + (lP x i).length + 1)) != Str.ofString "}") = true then (why1, -1)
    else if 1114111 < mNum 16 (lP x i) then (why2, -1)
    else (mOctets (mNum 16 (lP x i)), i + 3 + (lP x i).length + 1)
  else if (lC x i == Str.ofString "{") = true then (Str.ofString "\\{", i + 2) else (Str.ofString "\\", i + 1)

section
variable {x q : Str} {i : Int}
theorem lesc1 (h1 : (lC x i != Str.ofString "") = true ∧ (Builtin.Str.occurrences lesc (lC x i) 0 lesc.length 1).isEmpty = false) : mLEsc x i q = (Txt.item lesv (Txt.find lesc (lC x i)), i + 2) := by unfold mLEsc; exact if_pos h1
theorem lesc_n1 (h1 : ¬((lC x i != Str.ofString "") = true ∧ (Builtin.Str.occurrences lesc (lC x i) 0 lesc.length 1).isEmpty = false)) (h2 : (lC x i != Str.ofString "") = true ∧ (lC x i == q) = true) : mLEsc x i q = (lC x i, i + 2) := by
  unfold mLEsc; rw [if_neg h1]; exact if_pos h2
variable {o d p : Str}
theorem lesc3 (h1 : ¬((lC x i != Str.ofString "") = true ∧ (Builtin.Str.occurrences lesc (lC x i) 0 lesc.length 1).isEmpty = false)) (h2 : ¬((lC x i != Str.ofString "") = true ∧ (lC x i == q) = true))
    (hO : lO x i = o) (h3 : (o != Str.ofString "") = true) : mLEsc x i q = (chr1 ((mNum 8 o).fmod 256), i + 1 + o.length) := by
  subst hO; unfold mLEsc; rw [if_neg h1, if_neg h2]; exact if_pos h3
theorem lesc4 (h1 : ¬((lC x i != Str.ofString "") = true ∧ (Builtin.Str.occurrences lesc (lC x i) 0 lesc.length 1).isEmpty = false)) (h2 : ¬((lC x i != Str.ofString "") = true ∧ (lC x i == q) = true))
    (hO : lO x i = o) (h3 : ¬(o != Str.ofString "") = true) (hX : lX x i = d) (h4 : ([Str.ofString "x", Str.ofString "X"].any fun y => y == lC x i) = true ∧ (d != Str.ofString "") = true) : mLEsc x i q = (chr1 (mNum 16 d), i + 2 + d.length) := by
  subst hO hX; unfold mLEsc; rw [if_neg h1, if_neg h2, if_neg h3]; exact if_pos h4
theorem lesc5 (h1 : ¬((lC x i != Str.ofString "") = true ∧ (Builtin.Str.occurrences lesc (lC x i) 0 lesc.length 1).isEmpty = false)) (h2 : ¬((lC x i != Str.ofString "") = true ∧ (lC x i == q) = true))
    (hO : lO x i = o) (h3 : ¬(o != Str.ofString "") = true) (hX : lX x i = d) (h4 : ¬(([Str.ofString "x", Str.ofString "X"].any fun y => y == lC x i) = true ∧ (d != Str.ofString "") = true))
    (h5 : (Txt.slice x (some (i + 1)) (some (i + 3)) == Str.ofString "u{") = true) (hp : lP x i = p) (h6 : (p == Str.ofString "") = true ∨ (Txt.slice x (some (i + 3 + p.length)) (some (i + 3 + p.length + 1)) != Str.ofString "}") = true) : mLEsc x i q = (why1, -1) := by
  subst hO hX hp; unfold mLEsc; rw [if_neg h1, if_neg h2, if_neg h3, if_neg h4, if_pos h5]; exact if_pos h6
theorem not_or_bool {a b : Bool} (h1 : a = false) (h2 : b = false) : ¬(a = true ∨ b = true) := by rw [h1, h2]; simp
theorem lesc7 (h1 : ¬((lC x i != Str.ofString "") = true ∧ (Builtin.Str.occurrences lesc (lC x i) 0 lesc.length 1).isEmpty = false)) (h2 : ¬((lC x i != Str.ofString "") = true ∧ (lC x i == q) = true))
    (hO : lO x i = o) (h3 : ¬(o != Str.ofString "") = true) (hX : lX x i = d) (h4 : ¬(([Str.ofString "x", Str.ofString "X"].any fun y => y == lC x i) = true ∧ (d != Str.ofString "") = true))
    (h5 : (Txt.slice x (some (i + 1)) (some (i + 3)) == Str.ofString "u{") = true) (hp : lP x i = p) (h6 : (p == Str.ofString "") = false) (h7 : (Txt.slice x (some (i + 3 + p.length)) (some (i + 3 + p.length + 1)) != Str.ofString "}") = false)
    (h8 : 1114111 < mNum 16 p) : mLEsc x i q = (why2, -1) := by
  subst hO hX hp; unfold mLEsc; rw [if_neg h1, if_neg h2, if_neg h3, if_neg h4, if_pos h5, if_neg (not_or_bool h6 h7)]; exact if_pos h8
theorem lesc8 (h1 : ¬((lC x i != Str.ofString "") = true ∧ (Builtin.Str.occurrences lesc (lC x i) 0 lesc.length 1).isEmpty = false)) (h2 : ¬((lC x i != Str.ofString "") = true ∧ (lC x i == q) = true))
    (hO : lO x i = o) (h3 : ¬(o != Str.ofString "") = true) (hX : lX x i = d) (h4 : ¬(([Str.ofString "x", Str.ofString "X"].any fun y => y == lC x i) = true ∧ (d != Str.ofString "") = true))
    (h5 : (Txt.slice x (some (i + 1)) (some (i + 3)) == Str.ofString "u{") = true) (hp : lP x i = p) (h6 : (p == Str.ofString "") = false) (h7 : (Txt.slice x (some (i + 3 + p.length)) (some (i + 3 + p.length + 1)) != Str.ofString "}") = false)
    (h8 : ¬ 1114111 < mNum 16 p) : mLEsc x i q = (mOctets (mNum 16 p), i + 3 + p.length + 1) := by
  subst hO hX hp; unfold mLEsc; rw [if_neg h1, if_neg h2, if_neg h3, if_neg h4, if_pos h5, if_neg (not_or_bool h6 h7)]; exact if_neg h8
theorem lesc9 (h1 : ¬((lC x i != Str.ofString "") = true ∧ (Builtin.Str.occurrences lesc (lC x i) 0 lesc.length 1).isEmpty = false)) (h2 : ¬((lC x i != Str.ofString "") = true ∧ (lC x i == q) = true))
    (hO : lO x i = o) (h3 : ¬(o != Str.ofString "") = true) (hX : lX x i = d) (h4 : ¬(([Str.ofString "x", Str.ofString "X"].any fun y => y == lC x i) = true ∧ (d != Str.ofString "") = true))
    (h5 : ¬(Txt.slice x (some (i + 1)) (some (i + 3)) == Str.ofString "u{") = true) (h6 : (Txt.slice x (some (i + 1)) (some (i + 2)) == Str.ofString "{") = true) : mLEsc x i q = (Str.ofString "\\{", i + 2) := by
  subst hO hX; unfold mLEsc; rw [if_neg h1, if_neg h2, if_neg h3, if_neg h4, if_neg h5]; exact if_pos h6
theorem lesc10 (h1 : ¬((lC x i != Str.ofString "") = true ∧ (Builtin.Str.occurrences lesc (lC x i) 0 lesc.length 1).isEmpty = false)) (h2 : ¬((lC x i != Str.ofString "") = true ∧ (lC x i == q) = true))
    (hO : lO x i = o) (h3 : ¬(o != Str.ofString "") = true) (hX : lX x i = d) (h4 : ¬(([Str.ofString "x", Str.ofString "X"].any fun y => y == lC x i) = true ∧ (d != Str.ofString "") = true))
    (h5 : ¬(Txt.slice x (some (i + 1)) (some (i + 3)) == Str.ofString "u{") = true) (h6 : (Txt.slice x (some (i + 1)) (some (i + 2)) == Str.ofString "{") = false) : mLEsc x i q = (Str.ofString "\\", i + 1) := by
  subst hO hX; unfold mLEsc; rw [if_neg h1, if_neg h2, if_neg h3, if_neg h4, if_neg h5]; exact if_neg (fun z => Bool.noConfusion (h6.symm.trans z))
end
theorem fillF2 {w : World} {h₀ : Heap} (h : PySem.Challenge.rw_pq0846_01.row.prog = PySem.Challenge.rw_pq0846_01.row.prog) (X : (hd.heap_39 w.params).In h₀) : (hd.heap_39 w.params).In h₀ := by
  revert h X; k_fill; intro h X; exact X
theorem lesc_c : ∀ {w : World} {mean mg mb} {dp un : Nat} {gd cn} {cs : Scope} {a ccd cl} {outer : List Env} {A₀ base h₀ L m} {s : Shared} {hp tk0 news} {Q E : Value → Shared → Prop} {x q : Str} {tx tq : Tok} {i : Int} {ti : Tok} (B : Below A₀ base outer h₀) (F : Fr h₀ L hp m) (X : (hd.heap_39 w.params).In h₀) (N : News h₀ L hp news) (T : Top hd.view_39 (looseW hd.view_39 []) mean mg mb h₀) (hk : cs.kind = .function) (hdp : dp + 20 < recursionLimit) (hun : un + 160 < cLine) (hx : x.length ≤ 65536) (h0 : 0 ≤ i)
  (hret : ∀ y j r k1 k2 h' tk', mLEsc x i q = (y, j) → Fr h₀ L h' m → News h₀ L h' ((r, tupObj [.str (y) k1, .int (j) k2]) :: news) → (∀ p ∈ news, p.1 < r) → Q (.ref r) { s with heap := h', toks := tk' }),
  wpAny (model PySem.Challenge.rw_pq0846_01.row.prog w) (ktrTop dp un gd cn cs L a ccd cl outer) (call (.ref 364) [.str x tx, .int i ti, .str q tq]) Q E { s with heap := hp, toks := tk0 } := by
 k_with "w" =>
  (k_extra "cp")
  (k_extra "n6"); generalize p6_1 T9 = x, p6_2 T9 = q, p6_3 T9 = tx, p6_4 T9 = tq, p6_5 T9 = i, p6_6 T9 = ti; clear T9
  intro B F X N T hk hdp hun hx h0 hret
  refine wpAny_call ?_
  k_dflt (k_extra "my enter")
  repeat' (first | (k_extra "ka") | (k_extra "kb") | ((fail_if_success k_end); (k_extra "sI"); (k_extra "kc")))
  (repeat ((with_reducible rename PySem.Str.length (Txt.slice _ _ _) ≤ _ => hsl); clear hsl))
  refine if_join ((Txt.slice x (some (i + 1)) (some (i + 2)) != Str.ofString "") = true ∧ (Builtin.Str.occurrences (Str.ofString "ntrvef\\$") (Txt.slice x (some (i + 1)) (some (i + 2))) 0 (Str.ofString "ntrvef\\$").length 1).isEmpty = false) (by k_asm) (by k_asm) ?_ ?_ ?_
  · repeat' (first | (k_extra "ka") | (k_extra "kb") | ((fail_if_success k_end); (k_extra "kc")))
    all_goals first | (k_extra "jb") | (fail "open")
  · intro hP1; (try dsimp only); (k_extra "h2"); generalize p2_1 T9 = h', p2_2 T9 = tk'; clear T9; intro F' N'
    have hfi := find_in (y := Str.ofString "ntrvef\\$") hP1.1 hP1.2; have hfl : (((Str.ofString "ntrvef\\$").length : Nat) : Int) = 8 := by decide
    repeat' (first | (k_extra "ka") | (k_extra "kb") | ((fail_if_success k_end); (k_extra "kc")))
    exact hret _ _ _ _ _ _ _ (lesc1 hP1) (by k_asm) (by (k_extra "wh drop1")) (by (k_extra "wh low"))
  intro hP1; (try dsimp only); (k_extra "h2"); generalize p2_1 T9 = h', p2_2 T9 = tk'; clear T9; intro F' N'
  repeat' (first | (k_extra "ka") | (k_extra "kb") | ((fail_if_success k_end); (k_extra "sI"); (k_extra "kc")))
  (repeat ((with_reducible rename PySem.Str.length (Txt.slice _ _ _) ≤ _ => hsl); clear hsl))
  refine if_join ((Txt.slice x (some (i + 1)) (some (i + 2)) != Str.ofString "") = true ∧ (Txt.slice x (some (i + 1)) (some (i + 2)) == q) = true) (by k_asm) (by k_asm) ?_ ?_ ?_
  · repeat' (first | (k_extra "ka") | (k_extra "kb") | ((fail_if_success k_end); (k_extra "kc")))
    all_goals first | (k_extra "jb") | (fail "open")
  · intro hP2; (try dsimp only); (k_extra "h2"); generalize p2_1 T9 = h', p2_2 T9 = tk'; clear T9; intro F' N'
    repeat' (first | (k_extra "ka") | (k_extra "kb") | ((fail_if_success k_end); (k_extra "kc")))
    exact hret _ _ _ _ _ _ _ (lesc_n1 hP1 hP2) (by k_asm) (by (k_extra "wh drop1")) (by (k_extra "wh low"))
  intro hP2; (try dsimp only); (k_extra "h2"); generalize p2_1 T9 = h', p2_2 T9 = tk'; clear T9; intro F' N'
  repeat' (first | (k_extra "ka") | (k_extra "kb") | ((fail_if_success k_end); (k_extra "sI"); (k_extra "kc")))
  (repeat ((with_reducible rename PySem.Str.length (Txt.slice _ _ _) ≤ _ => hsl); clear hsl))
  have hl1 : (mLead (Txt.slice x (some (i + 1)) (some (i + 4))) (Str.ofString "01234567")).length ≤ 65536 := Nat.le_trans (lead_len _ _) (Nat.le_trans (PyProof.Txt.length_slice_le _ _ _) hx)
  generalize hO' : mLead (Txt.slice x (some (i + 1)) (some (i + 4))) (Str.ofString "01234567") = o at *
  have hO := Box.mk hO'; clear hO'
  refine if_join ((o != Str.ofString "") = true) (by k_asm) (by k_asm) ?_ ?_ ?_
  · repeat' (first | (k_extra "ka") | (k_extra "kb") | ((fail_if_success k_end); (k_extra "kc")))
    all_goals first | (k_extra "jb") | (fail "open")
  · intro hP3; (try dsimp only); (k_extra "h2"); generalize p2_1 T9 = h', p2_2 T9 = tk'; clear T9; intro F' N'
    have hf1 := Int.fmod_nonneg_of_pos (mNum 8 o) (by decide : (0 : Int) < 256); have hf2 := Int.fmod_lt_of_pos (mNum 8 o) (by decide : (0 : Int) < 256)
    repeat' (first | (k_extra "ka") | (k_extra "kb") | ((fail_if_success k_end); (k_extra "kc")))
    exact hret _ _ _ _ _ _ _ (lesc3 hP1 hP2 hO.out hP3) (by k_asm) (by (k_extra "wh drop1")) (by (k_extra "wh low"))
  intro hP3; (try dsimp only); (k_extra "h2"); generalize p2_1 T9 = h', p2_2 T9 = tk'; clear T9; intro F' N'
  repeat' (first | (k_extra "ka") | (k_extra "kb") | ((fail_if_success k_end); (k_extra "sI"); (k_extra "kc")))
  (repeat ((with_reducible rename PySem.Str.length (Txt.slice _ _ _) ≤ _ => hsl); clear hsl))
  have hl2 : (mLead (Txt.slice x (some (i + 2)) (some (i + 4))) (Str.ofString "0123456789abcdefABCDEF")).length ≤ 65536 := Nat.le_trans (lead_len _ _) (Nat.le_trans (PyProof.Txt.length_slice_le _ _ _) hx)
  have hx1 := hex_lead_nn (Txt.slice x (some (i + 2)) (some (i + 4)))
  have hx2 := hex_lead_2 (Txt.slice x (some (i + 2)) (some (i + 4))) (by have := slice_len x (i := i + 2) (j := i + 4) (by omega) (by omega); omega)
  generalize hX' : mLead (Txt.slice x (some (i + 2)) (some (i + 4))) (Str.ofString "0123456789abcdefABCDEF") = d at *
  have hX := Box.mk hX'; clear hX'
  refine if_join (([Str.ofString "x", Str.ofString "X"].any fun y => y == Txt.slice x (some (i + 1)) (some (i + 2))) = true ∧ (d != Str.ofString "") = true) (by k_asm) (by k_asm) ?_ ?_ ?_
  · repeat' (first | (k_extra "ka") | (k_extra "kb") | ((fail_if_success k_end); (k_extra "kc")))
    all_goals first | (k_extra "jb") | (fail "open")
  · intro hP4; (try dsimp only); (k_extra "h2"); generalize p2_1 T9 = h', p2_2 T9 = tk'; clear T9; intro F' N'
    repeat' (first | (k_extra "ka") | (k_extra "kb") | ((fail_if_success k_end); (k_extra "kc")))
    exact hret _ _ _ _ _ _ _ (lesc4 hP1 hP2 hO.out hP3 hX.out hP4) (by k_asm) (by (k_extra "wh drop1")) (by (k_extra "wh low"))
  intro hP4; (try dsimp only); (k_extra "h2"); generalize p2_1 T9 = h', p2_2 T9 = tk'; clear T9; intro F' N'
  repeat' (first | (k_extra "ka") | (k_extra "kb") | ((fail_if_success k_end); (k_extra "sI"); (k_extra "kc")))
  (repeat ((with_reducible rename PySem.Str.length (Txt.slice _ _ _) ≤ _ => hsl); clear hsl))
  refine if_join ((Txt.slice x (some (i + 1)) (some (i + 3)) == Str.ofString "u{") = true) (by k_asm) (by k_asm) ?_ ?_ ?_
  · repeat' (first | (k_extra "ka") | (k_extra "kb") | ((fail_if_success k_end); (k_extra "kc")))
    all_goals first | (k_extra "jb") | (fail "open")
  · intro hP5; (try dsimp only); (k_extra "h2"); generalize p2_1 T9 = h', p2_2 T9 = tk'; clear T9; intro F' N'
    repeat' (first | (k_extra "ka") | (k_extra "kb") | ((fail_if_success k_end); (k_extra "sI"); (k_extra "kc")))
    have hl3 : (mLead (Txt.slice x (some (i + 3)) none) (Str.ofString "0123456789abcdefABCDEF")).length ≤ 65536 := Nat.le_trans (lead_len _ _) (Nat.le_trans (PyProof.Txt.length_slice_le _ _ _) hx)
    have hx3 := hex_lead_nn (Txt.slice x (some (i + 3)) none)
    generalize hp' : mLead (Txt.slice x (some (i + 3)) none) (Str.ofString "0123456789abcdefABCDEF") = p at *
    have hp := Box.mk hp'; clear hp'
    repeat' (first | (k_extra "ka") | (k_extra "kb") | ((fail_if_success k_end); (k_extra "kc")))
    all_goals first
      | exact hret _ _ _ _ _ _ _ (lesc7 hP1 hP2 hO.out hP3 hX.out hP4 hP5 hp.out (by k_extra "a") (by k_extra "a") (by k_extra "a")) (by k_asm) (by (k_extra "wh drop1")) (by (k_extra "wh low"))
      | exact hret _ _ _ _ _ _ _ (lesc5 hP1 hP2 hO.out hP3 hX.out hP4 hP5 hp.out (by first | exact Or.inl (by k_extra "a") | exact Or.inr (by k_extra "a"))) (by k_asm) (by (k_extra "wh drop1")) (by (k_extra "wh low"))
      | exact hret _ _ _ _ _ _ _ (lesc8 hP1 hP2 hO.out hP3 hX.out hP4 hP5 hp.out (by k_extra "a") (by k_extra "a") (by k_extra "a")) (by k_asm) (by (k_extra "wh drop1")) (by (k_extra "wh low"))
      | (fail "open")
  intro hP5; (try dsimp only); (k_extra "h2"); generalize p2_1 T9 = h', p2_2 T9 = tk'; clear T9; intro F' N'
  repeat' (first | (k_extra "ka") | (k_extra "kb") | ((fail_if_success k_end); (k_extra "kc")))
  all_goals first
    | exact hret _ _ _ _ _ _ _ (lesc9 hP1 hP2 hO.out hP3 hX.out hP4 hP5 (by k_extra "a")) (by k_asm) (by (k_extra "wh drop1")) (by (k_extra "wh low"))
    | exact hret _ _ _ _ _ _ _ (lesc10 hP1 hP2 hO.out hP3 hX.out hP4 hP5 (by k_extra "a")) (by k_asm) (by (k_extra "wh drop1")) (by (k_extra "wh low"))
    | (fail "open")
 k_extra "q"
theorem reg106 : True := by
  k_with ".call ref" => ((k_here; (with_reducible show wpAny _ _ (call (Value.ref 364) _) _ _ _); k_dflt (refine' lesc_c ?kB ?kF ?kX ?kN ?kT ?kK ?zkd ?zku ?zkhx ?zkh0 ?_; (k_extra "kq"); (case zkd => k_extra "my room"); (case zku => k_extra "my room"); (case zkhx => k_extra "my side"); (case zkh0 => k_extra "my side"); ((try dsimp only); (k_extra "h7"); generalize p7_1 T9 = y, p7_2 T9 = j, p7_3 T9 = r, p7_4 T9 = k1, p7_5 T9 = k2, p7_6 T9 = h', p7_7 T9 = tk'; clear T9; (first | revert y j r k1 k2 h' tk' | ((try revert tk'); (try revert h'); (try revert k2); (try revert k1); (try revert r); (try revert j); (try revert y))); intros; (try k_sweep); (try (k_extra "kf"))))))
  trivial
noncomputable def mDraw (many p n : Int) : Int := (n + p.fmod many).fmod many
noncomputable def mDraws (many : Int) : Int → List Int → List Str
  | _, [] => []
  | p, n :: ns => mUnits.getD (mDraw many p n).toNat (Str.ofString "") :: mDraws many (p.fdiv many) ns
noncomputable def mPen (many : Int) : Int → Nat → Int
  | p, 0 => p
  | p, k + 1 => mPen many (p.fdiv many) k
theorem mPen_succ (many : Int) : ∀ (k : Nat) (p : Int), mPen many p (k + 1) = (mPen many p k).fdiv many
  | 0, p => id rfl
  | k + 1, p => by
    show mPen many (p.fdiv many) (k + 1) = _
    rw [mPen_succ many k (p.fdiv many)]; rfl
theorem mDraws_snoc (many : Int) (n : Int) : ∀ (ns : List Int) (p : Int), mDraws many p (ns ++ [n]) = mDraws many p ns ++ [mUnits.getD (mDraw many (mPen many p ns.length) n).toNat (Str.ofString "")]
  | [], p => id rfl
  | a :: ns, p => by
    rw [List.cons_append, mDraws, mDraws_snoc many n ns (p.fdiv many)]; rfl
theorem mDraws_len (many : Int) : ∀ (ns : List Int) (p : Int), (mDraws many p ns).length = ns.length
  | [], p => id rfl
  | a :: ns, p => by rw [mDraws, List.length_cons, mDraws_len many ns, List.length_cons]
theorem units_le : ∀ k < 27, (mUnits.getD k (Str.ofString "")).length ≤ 9 := by decide +kernel
theorem getD_le (k : Nat) : (mUnits.getD k (Str.ofString "")).length ≤ 9 := by
  by_cases h : k < 27
  · exact units_le k h
  · rw [List.getD_eq_getElem?_getD, List.getElem?_eq_none (by show 27 ≤ k; omega)]; decide
theorem mDraws_sum (many : Int) : ∀ (ns : List Int) (p : Int), ((mDraws many p ns).map (·.length)).sum ≤ 9 * ns.length
  | [], p => Nat.zero_le _
  | a :: ns, p => by
    rw [mDraws, List.map_cons, List.sum_cons, List.length_cons]
    have := mDraws_sum many ns (p.fdiv many)
    have := getD_le (mDraw many p a).toNat
    omega
noncomputable def mText (many p : Int) (ns : List Int) : Str := Txt.join (Str.ofString "") (mDraws many p ns)
section
variable {prog : Program} {w : World} {A : Around} {h₀ : Heap} {L : Addr} {m : Str → Option Value} {env : Env} {elt : Expr} {x : Str} {scope : Scope} {cl : List (Str × Addr)} {s : Shared} {S : List (Addr × Obj) → Prop} {P : Nat → Value → Prop} {Fin : List Value → List (Addr × Obj) → Prop} {news : List (Addr × Obj)}
theorem compEnd_mono {s₁ : Shared} {I C D : Addr} {oI oC o : Obj} {K K' : Value → List (Addr × Obj) → Prop} {y : Value} {s₂ : Shared} (h : LCg.CompEnd h₀ L m s₁ I oI C oC D o S K y s₂) (k : ∀ nw, K y nw → K' y nw) : LCg.CompEnd h₀ L m s₁ I oI C oC D o S K' y s₂ := by
  obtain ⟨h', tk', nw', e, F', N', off', hS, hn⟩ := h
  exact ⟨h', tk', nw', e, F', N', off', hS, k _ hn⟩
theorem comp_inv {n : Nat} (Inv : Nat → List Value → List (Addr × Obj) → Prop)
    (turn : ∀ i ys nw v I oI C oC D m₂ h tk (E' : Value → Shared → Prop), i < n → Inv i ys nw → P i v → LCg.NsObj oC m₂ → m₂ x = some v → Fr h₀ L h m → News h₀ L h ((I, oI) :: (C, oC) :: (D, LCg.lst ys) :: nw) → LCg.Off3 I C D nw → ((@Ne Nat I C) ∧ (@Ne Nat I D) ∧ (@Ne Nat C D)) →
      wpAny (model prog w) A (eval elt (compEnvC scope cl C env)) (LCg.CompEnd h₀ L m { s with heap := h, toks := tk } I oI C oC D (LCg.lst ys) S (fun y news' => Inv (i + 1) (ys ++ [y]) news')) E' { s with heap := h, toks := tk })
    (fin : ∀ ys nw, Inv n ys nw → Fin ys nw) (start : Inv 0 [] news) : LCg.CompRest prog w A h₀ L m env elt x scope cl s S P Fin n 0 [] news := by
 k_with "w" =>
  have key : ∀ (j i : Nat) (ys : List Value) (nw : List (Addr × Obj)), i + j = n → Inv i ys nw → LCg.CompRest prog w A h₀ L m env elt x scope cl s S P Fin j i ys nw := by
    intro j
    induction j with
    | zero =>
      intro i ys nw hi hy
      have e : i = n := by omega
      subst e
      exact LCg.CompRest.zero (fin ys nw hy)
    | succ j ih =>
      intro i ys nw hi hy
      refine LCg.CompRest.succ ?_
      (first | ((try dsimp only); (k_extra "h9"); generalize p9_1 T9 = v, p9_2 T9 = I, p9_3 T9 = oI, p9_4 T9 = C, p9_5 T9 = oC, p9_6 T9 = D, p9_7 T9 = m₂, p9_8 T9 = h, p9_9 T9 = tk; clear T9; intro E' hv hC hx F N off ne) | intro v I oI C oC D m₂ h tk E' hv hC hx F N off ne)
      refine wpAny_mono (turn i ys nw v I oI C oC D m₂ h tk E' (by omega) hy hv hC hx F N off ne) (fun y s₂ hq => compEnd_mono hq fun nw' hn => ih (i + 1) _ nw' (by omega) hn) fun _ _ e => e
  exact key n 0 [] news (by omega) start
 k_extra "q"
end
theorem rot_text {h₀ h : Heap} {L : Addr} {a b c d e f g : Addr × Obj} {r : List (Addr × Obj)} (N : News h₀ L h (a :: b :: c :: d :: e :: f :: g :: r)) : News h₀ L h (f :: a :: c :: d :: e :: g :: r) :=
  cb_drop N (by (k_extra "wh mem"))
theorem lt_succ {r : List (Addr × Obj)} {d : Addr} (h : ∀ p ∈ r, p.1 < d) : ∀ p ∈ r, p.1 < d + 1 := fun p hp => Nat.lt_succ_of_lt (h p hp)
theorem reg107 : True := by
  k_with "my enterC" => (((( refine' code_defC ?zk1 ?zk2 ?zk3 ?zk4 ?zk5 ?zkA ?kF ?kK ?zk6 ?zk7 ?zk8 ?zk9 ?kB ?zkD ?_ ?zc2 ?zc3 ?zc4; (case zkA => exact rfl); (case kF => exact rfl); (case kK => first | exact rfl | assumption); (case zk1 => k_asm); (case zk2 => k_asm); (case zk3 => k_asm); (case zk4 => k_asm); (case zk5 => k_asm); (case zk6 => k_is); (case zk7 => k_is); (case zk8 => first | exact room0 (by k_extra "a") | ktr_room); (case zk9 => exact BindsTo.of_eq rfl); (case kB => exact rfl); (case zkD => decide +kernel); (case zc2 => exact rfl); (case zc3 => exact rfl); (case zc4 => exact rfl); k_whole; (k_extra "h5"); generalize p5_1 T9 = g', p5_2 T9 = L', p5_3 T9 = h', p5_4 T9 = tk', p5_5 T9 = cells'; clear T9; intro FG' F' N' Y' B' X' T' l1; k_cells Y'; (try simp only [List.cons_append, List.nil_append] at N'); (try dsimp only); (try (k_extra "kf")); have l2 := lt_succ l1; have l3 := lt_succ l2; have l4 := lt_succ l3; (try (first | (rename Obj => x4; revert x4; rename Obj => x3; revert x3; rename Obj => x2; revert x2; rename Obj => x1; revert x1; (try dsimp only); (k_extra "h1"); generalize c1 _ _ = o'; intro d1'; (k_extra "h1"); generalize c1 _ _ = o2'; intro d2'; (k_extra "h1"); generalize c1 _ _ = o3'; intro d3'; (k_extra "h1"); generalize c1 _ _ = o4'; intro d4'; intros) | (rename Obj => x3; revert x3; rename Obj => x2; revert x2; rename Obj => x1; revert x1; (try dsimp only); (k_extra "h1"); generalize c1 _ _ = o'; intro d1'; (k_extra "h1"); generalize c1 _ _ = o2'; intro d2'; (k_extra "h1"); generalize c1 _ _ = o3'; intro d3'; intros) | (rename Obj => x2; revert x2; rename Obj => x1; revert x1; (try dsimp only); (k_extra "h1"); generalize c1 _ _ = o'; intro d1'; (k_extra "h1"); generalize c1 _ _ = o2'; intro d2'; intros) | (rename Obj => x1; revert x1; (try dsimp only); (k_extra "h1"); generalize c1 _ _ = o'; intro d1'; intros))))); (first | revert g' L' h' tk' cells' o' o2' o3' o4' | ((try revert o4'); (try revert o3'); (try revert o2'); (try revert o'); (try revert cells'); (try revert tk'); (try revert h'); (try revert L'); (try revert g'))); intros))
  trivial
theorem pick_up {vs : List Value} {y : Int} (h0 : 0 ≤ y) : kms_pick vs.toArray.toList none (some y) = vs.take y.toNat := by
  unfold kms_pick kms_lo kms_hi
  simp only [List.drop_zero, Nat.sub_zero]
  rw [if_neg (by omega)]
  by_cases h : y.toNat ≤ vs.length
  · rw [Nat.min_eq_left h]
  · rw [Nat.min_eq_right (by omega), List.take_of_length_le (i := y.toNat) (by omega), List.take_length]
section
variable {prog : Program} {w : World} {A : Around} {E : Value → Shared → Prop} {s : Shared} {h₀ : Heap} {L l : Addr} {m : Str → Option Value} {news : List (Addr × Obj)} {value slice : PySem.Expr} {vs : List Value} {y : Int} {ty : Tok} {n : Nat} {Q : Value → Shared → Prop}
theorem slice_up {H : Heap} {tk : Nat} (F : Fr h₀ L H m) (N : News h₀ L H news) (hl : (l, W.listOf vs.toArray n) ∈ news) (h0 : 0 ≤ y)
    (h : ∀ D h', Fr h₀ L h' m → News h₀ L h' ((D, W.listOf (vs.take y.toNat).toArray 0) :: news) → (∀ p ∈ news, p.1 < D) → Q (.ref D) { s with heap := h', toks := tk })
    (hs : subscripted slice false (.ref l) (.ref H.objs.size) = operate [.ref H.objs.size, .ref l] (getItem (.ref l) (.ref H.objs.size))) (ht : ∀ r, letTemporaryGo value (.ref l) r = pure ()) (hz : vs.length ≤ 1048576) :
    wpAny (model prog w) A (subscriptTail value slice (.ref l) (.ref H.objs.size)) Q E { s with heap := H.push { cls := .type "slice", data := .fields #[.none, .int y ty, .none] }, toks := tk } :=
  kms_slice_lit (s := { s with heap := H, toks := tk }) F N (News.isList N hl) IsPart.none (IsPart.int _ _) (pick_up h0) h hs ht (by rw [List.size_toArray, sizeLine_eq]; omega)
end
theorem reg108 : True := by
  k_with ".subscriptTail Name Slice ref ref" => ((((k_here; (with_reducible show wpAny _ _ (subscriptTail _ (PySem.Expr.Slice _ _ none _) (Value.ref _) (Value.ref _)) _ _ _); k_dflt (refine' slice_up ?zF ?zN ?zl ?zi ?_ ?zs ?zt ?zz; (case zF => k_asm); (case zN => k_asm); (case zl => k_mem); (case zi => omega); (case zs => with_unfolding_all rfl); (case zt => kmk_pure); (case zz => (k_extra "my size"))); (k_extra "h2"); generalize p2_1 T9 = D', p2_2 T9 = h'; clear T9; intro F' N' l1; (try k_lt l1); (try k_sweep))); (first | revert D' h' | ((try revert h'); (try revert D'))); intros))
  trivial
theorem rot3 {h₀ h : Heap} {L : Addr} {a b c d : Addr × Obj} {r : List (Addr × Obj)} (N : News h₀ L h (a :: b :: c :: d :: r)) : News h₀ L h (d :: a :: b :: c :: r) :=
  cb_drop N (by (k_extra "wh mem"))
theorem ints_get : ∀ {vs : List Value} {ns : List Int}, IntsAre vs ns → ∀ (i : Nat) (v : Value), vs[i]? = some v → ∃ n t, ns[i]? = some n ∧ v = .int n t
  | _, _, .nil, i, v, h => by simp at h
  | _, _, .cons n t r, 0, v, h => ⟨n, t, rfl, by simpa using h.symm⟩
  | _, _, .cons n t r, i + 1, v, h => ints_get r i v (by simpa using h)
theorem units_at {us : List (Str × Tok)} (h1 : us.map (·.1) = mUnits) (h2 : us.length = 27) {many k : Int} (h0 : 0 ≤ k) (hk : k < many) (hm : many ≤ 27) :
    ∃ ty, (List.take many.toNat (strValues us))[k.toNat]? = some (.str (mUnits.getD k.toNat (Str.ofString "")) ty) := by
  have hlt : k.toNat < us.length := by omega
  have e : mUnits.getD k.toNat (Str.ofString "") = (us[k.toNat]'hlt).1 := by
    rw [← h1, List.getD_eq_getElem?_getD, List.getElem?_map, List.getElem?_eq_getElem hlt]; rfl
  refine ⟨(us[k.toNat]'hlt).2, ?_⟩
  rw [List.getElem?_take_of_lt (by omega), e]
  unfold strValues
  rw [List.getElem?_map, List.getElem?_eq_getElem hlt]; rfl
theorem fillF3 {w : World} {h₀ : Heap} (h : PySem.Challenge.rw_pq0846_01.row.prog = PySem.Challenge.rw_pq0846_01.row.prog) (X : (hd.heap_39 w.params).In h₀) : (hd.heap_39 w.params).In h₀ := by
  revert h X; k_fill; intro h X; exact X
theorem text_c : ∀ {w : World} {mean mg mb} {dp un : Nat} {gd cn} {cs : Scope} {a ccd cl} {outer : List Env} {A₀ base h₀ L m} {s : Shared} {hp tk0 news} {Q E : Value → Shared → Prop} {l t : Addr} {p : Int} {tp : Tok} {nn n2 : Nat} {ts : List Value} {many : Int} {tm : Tok} {ns : List Int} (B : Below A₀ base outer h₀) (F : Fr h₀ L hp m) (X : (hd.heap_39 w.params).In h₀) (N : News h₀ L hp ((l, W.listOf [Value.int p tp].toArray nn) :: (t, W.listOf ts.toArray n2) :: news)) (T : Top hd.view_39 (looseW hd.view_39 []) mean mg mb h₀) (hk : cs.kind = .function) (hdp : dp + 20 < recursionLimit) (hun : un + 160 < cLine) (hlt : t ≠ l) (hl : ∀ p ∈ news, p.1 ≠ l) (hm : 0 < many ∧ many ≤ 27) (hi : IntsAre ts ns) (hn : ns.length ≤ 20)
  (hret : ∀ t' k1 h' tk', Fr h₀ L h' m → News h₀ L h' ((l, W.listOf [Value.int (mPen many p ns.length) k1].toArray nn) :: (t, W.listOf ts.toArray n2) :: news) → Q (.str (mText many p ns) t') { s with heap := h', toks := tk' }),
  wpAny (model PySem.Challenge.rw_pq0846_01.row.prog w) (ktrTop dp un gd cn cs L a ccd cl outer) (call (.ref 336) [.ref l, .ref t, .int many tm]) Q E { s with heap := hp, toks := tk0 } := by
 k_with "w" =>
  (k_extra "cp")
  (k_extra "n8"); generalize p8_1 T9 = l, p8_2 T9 = t, p8_3 T9 = p, p8_4 T9 = tp, p8_5 T9 = nn, p8_6 T9 = n2, p8_7 T9 = ts, p8_8 T9 = many; clear T9
  (k_extra "n2"); generalize p2_1 T9 = tm, p2_2 T9 = ns; clear T9
  intro B F X N T hk hdp hun hlt hl hm hi hn hret
  have hm0 := hm.1
  have hm1 := hm.2
  have hts : ts.length = ns.length := hi.length
  refine wpAny_call ?_
  k_dflt (k_extra "my enterC")
  repeat' (first | (k_extra "ka") | (k_extra "kb") | ((fail_if_success k_end); (fail_if_success (with_reducible show wpAny _ _ (exec (Stmt.Return _ _) _) _ _ _)); (k_extra "kc")))
  repeat' (first | (k_extra "ka") | (k_end; (k_extra "z0"); (k_extra "z1"); (k_extra "z2"); (k_extra "z3"); (k_extra "z9"); first | wrow_close | walk1 | (dsimp only; walk1) | (leave1; (try dsimp only))) | ((fail_if_success k_end); (k_extra "z9"); (k_extra "kc")))
  have N3 := rot_text (by assumption)
  expose_names
  have e2 : o2'.data = Data.cell (some (.int many tm)) := d2'
  have e3 : o3'.data = Data.cell (some (.ref l)) := d3'
  clear d1' d2' d3'
  obtain ⟨q1, q2, q3, q4, q5, q6, q7⟩ := l1_1
  have hll : @LT.lt Nat _ l L' := l1 _ (.head _)
  have hrl : ∀ p ∈ (D', W.listOf (List.take many.toNat (strValues us)).toArray 0) :: (L' + 1 + 1 + 1, o'_1) :: (L' + 1 + 1, o2') :: (L' + 1, o3') :: (t, W.listOf ts.toArray n2) :: news, p.1 ≠ l := by
    refine (fmc (by (refine neN ?_; dsimp only; omega)) ((fmc (by (refine neN ?_; dsimp only; omega)) ((fmc (by (refine neN ?_; dsimp only; omega)) ((fmc (by (refine neN ?_; dsimp only; omega)) ((fmc (hlt) (hl))))))))))
  refine LCg.CompSrc.ledger rfl (by k_asm) N3 (List.mem_cons_of_mem _ (List.mem_cons_of_mem _ (List.mem_cons_of_mem _ (List.mem_cons_of_mem _ (List.mem_cons_of_mem _ List.mem_cons_self))))) ?_ ?_
  · rw [List.size_toArray, sizeLine_eq]; omega
  (try dsimp only); (k_extra "h1"); (generalize c1 _ _ = g)
  refine comp_inv (Inv := fun i ys nw => ∃ k1 us', nw = (l, W.listOf [Value.int (mPen many p i) k1].toArray nn) :: (D', W.listOf (List.take many.toNat (strValues us)).toArray 0) :: (L' + 1 + 1 + 1, o'_1) :: (L' + 1 + 1, o2') :: (L' + 1, o3') :: (t, W.listOf ts.toArray n2) :: news ∧ ys = strValues us' ∧ us'.map (·.1) = mDraws many p (ns.take i)) ?turn ?fin ?start
  case start => exact ⟨_, [], rfl, rfl, by simp [mDraws]⟩
  case turn =>
    (try dsimp only); (k_extra "h7"); generalize p7_1 T9 = i, p7_2 T9 = ys, p7_3 T9 = nw, p7_4 T9 = v, p7_5 T9 = I, p7_6 T9 = oI, p7_7 T9 = C; clear T9; (k_extra "h6"); generalize p6_1 T9 = oC, p6_2 T9 = D2, p6_3 T9 = m2, p6_4 T9 = h, p6_5 T9 = tk, p6_6 T9 = E'; clear T9; intro hi' hI hP hC hx F3 N4 off ne
    refine exE hI ?_; clear hI; (try dsimp only); ((k_extra "h1"); generalize c1 _ _ = k1); intro hE9; refine exE hE9 ?_; clear hE9; (try dsimp only); ((k_extra "h1"); generalize c1 _ _ = us'); intro hE9; obtain ⟨rfl, rfl, hus⟩ := hE9
    refine exE ((ints_get hi i v (by simpa using hP))) ?_; (try dsimp only); ((k_extra "h1"); generalize c1 _ _ = n); intro hE9; refine exE hE9 ?_; clear hE9; (try dsimp only); ((k_extra "h1"); generalize c1 _ _ = tn); intro hE9; obtain ⟨hn1, rfl⟩ := hE9
    have N5 := rot3 N4
    have off1 := off.mem _ (.head _)
    repeat' (first | (k_extra "ka") | (k_extra "kb") | ((fail_if_success k_end); (k_extra "z11"); (k_extra "kc")))
    refine drawn_c (by k_asm) (by k_asm) (by k_asm) N5 (by k_asm) (by first | exact rfl | assumption) (by k_extra "my room") (by k_extra "my room") ((fmc (Ne.symm off1.1) ((fmc (Ne.symm off1.2.1) ((fmc (Ne.symm off1.2.2) (hrl))))))) (by omega) ?_
    (first | ((try dsimp only); (k_extra "h4"); generalize p4_1 T9 = t5, p4_2 T9 = k5, p4_3 T9 = h5, p4_4 T9 = tk5; clear T9; intro F5 N6) | intro t5 k5 h5 tk5 F5 N6)
    (try dsimp only)
    (try (k_extra "kf"))
    have z1 := Int.fmod_nonneg_of_pos (n + (mPen many p i).fmod many) hm0
    have z2 := Int.fmod_lt_of_pos (n + (mPen many p i).fmod many) hm0
    refine exE ((units_at (many := many) (by k_extra "a") (by k_extra "a") z1 z2 hm1)) ?_; (try dsimp only); ((k_extra "h1"); generalize c1 _ _ = ty); intro hE9; have hty := hE9; clear hE9
    refine kim_list (by k_asm) (List.mem_cons_of_mem _ (List.mem_cons_of_mem _ (List.mem_cons_of_mem _ (List.mem_cons_of_mem _ List.mem_cons_self)))) rfl rfl z1 (by omega) hty ?_
    (try k_unfold)
    (try dsimp only)
    refine LCg.CompEnd.intro (by k_asm) N6 ((l, W.listOf [Value.int (mPen many p (i + 1)) k5].toArray nn) :: (D', W.listOf (List.take many.toNat (strValues us)).toArray 0) :: (L' + 1 + 1 + 1, o'_1) :: (L' + 1 + 1, o2') :: (L' + 1, o3') :: (t, W.listOf ts.toArray n2) :: news) ?_ off (.inr ⟨_, List.mem_cons_of_mem _ (List.mem_cons_of_mem _ (List.mem_cons_of_mem _ (List.mem_cons_of_mem _ (List.mem_cons_of_mem _ List.mem_cons_self)))), rfl, _, rfl⟩) ⟨_, us' ++ [(mUnits.getD (mDraw many (mPen many p i) n).toNat (Str.ofString ""), ty)], rfl, ?_, ?_⟩
    · rw [mPen_succ]; intro p hp; simp only [List.mem_cons] at hp ⊢; rcases hp with h | h | h | h | h <;> simp [h]
    · exact (strVals_snoc _ _ _).symm
    · rw [List.take_add_one, hn1, List.map_append, hus]
      have hsz' : ts.toArray.size = ns.length := by rw [List.size_toArray, hts]
      have hmin : min i ns.length = i := by omega
      simp only [Option.toList_some, mDraws_snoc, List.length_take, hmin]; rfl
  case fin =>
    (try dsimp only); (k_extra "h2"); generalize p2_1 T9 = ys, p2_2 T9 = nw; clear T9; intro hI
    refine exE hI ?_; clear hI; (try dsimp only); ((k_extra "h1"); generalize c1 _ _ = k1); intro hE9; refine exE hE9 ?_; clear hE9; (try dsimp only); ((k_extra "h1"); generalize c1 _ _ = us'); intro hE9; obtain ⟨rfl, rfl, hus⟩ := hE9
    (first | ((try dsimp only); (k_extra "h3"); generalize p3_1 T9 = D3, p3_2 T9 = h, p3_3 T9 = tk; clear T9; intro F3 N4 off) | intro D3 h tk F3 N4 off)
    have N5 : News g' L' h ((D3, W.listOf (strValues us').toArray (strValues us').length) :: (l, W.listOf [Value.int (mPen many p ts.toArray.size) k1].toArray nn) :: (D', W.listOf (List.take many.toNat (strValues us)).toArray 0) :: (L' + 1 + 1 + 1, o'_1) :: (L' + 1 + 1, o2') :: (L' + 1, o3') :: (t, W.listOf ts.toArray n2) :: news) := N4
    clear N4
    have htk : ns.take ts.toArray.size = ns := List.take_of_length_le (by rw [List.size_toArray]; omega)
    have hsz : ts.toArray.size = ns.length := by rw [List.size_toArray, hts]
    rw [htk] at hus
    rw [hsz] at N5
    have hlen : us'.length = ns.length := by rw [← mDraws_len many ns p, ← hus, List.length_map]
    have hsum := mDraws_sum many ns p
    rw [← hus] at hsum
    repeat' (first | (k_extra "ka") | (k_extra "kb") | ((fail_if_success k_end); (k_extra "kc")))
    rw [hus]
    exact hret _ _ _ _ (by k_asm) (by (k_extra "wh drop"))
 k_extra "q"
theorem reg109 : True := by
  k_with ".call ref" => ((k_here; (with_reducible show wpAny _ _ (call (Value.ref 336) _) _ _ _); k_dflt (refine' text_c ?kB ?kF ?kX ?kN ?kT ?kK ?zkd ?zku ?zkhlt ?zkhl ?zkhm ?zkhi ?zkhn ?_; (k_extra "kq"); (case zkd => k_extra "my room"); (case zku => k_extra "my room"); (case zkhlt => k_extra "my side"); (case zkhl => k_extra "my side"); (case zkhm => k_extra "my side"); (case zkhi => k_extra "my side"); (case zkhn => k_extra "my side"); ((try dsimp only); (k_extra "h4"); generalize p4_1 T9 = t', p4_2 T9 = k1, p4_3 T9 = h', p4_4 T9 = tk'; clear T9; (first | revert t' k1 h' tk' | ((try revert tk'); (try revert h'); (try revert k1); (try revert t'))); intros; (try k_sweep); (try (k_extra "kf"))))))
  trivial
abbrev tupN (vs : List Value) (n : Nat) : Obj := { cls := .type "tuple", data := .seq vs.toArray n }
section
variable {prog : Program} {w : World} {A : Around} {E : Value → Shared → Prop} {s : Shared} {h₀ : Heap} {L a b : Addr} {m : Str → Option Value} {news news' : List (Addr × Obj)} {vs us : List Value} {v x : Value} {n k : Nat} {t : Tok} {Q : Value → Shared → Prop} {value slice : Expr}
theorem ne_nil (N : News h₀ L s.heap news) (ha : (a, W.listOf vs.toArray n) ∈ news) (hb : (b, W.listOf #[] k) ∈ news) (hu : A.units < cLine) (h : Q (.bool (!vs.isEmpty)) s) :
    wpAny (model prog w) A (compareOp .NotEq (.ref a) (.ref b)) Q E s := by
  have h1 := News.isList N ha
  have h2 := News.isList N hb
  cases vs with
  | nil => exact cmp_ofNotEq (PySem.SeqAt.RcNeAt.lists (e := fun _ => true) h1 h2 rfl hu (fun j j1 _ => absurd j1 (Nat.not_lt_zero _)) prog w E Q h)
  | cons y r => exact cmp_ofNotEq (PySem.SeqAt.RcNeAt.lists_lengths h1 h2 (by simp) hu prog w E Q h)
theorem last_list (N : News h₀ L s.heap news) (ha : (a, W.listOf (us ++ [x]).toArray n) ∈ news) (hz : us.length ≤ 1048576) (h : Q x s)
    (hs : subscripted slice false (.ref a) (.int (-1) t) = operate [.ref a, .int (-1) t] (getItem (.ref a) (.int (-1) t)) := by with_unfolding_all rfl) (hg : ∀ r, letTemporaryGo value (.ref a) r = pure () := by intro _; with_unfolding_all rfl) :
    wpAny (model prog w) A (subscriptTail value slice (.ref a) (.int (-1) t)) Q E s := by
  refine kim_back (l := us ++ [x]) (x := x) N ha rfl rfl (by decide) ?_ (by decide) ?_ h hs hg
  · rw [List.length_append, List.length_singleton]; omega
  · rw [show ((-1 : Int) + ((us ++ [x]).length : Int)).toNat = us.length by rw [List.length_append, List.length_singleton]; omega]
    simp
theorem set_last {Q : Unit → Shared → Prop} (F : Fr h₀ L s.heap m) (N : News h₀ L s.heap news) (U : Upd a (W.listOf (us ++ [x]).toArray n) (W.listOf (us ++ [v]).toArray n) news news')
    (h : ∀ h', Fr h₀ L h' m → News h₀ L h' news' → Q () { s with heap := h' }) : wpAny (model prog w) A (setItem (.ref a) (.int (-1) t) v) Q E s := by
 k_with "w" =>
  obtain ⟨pre, post, rfl, rfl, e1, e2⟩ := U.split
  have z := N (a, W.listOf (us ++ [x]).toArray n) (List.mem_append.mpr (.inr (.head _)))
  refine ki_setBack z.1 (by decide) (by simp; omega) (by decide) (h _ (F.change (Heap.SameBut.update ..) z.2.1 z.2.2) (ki_turn _ N e1 e2 ?_ ?_))
  · show (us ++ [x]).toArray.setIfInBounds ((-1 : Int) + (us ++ [x]).toArray.size).toNat v = (us ++ [v]).toArray
    rw [show ((-1 : Int) + (us ++ [x]).toArray.size).toNat = us.length by simp; omega]
    apply Array.toList_inj.mp
    simp
  · simp
 k_extra "q"
end
theorem reg110 : True := by
  k_with ".compareOp NotEq ref ref" => ((k_here; (with_reducible show wpAny _ _ (compareOp CmpOp.NotEq (Value.ref _) (Value.ref _)) _ _ _); k_dflt (refine' ne_nil ?zk1 ?zk2 ?zk3 ?zk4 ?_; (case zk1 => k_asm); (case zk2 => k_mem); (case zk3 => k_mem); (case zk4 => (dsimp only [Around.deeper, ktrTop]; omega)))))
  k_with ".subscriptTail" => ((k_here; (with_reducible show wpAny _ _ (subscriptTail _ _ (Value.ref _) (Value.int (-1) _)) _ _ _); k_dflt (refine' last_list ?zk1 ?zk2 ?zk3 ?_; (case zk1 => k_asm); (case zk2 => k_mem); (case zk3 => (k_extra "my size")))))
  k_with ".setItem ref int" => ((((k_here; (with_reducible show wpAny _ _ (setItem (Value.ref _) (Value.int (-1) _) _) _ _ _); k_dflt (refine' set_last ?zk1 ?zk2 ?zk3 ?_; (case zk1 => k_asm); (case zk2 => k_asm); (case zk3 => k_upd); k_whole); (k_extra "h1"); (try generalize c1 _ _ = h'); intro F' N'; (try k_sweep))); (try revert h'); intros))
  trivial
theorem fillF4 {w : World} {h₀ : Heap} (h : PySem.Challenge.rw_pq0846_01.row.prog = PySem.Challenge.rw_pq0846_01.row.prog) (X : (hd.heap_39 w.params).In h₀) : (hd.heap_39 w.params).In h₀ := by
  revert h X; k_fill; intro h X; exact X
theorem lput0_c : ∀ {w : World} {mean mg mb} {dp un : Nat} {gd cn} {cs : Scope} {a ccd cl} {outer : List Env} {A₀ base h₀ L m} {s : Shared} {hp tk0 news} {Q E : Value → Shared → Prop} {pa : Addr} {n1 : Nat} {y : Str} {ty : Tok} (B : Below A₀ base outer h₀) (F : Fr h₀ L hp m) (X : (hd.heap_39 w.params).In h₀) (N : News h₀ L hp ((pa, W.listOf [].toArray n1) :: news)) (T : Top hd.view_39 (looseW hd.view_39 []) mean mg mb h₀) (hk : cs.kind = .function) (hdp : dp + 3 < recursionLimit) (hun : un + 24 < cLine) (hpa : ∀ p ∈ news, p.1 ≠ pa)
  (hnil : ∀ h' tk', (y != Str.ofString "") = false → Fr h₀ L h' m → News h₀ L h' ((pa, W.listOf [].toArray n1) :: news) → Q .none { s with heap := h', toks := tk' })
  (hput : ∀ t k1 k2 h' tk', (y != Str.ofString "") = true → Fr h₀ L h' m → News h₀ L h' ((t, tupObj [.str "text" k1, .str y k2]) :: (pa, W.listOf ([] ++ [Value.ref t]).toArray (n1 + 1)) :: news) → (∀ p ∈ news, p.1 < t) → pa < t → Q .none { s with heap := h', toks := tk' }),
  wpAny (model PySem.Challenge.rw_pq0846_01.row.prog w) (ktrTop dp un gd cn cs L a ccd cl outer) (call (.ref 371) [.ref pa, .str y ty]) Q E { s with heap := hp, toks := tk0 } := by
 k_with "w" =>
  (k_extra "cp")
  (k_extra "n4"); generalize p4_1 T9 = pa, p4_2 T9 = n1, p4_3 T9 = y, p4_4 T9 = ty; clear T9
  intro B F X N T hk hdp hun hpa hnil hput
  refine wpAny_call ?_
  k_dflt (k_extra "my enter")
  repeat' (first | (k_extra "ka") | (k_extra "kb") | ((fail_if_success k_end); (k_extra "kc")))
  all_goals first
    | exact absurd (by assumption : (_ ++ [_] : List Value).isEmpty = true) (by simp)
    | exact hput _ _ _ _ _ (by assumption) (by k_asm) (by (k_extra "wh drop2")) (by (k_extra "wh low")) (by (k_extra "wh lt"))
    | exact hput _ _ _ _ _ (by k_asm) (by (k_extra "wh drop2")) (by (k_extra "wh low")) (by (k_extra "wh lt"))
    | exact hput _ _ _ _ _ (by assumption) (by k_asm) (by (k_extra "wh drop")) (by (k_extra "wh low")) (by (k_extra "wh lt")) (by (k_extra "wh lt"))
    | exact hnil _ _ (by assumption) (by k_asm) (by (k_extra "wh drop"))
    | (fail "open")
 k_extra "q"
theorem lputT_c : ∀ {w : World} {mean mg mb} {dp un : Nat} {gd cn} {cs : Scope} {a ccd cl} {outer : List Env} {A₀ base h₀ L m} {s : Shared} {hp tk0 news} {Q E : Value → Shared → Prop} {pa ea : Addr} {us : List Value} {n1 n9 : Nat} {z : Str} {kt kz : Tok} {y : Str} {ty : Tok} (B : Below A₀ base outer h₀) (F : Fr h₀ L hp m) (X : (hd.heap_39 w.params).In h₀) (N : News h₀ L hp ((pa, W.listOf (us ++ [Value.ref ea]).toArray n1) :: (ea, tupN [Value.str (Str.ofString "text") kt, Value.str z kz] n9) :: news)) (T : Top hd.view_39 (looseW hd.view_39 []) mean mg mb h₀) (hk : cs.kind = .function) (hdp : dp + 3 < recursionLimit) (hun : un + 24 < cLine) (hpa : ∀ p ∈ news, p.1 ≠ pa) (hpa2 : ea ≠ pa) (hw : z.length + y.length ≤ 1048576) (hv : us.length ≤ 1000000)
  (hput : ∀ t k1 k2 h' tk', Fr h₀ L h' m → News h₀ L h' ((t, tupObj [.str "text" k1, .str (z ++ y) k2]) :: (pa, W.listOf (us ++ [Value.ref t]).toArray n1) :: news) → (∀ p ∈ news, p.1 < t) → pa < t → Q .none { s with heap := h', toks := tk' }),
  wpAny (model PySem.Challenge.rw_pq0846_01.row.prog w) (ktrTop dp un gd cn cs L a ccd cl outer) (call (.ref 371) [.ref pa, .str y ty]) Q E { s with heap := hp, toks := tk0 } := by
 k_with "w" =>
  (k_extra "cp")
  (k_extra "n8"); generalize p8_1 T9 = pa, p8_2 T9 = ea, p8_3 T9 = us, p8_4 T9 = n1, p8_5 T9 = n9, p8_6 T9 = z, p8_7 T9 = kt, p8_8 T9 = kz; clear T9
  (k_extra "n2"); generalize p2_1 T9 = y, p2_2 T9 = ty; clear T9
  intro B F X N T hk hdp hun hpa hpa2 hw hv hput
  refine wpAny_call ?_
  k_dflt (k_extra "my enter")
  repeat' (first | (k_extra "ka") | (k_extra "kb") | ((fail_if_success k_end); (k_extra "kc")))
  all_goals first
    | exact absurd (by assumption : (_ ++ [_] : List Value).isEmpty = true) (by simp)
    | exact hput _ _ _ _ _ (by assumption) (by k_asm) (by (k_extra "wh drop2")) (by (k_extra "wh low")) (by (k_extra "wh lt"))
    | exact hput _ _ _ _ _ (by k_asm) (by (k_extra "wh drop2")) (by (k_extra "wh low")) (by (k_extra "wh lt"))
    | exact hput _ _ _ _ _ (by assumption) (by k_asm) (by (k_extra "wh drop")) (by (k_extra "wh low")) (by (k_extra "wh lt")) (by (k_extra "wh lt"))
    | exact hnil _ _ (by assumption) (by k_asm) (by (k_extra "wh drop"))
    | (fail "open")
 k_extra "q"
theorem lputC_c : ∀ {w : World} {mean mg mb} {dp un : Nat} {gd cn} {cs : Scope} {a ccd cl} {outer : List Env} {A₀ base h₀ L m} {s : Shared} {hp tk0 news} {Q E : Value → Shared → Prop} {pa ea : Addr} {us : List Value} {n1 n9 : Nat} {v2 : Value} {kt : Tok} {y : Str} {ty : Tok} (B : Below A₀ base outer h₀) (F : Fr h₀ L hp m) (X : (hd.heap_39 w.params).In h₀) (N : News h₀ L hp ((pa, W.listOf (us ++ [Value.ref ea]).toArray n1) :: (ea, tupN [Value.str (Str.ofString "code") kt, v2] n9) :: news)) (T : Top hd.view_39 (looseW hd.view_39 []) mean mg mb h₀) (hk : cs.kind = .function) (hdp : dp + 3 < recursionLimit) (hun : un + 24 < cLine) (hpa : ∀ p ∈ news, p.1 ≠ pa) (hpa2 : ea ≠ pa) (hv : us.length ≤ 1000000)
  (hnil : ∀ h' tk', (y != Str.ofString "") = false → Fr h₀ L h' m → News h₀ L h' ((pa, W.listOf (us ++ [Value.ref ea]).toArray n1) :: (ea, tupN [Value.str (Str.ofString "code") kt, v2] n9) :: news) → Q .none { s with heap := h', toks := tk' })
  (hput : ∀ t k1 k2 h' tk', (y != Str.ofString "") = true → Fr h₀ L h' m → News h₀ L h' ((t, tupObj [.str "text" k1, .str y k2]) :: (pa, W.listOf (us ++ [Value.ref ea] ++ [Value.ref t]).toArray (n1 + 1)) :: (ea, tupN [Value.str (Str.ofString "code") kt, v2] n9) :: news) → (∀ p ∈ news, p.1 < t) → pa < t → ea < t → Q .none { s with heap := h', toks := tk' }),
  wpAny (model PySem.Challenge.rw_pq0846_01.row.prog w) (ktrTop dp un gd cn cs L a ccd cl outer) (call (.ref 371) [.ref pa, .str y ty]) Q E { s with heap := hp, toks := tk0 } := by
 k_with "w" =>
  (k_extra "cp")
  (k_extra "n8"); generalize p8_1 T9 = pa, p8_2 T9 = ea, p8_3 T9 = us, p8_4 T9 = n1, p8_5 T9 = n9, p8_6 T9 = v2, p8_7 T9 = kt, p8_8 T9 = y; clear T9
  (k_extra "n1"); (try generalize c1 _ _ = ty)
  intro B F X N T hk hdp hun hpa hpa2 hv hnil hput
  refine wpAny_call ?_
  k_dflt (k_extra "my enter")
  repeat' (first | (k_extra "ka") | (k_extra "kb") | ((fail_if_success k_end); (k_extra "kc")))
  all_goals first
    | exact absurd (by assumption : (_ ++ [_] : List Value).isEmpty = true) (by simp)
    | exact hput _ _ _ _ _ (by assumption) (by k_asm) (by (k_extra "wh drop2")) (by (k_extra "wh low")) (by (k_extra "wh lt"))
    | exact hput _ _ _ _ _ (by k_asm) (by (k_extra "wh drop2")) (by (k_extra "wh low")) (by (k_extra "wh lt"))
    | exact hput _ _ _ _ _ (by assumption) (by k_asm) (by (k_extra "wh drop")) (by (k_extra "wh low")) (by (k_extra "wh lt")) (by (k_extra "wh lt"))
    | exact hnil _ _ (by assumption) (by k_asm) (by (k_extra "wh drop"))
    | (fail "open")
 k_extra "q"
noncomputable def mPut (ps : List Part) (y : Str) : List Part := match ps.getLast? with
  | some (.text z) => ps.dropLast ++ [.text (z ++ y)]
  | _ => if (y != Str.ofString "") = true then ps ++ [.text y] else ps
theorem mPut_nil (y : Str) : mPut [] y = if (y != Str.ofString "") = true then [.text y] else [] := id rfl
theorem mPut_text (ps : List Part) (z y : Str) : mPut (ps ++ [.text z]) y = ps ++ [.text (z ++ y)] := by unfold mPut; simp
theorem mPut_code (ps : List Part) (z y : Str) (n : Int) : mPut (ps ++ [.code z n]) y = if (y != Str.ofString "") = true then ps ++ [.code z n] ++ [.text y] else ps ++ [.code z n] := by unfold mPut; simp
noncomputable def psW : List Part → Nat
  | [] => 0
  | .text z :: r => z.length + psW r
  | .code _ _ :: r => psW r
theorem psW_app : ∀ (a b : List Part), psW (a ++ b) = psW a + psW b
  | [], b => by simp [psW]
  | .text z :: r, b => by rw [List.cons_append, psW, psW, psW_app r b]; omega
  | .code _ _ :: r, b => by rw [List.cons_append, psW, psW, psW_app r b]
theorem psW_put (ps : List Part) (y : Str) : psW (mPut ps y) ≤ psW ps + y.length := by
  rcases List.eq_nil_or_concat ps with rfl | ⟨qs, p, rfl⟩
  · rw [mPut_nil]; split <;> simp [psW]
  · rw [List.concat_eq_append]
    cases p with
    | text z => rw [mPut_text, psW_app, psW_app]; simp [psW, Str.length_append]; omega
    | code z n => rw [mPut_code]; split <;> (simp only [psW_app, psW]; omega)
theorem put_len (ps : List Part) (y : Str) : (mPut ps y).length ≤ ps.length + 1 := by
  rcases List.eq_nil_or_concat ps with rfl | ⟨qs, p, rfl⟩
  · rw [mPut_nil]; split <;> simp
  · rw [List.concat_eq_append]
    cases p with
    | text z => rw [mPut_text]; simp
    | code z n => rw [mPut_code]; split <;> simp
theorem datAll_nil {r : List (Addr × Obj)} {vs : List Value} (h : DatAll r vs []) : vs = [] := by cases h; rfl
theorem datAll_snoc' {r : List (Addr × Obj)} : ∀ {ds : List Dat} {vs : List Value} {d : Dat}, DatAll r vs (ds ++ [d]) → ∃ us v, vs = us ++ [v] ∧ DatAll r us ds ∧ DatIn r v d
  | [], vs, d, h => by
    cases h with
    | cons h k => cases k; exact ⟨[], _, rfl, .nil, h⟩
  | e :: ds, vs, d, h => by
    cases h with
    | cons h k =>
      obtain ⟨us, v, rfl, k1, k2⟩ := datAll_snoc' k
      exact ⟨_ :: us, v, rfl, .cons h k1, k2⟩
theorem datIn_tuple {r : List (Addr × Obj)} {v : Value} {ds : List Dat} (h : DatIn r v (.tuple ds)) : ∃ a vs n, v = .ref a ∧ (a, ({ cls := .type "tuple", data := .seq (List.toArray vs) n } : Obj)) ∈ r ∧ DatAll r vs ds := by
  cases h with | tuple hm k => exact ⟨_, _, _, rfl, hm, k⟩
theorem datIn_str {r : List (Addr × Obj)} {v : Value} {x : Str} (h : DatIn r v (.str x)) : ∃ t, v = .str x t := by
  cases h; exact ⟨_, rfl⟩
theorem datAll_cons {r : List (Addr × Obj)} {vs : List Value} {d : Dat} {ds : List Dat} (h : DatAll r vs (d :: ds)) : ∃ v us, vs = v :: us ∧ DatIn r v d ∧ DatAll r us ds := by
  cases h with | cons a b => exact ⟨_, _, rfl, a, b⟩
theorem datAll_nil' {r : List (Addr × Obj)} {vs : List Value} (h : DatAll r vs []) : vs = [] := by
  cases h; rfl
theorem datIn_codepair {r : List (Addr × Obj)} {v : Value} {x : Str} {d : Dat} (h : DatIn r v (.tuple [.str x, d])) : ∃ a k1 v2 n, v = .ref a ∧ (a, ({ cls := .type "tuple", data := .seq [Value.str x k1, v2].toArray n } : Obj)) ∈ r ∧ DatIn r v2 d := by
  obtain ⟨a, vs, n, e, hm, k⟩ := datIn_tuple h
  obtain ⟨v1, us, rfl, h1, k⟩ := datAll_cons k
  obtain ⟨v2, us, rfl, h2, k⟩ := datAll_cons k
  obtain rfl := datAll_nil' k
  obtain ⟨t, rfl⟩ := datIn_str h1
  exact ⟨_, _, _, _, e, hm, h2⟩
theorem datIn_pair {r : List (Addr × Obj)} {v : Value} {x y : Str} (h : DatIn r v (.tuple [.str x, .str y])) : ∃ a k1 k2 n, v = .ref a ∧ (a, ({ cls := .type "tuple", data := .seq [Value.str x k1, Value.str y k2].toArray n } : Obj)) ∈ r := by
  obtain ⟨a, k1, v2, n, e, hm, h2⟩ := datIn_codepair h
  obtain ⟨t, rfl⟩ := datIn_str h2
  exact ⟨_, _, _, _, e, hm⟩
section
variable {w : World} {mean mg mb} {dp un : Nat} {gd cn} {cs : Scope} {a ccd cl} {outer : List Env} {A₀ base h₀ L m} {s : Shared} {hp tk0 news} {Q E : Value → Shared → Prop} {pa : Addr} {vs : List Value} {n1 : Nat} {data : List (Addr × Obj)}
 (B : Below A₀ base outer h₀) (F : Fr h₀ L hp m) (X : (hd.heap_39 w.params).In h₀) (N : News h₀ L hp ((pa, W.listOf vs.toArray n1) :: (data ++ news))) (T : Top hd.view_39 (looseW hd.view_39 []) mean mg mb h₀) (hk : cs.kind = .function)
include B F X N T hk
theorem lput_c {y : Str} {ty : Tok} (ps : List Part) (hdp : dp + 3 < recursionLimit) (hun : un + 24 < cLine) (hD : DatAll data vs (ps.map Part.dat)) (hpa : ∀ p ∈ data ++ news, p.1 ≠ pa) (hw : psW ps + y.length ≤ 1048576) (hv : ps.length ≤ 1000000)
  (hret : ∀ ps' vs' n' data' h' tk', ps' = mPut ps y → psW ps' ≤ psW ps + y.length → ps'.length ≤ ps.length + 1 → DatAll data' vs' (ps'.map Part.dat) → (∀ p ∈ data', p ∈ data ∨ (pa < p.1 ∧ ∀ q ∈ news, q.1 < p.1)) → Fr h₀ L h' m → News h₀ L h' ((pa, W.listOf vs'.toArray n') :: (data' ++ news)) → Q .none { s with heap := h', toks := tk' }) :
  wpAny (model PySem.Challenge.rw_pq0846_01.row.prog w) (ktrTop dp un gd cn cs L a ccd cl outer) (call (.ref 371) [.ref pa, .str y ty]) Q E { s with heap := hp, toks := tk0 } := by
 k_with "w" =>
  revert B F X N T hk hdp hun hD hpa hw hv hret
  revert w mean mg mb dp un gd cn cs a ccd cl outer A₀ base h₀ L m s hp tk0 news Q E pa vs n1 data y ty ps
  (k_extra "cp")
  (k_extra "n7"); generalize p7_1 T9 = pa, p7_2 T9 = vs, p7_3 T9 = n1, p7_4 T9 = data, p7_5 T9 = y, p7_6 T9 = ty, p7_7 T9 = ps; clear T9
  intro B F X N T hk hdp hun hD hpa hw hv hret
  have hret2 := fun vs' n' data' h' tk' => hret (mPut ps y) vs' n' data' h' tk' rfl (psW_put _ _) (put_len _ _)
  clear hret
  have hpn : ∀ p ∈ news, p.1 ≠ pa := fun p hp => hpa p (List.mem_append_right _ hp)
  have hlo : ∀ {r : List (Addr × Obj)} {d : Addr}, (∀ p ∈ r, p.1 < d) → (∀ p ∈ data ++ news, p ∈ r) → ∀ q ∈ news, q.1 < d := fun h hs q hq => h q (hs q (List.mem_append_right _ hq))
  rcases List.eq_nil_or_concat ps with rfl | ⟨qs, p, rfl⟩
  · obtain rfl := datAll_nil hD
    refine lput0_c (news := data ++ news) B F X N T hk hdp hun hpa ?_ ?_
    · (try dsimp only); (k_extra "h2"); generalize p2_1 T9 = h', p2_2 T9 = tk'; clear T9; intro hy F' N'
      exact hret2 [] n1 data h' tk' (by rw [mPut_nil, if_neg (by rw [hy]; simp)]; exact .nil) (fun p hp => .inl hp) F' N'
    · (try dsimp only); (k_extra "h5"); generalize p5_1 T9 = t, p5_2 T9 = k1, p5_3 T9 = k2, p5_4 T9 = h', p5_5 T9 = tk'; clear T9; intro hy F' N' lo lt
      refine hret2 [.ref t] (n1 + 1) ((t, tupObj [.str "text" k1, .str y k2]) :: data) h' tk' ?_ ?_ F' (cb_drop N' (by intro p hp; simp only [List.mem_cons, List.mem_append, List.cons_append, List.nil_append] at hp ⊢; rcases hp with h | h | h | h <;> simp [h]))
      · rw [mPut_nil, if_pos hy]
        exact DatAll.one (DatIn.tuple (List.mem_cons_self) (DatAll.cons (DatIn.str _ _) (DatAll.cons (DatIn.str _ _) .nil)))
      · exact (fmc (.inr ⟨lt, hlo lo fun p hp => hp⟩) (fun p hp => .inl hp))
  · rw [List.concat_eq_append] at *
    rw [List.map_append, List.map_singleton] at hD
    obtain ⟨us, v, rfl, hus, hv1⟩ := datAll_snoc' hD
    have hul : us.length ≤ 1000000 := by
      have := hus.length
      rw [List.length_map] at this
      rw [List.length_append, List.length_singleton] at hv
      omega
    cases p with
    | text z =>
      obtain ⟨a', k1, k2, n9, rfl, hm⟩ := datIn_pair hv1
      have hw' : z.length + y.length ≤ 1048576 := by rw [psW_app] at hw; simp only [psW] at hw; omega
      refine lputT_c (news := data ++ news) (ea := a') (us := us) (z := z) (kt := k1) (kz := k2) (n9 := n9) (n1 := n1) B F X (cb_drop N (by intro p hp; simp only [List.mem_cons, List.mem_append] at hp ⊢; rcases hp with h | h | h | h <;> simp [h, hm])) T hk hdp hun hpa (hpa _ (List.mem_append_left _ hm)) hw' hul ?_
      (try dsimp only); (k_extra "h5"); generalize p5_1 T9 = t, p5_2 T9 = k1, p5_3 T9 = k2, p5_4 T9 = h', p5_5 T9 = tk'; clear T9; intro F' N' lo lt
      refine hret2 (us ++ [.ref t]) n1 ((t, tupObj [.str "text" k1, .str (z ++ y) k2]) :: data) h' tk' ?_ ?_ F' (cb_drop N' (by intro p hp; simp only [List.mem_cons, List.mem_append, List.cons_append] at hp ⊢; rcases hp with h | h | h | h <;> simp [h]))
      · rw [mPut_text, List.map_append, List.map_singleton]
        exact DatAll.append (DatAll.mono (fun p hp => List.mem_cons_of_mem _ hp) hus) (DatAll.one (DatIn.tuple (List.mem_cons_self) (DatAll.cons (DatIn.str _ _) (DatAll.cons (DatIn.str _ _) .nil))))
      · exact (fmc (.inr ⟨lt, hlo lo fun p hp => hp⟩) (fun p hp => .inl hp))
    | code z n =>
      obtain ⟨a', k1, v2, n9, rfl, hm, _⟩ := datIn_codepair hv1
      refine lputC_c (news := data ++ news) (ea := a') (us := us) (v2 := v2) (kt := k1) (n9 := n9) (n1 := n1) B F X (cb_drop N (by intro p hp; simp only [List.mem_cons, List.mem_append] at hp ⊢; rcases hp with h | h | h | h <;> simp [h, hm])) T hk hdp hun hpa (hpa _ (List.mem_append_left _ hm)) hul ?_ ?_
      · (try dsimp only); (k_extra "h2"); generalize p2_1 T9 = h', p2_2 T9 = tk'; clear T9; intro hy F' N'
        exact hret2 (us ++ [.ref a']) n1 data h' tk' (by rw [mPut_code, if_neg (by rw [hy]; simp), List.map_append, List.map_singleton]; exact hD) (fun p hp => .inl hp) F' (cb_drop N' (by intro p hp; simp only [List.mem_cons, List.mem_append] at hp ⊢; rcases hp with h | h | h <;> simp [h]))
      · (try dsimp only); (k_extra "h5"); generalize p5_1 T9 = t, p5_2 T9 = k1, p5_3 T9 = k2, p5_4 T9 = h', p5_5 T9 = tk'; clear T9; intro hy F' N' lo lt _
        refine hret2 (us ++ [.ref a'] ++ [.ref t]) (n1 + 1) ((t, tupObj [.str "text" k1, .str y k2]) :: data) h' tk' ?_ ?_ F' (cb_drop N' (by intro p hp; simp only [List.mem_cons, List.mem_append, List.cons_append] at hp ⊢; rcases hp with h | h | h | h <;> simp [h]))
        · rw [mPut_code, if_pos hy, List.map_append, List.map_append, List.map_singleton, List.map_singleton]
          exact DatAll.append (DatAll.mono (fun p hp => List.mem_cons_of_mem _ hp) hD) (DatAll.one (DatIn.tuple (List.mem_cons_self) (DatAll.cons (DatIn.str _ _) (DatAll.cons (DatIn.str _ _) .nil))))
        · exact (fmc (.inr ⟨lt, hlo lo fun p hp => hp⟩) (fun p hp => .inl hp))
 k_extra "q"
end
theorem gt3 (i : Int) (n : Nat) : i < i + 3 + n + 1 := by omega
theorem lesc_len {x q y : Str} {i j : Int} (h0 : 0 ≤ i) (h : mLEsc x i q = (y, j)) (hj : 0 ≤ j) : y.length ≤ 4 ∧ i < j := by
 k_with "w" =>
  revert x q y i j h0 h hj
  (k_extra "n5"); generalize p5_1 T9 = x, p5_2 T9 = q, p5_3 T9 = y, p5_4 T9 = i, p5_5 T9 = j; clear T9
  intro h0 h hj
  have hC : (lC x i).length ≤ 4 := Nat.le_trans (slice_len x (by omega) (by omega)) (by omega)
  have fin : ∀ {z : Str} {k : Int}, (z, k) = (y, j) → (0 ≤ k → z.length ≤ 4 ∧ i < k) → y.length ≤ 4 ∧ i < j := by
    intro z k e hz
    obtain ⟨rfl, rfl⟩ := Prod.mk.inj e
    exact hz hj
  unfold mLEsc at h
  by_cases c1 : (lC x i != Str.ofString "") = true ∧ (Builtin.Str.occurrences lesc (lC x i) 0 lesc.length 1).isEmpty = false
  · rw [if_pos c1] at h; exact fin h fun _ => ⟨(by decide : 1 ≤ 4), by omega⟩
  rw [if_neg c1] at h
  by_cases c2 : (lC x i != Str.ofString "") = true ∧ (lC x i == q) = true
  · rw [if_pos c2] at h; exact fin h fun _ => ⟨hC, by omega⟩
  rw [if_neg c2] at h
  by_cases c3 : (lO x i != Str.ofString "") = true
  · rw [if_pos c3] at h; exact fin h fun _ => ⟨(by decide : 1 ≤ 4), by omega⟩
  rw [if_neg c3] at h
  by_cases c4 : ([Str.ofString "x", Str.ofString "X"].any fun y => y == lC x i) = true ∧ (lX x i != Str.ofString "") = true
  · rw [if_pos c4] at h; exact fin h fun _ => ⟨(by decide : 1 ≤ 4), by omega⟩
  rw [if_neg c4] at h
  by_cases c5 : (Txt.slice x (some (i + 1)) (some (i + 3)) == Str.ofString "u{") = true
  · rw [if_pos c5] at h
    by_cases c6 : (lP x i == Str.ofString "") = true ∨ (Txt.slice x (some (i + 3 + (lP x i).length)) (some (i + 3 + (lP x i).length + 1)) != Str.ofString "}") = true
    · rw [if_pos c6] at h; exact fin h fun z => absurd z (by decide)
    rw [if_neg c6] at h
    by_cases c7 : 1114111 < mNum 16 (lP x i)
    · rw [if_pos c7] at h; exact fin h fun z => absurd z (by decide)
    rw [if_neg c7] at h
    exact fin h fun _ => ⟨octets_len _, gt3 _ _⟩
  rw [if_neg c5] at h
  by_cases c8 : (lC x i == Str.ofString "{") = true
  · rw [if_pos c8] at h; exact fin h fun _ => ⟨by decide, by omega⟩
  rw [if_neg c8] at h
  exact fin h fun _ => ⟨by decide, by omega⟩
 k_extra "q"
noncomputable def mRead (x q : Str) (n : Int) : Nat → Int → List Part → Option (Except (Str × Int) (List Part × Int))
  | 0, _, _ => none
  | k + 1, i, ps =>
    if i < x.length ∧ (Txt.item x i != q) = true then
      if (Txt.slice x (some i) (some (i + 2)) == Str.ofString "{$") = true then
        mRead x q n k (mLexEnd x i) (ps ++ [.code (Txt.slice x (some (i + 1)) (some (mLexEnd x i))) (n + (Txt.count (Txt.slice x none (some i)) (Str.ofString "\n") : Int))])
      else if (Txt.item x i == Str.ofString "\\") = true then
        if (mLEsc x i q).2 < 0 then some (.error ((mLEsc x i q).1, n + (Txt.count (Txt.slice x none (some i)) (Str.ofString "\n") : Int)))
        else mRead x q n k (mLEsc x i q).2 (mPut ps (mLEsc x i q).1)
      else mRead x q n k (i + 1) (mPut ps (Txt.item x i))
    else if (q != Str.ofString "") = true ∧ i = x.length then some (.error (whyE, n + (Txt.count x (Str.ofString "\n") : Int)))
    else some (.ok (ps, i + 1))

theorem mRead_zero (x q : Str) (n i : Int) (ps : List Part) : mRead x q n 0 i ps = none := id rfl
theorem mRead_succ (x q : Str) (n : Int) (k : Nat) (i : Int) (ps : List Part) : mRead x q n (k + 1) i ps = (if i < x.length ∧ (Txt.item x i != q) = true then
      if (Txt.slice x (some i) (some (i + 2)) == Str.ofString "{$") = true then
        mRead x q n k (mLexEnd x i) (ps ++ [.code (Txt.slice x (some (i + 1)) (some (mLexEnd x i))) (n + (Txt.count (Txt.slice x none (some i)) (Str.ofString "\n") : Int))])
      else if (Txt.item x i == Str.ofString "\\") = true then
        if (mLEsc x i q).2 < 0 then some (.error ((mLEsc x i q).1, n + (Txt.count (Txt.slice x none (some i)) (Str.ofString "\n") : Int)))
        else mRead x q n k (mLEsc x i q).2 (mPut ps (mLEsc x i q).1)
      else mRead x q n k (i + 1) (mPut ps (Txt.item x i))
    else if (q != Str.ofString "") = true ∧ i = x.length then some (.error (whyE, n + (Txt.count x (Str.ofString "\n") : Int)))
    else some (.ok (ps, i + 1))) := id rfl
structure RS where
  vs : List Value
  n1 : Nat
  data : List (Addr × Obj)
  ps : List Part
  i : Int
  ti : Tok
  k : Nat
theorem ne_RS : Nonempty RS := ⟨⟨[], 0, [], [], 0, 0, 0⟩⟩
theorem all_RS {G : RS → Prop} (h : G ⟨(c1 ne_RS G).vs, (c1 ne_RS G).n1, (c1 ne_RS G).data, (c1 ne_RS G).ps, (c1 ne_RS G).i, (c1 ne_RS G).ti, (c1 ne_RS G).k⟩) : ∀ c, G c := all1 ne_RS h
theorem fillF5 {w : World} {h₀ : Heap} (h : PySem.Challenge.rw_pq0846_01.row.prog = PySem.Challenge.rw_pq0846_01.row.prog) (X : (hd.heap_39 w.params).In h₀) : (hd.heap_39 w.params).In h₀ := by
  revert h X; k_fill; intro h X; exact X
section
variable {w : World} {mean mg mb} {dp un : Nat} {gd cn} {cs : Scope} {a ccd cl} {outer : List Env} {A₀ base h₀ L m} {s : Shared} {hp tk0 news} {Q E : Value → Shared → Prop}
 (B : Below A₀ base outer h₀) (F : Fr h₀ L hp m) (X : (hd.heap_39 w.params).In h₀) (N : News h₀ L hp news) (T : Top hd.view_39 (looseW hd.view_39 []) mean mg mb h₀) (hk : cs.kind = .function)
include B F X N T hk
theorem read_c {x q : Str} {tx tq tn : Tok} {n : Int} {R : Except (Str × Int) (List Part × Int)} (K : Nat) (hdp : dp + 30 < recursionLimit) (hun : un + 240 < cLine) (hx : x.length ≤ 65536) (hK : K ≤ 65536) (hR : mRead x q n K 0 [] = some R)
  (hret : ∀ ps j r pa vs n1 data k1 k2 h' tk', R = .ok (ps, j) → DatAll data vs (ps.map Part.dat) → Fr h₀ L h' m → News h₀ L h' ((r, tupObj [.str "told" k1, .ref pa, .int j k2]) :: (pa, W.listOf vs.toArray n1) :: (data ++ news)) → (∀ q ∈ news, q.1 < pa ∧ q.1 < r ∧ ∀ p ∈ data, q.1 < p.1) → pa < r → (∀ p ∈ data, pa < p.1) → Q (.ref r) { s with heap := h', toks := tk' })
  (href : ∀ y n' r k1 k2 k3 h' tk', R = .error (y, n') → Fr h₀ L h' m → News h₀ L h' ((r, tupObj [.str "refused" k1, .str y k2, .int n' k3]) :: news) → (∀ q ∈ news, q.1 < r) → Q (.ref r) { s with heap := h', toks := tk' }) :
  wpAny (model PySem.Challenge.rw_pq0846_01.row.prog w) (ktrTop dp un gd cn cs L a ccd cl outer) (call (.ref 378) [.str x tx, .str q tq, .int n tn]) Q E { s with heap := hp, toks := tk0 } := by
 k_with "w" =>
  revert B F X N T hk hdp hun hx hK hR hret href
  revert w mean mg mb dp un gd cn cs a ccd cl outer A₀ base h₀ L m s hp tk0 news Q E x q tx tq tn n R K
  (k_extra "cp")
  (k_extra "n8"); generalize p8_1 T9 = x, p8_2 T9 = q, p8_3 T9 = tx, p8_4 T9 = tq, p8_5 T9 = tn, p8_6 T9 = n, p8_7 T9 = R, p8_8 T9 = K; clear T9
  intro B F X N T hk hdp hun hx hK hR hret href
  refine wpAny_call ?_
  k_dflt (k_extra "my enter")
  repeat' (first | (k_extra "ka") | (k_extra "kb") | ((fail_if_success k_end); (k_extra "z7"); (k_extra "kc")))
  expose_names
  refine ksw_while (fun c : RS => (l', W.listOf c.vs.toArray c.n1) :: (c.data ++ news)) (fun c => [(Str.ofString "at", .int c.i c.ti)]) (fun _ => True) [Str.ofString "row", Str.ofString "behind", Str.ofString "signs"]
    (fun c => 0 ≤ c.i ∧ DatAll c.data c.vs (c.ps.map Part.dat) ∧ (∀ p ∈ c.data, l' < p.1 ∧ ∀ q ∈ news, q.1 < p.1) ∧ psW c.ps + 4 * c.k ≤ 4 * K ∧ c.ps.length + c.k ≤ K ∧ mRead x q n c.k c.i c.ps = some R) (fun c => c.k)
    ⟨[], _, [], [], 0, _, K⟩ (by k_asm) (by (k_extra "wh drop")) trivial (by (k_extra "wh keep")) ⟨Int.le_refl _, .nil, List.forall_mem_nil _, by simp [psW], by simp, hR⟩ ?_
  (try dsimp only); with_reducible refine (all_RS ?_); generalize c1 _ _ = T9; generalize RS.vs T9 = vs, RS.n1 T9 = n1, RS.data T9 = data, RS.ps T9 = ps, RS.i T9 = j, RS.ti T9 = tj, RS.k T9 = k; clear T9; (k_extra "h3"); generalize p3_1 T9 = u', p3_2 T9 = h', p3_3 T9 = tk'; clear T9; intro _ I' F' N'; (try dsimp only at I' F' N' ⊢); obtain ⟨I1, I2, I3, I4, I5, I6⟩ := I'
  revert k
  refine allK ?_ ?_
  · intro I4 I5 I6; rw [mRead_zero] at I6; cases I6
  generalize c1 _ _ = k; intro I4 I5 I6
  rw [mRead_succ] at I6
  have hvl := I2.length
  rw [List.length_map] at hvl
  have hpa : ∀ p ∈ data ++ news, p.1 ≠ l' := (fma (fun p hp => Nat.ne_of_gt (I3 p hp).1) (fun p hp => Nat.ne_of_lt (l1_1 p hp)))
  repeat' (first | (k_extra "ka") | (k_extra "kb") | ((fail_if_success k_end); (fail_if_success (with_reducible show wpAny _ _ (call (Value.ref 371) _) _ _ _)); (k_extra "kc")))
  all_goals (simp only [*, and_self, and_true, true_and, and_false, false_and, if_true, if_false, Bool.false_eq_true, reduceCtorEq, Int.lt_irrefl] at I6)
  · refine ksw_end (RS.mk (vs ++ [Value.ref _]) _ ((_, tupObj [Value.str (Str.ofString "code") _, Value.ref _]) :: (_, tupObj [Value.str (Txt.slice x (some (j + 1)) (some (Txt.find3 x (Str.ofString "}") j + 1))) _, Value.int _ _]) :: data) (ps ++ [Part.code (Txt.slice x (some (j + 1)) (some (Txt.find3 x (Str.ofString "}") j + 1))) (n + (Txt.count (Txt.slice x none (some j)) (Str.ofString "\n") : Int))]) (mLexEnd x j) _ k) (by k_asm) (by k_asm) (by (k_extra "wh mem")) trivial (by (try dsimp only); (k_extra "wh keep")) (by (k_extra "wh same")) ?_ ?_
    · refine ⟨lexEnd_nn _ _, ?_, ?_, by rw [psW_app]; simp only [psW]; omega, by (try dsimp only); rw [List.length_append, List.length_singleton]; (try dsimp only); omega, I6⟩
      · simp only [List.map_append, List.map_cons, List.map_nil, Part.dat]
        exact DatAll.append (DatAll.mono (by (k_extra "wh sub")) I2) (DatAll.one (DatIn.tuple (by (with_reducible (k_extra "wh in"))) (DatAll.cons (DatIn.str _ _) (DatAll.cons (DatIn.tuple (by (with_reducible (k_extra "wh in"))) (DatAll.cons (DatIn.str _ _) (DatAll.cons (DatIn.int _ _) .nil))) .nil))))
      · exact (fmc (⟨by first | (dsimp only; refine ltN ?_; omega) | (k_extra "wh lt"), fun q hq => Nat.lt_trans (l1_1 q hq) (by first | (dsimp only; refine ltN ?_; omega) | (k_extra "wh lt"))⟩) ((fmc (⟨by first | (dsimp only; refine ltN ?_; omega) | (k_extra "wh lt"), fun q hq => Nat.lt_trans (l1_1 q hq) (by first | (dsimp only; refine ltN ?_; omega) | (k_extra "wh lt"))⟩) (I3))))
    · dsimp only; omega
  · exact href _ _ _ _ _ _ _ _ (Option.some.inj I6).symm (by k_asm) (by (k_extra "wh drop1")) (fun q hq => Nat.lt_trans (l1_1 q hq) (by (k_extra "wh lt")))
  · have ok := lesc_len I1 (by assumption) (by omega)
    refine lput_c (data := data) (vs := vs) (n1 := n1) (news := news) (by k_asm) (by k_asm) (by k_asm) (by (k_extra "wh drop")) (by k_asm) (by first | exact rfl | assumption) ps (by k_extra "my room") (by k_extra "my room") I2 hpa (by omega) (by omega) ?_
    (first | ((try dsimp only); (k_extra "h6"); generalize p6_1 T9 = ps5, p6_2 T9 = vs5, p6_3 T9 = n5, p6_4 T9 = data5, p6_5 T9 = h5, p6_6 T9 = tk5; clear T9; intro e5 w5 p5 D5 O5 F5 N5) | intro ps5 vs5 n5 data5 h5 tk5 e5 w5 p5 D5 O5 F5 N5)
    rw [← e5] at I6
    (try dsimp only)
    (try (k_extra "kf"))
    repeat' (first | (k_extra "ka") | (k_extra "kb") | ((fail_if_success k_end); (k_extra "kc")))
    refine ksw_end (RS.mk vs5 n5 data5 ps5 _ _ k) (by k_asm) (by k_asm) (by (k_extra "wh mem")) trivial (by (try dsimp only); (k_extra "wh keep")) (by (k_extra "wh same")) ?_ ?_
    · refine ⟨by dsimp only; omega, D5, fun p hp => (O5 p hp).elim (fun h => I3 p h) id, by (try dsimp only); omega, by (try dsimp only); omega, I6⟩
    · dsimp only; omega
  · refine lput_c (data := data) (vs := vs) (n1 := n1) (news := news) (by k_asm) (by k_asm) (by k_asm) (by (k_extra "wh drop")) (by k_asm) (by first | exact rfl | assumption) ps (by k_extra "my room") (by k_extra "my room") I2 hpa (by omega) (by omega) ?_
    (first | ((try dsimp only); (k_extra "h6"); generalize p6_1 T9 = ps5, p6_2 T9 = vs5, p6_3 T9 = n5, p6_4 T9 = data5, p6_5 T9 = h5, p6_6 T9 = tk5; clear T9; intro e5 w5 p5 D5 O5 F5 N5) | intro ps5 vs5 n5 data5 h5 tk5 e5 w5 p5 D5 O5 F5 N5)
    rw [← e5] at I6
    (try dsimp only)
    (try (k_extra "kf"))
    repeat' (first | (k_extra "ka") | (k_extra "kb") | ((fail_if_success k_end); (k_extra "kc")))
    refine ksw_end (RS.mk vs5 n5 data5 ps5 _ _ k) (by k_asm) (by k_asm) (by (k_extra "wh mem")) trivial (by (try dsimp only); (k_extra "wh keep")) (by (k_extra "wh same")) ?_ ?_
    · refine ⟨by dsimp only; omega, D5, fun p hp => (O5 p hp).elim (fun h => I3 p h) id, by (try dsimp only); omega, by (try dsimp only); omega, I6⟩
    · dsimp only; omega
  · exact href _ _ _ _ _ _ _ _ (Option.some.inj I6).symm (by k_asm) (by (k_extra "wh drop1")) (fun q hq => Nat.lt_trans (l1_1 q hq) (by (k_extra "wh lt")))
  · exact hret ps _ _ l' vs n1 data _ _ _ _ (Option.some.inj I6).symm I2 (by k_asm) (by (k_extra "wh drop")) (fun q hq => ⟨l1_1 q hq, Nat.lt_trans (l1_1 q hq) (by (k_extra "wh lt")), fun p hp => (I3 p hp).2 q hq⟩) (by (k_extra "wh lt")) (fun p hp => (I3 p hp).1)
  · exact hret ps _ _ l' vs n1 data _ _ _ _ (Option.some.inj I6).symm I2 (by k_asm) (by (k_extra "wh drop")) (fun q hq => ⟨l1_1 q hq, Nat.lt_trans (l1_1 q hq) (by (k_extra "wh lt")), fun p hp => (I3 p hp).2 q hq⟩) (by (k_extra "wh lt")) (fun p hp => (I3 p hp).1)
  · exact href _ _ _ _ _ _ _ _ (Option.some.inj I6).symm (by k_asm) (by (k_extra "wh drop1")) (fun q hq => Nat.lt_trans (l1_1 q hq) (by (k_extra "wh lt")))
  · exact hret ps _ _ l' vs n1 data _ _ _ _ (Option.some.inj I6).symm I2 (by k_asm) (by (k_extra "wh drop")) (fun q hq => ⟨l1_1 q hq, Nat.lt_trans (l1_1 q hq) (by (k_extra "wh lt")), fun p hp => (I3 p hp).2 q hq⟩) (by (k_extra "wh lt")) (fun p hp => (I3 p hp).1)
  · exact hret ps _ _ l' vs n1 data _ _ _ _ (Option.some.inj I6).symm I2 (by k_asm) (by (k_extra "wh drop")) (fun q hq => ⟨l1_1 q hq, Nat.lt_trans (l1_1 q hq) (by (k_extra "wh lt")), fun p hp => (I3 p hp).2 q hq⟩) (by (k_extra "wh lt")) (fun p hp => (I3 p hp).1)
 k_extra "q"
end
theorem reg113 : True := by
  k_with ".call ref" => ((k_here; (with_reducible show wpAny _ _ (call (Value.ref 378) _) _ _ _); k_dflt (refine' read_c ?kB ?kF ?kX ?kN ?kT ?kK ?zkd ?zku ?zkhx ?zkhK ?zkhR ?_ ?_; (k_extra "kq"); (case zkd => k_extra "my room"); (case zku => k_extra "my room"); (case zkhx => k_extra "my side"); (case zkhK => k_extra "my side"); (case zkhR => assumption); ((try dsimp only); (k_extra "h11"); generalize p11_1 T9 = ps, p11_2 T9 = j, p11_3 T9 = r, p11_4 T9 = pa, p11_5 T9 = vs, p11_6 T9 = n1, p11_7 T9 = data, p11_8 T9 = k1, p11_9 T9 = k2, p11_10 T9 = h', p11_11 T9 = tk'; clear T9; (first | revert ps j r pa vs n1 data k1 k2 h' tk' | ((try revert tk'); (try revert h'); (try revert k2); (try revert k1); (try revert data); (try revert n1); (try revert vs); (try revert pa); (try revert r); (try revert j); (try revert ps))); intros; (try k_sweep); (try (k_extra "kf"))); rotate_left; ((try dsimp only); (k_extra "h8"); generalize p8_1 T9 = y, p8_2 T9 = n', p8_3 T9 = r, p8_4 T9 = k1, p8_5 T9 = k2, p8_6 T9 = k3, p8_7 T9 = h', p8_8 T9 = tk'; clear T9; (first | revert y n' r k1 k2 k3 h' tk' | ((try revert tk'); (try revert h'); (try revert k3); (try revert k2); (try revert k1); (try revert r); (try revert n'); (try revert y))); intros; (try k_sweep); (try (k_extra "kf"))); rotate_left)))
  trivial
@[irreducible] noncomputable def mSing (x : Str) (i : Int) (md : Str) : Option (Str × Int) :=
  WellFounded.fix (measure fun p : Int × Str => ((x.length : Int) - p.1).toNat).wf (C := fun _ => Option (Str × Int)) (fun p rec =>
    if h : p.1 < x.length then
      if (Txt.item x p.1 != Str.ofString "'") = true then
        if ([Str.ofString "\\\\", Str.ofString "\\'"].any fun y => y == Txt.slice x (some p.1) (some (p.1 + 2))) = true then rec (p.1 + 1 + 1, p.2 ++ Txt.item x (p.1 + 1)) (meas2 h) else rec (p.1 + 0 + 1, p.2 ++ Txt.item x (p.1 + 0)) (measz h)
      else some (p.2, p.1 + 1)
    else none) (i, md)
theorem mSing_eq (x : Str) (i : Int) (md : Str) : mSing x i md =
    if i < x.length then
      if (Txt.item x i != Str.ofString "'") = true then
        if ([Str.ofString "\\\\", Str.ofString "\\'"].any fun y => y == Txt.slice x (some i) (some (i + 2))) = true then mSing x (i + 1 + 1) (md ++ Txt.item x (i + 1)) else mSing x (i + 0 + 1) (md ++ Txt.item x (i + 0))
      else some (md, i + 1)
    else none := by
  delta mSing
  rw [WellFounded.fix_eq]
  simp only [dite_eq_ite]
theorem pair_in {x : Str} {i : Int} (h0 : 0 ≤ i) (h : ([Str.ofString "\\\\", Str.ofString "\\'"].any fun y => y == Txt.slice x (some i) (some (i + 2))) = true) : i + 1 < (x.length : Int) := by
  have e : (Txt.slice x (some i) (some (i + 2))).length = 2 := by
    simp only [List.any_cons, List.any_nil, Bool.or_false, Bool.or_eq_true, beq_iff_eq] at h
    rcases h with h | h <;> rw [← h] <;> decide
  rw [← L_len, slice_ss x h0 (nn_add h0 (by decide)), List.length_take, List.length_drop, L_len] at e
  exact pair_num h0 e
noncomputable def dTold (ds : List Dat) : Dat := .tuple (.str (Str.ofString "told") :: ds)
noncomputable def dRefused (y : Str) (n : Int) : Dat := .tuple [.str (Str.ofString "refused"), .str y, .int n]
noncomputable def dSing (n : Int) : Option (Str × Int) → Dat
  | some (y, j) => dTold [.str y, .int j]
  | none => dRefused whyE n
theorem ord1 {r : List (Addr × Obj)} {d : Addr} {o : Obj} (h : ∀ q ∈ r, q.1 < d) : ∀ q ∈ r, ∀ p ∈ [(d, o)], q.1 < p.1 := fun q hq p hp => by rw [List.mem_singleton.mp hp]; exact h q hq
theorem fillF6 {w : World} {h₀ : Heap} (h : PySem.Challenge.rw_pq0846_01.row.prog = PySem.Challenge.rw_pq0846_01.row.prog) (X : (hd.heap_39 w.params).In h₀) : (hd.heap_39 w.params).In h₀ := by
  revert h X; k_fill; intro h X; exact X
theorem lsing_c : ∀ {w : World} {mean mg mb} {dp un : Nat} {gd cn} {cs : Scope} {a ccd cl} {outer : List Env} {A₀ base h₀ L m} {s : Shared} {hp tk0 news} {Q E : Value → Shared → Prop} {x : Str} {tx tn : Tok} {n : Int} (B : Below A₀ base outer h₀) (F : Fr h₀ L hp m) (X : (hd.heap_39 w.params).In h₀) (N : News h₀ L hp news) (T : Top hd.view_39 (looseW hd.view_39 []) mean mg mb h₀) (hk : cs.kind = .function) (hdp : dp + 14 < recursionLimit) (hun : un + 112 < cLine) (hx : x.length ≤ 65536)
  (hret : ∀ v new h' tk', DatIn new v (dSing n (mSing x 1 (Str.ofString ""))) → (∀ q ∈ news, ∀ p ∈ new, q.1 < p.1) → Fr h₀ L h' m → News h₀ L h' (new ++ news) → Q v { s with heap := h', toks := tk' }),
  wpAny (model PySem.Challenge.rw_pq0846_01.row.prog w) (ktrTop dp un gd cn cs L a ccd cl outer) (call (.ref 385) [.str x tx, .int n tn]) Q E { s with heap := hp, toks := tk0 } := by
 k_with "w" =>
  (k_extra "cp")
  (k_extra "n4"); generalize p4_1 T9 = x, p4_2 T9 = tx, p4_3 T9 = tn, p4_4 T9 = n; clear T9
  intro B F X N T hk hdp hun hx hret
  refine wpAny_call ?_
  k_dflt (k_extra "my enter")
  repeat' (first | (k_extra "ka") | (k_extra "kb") | ((fail_if_success k_end); (k_extra "z7"); (k_extra "kc")))
  expose_names
  refine ksw_while (fun c : (Str × Tok) × (Int × Tok) => news) (fun c => [(Str.ofString "made", .str c.1.1 c.1.2), (Str.ofString "at", .int c.2.1 c.2.2)]) (fun _ => True) [Str.ofString "step"] (fun c => 1 ≤ c.2.1 ∧ c.1.1.length ≤ c.2.1 ∧ mSing x 1 (Str.ofString "") = mSing x c.2.1 c.1.1) (fun c => ((x.length : Int) - c.2.1).toNat) ((_, _), (1, _)) (by k_asm) (by (k_extra "wh drop")) trivial (by (k_extra "wh keep")) ⟨Int.le_refl _, by (try dsimp only); exact (by decide : (((Str.ofString "").length : Nat) : Int) ≤ 1), rfl⟩ ?_
  (try dsimp only); with_reducible refine (all_oxxcxx inferInstance ?_); generalize c4 _ _ = T9; generalize p4_1 T9 = md, p4_2 T9 = tmd, p4_3 T9 = j, p4_4 T9 = tj; clear T9; (k_extra "h3"); generalize p3_1 T9 = u', p3_2 T9 = h', p3_3 T9 = tk'; clear T9; intro _ I' F' N'; (try dsimp only at I' F' N' ⊢); obtain ⟨I2, I3, I4⟩ := I'
  rw [mSing_eq x j] at I4
  have hj0 : 0 ≤ j := by omega
  repeat' (first | (k_extra "ka") | (k_extra "kb") | ((fail_if_success k_end); (k_extra "sA"); (k_extra "kc")))
  · repeat' (first | (k_extra "ka") | (k_end; (k_extra "z0"); (k_extra "z1"); (k_extra "z2"); (k_extra "z3"); (fail_if_success (with_reducible show execs)); first | wrow_close | walk1 | (dsimp only; walk1) | (leave1; (try dsimp only))) | ((fail_if_success k_end); (fail_if_success (with_reducible show execs)); (k_extra "kc")))
    · have hj1 := pair_in hj0 (by assumption)
      repeat' (first | (k_extra "ka") | (k_extra "kb") | ((fail_if_success k_end); (k_extra "kc")))
      ((repeat (first | replace I4 := tp I4 (by k_extra "a") | replace I4 := tf I4 (by k_extra "a") | replace I4 := tn I4 (by k_extra "a") | replace I4 := sp I4 (by k_extra "a") | replace I4 := sf I4 (by k_extra "a") | replace I4 := sn I4 (by k_extra "a"))); (try simp only [*, if_true, if_false, Bool.false_eq_true, reduceCtorEq] at I4))
      refine ksw_end ((_, _), (_, _)) (by k_asm) (by k_asm) (by (k_extra "wh mem")) trivial (by (try dsimp only); (k_extra "wh keep")) (by (k_extra "wh same")) ?_ ?_
      · exact ⟨by dsimp only; omega, by dsimp only; rw [Str.length_append]; omega, I4⟩
      · dsimp only; omega
    · repeat' (first | (k_extra "ka") | (k_extra "kb") | ((fail_if_success k_end); (k_extra "kc")))
      ((repeat (first | replace I4 := tp I4 (by k_extra "a") | replace I4 := tf I4 (by k_extra "a") | replace I4 := tn I4 (by k_extra "a") | replace I4 := sp I4 (by k_extra "a") | replace I4 := sf I4 (by k_extra "a") | replace I4 := sn I4 (by k_extra "a"))); (try simp only [*, if_true, if_false, Bool.false_eq_true, reduceCtorEq] at I4))
      refine ksw_end ((_, _), (_, _)) (by k_asm) (by k_asm) (by (k_extra "wh mem")) trivial (by (try dsimp only); (k_extra "wh keep")) (by (k_extra "wh same")) ?_ ?_
      · exact ⟨by dsimp only; omega, by dsimp only; rw [Str.length_append]; omega, I4⟩
      · dsimp only; omega
  all_goals ((repeat (first | replace I4 := tp I4 (by k_extra "a") | replace I4 := tf I4 (by k_extra "a") | replace I4 := tn I4 (by k_extra "a") | replace I4 := sp I4 (by k_extra "a") | replace I4 := sf I4 (by k_extra "a") | replace I4 := sn I4 (by k_extra "a"))); (try simp only [*, if_true, if_false, Bool.false_eq_true, reduceCtorEq] at I4))
  all_goals (refine' hret _ [(_, _)] _ _  ?d (ord1 ?o) ?f ?n; (case n => ((show News _ _ _ (_ :: news)); (k_extra "wh drop1"))); (case f => k_asm); (case o => (k_extra "wh low")); (case d => (rw [I4]; exact DatIn.tuple List.mem_cons_self (DatAll.cons (DatIn.str _ _) (DatAll.cons (DatIn.str _ _) (DatAll.cons (DatIn.int _ _) (DatAll.nil)))))))
 k_extra "q"
theorem reg114 : True := by
  k_with ".call ref" => ((k_here; (with_reducible show wpAny _ _ (call (Value.ref 385) _) _ _ _); k_dflt (refine' lsing_c ?kB ?kF ?kX ?kN ?kT ?kK ?zkd ?zku ?zkhx ?_; (k_extra "kq"); (case zkd => k_extra "my room"); (case zku => k_extra "my room"); (case zkhx => k_extra "my side"); ((try dsimp only); (k_extra "h4"); generalize p4_1 T9 = v, p4_2 T9 = new, p4_3 T9 = h', p4_4 T9 = tk'; clear T9; (first | revert v new h' tk' | ((try revert tk'); (try revert h'); (try revert new); (try revert v))); intros; (try k_sweep); (try (k_extra "kf"))))))
  trivial
theorem wp_unfold {α : Type} {M : Model} {A : Around} {c : Sem α} {Q R : α → Shared → Prop} {E : Value → Shared → Prop} {s : Shared} (P : Post Q R) (h : wpAny M A c Q E s) : wpAny M A c R E s := wpAny_mono h P.go fun _ _ h => h
theorem frame_or {env : Env} {outer : List Env} {L b : Addr} (hf : env.frame = some L) (hm : b ∈ (env :: outer).filterMap (·.frame)) : b = L ∨ b ∈ outer.filterMap (·.frame) := by
  rw [List.filterMap_cons, hf] at hm
  exact List.mem_cons.mp hm
section
variable {prog : Program} {w : World} {A A₀ : Around} {s : Shared} {K : Frag} {L : Addr} {h₀ base : Heap} {m mg mb : Str → Option Value} {news : List (Addr × Obj)} {p : Program} {loose : List Str} {mean : ExcName → Option Value}
  {env : Env} {outer : List Env} {R : Result → Shared → Prop} {name qual : Str} {params : Arguments} {body : List Stmt} {scope : Scope} {dV kV doc pm cdv ct oc : Value} {an od : Option Addr} {osl : Array (Option Value)} {f : Addr} {pos : List Value}
theorem leave_turn (B : Below A₀ base outer h₀) (F : Fr h₀ L s.heap m) (N : News h₀ L s.heap news) (XB : K.In base) (TB : Top p loose mean mg mb base) (D : KtsDicts (outer.filterMap (·.frame)) h₀)
    (hA : A.frames = some (env :: outer)) (hf : env.frame = some L) (hke : env.scope.kind = .function) {v : Value} {s' : Shared}
    (hl : LeaveS ((env :: outer).filterMap (·.frame)) A₀ base outer K p loose mean mg mb h₀ h₀ L m (hideAll s.heap (news.map (·.1))) R v s') : R (.ok (.ret v)) s' := by
 k_with "w" =>
  revert A A₀ s K L h₀ base m mg mb news p loose mean env outer R B F N XB TB D hA hf hke v s' hl
  with_reducible refine no_implicit_lambda% (all1 ne_a ?_); generalize c1 _ _ = A
  with_reducible refine no_implicit_lambda% (all1 ne_a ?_); generalize c1 _ _ = A₀
  with_reducible refine no_implicit_lambda% (all1 ne_s ?_); generalize c1 _ _ = s
  (k_extra "n4"); generalize p4_1 T9 = K, p4_2 T9 = L, p4_3 T9 = h₀, p4_4 T9 = base; clear T9
  (k_extra "n7"); generalize p7_1 T9 = m, p7_2 T9 = mg, p7_3 T9 = mb, p7_4 T9 = news, p7_5 T9 = p, p7_6 T9 = loose, p7_7 T9 = mean; clear T9
  (k_extra "n3"); generalize p3_1 T9 = env, p3_2 T9 = outer, p3_3 T9 = R; clear T9
  intro B F N XB TB D hA hf hke
  (k_extra "n1"); generalize c1 _ _ = v
  with_reducible refine no_implicit_lambda% (all1 ne_s ?_); generalize c1 _ _ = s'
  intro hl
  obtain ⟨FG, BG, st, lv⟩ := groundX (R := R) B F N hA hf hke
  have nL₀ : h₀.get? L = none := kts_self F
  obtain ⟨oL, es, ep, hL, hLd, hLk, hLf⟩ := FG.ns
  rcases hl with ⟨L', m', news', F', N', k⟩ | ⟨g', L', m', news', T', F', N', k⟩
  · exact lv _ _ ⟨L', m', news', F', N', k⟩
  obtain ⟨sl, hs⟩ := T'.up hL
  have inTurn : ∀ b o, h₀.get? b = some o → b ∉ outer.filterMap (·.frame) → s'.heap.get? b = some o := fun b o e nm =>
    F'.keep b o (T'.other b o (st b o e) fun q => (frame_or hf q).elim (fun z => by rw [z, nL₀] at e; cases e) nm)
  obtain ⟨T₁, S₁⟩ := kts_turn_at (h := s'.heap) (fs := outer.filterMap (·.frame)) (g := h₀) (fun b hb => ⟨_, (B.frames.mem hb).2.choose_spec.1⟩) inTurn
    (fun b o e hm => by obtain ⟨sl', hs'⟩ := T'.up (st b o e); exact ⟨sl', F'.keep _ _ hs'⟩)
  have B₃ : Below A₀ base outer (ktsHeap s'.heap (outer.filterMap (·.frame)) h₀) :=
    ⟨B.stack, fun b o e => T₁.other b o (B.stays b o e) (fun hm => by rw [(B.frames.mem hm).1] at e; cases e), B.frames.of_keeps fun b o e _ => by obtain ⟨sl', hs'⟩ := T₁.up e; exact ⟨_, hs', rfl⟩⟩
  refine k _ T₁ ⟨⟨_, es, ep, F'.keep _ _ hs, hLd, hLk, hLf⟩, S₁, by rw [T₁.size]; exact F.above⟩ (fun p hp => ⟨(N' p hp).1, fun q => ?_, ?_⟩) B₃ (XB.keeps B₃.stays) (TB.keeps B₃.stays) (D.turn T₁)
  · have := (N' p hp).2.2
    rw [q, hs] at this; cases this
  · refine T₁.none_ _ ?_
    cases q : h₀.get? p.1 with
    | none => rfl
    | some o =>
      obtain ⟨sl', hs'⟩ := T'.up (st _ _ q)
      have := (N' p hp).2.2
      rw [hs'] at this; cases this
 k_extra "q"
theorem code_turn (B : Below A₀ base outer h₀) (F : Fr h₀ L s.heap m) (X₀ : K.In h₀) (N : News h₀ L s.heap news) (T : Top p loose mean mg mb h₀) (XB : K.In base) (TB : Top p loose mean mg mb base) (D : KtsDicts (outer.filterMap (·.frame)) h₀)
    (hA : A.frames = some (env :: outer)) (hf : env.frame = some L) (hke : env.scope.kind = .function)
    (ho : K.lookup f = some ⟨oc, od, .func (fnOf name qual params body scope dV kV doc pm an cdv ct), osl⟩) (hcd : codeIn K cdv qual = true) (hroom : A.depth < recursionLimit)
    (hbind : bindArgs (fnOf name qual params body scope dV kV doc pm an cdv ct) ⟨pos, []⟩ = pure ((params.args.map (·.arg)).zip pos)) (hloc : ∀ y ∈ (params.args.map (·.arg)).zip pos, scope.names.lookup y.1 = some .local)
    (hnd : (params.args.map (·.arg)).Nodup)
    (h : ∀ g L' h₁ tk, Fr h₀ L g m → Fr g L' h₁ (pmap (params.args.map (·.arg)) pos) → News g L' h₁ news → Below A base (env :: outer) g → K.In g → Top p loose mean mg mb g → KtsDicts ((env :: outer).filterMap (·.frame)) g → (∀ p ∈ news, p.1 < L') →
      wpAny (model prog w) (A.deeper (envOf qual scope L' f cdv)) (execs body (envOf qual scope L' f cdv))
        (fun fl s' => LeaveS ((env :: outer).filterMap (·.frame)) A₀ base outer K p loose mean mg mb h₀ h₀ L m g R (match fl with | .ret v => v | _ => .none) s')
        (fun e s' => wpAny (model prog w) (A.deeper (envOf qual scope L' f cdv)) (leaving (envOf qual scope L' f cdv) e) (fun _ s'' => R (.error e) s'') (fun e' s'' => R (.error e') s'') s')
        { s with heap := h₁, toks := tk })
    (hco : scope.isCoroutine = false) (hgen : scope.isGenerator = false) (hk : scope.kind = .function)
    (hcell : ∀ x ∈ scope.names, x.2 ≠ .cell) : codeAny (model prog w) A (.call (.ref f) ⟨pos, []⟩) R s := by
 k_with "w" =>
  obtain ⟨FG, BG, st, lv⟩ := groundX (R := R) B F N hA hf hke
  obtain ⟨oL, es, ep, hL, hLd, hLk, hLf⟩ := FG.ns
  have DG : KtsDicts ((env :: outer).filterMap (·.frame)) (hideAll s.heap (news.map (·.1))) := fun b hb => by
    rcases frame_or hf hb with rfl | hb
    · exact ⟨oL, es, ep, hL, hLd⟩
    · obtain ⟨o, es', n', ho', hd'⟩ := D b hb
      exact ⟨o, es', n', st b o ho', hd'⟩
  refine codeAny_call_def (fd := fnOf name qual params body scope dV kV doc pm an cdv ct) (body := body) (binds := (params.args.map (·.arg)).zip pos) hroom ((X₀.keeps F.keep) _ _ ho) rfl (T.nolimit.keeps F.keep) (codeRec_of (X₀.keeps F.keep) hcd) rfl (BindsTo.of_eq hbind) hcell hloc (fun h₁ hns hk₁ => ?_) hco hgen hk
  refine wpAny_mono (h _ s.heap.objs.size h₁ _ FG ⟨by rw [← pmap_rev _ _ hnd]; exact hns, fun b o e => hk₁ b o (of_hideAll _ e), Nat.le_of_eq (hideAll_size _ _)⟩
    (fun p hp => ⟨hk₁ _ _ (N p hp).1, Nat.ne_of_lt (Heap.lt_size (N p hp).1), hideAll_none _ (List.mem_map_of_mem hp)⟩) BG (X₀.keeps st) (T.keeps st) DG (fun p hp => Heap.lt_size (N p hp).1)) (fun fl s' hl => ?_) fun _ _ y => y
  exact leave_turn B F N XB TB D hA hf hke hl
 k_extra "q"
end
theorem reg115 : True := by
  k_with "my enterS" => (((( refine' code_turn ?zk1 ?zk2 ?zk3 ?zk4 ?zk5 ?zXB ?zTB ?zD ?zkA ?kF ?kK ?zk6 ?zk7 ?zk8 ?zk9 ?kB ?zkD ?_ ?zc2 ?zc3 ?zc4 ?zc5; (case zkA => exact rfl); (case kF => exact rfl); (case kK => first | exact rfl | assumption); (case zXB => assumption); (case zTB => assumption); (case zD => assumption); (case zk1 => k_asm); (case zk2 => k_asm); (case zk3 => k_asm); (case zk4 => k_asm); (case zk5 => k_asm); (case zk6 => k_is); (case zk7 => k_is); (case zk8 => first | exact room0 (by k_extra "a") | ktr_room); (case zk9 => exact rfl); (case zc5 => decide); (case kB => exact locs rfl); (case zkD => decide); (case zc2 => exact rfl); (case zc3 => exact rfl); (case zc4 => exact rfl); k_whole; (k_extra "h4"); generalize p4_1 T9 = g', p4_2 T9 = L', p4_3 T9 = h', p4_4 T9 = tk'; clear T9; intro FG' F' N' B' X' T' D' l1; (try dsimp only [List.map, pmap] at F'); (try dsimp only); (try (k_extra "kf")))); (first | revert g' L' h' tk' | ((try revert tk'); (try revert h'); (try revert L'); (try revert g'))); intros))
  trivial
theorem ga_63 (p : Params) : findIn (hd.heap_39 p) (.ref 63) (Str.ofString "__getattribute__") = some (some (.builtin "BaseException.__getattribute__")) := by kernel_rfl
theorem gt_63 (p : Params) : findIn (hd.heap_39 p) (.ref 63) (Str.ofString "__getattr__") = some none := by kernel_rfl
theorem pa_why (p : Params) : findIn (hd.heap_39 p) (.ref 63) (Str.ofString "why") = some none := by kernel_rfl
theorem pa_line (p : Params) : findIn (hd.heap_39 p) (.ref 63) (Str.ofString "line") = some none := by kernel_rfl
theorem ph_63 (p : Params) : hasDictIn (hd.heap_39 p) 63 = true := by kernel_rfl
section
variable {w : World} {A : Around} {E : Value → Shared → Prop} {s : Shared} {h₀ : Heap} {L e d : Addr} {m : Str → Option Value} {news : List (Addr × Obj)} {oe : Obj} {vs : Array Value} {y : Str} {n : Int} {ty tn k1 k2 : Tok} {expr : Bool} {Q : Value → Shared → Prop}
theorem pf_inst {h : Heap} {od : Obj} (he : h.get? e = some oe) (hc : oe.cls = .ref 63) (hd : oe.dict = some d) (hdat : oe.data = .fields vs) (hdd : h.get? d = some od) : PySem.W.InstAt h e oe 63 (some od) :=
  ⟨he, hc, by unfold notCls; rw [hdat], by rw [hd]; exact hdd⟩
theorem check_63 {M : Model} {nameV : Value} {Q : Unit → Shared → Prop} (hC : s.heap.get? 63 = some cls63) (hx : s.heap.get? e = some oe) (hc : oe.cls = .ref 63) (hq : Q () s) : wpAny M A (checkBuiltinCall "BaseException.__getattribute__" ⟨[.ref e, nameV], []⟩) Q E s := by
 k_with "w" =>
  have hk : builtinKind "BaseException.__getattribute__" = some .slot := by decide +kernel
  have hsplit : splitId "BaseException.__getattribute__" = some ("BaseException", "__getattribute__") := by decide +kernel
  have ha := F.args_bexc_ga (.ref e) nameV
  have hcB : (Value.ref 63 :: [Value.ref 31, .type "Exception", .type "BaseException", .type "object"]).contains (.type "BaseException") = true := by decide
  simp only [checkBuiltinCall, hk, hsplit]
  refine wpAny_bind ?_
  unfold isInstance
  repeat (first | (with_reducible refine wpAny_loadPart_at hx ?_; rw [hc]) | (with_reducible refine wpAny_isSubtype_exc hC ?_; rw [hcB]) | wp_step)
  exact hq
 k_extra "q"
theorem pf_attr {name : Str} {v : Value} {od : Obj} (X : (hd.heap_39 w.params).In s.heap) (I : PySem.W.InstAt s.heap e oe 63 (some od)) (hf : findObj (hd.heap_39 w.params) 63 (some od) name = some (.value v)) (hh : handedIn v = true)
    (h : Q v { s with toks := s.toks + 1 }) : wpAny (model PySem.Challenge.rw_pq0846_01.row.prog w) A (getAttr (.ref e) name expr) Q E s := by
 k_with "w" =>
  have hC : s.heap.get? 63 = some cls63 := X 63 _ (look63 _)
  have hx := I.at_
  have hc := I.cls
  obtain ⟨hp, g, dr, t, os⟩ := s
  have L0 := I.type (M := model PySem.Challenge.rw_pq0846_01.row.prog w)
  have L1 := looks_findIn (M := model PySem.Challenge.rw_pq0846_01.row.prog w) X (ga_63 w.params)
  have L2 := looks_findIn (M := model PySem.Challenge.rw_pq0846_01.row.prog w) X (gt_63 w.params)
  have L3 := looks_find (M := model PySem.Challenge.rw_pq0846_01.row.prog w) X I hf
  have hx0 : (expr && onTheHeap (Value.builtin "BaseException.__getattribute__")) = false := by cases expr <;> rfl
  unfold getAttr getAttrBy
  refine wpAny_bind (wpAny_mkText (wpAny_holding (wpAny_bind (L0.at (wpAny_bind (L1.at ?_))))))
  show wpAny _ _ (getAttrByItsOwn (.ref e) (.str name t) (.ref 63) (.builtin "BaseException.__getattribute__") true expr) _ _ _
  unfold getAttrByItsOwn hookBefore callGetattribute boundAndCalled
  refine wpAny_bind (show wpAny _ _ (typeLookup (.ref 63) (Str.ofString "__getattr__")) _ _ _ from L2.at ?_)
  rw [hx0]
  refine wpAny_bind (wpAny_attempt (wpAny_holding ?_))
  show wpAny _ _ (bindSpecial (.builtin "BaseException.__getattribute__") (.ref e) >>= _) _ _ _
  refine wpAny_bind (wpAny_of_eq (PySem.F.attr_Exception.ga.bind _) ?_)
  refine wpAny_call (codeAny_call_builtin PySem.F.attr_Exception.ga.plain F.entry_bexc_ga (check_63 hC hx hc ?_))
  refine wpAny_bind (wpAny_pure (wpAny_bind (wpAny_pure (wpAny_bind (L0.at (wpAny_bind (L3.at ?_)))))))
  refine wpAny_pure ?_
  show wpAny _ _ (handedOut v) _ _ _
  rw [handedOut_of hh]; exact wpAny_pure h
 k_extra "q"
theorem pf_why (F : Fr h₀ L s.heap m) (X : (hd.heap_39 w.params).In h₀) (N : News h₀ L s.heap news) (c1 : oe.cls = .ref 63) (c2 : oe.dict = some d) (c3 : oe.data = .fields vs) (m1 : (e, oe) ∈ news) (m2 : (d, pfDict w y ty n tn k1 k2) ∈ news)
    (h : Q (.str y ty) { s with toks := s.toks + 1 }) : wpAny (model PySem.Challenge.rw_pq0846_01.row.prog w) A (getAttr (.ref e) (Str.ofString "why") expr) Q E s :=
  pf_attr (X.keeps F.keep) (pf_inst (N _ m1).1 c1 c2 c3 (N _ m2).1) (findObj_own (attr := none) (ph_63 _) (pa_why _) rfl rfl) rfl h
theorem pf_line (F : Fr h₀ L s.heap m) (X : (hd.heap_39 w.params).In h₀) (N : News h₀ L s.heap news) (c1 : oe.cls = .ref 63) (c2 : oe.dict = some d) (c3 : oe.data = .fields vs) (m1 : (e, oe) ∈ news) (m2 : (d, pfDict w y ty n tn k1 k2) ∈ news)
    (h : Q (.int n tn) { s with toks := s.toks + 1 }) : wpAny (model PySem.Challenge.rw_pq0846_01.row.prog w) A (getAttr (.ref e) (Str.ofString "line") expr) Q E s :=
  pf_attr (X.keeps F.keep) (pf_inst (N _ m1).1 c1 c2 c3 (N _ m2).1) (findObj_own (attr := none) (ph_63 _) (pa_line _) rfl rfl) rfl h
end
theorem reg116 : True := by
  k_with ".getAttr ref" => ((k_here; (with_reducible show wpAny _ _ (getAttr (Value.ref _) (Str.ofString "why") _) _ _ _); k_dflt (refine' pf_why ?zF ?zX ?zN ?zc1 ?zc2 ?zc3 ?zm1 ?zm2 ?_; (case zF => k_asm); (case zX => k_asm); (case zN => k_asm); (case zc1 => with_reducible assumption); (case zc2 => with_reducible assumption); (case zc3 => with_reducible assumption); (case zm1 => k_mem); (case zm2 => k_mem))))
  k_with ".getAttr ref" => ((k_here; (with_reducible show wpAny _ _ (getAttr (Value.ref _) (Str.ofString "line") _) _ _ _); k_dflt (refine' pf_line ?zF ?zX ?zN ?zc1 ?zc2 ?zc3 ?zm1 ?zm2 ?_; (case zF => k_asm); (case zX => k_asm); (case zN => k_asm); (case zc1 => with_reducible assumption); (case zc2 => with_reducible assumption); (case zc3 => with_reducible assumption); (case zm1 => k_mem); (case zm2 => k_mem))))
  trivial
structure Turned (g : Heap) (fs : List Addr) (frs : List (Addr × Obj)) : Prop where
  adr : frs.map (·.1) = fs
  obj : ∀ p ∈ frs, ∃ o sl, g.get? p.1 = some o ∧ p.2 = { o with slots := sl }
section
variable {A₀ : Around} {base g g₂ h : Heap} {outer : List Env} {L : Addr} {m : Str → Option Value} {news nw : List (Addr × Obj)} {fs : List Addr} {frs : List (Addr × Obj)} {K : Frag} {p : Program} {loose : List Str} {mean : ExcName → Option Value} {mg mb : Str → Option Value}
theorem back_h (D : KtsDicts fs g) (T : KtsTurn fs g g₂) (F : Fr g₂ L h m) (N : News g₂ L h nw) :
    ∃ frs, Turned g fs frs ∧ Fr (hideAll g fs) L h m ∧ News (hideAll g fs) L h (frs ++ nw) ∧ (∀ p ∈ nw, p.1 ∉ fs) := by
 k_with "w" =>
  have hv : ∀ b ∈ fs, ∃ o sl, g.get? b = some o ∧ g₂.get? b = some { o with slots := sl } := fun b hb => by
    obtain ⟨o, es, n, ho, _⟩ := D b hb
    obtain ⟨sl, hs⟩ := T.frame b o ho hb
    exact ⟨o, sl, ho, hs⟩
  have nf : ∀ p ∈ nw, p.1 ∉ fs := fun p hp hb => by
    obtain ⟨o, sl, _, hs⟩ := hv _ hb
    have := (N p hp).2.2
    rw [hs] at this; cases this
  have hidden : ∀ b, g₂.get? b = none → (hideAll g fs).get? b = none := fun b e => by
    cases q : (hideAll g fs).get? b with
    | none => rfl
    | some o =>
      by_cases hb : b ∈ fs
      · rw [hideAll_none fs hb] at q; cases q
      · rw [T.other b o (of_hideAll fs q) hb] at e; cases e
  refine ⟨fs.map fun b => (b, (g₂.get? b).getD ⟨.none, none, .plain, #[]⟩), ⟨by simp [Function.comp_def], fun p hp => ?_⟩, ⟨F.ns, fun b o e => ?_, by rw [hideAll_size, ← T.size]; exact F.above⟩, fun p hp => ?_, nf⟩
  · obtain ⟨b, hb, rfl⟩ := List.mem_map.mp hp
    obtain ⟨o, sl, e, hs⟩ := hv b hb
    exact ⟨o, sl, e, by dsimp only; rw [hs]; rfl⟩
  · by_cases hb : b ∈ fs
    · rw [hideAll_none fs hb] at e; cases e
    · exact F.keep b o (T.other b o (of_hideAll fs e) hb)
  · rcases List.mem_append.mp hp with hp | hp
    · obtain ⟨b, hb, rfl⟩ := List.mem_map.mp hp
      obtain ⟨o, sl, e, hs⟩ := hv b hb
      refine ⟨?_, fun q => ?_, hideAll_none fs hb⟩
      · dsimp only; rw [hs]; exact F.keep _ _ hs
      · have hb' : g₂.get? b = none := by rw [show b = L from q]; exact kts_self F
        rw [hs] at hb'; cases hb'
    · exact ⟨(N p hp).1, (N p hp).2.1, hidden _ (N p hp).2.2⟩
 k_extra "q"
theorem via_h (B : Below A₀ base outer g) (XB : K.In base) (TB : Top p loose mean mg mb base) (D : KtsDicts (outer.filterMap (·.frame)) g) (Tu : Turned g (outer.filterMap (·.frame)) frs)
    (F : Fr (hideAll g (outer.filterMap (·.frame))) L h m) (N : News (hideAll g (outer.filterMap (·.frame))) L h (frs ++ nw)) (hn : ∀ p ∈ nw, p.1 ∉ outer.filterMap (·.frame)) :
    ∃ g', KtsTurn (outer.filterMap (·.frame)) g g' ∧ Below A₀ base outer g' ∧ K.In g' ∧ Top p loose mean mg mb g' ∧ KtsDicts (outer.filterMap (·.frame)) g' ∧ Fr g' L h m ∧ News g' L h nw := by
 k_with "w" =>
  obtain ⟨T₁, S₁⟩ := kts_turn_at (h := h) (fs := outer.filterMap (·.frame)) (g := g) (fun b hb => by obtain ⟨o, _, _, ho, _⟩ := D b hb; exact ⟨o, ho⟩)
    (fun b o e nm => F.keep b o (hideAll_get _ e nm))
    (fun b o e hm => by
      rw [← Tu.adr] at hm
      obtain ⟨q, hq, rfl⟩ := List.mem_map.mp hm
      obtain ⟨o', sl, e', hs⟩ := Tu.obj q hq
      rw [e] at e'; cases e'
      exact ⟨sl, by rw [← hs]; exact (N q (List.mem_append_left _ hq)).1⟩)
  have B₃ : Below A₀ base outer (ktsHeap h (outer.filterMap (·.frame)) g) :=
    ⟨B.stack, fun b o e => T₁.other b o (B.stays b o e) (fun hm => by rw [(B.frames.mem hm).1] at e; cases e), B.frames.of_keeps fun b o e _ => by obtain ⟨sl', hs'⟩ := T₁.up e; exact ⟨_, hs', rfl⟩⟩
  refine ⟨_, T₁, B₃, XB.keeps B₃.stays, TB.keeps B₃.stays, D.turn T₁, ⟨F.ns, S₁, ?_⟩, fun q hq => ⟨(N q (List.mem_append_right _ hq)).1, (N q (List.mem_append_right _ hq)).2.1, T₁.none_ _ ?_⟩⟩
  · rw [T₁.size, ← hideAll_size (outer.filterMap (·.frame)) g]; exact F.above
  · cases e : g.get? q.1 with
    | none => rfl
    | some o =>
      have := (N q (List.mem_append_right _ hq)).2.2
      rw [hideAll_get _ e (hn q hq)] at this; cases this
 k_extra "q"
theorem in_hide (B : Below A₀ base outer g) (XB : K.In base) : K.In (hideAll g (outer.filterMap (·.frame))) :=
  XB.keeps fun b o e => hideAll_get _ (B.stays b o e) fun hm => by rw [(B.frames.mem hm).1] at e; cases e
theorem top_hide (B : Below A₀ base outer g) (TB : Top p loose mean mg mb base) : Top p loose mean mg mb (hideAll g (outer.filterMap (·.frame))) :=
  TB.keeps fun b o e => hideAll_get _ (B.stays b o e) fun hm => by rw [(B.frames.mem hm).1] at e; cases e
theorem back_H {H : Heap} (hH : hideAll g fs = H) (D : KtsDicts fs g) (T : KtsTurn fs g g₂) (F : Fr g₂ L h m) (N : News g₂ L h nw) :
    ∃ frs, Turned g fs frs ∧ Fr H L h m ∧ News H L h (frs ++ nw) ∧ (∀ p ∈ nw, p.1 ∉ fs) := by
  subst hH; exact back_h D T F N
theorem via_H {H : Heap} (hH : hideAll g (outer.filterMap (·.frame)) = H) (B : Below A₀ base outer g) (XB : K.In base) (TB : Top p loose mean mg mb base) (D : KtsDicts (outer.filterMap (·.frame)) g) (Tu : Turned g (outer.filterMap (·.frame)) frs)
    (F : Fr H L h m) (N : News H L h (frs ++ nw)) (hn : ∀ p ∈ nw, p.1 ∉ outer.filterMap (·.frame)) :
    ∃ g', KtsTurn (outer.filterMap (·.frame)) g g' ∧ Below A₀ base outer g' ∧ K.In g' ∧ Top p loose mean mg mb g' ∧ KtsDicts (outer.filterMap (·.frame)) g' ∧ Fr g' L h m ∧ News g' L h nw := by
  subst hH; exact via_h B XB TB D Tu F N hn
theorem Turned.mem (Tu : Turned g fs frs) {b : Addr} (hb : b ∈ fs) : ∃ p ∈ frs, p.1 = b := by
  rw [← Tu.adr] at hb
  obtain ⟨p, hp, e⟩ := List.mem_map.mp hb
  exact ⟨p, hp, e⟩
theorem Turned.off (Tu : Turned g fs frs) {own r : List (Addr × Obj)} (h : OwnOff own (r.map (·.1))) (sub : ∀ p ∈ frs, p ∈ r) : ∀ p ∈ own, p.1 ∉ fs := by
  intro p hp hb
  obtain ⟨q, hq, e⟩ := Tu.mem hb
  exact h p hp _ (List.mem_map_of_mem (sub q hq)) e.symm
theorem Turned.above (Tu : Turned g fs frs) {r : List (Addr × Obj)} {l : Addr} (h : ∀ q ∈ r, q.1 < l) (sub : ∀ p ∈ frs, p ∈ r) : l ∉ fs := by
  intro hb
  obtain ⟨q, hq, e⟩ := Tu.mem hb
  exact Nat.ne_of_lt (h q (sub q hq)) e
theorem Turned.under (Tu : Turned g fs frs) {f' : List (Addr × Obj)} (Tf : Turned g fs f') {r : List (Addr × Obj)} {l : Addr} (h : ∀ q ∈ r, q.1 < l) (sub : ∀ p ∈ frs, p ∈ r) : ∀ p ∈ f', p.1 < l := by
  intro p hp
  obtain ⟨q, hq, e⟩ := Tu.mem (b := p.1) (by rw [← Tf.adr]; exact List.mem_map_of_mem hp)
  rw [← e]; exact h q (sub q hq)
end
theorem unr_end {h₀ : Heap} {L : Addr} {s₁ : Shared} {its : List (Addr × Obj)} {rest : (Str → Option Value) → List (Addr × Obj) → Prop} {h' : Heap} {tk : Nat} {m' : Str → Option Value} (news' : List (Addr × Obj)) (F : Fr h₀ L h' m') (N : News h₀ L h' (its ++ news')) (h : ∀ p ∈ news', ∀ q ∈ its, p.1 ≠ q.1) (r : rest m' news') :
    UnrEndW h₀ L s₁ its rest { s₁ with heap := h', toks := tk } := ⟨h', tk, m', news', rfl, F, N, h, r⟩
noncomputable def dSingle (n : Int) : Option (List Str × Int) → Dat
  | some (l, j) => dTold [.str (Txt.join (Str.ofString "") l), .int j]
  | none => dRefused whyE n
noncomputable def dEsc (n : Int) : Except Str (Str × Int) → Dat
  | .ok (y, j) => dTold [.str y, .int j]
  | .error y => dRefused y n
noncomputable def dEnd (n : Int) : Except Str (Int × Str × Int) → Dat
  | .ok (e, d, b) => dTold [.int e, .str d, .int b]
  | .error y => dRefused y n
noncomputable def dRaw (st : Int) : Except (Str × Int) (List Str) → Dat
  | .ok ms => dTold [.str (Txt.join (Str.ofString "") ms), .int st]
  | .error (y, n) => dRefused y n
noncomputable def dParts : Except (Str × Int) (List Part × Int) → Dat
  | .ok (ps, j) => dTold [.list (ps.map Part.dat), .int j]
  | .error (y, n) => dRefused y n
theorem fillF7 {w : World} {h₀ : Heap} (h : PySem.Challenge.rw_pq0846_01.row.prog = PySem.Challenge.rw_pq0846_01.row.prog) (X : (hd.heap_39 w.params).In h₀) : (hd.heap_39 w.params).In h₀ := by
  revert h X; k_fill; intro h X; exact X
theorem told_single_c : ∀ {w : World} {mean mg mb} {dp un : Nat} {gd cn} {cs : Scope} {a ccd cl} {outer : List Env} {A₀ base h₀ L m} {s : Shared} {hp tk0 news} {Q E : Value → Shared → Prop} {tso tx ti tq td tn : Tok} {x q d : Str} {i n : Int} {sv : Value} (B : Below A₀ base outer h₀) (F : Fr h₀ L hp m) (X : (hd.heap_39 w.params).In h₀) (N : News h₀ L hp news) (T : Top hd.view_39 (looseW hd.view_39 []) mean mg mb h₀) (hk : cs.kind = .function) (XB : (hd.heap_39 w.params).In base) (TB : Top hd.view_39 (looseW hd.view_39 []) mean mg mb base) (D : KtsDicts (outer.filterMap (·.frame)) h₀) (hdp : dp + 30 < recursionLimit) (hun : un + 240 < cLine) (hx : x.length ≤ 65536) (h0 : 0 ≤ i)
  (hret : ∀ v new g h' tk', DatIn new v (dSingle n (mSingle x (i + 1) [])) → (∀ q ∈ news, ∀ p ∈ new, q.1 < p.1) → KtsTurn (outer.filterMap (·.frame)) h₀ g → Below A₀ base outer g → (hd.heap_39 w.params).In g → Top hd.view_39 (looseW hd.view_39 []) mean mg mb g → KtsDicts (outer.filterMap (·.frame)) g → Fr g L h' m → News g L h' (new ++ news) → Q v { s with heap := h', toks := tk' }),
  wpAny (model PySem.Challenge.rw_pq0846_01.row.prog w) (ktrTop dp un gd cn cs L a ccd cl outer) (call (.ref 399) [.str "single" tso, .str x tx, .int i ti, sv, .str q tq, .str d td, .int n tn]) Q E { s with heap := hp, toks := tk0 } := by
 k_with "w" =>
  (k_extra "cp")
  (k_extra "n8"); generalize p8_1 T9 = tso, p8_2 T9 = tx, p8_3 T9 = ti, p8_4 T9 = tq, p8_5 T9 = td, p8_6 T9 = tn, p8_7 T9 = x, p8_8 T9 = q; clear T9
  (k_extra "n4"); generalize p4_1 T9 = d, p4_2 T9 = i, p4_3 T9 = n, p4_4 T9 = sv; clear T9
  intro B F X N T hk XB TB D hdp hun hx h0 hret
  refine wpAny_call ?_
  k_dflt (k_extra "my enterS")
  repeat' (first | (k_extra "ka") | (k_extra "kb") | ((fail_if_success k_end); (k_extra "kc")))
  · (refine' hret _ [(_, _)] _ _ _  ?d (ord1 ?o) ?t ?b ?x ?T ?D ?f ?n; (case f => k_asm); (case n => ((show News _ _ _ (_ :: news)); (k_extra "wh drop1"))); (case t => first | with_reducible assumption | exact KtsTurn.refl); (case b => with_reducible assumption); (case x => with_reducible assumption); (case T => with_reducible assumption); (case D => with_reducible assumption); (case o => (k_extra "wh low")); (case d => (rw [(by assumption : mSingle x (i + 1) [] = some (_, _))]; exact DatIn.tuple List.mem_cons_self (DatAll.cons (DatIn.str _ _) (DatAll.cons (DatIn.str _ _) (DatAll.cons (DatIn.int _ _) (DatAll.nil)))))))
  expose_names
  (try k_unfold)
  (try dsimp only)
  (try ((with_reducible refine wp_unfold (by k_extra "a") ?_); (try dsimp only)))
  k_dflt (refine caught_PF (by assumption) (by assumption) (by assumption) (by assumption) (by assumption) (by assumption) (by assumption) KtsTurn.refl ?ex ?q ?_)
  case ex => exact rfl
  case q => exact rfl
  (try dsimp only); (k_extra "h10"); generalize p10_1 T9 = h5, p10_2 T9 = g5, p10_3 T9 = oe, p10_4 T9 = vs5, p10_5 T9 = d5, p10_6 T9 = ty5, p10_7 T9 = tn5, p10_8 T9 = k5, p10_9 T9 = k6, p10_10 T9 = tk5; clear T9; intro T5 F5 N5 c5 c6 c7 B5 X5 P5 D5
  repeat' (first | (k_extra "ka") | (k_extra "kb") | ((fail_if_success k_end); (k_extra "kc")))
  (refine' hret _ [(_, _)] _ _ _  ?d (ord1 ?o) ?t ?b ?x ?T ?D ?f ?n; (case f => k_asm); (case n => ((show News _ _ _ (_ :: news)); (k_extra "wh drop1"))); (case t => first | with_reducible assumption | exact KtsTurn.refl); (case b => with_reducible assumption); (case x => with_reducible assumption); (case T => with_reducible assumption); (case D => with_reducible assumption); (case o => (k_extra "wh low")); (case d => (rw [(by assumption : mSingle x (i + 1) [] = none)]; exact DatIn.tuple List.mem_cons_self (DatAll.cons (DatIn.str _ _) (DatAll.cons (DatIn.str _ _) (DatAll.cons (DatIn.int _ _) (DatAll.nil)))))))
 k_extra "q"
theorem reg118 : True := by
  k_with ".call ref" => ((k_here; (with_reducible show wpAny _ _ (call (Value.ref 399) (Value.str (Str.ofString "single") _ :: _)) _ _ _); k_dflt (refine' told_single_c ?kB ?kF ?kX ?kN ?kT ?kK ?zkXB ?zkTB ?zkDD ?zkd ?zku ?zkhx ?zkh0 ?_; (k_extra "kq"); (case zkXB => assumption); (case zkTB => assumption); (case zkDD => assumption); (case zkd => k_extra "my room"); (case zku => k_extra "my room"); (case zkhx => k_extra "my side"); (case zkh0 => k_extra "my side"); ((try dsimp only); (k_extra "h5"); generalize p5_1 T9 = v, p5_2 T9 = new, p5_3 T9 = g, p5_4 T9 = h', p5_5 T9 = tk'; clear T9; (first | revert v new g h' tk' | ((try revert tk'); (try revert h'); (try revert g); (try revert new); (try revert v))); intros; (try k_sweep); (try (k_extra "kf"))))))
  trivial
theorem told_escape_c : ∀ {w : World} {mean mg mb} {dp un : Nat} {gd cn} {cs : Scope} {a ccd cl} {outer : List Env} {A₀ base h₀ L m} {s : Shared} {hp tk0 news} {Q E : Value → Shared → Prop} {tso tx ti tq td tn : Tok} {x q d : Str} {i n : Int} {sv : Value} (B : Below A₀ base outer h₀) (F : Fr h₀ L hp m) (X : (hd.heap_39 w.params).In h₀) (N : News h₀ L hp news) (T : Top hd.view_39 (looseW hd.view_39 []) mean mg mb h₀) (hk : cs.kind = .function) (XB : (hd.heap_39 w.params).In base) (TB : Top hd.view_39 (looseW hd.view_39 []) mean mg mb base) (D : KtsDicts (outer.filterMap (·.frame)) h₀) (hdp : dp + 40 < recursionLimit) (hun : un + 320 < cLine) (hx : x.length ≤ 65536) (h0 : 0 ≤ i)
  (hret : ∀ v new g h' tk', DatIn new v (dEsc n (mEscape x i q)) → (∀ q ∈ news, ∀ p ∈ new, q.1 < p.1) → KtsTurn (outer.filterMap (·.frame)) h₀ g → Below A₀ base outer g → (hd.heap_39 w.params).In g → Top hd.view_39 (looseW hd.view_39 []) mean mg mb g → KtsDicts (outer.filterMap (·.frame)) g → Fr g L h' m → News g L h' (new ++ news) → Q v { s with heap := h', toks := tk' }),
  wpAny (model PySem.Challenge.rw_pq0846_01.row.prog w) (ktrTop dp un gd cn cs L a ccd cl outer) (call (.ref 399) [.str "escape" tso, .str x tx, .int i ti, sv, .str q tq, .str d td, .int n tn]) Q E { s with heap := hp, toks := tk0 } := by
 k_with "w" =>
  (k_extra "cp")
  (k_extra "n8"); generalize p8_1 T9 = tso, p8_2 T9 = tx, p8_3 T9 = ti, p8_4 T9 = tq, p8_5 T9 = td, p8_6 T9 = tn, p8_7 T9 = x, p8_8 T9 = q; clear T9
  (k_extra "n4"); generalize p4_1 T9 = d, p4_2 T9 = i, p4_3 T9 = n, p4_4 T9 = sv; clear T9
  intro B F X N T hk XB TB D hdp hun hx h0 hret
  refine wpAny_call ?_
  k_dflt (k_extra "my enterS")
  repeat' (first | (k_extra "ka") | (k_extra "kb") | ((fail_if_success k_end); (k_extra "kc")))
  · (refine' hret _ [(_, _)] _ _ _  ?d (ord1 ?o) ?t ?b ?x ?T ?D ?f ?n; (case f => k_asm); (case n => ((show News _ _ _ (_ :: news)); (k_extra "wh drop1"))); (case t => first | with_reducible assumption | exact KtsTurn.refl); (case b => with_reducible assumption); (case x => with_reducible assumption); (case T => with_reducible assumption); (case D => with_reducible assumption); (case o => (k_extra "wh low")); (case d => (rw [(by assumption : mEscape x i q = Except.ok (_, _))]; exact DatIn.tuple List.mem_cons_self (DatAll.cons (DatIn.str _ _) (DatAll.cons (DatIn.str _ _) (DatAll.cons (DatIn.int _ _) (DatAll.nil)))))))
  expose_names
  (try k_unfold)
  (try dsimp only)
  (try ((with_reducible refine wp_unfold (by k_extra "a") ?_); (try dsimp only)))
  k_dflt (refine caught_PF (by assumption) (by assumption) (by assumption) (by assumption) (by assumption) (by assumption) (by assumption) KtsTurn.refl ?ex ?q ?_)
  case ex => exact rfl
  case q => exact rfl
  (try dsimp only); (k_extra "h10"); generalize p10_1 T9 = h5, p10_2 T9 = g5, p10_3 T9 = oe, p10_4 T9 = vs5, p10_5 T9 = d5, p10_6 T9 = ty5, p10_7 T9 = tn5, p10_8 T9 = k5, p10_9 T9 = k6, p10_10 T9 = tk5; clear T9; intro T5 F5 N5 c5 c6 c7 B5 X5 P5 D5
  repeat' (first | (k_extra "ka") | (k_extra "kb") | ((fail_if_success k_end); (k_extra "kc")))
  (refine' hret _ [(_, _)] _ _ _  ?d (ord1 ?o) ?t ?b ?x ?T ?D ?f ?n; (case f => k_asm); (case n => ((show News _ _ _ (_ :: news)); (k_extra "wh drop1"))); (case t => first | with_reducible assumption | exact KtsTurn.refl); (case b => with_reducible assumption); (case x => with_reducible assumption); (case T => with_reducible assumption); (case D => with_reducible assumption); (case o => (k_extra "wh low")); (case d => (rw [(by assumption : mEscape x i q = Except.error _)]; exact DatIn.tuple List.mem_cons_self (DatAll.cons (DatIn.str _ _) (DatAll.cons (DatIn.str _ _) (DatAll.cons (DatIn.int _ _) (DatAll.nil)))))))
 k_extra "q"
theorem reg119 : True := by
  k_with ".call ref" => ((k_here; (with_reducible show wpAny _ _ (call (Value.ref 399) (Value.str (Str.ofString "escape") _ :: _)) _ _ _); k_dflt (refine' told_escape_c ?kB ?kF ?kX ?kN ?kT ?kK ?zkXB ?zkTB ?zkDD ?zkd ?zku ?zkhx ?zkh0 ?_; (k_extra "kq"); (case zkXB => assumption); (case zkTB => assumption); (case zkDD => assumption); (case zkd => k_extra "my room"); (case zku => k_extra "my room"); (case zkhx => k_extra "my side"); (case zkh0 => k_extra "my side"); ((try dsimp only); (k_extra "h5"); generalize p5_1 T9 = v, p5_2 T9 = new, p5_3 T9 = g, p5_4 T9 = h', p5_5 T9 = tk'; clear T9; (first | revert v new g h' tk' | ((try revert tk'); (try revert h'); (try revert g); (try revert new); (try revert v))); intros; (try k_sweep); (try (k_extra "kf"))))))
  trivial
section
variable {w : World} {mean mg mb} {dp un : Nat} {gd cn} {cs : Scope} {a ccd cl} {outer : List Env} {A₀ base h₀ L m} {s : Shared} {hp tk0 news} {Q E : Value → Shared → Prop}
 (B : Below A₀ base outer h₀) (F : Fr h₀ L hp m) (X : (hd.heap_39 w.params).In h₀) (N : News h₀ L hp news) (T : Top hd.view_39 (looseW hd.view_39 []) mean mg mb h₀) (hk : cs.kind = .function) (XB : (hd.heap_39 w.params).In base) (TB : Top hd.view_39 (looseW hd.view_39 []) mean mg mb base) (D : KtsDicts (outer.filterMap (·.frame)) h₀)
include B F X N T hk XB TB D
theorem told_end_c {tso tx ti tq td tn : Tok} {x q d : Str} {i n : Int} {sv : Value} {R : Except Str (Int × Str × Int)} (K : Nat) (hdp : dp + 60 < recursionLimit) (hun : un + 480 < cLine) (hx : x.length ≤ 65536) (h0 : 0 ≤ i) (hR : mEnd x (Str.ofString "EOT") i K i = some R)
  (hret : ∀ v new g h' tk', DatIn new v (dEnd n R) → (∀ q ∈ news, ∀ p ∈ new, q.1 < p.1) → KtsTurn (outer.filterMap (·.frame)) h₀ g → Below A₀ base outer g → (hd.heap_39 w.params).In g → Top hd.view_39 (looseW hd.view_39 []) mean mg mb g → KtsDicts (outer.filterMap (·.frame)) g → Fr g L h' m → News g L h' (new ++ news) → Q v { s with heap := h', toks := tk' }) :
  wpAny (model PySem.Challenge.rw_pq0846_01.row.prog w) (ktrTop dp un gd cn cs L a ccd cl outer) (call (.ref 399) [.str "end" tso, .str x tx, .int i ti, sv, .str q tq, .str d td, .int n tn]) Q E { s with heap := hp, toks := tk0 } := by
 k_with "w" =>
  revert B F X N T hk XB TB D hdp hun hx h0 hR hret
  revert w mean mg mb dp un gd cn cs a ccd cl outer A₀ base h₀ L m s hp tk0 news Q E tso tx ti tq td tn x q d i n sv R K
  (k_extra "cp")
  (k_extra "n8"); generalize p8_1 T9 = tso, p8_2 T9 = tx, p8_3 T9 = ti, p8_4 T9 = tq, p8_5 T9 = td, p8_6 T9 = tn, p8_7 T9 = x, p8_8 T9 = q; clear T9
  (k_extra "n6"); generalize p6_1 T9 = d, p6_2 T9 = i, p6_3 T9 = n, p6_4 T9 = sv, p6_5 T9 = R, p6_6 T9 = K; clear T9
  intro B F X N T hk XB TB D hdp hun hx h0 hR hret
  refine wpAny_call ?_
  k_dflt (k_extra "my enterS")
  repeat' (first | (k_extra "ka") | (k_extra "kb") | ((fail_if_success k_end); (fail_if_success (with_reducible show wpAny _ _ (call (Value.ref 303) _) _ _ _)); (k_extra "kc")))
  refine end_c (by k_asm) (by k_asm) (by k_asm) (by k_asm) (by k_asm) (by first | exact rfl | assumption) K (by k_extra "my room") (by k_extra "my room") hx h0 (by decide) hR ?_ ?_
  ((try dsimp only); (k_extra "h9"); generalize p9_1 T9 = e, p9_2 T9 = d, p9_3 T9 = b, p9_4 T9 = r, p9_5 T9 = k1, p9_6 T9 = k2, p9_7 T9 = k3, p9_8 T9 = h', p9_9 T9 = tk'; clear T9; intros; (try k_sweep); (try (k_extra "kf"))); rotate_left; ((try dsimp only); (k_extra "h5"); generalize p5_1 T9 = y', p5_2 T9 = e, p5_3 T9 = g, p5_4 T9 = h', p5_5 T9 = tk'; clear T9; intros; (try k_sweep)); rotate_left
  all_goals repeat' (first | (k_extra "ka") | (k_extra "kb") | ((fail_if_success k_end); (k_extra "kc")))
  · (refine' hret _ [(_, _)] _ _ _  ?d (ord1 ?o) ?t ?b ?x ?T ?D ?f ?n; (case f => k_asm); (case n => ((show News _ _ _ (_ :: news)); (k_extra "wh drop1"))); (case t => first | with_reducible assumption | exact KtsTurn.refl); (case b => with_reducible assumption); (case x => with_reducible assumption); (case T => with_reducible assumption); (case D => with_reducible assumption); (case o => (k_extra "wh low")); (case d => (rw [(by assumption : R = Except.ok (_, _, _))]; exact DatIn.tuple List.mem_cons_self (DatAll.cons (DatIn.str _ _) (DatAll.cons (DatIn.int _ _) (DatAll.cons (DatIn.str _ _) (DatAll.cons (DatIn.int _ _) (DatAll.nil))))))))
  expose_names
  (try k_unfold)
  (try dsimp only)
  (try ((with_reducible refine wp_unfold (by k_extra "a") ?_); (try dsimp only)))
  k_dflt (refine caught_PF (by assumption) (by assumption) (by assumption) (by assumption) (by assumption) (by assumption) (by assumption) KtsTurn.refl ?ex ?q ?_)
  case ex => exact rfl
  case q => exact rfl
  (try dsimp only); (k_extra "h10"); generalize p10_1 T9 = h5, p10_2 T9 = g5, p10_3 T9 = oe, p10_4 T9 = vs5, p10_5 T9 = d5, p10_6 T9 = ty5, p10_7 T9 = tn5, p10_8 T9 = k5, p10_9 T9 = k6, p10_10 T9 = tk5; clear T9; intro T5 F5 N5 c5 c6 c7 B5 X5 P5 D5
  repeat' (first | (k_extra "ka") | (k_extra "kb") | ((fail_if_success k_end); (k_extra "kc")))
  (refine' hret _ [(_, _)] _ _ _  ?d (ord1 ?o) ?t ?b ?x ?T ?D ?f ?n; (case f => k_asm); (case n => ((show News _ _ _ (_ :: news)); (k_extra "wh drop1"))); (case t => first | with_reducible assumption | exact KtsTurn.refl); (case b => with_reducible assumption); (case x => with_reducible assumption); (case T => with_reducible assumption); (case D => with_reducible assumption); (case o => (k_extra "wh low")); (case d => (rw [(by assumption : R = Except.error _)]; exact DatIn.tuple List.mem_cons_self (DatAll.cons (DatIn.str _ _) (DatAll.cons (DatIn.str _ _) (DatAll.cons (DatIn.int _ _) (DatAll.nil)))))))
 k_extra "q"
end
theorem reg120 : True := by
  k_with ".call ref" => ((k_here; (with_reducible show wpAny _ _ (call (Value.ref 399) (Value.str (Str.ofString "end") _ :: _)) _ _ _); k_dflt (refine' told_end_c ?kB ?kF ?kX ?kN ?kT ?kK ?zkXB ?zkTB ?zkDD ?zkd ?zku ?zkhx ?zkh0 ?zkhR ?_; (k_extra "kq"); (case zkXB => assumption); (case zkTB => assumption); (case zkDD => assumption); (case zkd => k_extra "my room"); (case zku => k_extra "my room"); (case zkhx => k_extra "my side"); (case zkh0 => k_extra "my side"); (case zkhR => assumption); ((try dsimp only); (k_extra "h5"); generalize p5_1 T9 = v, p5_2 T9 = new, p5_3 T9 = g, p5_4 T9 = h', p5_5 T9 = tk'; clear T9; (first | revert v new g h' tk' | ((try revert tk'); (try revert h'); (try revert g); (try revert new); (try revert v))); intros; (try k_sweep); (try (k_extra "kf"))))))
  trivial
section
variable {w : World} {mean mg mb} {dp un : Nat} {gd cn} {cs : Scope} {a ccd cl} {outer : List Env} {A₀ base h₀ L m} {s : Shared} {hp tk0 news} {Q E : Value → Shared → Prop}
 (B : Below A₀ base outer h₀) (F : Fr h₀ L hp m) (X : (hd.heap_39 w.params).In h₀) (N : News h₀ L hp news) (T : Top hd.view_39 (looseW hd.view_39 []) mean mg mb h₀) (hk : cs.kind = .function) (XB : (hd.heap_39 w.params).In base) (TB : Top hd.view_39 (looseW hd.view_39 []) mean mg mb base) (D : KtsDicts (outer.filterMap (·.frame)) h₀)
include B F X N T hk XB TB D
theorem told_raw_c {tso tx ti ts tq td tn : Tok} {x q d : Str} {i st n : Int} {R : Except (Str × Int) (List Str)} (K : Nat) (hdp : dp + 60 < recursionLimit) (hun : un + 480 < cLine) (hx : x.length ≤ 65536) (h0 : 0 ≤ i) (hs : st ≤ x.length) (hs0 : 0 ≤ st) (hdl : d.length ≤ 8) (hK : K ≤ 8) (hR : mRaw x d st K i n [] = some R)
  (hret : ∀ v new g h' tk', DatIn new v (dRaw st R) → (∀ q ∈ news, ∀ p ∈ new, q.1 < p.1) → KtsTurn (outer.filterMap (·.frame)) h₀ g → Below A₀ base outer g → (hd.heap_39 w.params).In g → Top hd.view_39 (looseW hd.view_39 []) mean mg mb g → KtsDicts (outer.filterMap (·.frame)) g → Fr g L h' m → News g L h' (new ++ news) → Q v { s with heap := h', toks := tk' }) :
  wpAny (model PySem.Challenge.rw_pq0846_01.row.prog w) (ktrTop dp un gd cn cs L a ccd cl outer) (call (.ref 399) [.str "raw" tso, .str x tx, .int i ti, .int st ts, .str q tq, .str d td, .int n tn]) Q E { s with heap := hp, toks := tk0 } := by
 k_with "w" =>
  revert B F X N T hk XB TB D hdp hun hx h0 hs hs0 hdl hK hR hret
  revert w mean mg mb dp un gd cn cs a ccd cl outer A₀ base h₀ L m s hp tk0 news Q E tso tx ti ts tq td tn x q d i st n R K
  (k_extra "cp")
  (k_extra "n8"); generalize p8_1 T9 = tso, p8_2 T9 = tx, p8_3 T9 = ti, p8_4 T9 = ts, p8_5 T9 = tq, p8_6 T9 = td, p8_7 T9 = tn, p8_8 T9 = x; clear T9
  (k_extra "n7"); generalize p7_1 T9 = q, p7_2 T9 = d, p7_3 T9 = i, p7_4 T9 = st, p7_5 T9 = n, p7_6 T9 = R, p7_7 T9 = K; clear T9
  intro B F X N T hk XB TB D hdp hun hx h0 hs hs0 hdl hK hR hret
  refine wpAny_call ?_
  k_dflt (k_extra "my enterS")
  repeat' (first | (k_extra "ka") | (k_extra "kb") | ((fail_if_success k_end); (fail_if_success (with_reducible show wpAny _ _ (call (Value.ref 317) _) _ _ _)); (k_extra "kc")))
  refine raw_c (by k_asm) (by k_asm) (by k_asm) (by k_asm) (by k_asm) (by first | exact rfl | assumption) K (by k_extra "my room") (by k_extra "my room") hx h0 hs hs0 hdl hK hR ?_ ?_
  ((try dsimp only); (k_extra "h4"); generalize p4_1 T9 = ms, p4_2 T9 = t, p4_3 T9 = h', p4_4 T9 = tk'; clear T9; intros; (try k_sweep); (try (k_extra "kf"))); rotate_left; ((try dsimp only); (k_extra "h6"); generalize p6_1 T9 = y, p6_2 T9 = n', p6_3 T9 = e, p6_4 T9 = g, p6_5 T9 = h', p6_6 T9 = tk'; clear T9; intros; (try k_sweep)); rotate_left
  all_goals repeat' (first | (k_extra "ka") | (k_extra "kb") | ((fail_if_success k_end); (k_extra "kc")))
  · (refine' hret _ [(_, _)] _ _ _  ?d (ord1 ?o) ?t ?b ?x ?T ?D ?f ?n; (case f => k_asm); (case n => ((show News _ _ _ (_ :: news)); (k_extra "wh drop1"))); (case t => first | with_reducible assumption | exact KtsTurn.refl); (case b => with_reducible assumption); (case x => with_reducible assumption); (case T => with_reducible assumption); (case D => with_reducible assumption); (case o => (k_extra "wh low")); (case d => (rw [(by assumption : R = Except.ok _)]; exact DatIn.tuple List.mem_cons_self (DatAll.cons (DatIn.str _ _) (DatAll.cons (DatIn.str _ _) (DatAll.cons (DatIn.int _ _) (DatAll.nil)))))))
  expose_names
  (try k_unfold)
  (try dsimp only)
  (try ((with_reducible refine wp_unfold (by k_extra "a") ?_); (try dsimp only)))
  k_dflt (refine caught_PF (by assumption) (by assumption) (by assumption) (by assumption) (by assumption) (by assumption) (by assumption) KtsTurn.refl ?ex ?q ?_)
  case ex => exact rfl
  case q => exact rfl
  (try dsimp only); (k_extra "h10"); generalize p10_1 T9 = h5, p10_2 T9 = g5, p10_3 T9 = oe, p10_4 T9 = vs5, p10_5 T9 = d5, p10_6 T9 = ty5, p10_7 T9 = tn5, p10_8 T9 = k5, p10_9 T9 = k6, p10_10 T9 = tk5; clear T9; intro T5 F5 N5 c5 c6 c7 B5 X5 P5 D5
  repeat' (first | (k_extra "ka") | (k_extra "kb") | ((fail_if_success k_end); (k_extra "kc")))
  (refine' hret _ [(_, _)] _ _ _  ?d (ord1 ?o) ?t ?b ?x ?T ?D ?f ?n; (case f => k_asm); (case n => ((show News _ _ _ (_ :: news)); (k_extra "wh drop1"))); (case t => first | with_reducible assumption | exact KtsTurn.refl); (case b => with_reducible assumption); (case x => with_reducible assumption); (case T => with_reducible assumption); (case D => with_reducible assumption); (case o => (k_extra "wh low")); (case d => (rw [(by assumption : R = Except.error (_, _))]; exact DatIn.tuple List.mem_cons_self (DatAll.cons (DatIn.str _ _) (DatAll.cons (DatIn.str _ _) (DatAll.cons (DatIn.int _ _) (DatAll.nil)))))))
 k_extra "q"
end
theorem reg121 : True := by
  k_with ".call ref" => ((k_here; (with_reducible show wpAny _ _ (call (Value.ref 399) (Value.str (Str.ofString "raw") _ :: _)) _ _ _); k_dflt (refine' told_raw_c ?kB ?kF ?kX ?kN ?kT ?kK ?zkXB ?zkTB ?zkDD ?zkd ?zku ?zkhx ?zkh0 ?zkhs ?zkhs0 ?zkhdl ?zkhK ?zkhR ?_; (k_extra "kq"); (case zkXB => assumption); (case zkTB => assumption); (case zkDD => assumption); (case zkd => k_extra "my room"); (case zku => k_extra "my room"); (case zkhx => k_extra "my side"); (case zkh0 => k_extra "my side"); (case zkhs => k_extra "my side"); (case zkhs0 => k_extra "my side"); (case zkhdl => k_extra "my side"); (case zkhK => k_extra "my side"); (case zkhR => assumption); ((try dsimp only); (k_extra "h5"); generalize p5_1 T9 = v, p5_2 T9 = new, p5_3 T9 = g, p5_4 T9 = h', p5_5 T9 = tk'; clear T9; (first | revert v new g h' tk' | ((try revert tk'); (try revert h'); (try revert g); (try revert new); (try revert v))); intros; (try k_sweep); (try (k_extra "kf"))))))
  trivial
theorem flush_len (ps : List Part) (ms : List Str) : (flush ps ms).length ≤ ps.length + 1 := by unfold flush; split <;> simp
theorem mLoop_len (bf : Int → Option Bool) (fin : Int → Int) (x q d : Str) (st : Int) : ∀ (k : Nat) (i n : Int) (ps : List Part) (ms : List Str) (qs : List Part) (j : Int), mLoop bf fin x q d st k i n ps ms = some (.ok (qs, j)) → qs.length ≤ ps.length + 2 * k := by
 k_with "w" =>
  revert bf fin x q d st
  (k_extra "n6"); generalize p6_1 T9 = bf, p6_2 T9 = fin, p6_3 T9 = x, p6_4 T9 = q, p6_5 T9 = d, p6_6 T9 = st; clear T9
  intro k
  induction k with
  | zero => intro i n ps ms qs j h; rw [mLoop_zero] at h; cases h
  | succ k ih =>
    revert k
    (k_extra "n1"); generalize c1 _ _ = k
    intro ih
    (k_extra "n6"); generalize p6_1 T9 = i, p6_2 T9 = n, p6_3 T9 = ps, p6_4 T9 = ms, p6_5 T9 = qs, p6_6 T9 = j; clear T9
    intro h
    rw [mLoop_succ] at h
    split at h
    · cases h
    · cases h
      have := flush_len ps ms
      omega
    · split at h
      · have := ih _ _ _ _ _ _ h
        have := flush_len ps ms
        rw [List.length_append, List.length_singleton] at *
        omega
      · split at h
        · split at h
          · cases h
          · have := ih _ _ _ _ _ _ h; omega
        · split at h
          · split at h
            · cases h
            · have := ih _ _ _ _ _ _ h; omega
          · have := ih _ _ _ _ _ _ h; omega
 k_extra "q"
theorem parts_len {x q d : Str} {i st n : Int} {K : Nat} {ps : List Part} {j : Int} {bf : Int → Option Bool} {fin : Int → Int}
    (hR : (match (if (d != Str.ofString "") = true then mPass x d st d.length i else .ok i) with | .error y => some (.error (y, n)) | .ok i' => mLoop bf fin x q d st K i' n [] []) = some (.ok (ps, j))) : ps.length ≤ 2 * K := by
  split at hR
  · cases hR
  · have := mLoop_len _ _ _ _ _ _ _ _ _ _ _ _ _ hR; simpa using this
theorem strR {x q : Str} {i st n : Int} {K : Nat} {bf : Int → Option Bool} {fin : Int → Int} {o : Option (Except (Str × Int) (List Part × Int))} (h : mLoop bf fin x q (Str.ofString "") st K i n [] [] = o) :
    (match (if (Str.ofString "" != Str.ofString "") = true then mPass x (Str.ofString "") st (Str.ofString "").length i else .ok i) with | .error y => some (.error (y, n)) | .ok i' => mLoop bf fin x q (Str.ofString "") st K i' n [] []) = o := by
  rw [if_neg (by decide)]; exact h
theorem fillF8 {w : World} {h₀ : Heap} (h : PySem.Challenge.rw_pq0846_01.row.prog = PySem.Challenge.rw_pq0846_01.row.prog) (X : (hd.heap_39 w.params).In h₀) : (hd.heap_39 w.params).In h₀ := by
  revert h X; k_fill; intro h X; exact X
section
variable {w : World} {mean mg mb} {dp un : Nat} {gd cn} {cs : Scope} {a ccd cl} {outer : List Env} {A₀ base h₀ L m} {s : Shared} {hp tk0 news} {Q E : Value → Shared → Prop}
 (B : Below A₀ base outer h₀) (F : Fr h₀ L hp m) (X : (hd.heap_39 w.params).In h₀) (N : News h₀ L hp news) (T : Top hd.view_39 (looseW hd.view_39 []) mean mg mb h₀) (hk : cs.kind = .function) (XB : (hd.heap_39 w.params).In base) (TB : Top hd.view_39 (looseW hd.view_39 []) mean mg mb base) (D : KtsDicts (outer.filterMap (·.frame)) h₀)
include B F X N T hk XB TB D
theorem told_parts_c {tso tx ti tq td tn : Tok} {x q d : Str} {i st n : Int} {v : Value} {bf : Int → Option Bool} {fin : Int → Int} {R : Except (Str × Int) (List Part × Int)} (K : Nat) (hdp : dp + 80 < recursionLimit) (hun : un + 640 < cLine) (hx : x.length ≤ 65536) (h0 : 0 ≤ i) (hv : StopV x d st v bf fin) (hR : (match (if (d != Str.ofString "") = true then mPass x d st d.length i else .ok i) with | .error y => some (.error (y, n)) | .ok i' => mLoop bf fin x q d st K i' n [] []) = some R) (hdl : d.length ≤ 8) (hdol : ∀ j, 0 ≤ j → j < (x.length : Int) → (Txt.item x j == Str.ofString "$") = true → (mSignAt x (j + 1) == Str.ofString "{") = false ∧ mStart (mSignAt x (j + 1)) = false) (hK : K ≤ 65536)
  (hret : ∀ v new g h' tk', DatIn new v (dParts R) → KtsTurn (outer.filterMap (·.frame)) h₀ g → Below A₀ base outer g → (hd.heap_39 w.params).In g → Top hd.view_39 (looseW hd.view_39 []) mean mg mb g → KtsDicts (outer.filterMap (·.frame)) g → Fr g L h' m → News g L h' (new ++ news) → Q v { s with heap := h', toks := tk' }) :
  wpAny (model PySem.Challenge.rw_pq0846_01.row.prog w) (ktrTop dp un gd cn cs L a ccd cl outer) (call (.ref 399) [.str "parts" tso, .str x tx, .int i ti, v, .str q tq, .str d td, .int n tn]) Q E { s with heap := hp, toks := tk0 } := by
 k_with "w" =>
  revert B F X N T hk XB TB D hdp hun hx h0 hv hR hdl hdol hK hret
  revert w mean mg mb dp un gd cn cs a ccd cl outer A₀ base h₀ L m s hp tk0 news Q E tso tx ti tq td tn x q d i st n v bf fin R K
  (k_extra "cp")
  (k_extra "n8"); generalize p8_1 T9 = tso, p8_2 T9 = tx, p8_3 T9 = ti, p8_4 T9 = tq, p8_5 T9 = td, p8_6 T9 = tn, p8_7 T9 = x, p8_8 T9 = q; clear T9
  (k_extra "n8"); generalize p8_1 T9 = d, p8_2 T9 = i, p8_3 T9 = st, p8_4 T9 = n, p8_5 T9 = v, p8_6 T9 = bf, p8_7 T9 = fin, p8_8 T9 = R; clear T9
  (k_extra "n1"); (try generalize c1 _ _ = K)
  intro B F X N T hk XB TB D hdp hun hx h0 hv hR hdl hdol hK hret
  refine wpAny_call ?_
  k_dflt (k_extra "my enterS")
  repeat' (first | (k_extra "ka") | (k_extra "kb") | ((fail_if_success k_end); (fail_if_success (with_reducible show wpAny _ _ (call (Value.ref 282) _) _ _ _)); (k_extra "kc")))
  refine parts_c (by k_asm) (by k_asm) (by k_asm) (by k_asm) (by k_asm) (by first | exact rfl | assumption) K (by k_extra "my room") (by k_extra "my room") hx h0 hv hR hdl hdol hK ?_ ?_
  ((try dsimp only); (k_extra "h9"); generalize p9_1 T9 = ps, p9_2 T9 = j, p9_3 T9 = r, p9_4 T9 = t, p9_5 T9 = vs, p9_6 T9 = data, p9_7 T9 = k1, p9_8 T9 = h', p9_9 T9 = tk'; clear T9; intros; (try k_sweep); (try (k_extra "kf"))); rotate_left; ((try dsimp only); (k_extra "h6"); generalize p6_1 T9 = y, p6_2 T9 = n', p6_3 T9 = e, p6_4 T9 = g, p6_5 T9 = h', p6_6 T9 = tk'; clear T9; intros; (try k_sweep)); rotate_left
  · repeat' (first | (k_extra "ka") | (k_extra "kb") | ((fail_if_success k_end); (fail_if_success (with_reducible show wpAny _ _ (call (Value.type _) _) _ _ _)); (k_extra "kc")))
    (with_reducible rename DatAll _ _ _ => hD)
    (with_reducible rename R = Except.ok _ => hRe)
    have hvl := hD.length
    rw [List.length_map] at hvl
    have hpl := parts_len (hR.trans (congrArg some hRe))
    (try simp only [List.length_nil, Nat.zero_add] at hpl)
    expose_names
    refine kup_listOfT (by k_asm) (by k_asm) (List.mem_cons_of_mem _ List.mem_cons_self) rfl ?_ (by rw [sizeLine_eq]; show (List.toArray _).toList.length ≤ _; rw [List.toList_toArray]; omega)
    (k_extra "h3"); generalize p3_1 T9 = D8, p3_2 T9 = c8, p3_3 T9 = h8; clear T9; intro F8 N8 l8
    repeat' (first | (k_extra "ka") | (k_extra "kb") | ((fail_if_success k_end); (k_extra "kc")))
    (refine' hret _ ((_, tupObj [_, _, _]) :: (_, W.listOf _ _) :: data) _ _ _ ?d ?t ?b ?x ?T ?D ?f ?n; (case f => k_asm); (case n => ((show News _ _ _ (_ :: _ :: (data ++ news))); (k_extra "wh drop"))); (case t => first | with_reducible assumption | exact KtsTurn.refl); (case b => with_reducible assumption); (case x => with_reducible assumption); (case T => with_reducible assumption); (case D => with_reducible assumption); (case d => (rw [hRe]; exact DatIn.tuple List.mem_cons_self (DatAll.cons (DatIn.str _ _) (DatAll.cons (DatIn.list (List.mem_cons_of_mem _ List.mem_cons_self) (DatAll.mono (fun p hp => List.mem_cons_of_mem _ (List.mem_cons_of_mem _ hp)) hD)) (DatAll.cons (DatIn.int _ _) .nil))))))
  repeat' (first | (k_extra "ka") | (k_extra "kb") | ((fail_if_success k_end); (k_extra "kc")))
  expose_names
  (try k_unfold)
  (try dsimp only)
  (try ((with_reducible refine wp_unfold (by k_extra "a") ?_); (try dsimp only)))
  k_dflt (refine caught_PF (by assumption) (by assumption) (by assumption) (by assumption) (by assumption) (by assumption) (by assumption) KtsTurn.refl ?ex ?q ?_)
  case ex => exact rfl
  case q => exact rfl
  (try dsimp only); (k_extra "h10"); generalize p10_1 T9 = h5, p10_2 T9 = g5, p10_3 T9 = oe, p10_4 T9 = vs5, p10_5 T9 = d5, p10_6 T9 = ty5, p10_7 T9 = tn5, p10_8 T9 = k5, p10_9 T9 = k6, p10_10 T9 = tk5; clear T9; intro T5 F5 N5 c5 c6 c7 B5 X5 P5 D5
  repeat' (first | (k_extra "ka") | (k_extra "kb") | ((fail_if_success k_end); (k_extra "kc")))
  (refine' hret _ [(_, _)] _ _ _  ?d ?t ?b ?x ?T ?D ?f ?n; (case f => k_asm); (case n => ((show News _ _ _ (_ :: news)); (k_extra "wh drop1"))); (case t => first | with_reducible assumption | exact KtsTurn.refl); (case b => with_reducible assumption); (case x => with_reducible assumption); (case T => with_reducible assumption); (case D => with_reducible assumption); (case d => (rw [(by assumption : R = Except.error (_, _))]; exact DatIn.tuple List.mem_cons_self (DatAll.cons (DatIn.str _ _) (DatAll.cons (DatIn.str _ _) (DatAll.cons (DatIn.int _ _) (DatAll.nil)))))))
 k_extra "q"
end
theorem reg122 : True := by
  k_with ".call ref" => ((k_here; (with_reducible show wpAny _ _ (call (Value.ref 399) (Value.str (Str.ofString "parts") _ :: _)) _ _ _); k_dflt (refine' told_parts_c ?kB ?kF ?kX ?kN ?kT ?kK ?zkXB ?zkTB ?zkDD ?zkd ?zku ?zkhx ?zkh0 ?zkhv ?zkhR ?zkhdl ?zkhdol ?zkhK ?_; (k_extra "kq"); (case zkXB => assumption); (case zkTB => assumption); (case zkDD => assumption); (case zkd => k_extra "my room"); (case zku => k_extra "my room"); (case zkhx => k_extra "my side"); (case zkh0 => k_extra "my side"); (case zkhv => assumption); (case zkhR => assumption); (case zkhdl => k_extra "my side"); (case zkhdol => k_extra "my side"); (case zkhK => k_extra "my side"); ((try dsimp only); (k_extra "h5"); generalize p5_1 T9 = v, p5_2 T9 = new, p5_3 T9 = g, p5_4 T9 = h', p5_5 T9 = tk'; clear T9; (first | revert v new g h' tk' | ((try revert tk'); (try revert h'); (try revert g); (try revert new); (try revert v))); intros; (try k_sweep); (try (k_extra "kf"))))))
  trivial
noncomputable def dLEsc (n : Int) (p : Str × Int) : Dat := if p.2 < 0 then dRefused p.1 n else dTold [.str p.1, .int p.2]
theorem fillF9 {w : World} {h₀ : Heap} (h : PySem.Challenge.rw_pq0846_01.row.prog = PySem.Challenge.rw_pq0846_01.row.prog) (X : (hd.heap_39 w.params).In h₀) : (hd.heap_39 w.params).In h₀ := by
  revert h X; k_fill; intro h X; exact X
theorem escright_c : ∀ {w : World} {mean mg mb} {dp un : Nat} {gd cn} {cs : Scope} {a ccd cl} {outer : List Env} {A₀ base h₀ L m} {s : Shared} {hp tk0 news} {Q E : Value → Shared → Prop} {x : Str} {tx tn : Tok} {n : Int} (B : Below A₀ base outer h₀) (F : Fr h₀ L hp m) (X : (hd.heap_39 w.params).In h₀) (N : News h₀ L hp news) (T : Top hd.view_39 (looseW hd.view_39 []) mean mg mb h₀) (hk : cs.kind = .function) (XB : (hd.heap_39 w.params).In base) (TB : Top hd.view_39 (looseW hd.view_39 []) mean mg mb base) (D : KtsDicts (outer.filterMap (·.frame)) h₀) (hdp : dp + 60 < recursionLimit) (hun : un + 480 < cLine) (hx : x.length ≤ 65536) (hE : ∀ j q, 0 ≤ j → j < (x.length : Int) → (Txt.item x j == Str.ofString "\\") = true → q = Str.ofString "\"" ∨ q = Str.ofString "" → dEsc n (mEscape x j q) = dLEsc n (mLEsc x j q) ∧ Flat 2 (dLEsc n (mLEsc x j q)))
  (hret : ∀ g h' tk', KtsTurn (outer.filterMap (·.frame)) h₀ g → Below A₀ base outer g → (hd.heap_39 w.params).In g → Top hd.view_39 (looseW hd.view_39 []) mean mg mb g → KtsDicts (outer.filterMap (·.frame)) g → Fr g L h' m → News g L h' (news) → Q (.bool true) { s with heap := h', toks := tk' }),
  wpAny (model PySem.Challenge.rw_pq0846_01.row.prog w) (ktrTop dp un gd cn cs L a ccd cl outer) (call (.ref 406) [.str x tx, .int n tn]) Q E { s with heap := hp, toks := tk0 } := by
 k_with "w" =>
  (k_extra "cp")
  (k_extra "n4"); generalize p4_1 T9 = x, p4_2 T9 = tx, p4_3 T9 = tn, p4_4 T9 = n; clear T9
  intro B F X N T hk XB TB D hdp hun hx hE hret
  refine wpAny_call ?_
  k_dflt (k_extra "my enterS")
  expose_names
  have XH := in_hide B' XB
  have TH := top_hide B' TB
  refine exE (back_h D' KtsTurn.refl F' N') ?_; (k_extra "h1"); (try generalize c1 _ _ = frs); intro hE9; obtain ⟨Tu, FH, NH, hn⟩ := hE9
  generalize hH : hideAll g' _ = H at XH TH FH NH
  clear F' N' X' T'
  repeat' (first | (k_extra "ka") | (k_extra "kb") | ((fail_if_success k_end); (k_extra "sP"); (k_extra "kc")))
  refine kst_range (n := x.length) (fun r : List (Addr × Obj) => r ++ news) (fun _ => []) (fun r => Turned g' ((envX cn cs L a ccd cl :: outer).filterMap (·.frame)) r) [Str.ofString "quote", Str.ofString "signs", Str.ofString "behind", Str.ofString "due"] (fun _ _ => True) frs (by rfl) (by assumption) (small_one (by omega) (by omega) (by omega) (by omega)) (rangeSize_nat _ _) (by k_asm) (by k_asm) Tu (by (k_extra "wh keep")) trivial ?_ ?_
  · skip
    (try dsimp only); (k_extra "h8"); generalize p8_1 T9 = frs1, p8_2 T9 = pre', p8_3 T9 = j, p8_4 T9 = t', p8_5 T9 = u', p8_6 T9 = h', p8_7 T9 = tk', p8_8 T9 = own; clear T9; intro e1 e2 hoff Tu1 _ F' N'
    (try dsimp only [envOf] at F' N'); (try dsimp only at F' N' ⊢)
    rw [List.append_assoc] at N'
    have hj0 : 0 ≤ j := by omega
    have hj1 : j < (x.length : Int) := by omega
    have hown := Tu.off hoff (fun p hp => List.mem_append_left _ hp)
    repeat' (first | (k_extra "ka") | (k_extra "kb") | ((fail_if_success k_end); (k_extra "sF"); (k_extra "kc")))
    refine For_turns F' ?_
    repeat' (first | (k_extra "ka") | (k_extra "kb") | ((fail_if_success k_end); (k_extra "sP"); (k_extra "kc")))
    all_goals expose_names
    · have hlf := Tu1.above (by k_extra "a") (fun p hp => List.mem_append_left _ hp)
      refine iter_listTurns rfl (by k_asm) (by k_asm) List.mem_cons_self rfl rfl ?_
      (k_extra "h1"); (try generalize c1 _ _ = I); intro hI
      have hnl : ∀ (o lo' : Obj), ∀ p ∈ (I, o) :: (l', lo') :: (news ++ own), p.1 ∉ ((envX cn cs L a ccd cl :: outer).filterMap (·.frame)) := fun o lo' => (fmc (Tu1.above hI (by (k_extra "wh mem"))) ((fmc (hlf) ((fma (hn) (hown))))))
      generalize hlo : W.listOf #[_, _] 0 = lo at *
      have hIlt : ∀ f', Turned g' ((envX cn cs L a ccd cl :: outer).filterMap (·.frame)) f' → ∀ p ∈ (l', lo) :: (f' ++ (news ++ own)), p.1 < I := fun f' Tf => (fmc (hI _ List.mem_cons_self) ((fma (Tu1.under Tf hI (by (k_extra "wh mem"))) (fun p hp => hI p (List.mem_cons_of_mem _ (List.mem_append_right _ hp))))))
      refine ItemsRest.val ?_
      (first | ((try dsimp only); (k_extra "h2"); generalize p2_1 T9 = h1, p2_2 T9 = tk1; clear T9; intro FI1) | intro h1 tk1 FI1)
      refine AllObj.cons ?_; (k_extra "h1"); (try generalize c1 _ _ = o1); intro ho1; refine AllObj.nil ?_; intro NI1
      have NJ1 := cb_drop (news := frs1 ++ ((I, o1) :: (l', lo) :: (news ++ own))) NI1 (by (k_extra "wh mem"))
      clear NI1
      repeat' (first | (k_extra "ka") | (k_extra "kb") | ((fail_if_success k_end); (k_extra "z13"); (k_extra "kc")))
      refine exE (via_H (nw := (I, o1) :: (l', lo) :: (news ++ own)) hH B' XB TB D' Tu1 (by k_asm) (by k_asm) (hnl _ _)) ?_; (k_extra "h1"); (try generalize c1 _ _ = g1a); intro hE9; obtain ⟨T1a, B1a, X1a, P1a, D1a, FV1a, NV1a⟩ := hE9
      repeat' (first | (k_extra "ka") | (k_extra "kb") | ((fail_if_success k_end); (k_extra "z5"); (k_extra "kc")))
      · (with_reducible rename DatIn _ _ (dEsc _ _) => hD1)
        (with_reducible rename mLEsc _ _ _ = _ => hm1)
        (with_reducible rename KtsTurn _ g1a _ => hT1)
        expose_names
        have he1 := hE j (Str.ofString "\"") hj0 hj1 (by k_extra "a") (.inl rfl)
        refine dat_ne (n₂ := [(_, tupObj [_, _, _])]) (by k_asm) hD1 (by (k_extra "wh mem")) (b := Value.ref _) (?db1) (by (k_extra "wh mem")) he1.1 (by rw [he1.1]; exact he1.2) (by decide) (by dsimp only [Around.deeper, ktrTop]; omega) ?_
        case db1 => rw [hm1]; unfold dLEsc; rw [if_pos (by assumption)]; exact DatIn.tuple List.mem_cons_self (DatAll.cons (DatIn.str _ _) (DatAll.cons (DatIn.str _ _) (DatAll.cons (DatIn.int _ _) (DatAll.nil))))
        repeat' (first | (k_extra "ka") | (k_end; (k_extra "z0"); (k_extra "z1"); (k_extra "z2"); (k_extra "z3"); (k_extra "z4"); first | wrow_close | walk1 | (dsimp only; walk1) | (leave1; (try dsimp only))) | ((fail_if_success k_end); (k_extra "z4"); (k_extra "kc")))
        refine exE (back_H hH D' (T1a.trans hT1) (by k_asm) (cb_drop (news := (I, o1) :: (l', lo) :: (news ++ own)) (by k_asm) (by (k_extra "wh mem")))) ?_; (k_extra "h1"); (try generalize c1 _ _ = frs1b); intro hE9; obtain ⟨Tu1b, F1b, N1b, hn1b⟩ := hE9
        refine unr_end ((l', lo) :: (frs1b ++ (news ++ own))) F1b (cb_drop N1b (by (k_extra "wh mem"))) (fun p hp q hq => by rw [List.mem_singleton.mp hq]; exact Nat.ne_of_lt (hIlt _ Tu1b p hp)) ⟨And.intro List.mem_cons_self trivial, ?_⟩
        clear F1b N1b
        refine ItemsRest.val ?_
        (first | ((try dsimp only); (k_extra "h2"); generalize p2_1 T9 = h2, p2_2 T9 = tk2; clear T9; intro FI2) | intro h2 tk2 FI2)
        refine AllObj.cons ?_; (k_extra "h1"); (try generalize c1 _ _ = o2); intro ho2; refine AllObj.nil ?_; intro NI2
        have NJ2 := cb_drop (news := frs1b ++ ((I, o2) :: (l', lo) :: (news ++ own))) NI2 (by (k_extra "wh mem"))
        clear NI2
        repeat' (first | (k_extra "ka") | (k_extra "kb") | ((fail_if_success k_end); (k_extra "z13"); (k_extra "kc")))
        refine exE (via_H (nw := (I, o2) :: (l', lo) :: (news ++ own)) hH B' XB TB D' Tu1b (by k_asm) (by k_asm) (hnl _ _)) ?_; (k_extra "h1"); (try generalize c1 _ _ = g2a); intro hE9; obtain ⟨T2a, B2a, X2a, P2a, D2a, FV2a, NV2a⟩ := hE9
        repeat' (first | (k_extra "ka") | (k_extra "kb") | ((fail_if_success k_end); (k_extra "z5"); (k_extra "kc")))
        · (with_reducible rename DatIn _ _ (dEsc _ _) => hD2)
          (with_reducible rename mLEsc _ _ _ = _ => hm2)
          (with_reducible rename KtsTurn _ g2a _ => hT2)
          expose_names
          have he2 := hE j (Str.ofString "") hj0 hj1 (by k_extra "a") (.inr rfl)
          refine dat_ne (n₂ := [(_, tupObj [_, _, _])]) (by k_asm) hD2 (by (k_extra "wh mem")) (b := Value.ref _) (?db2) (by (k_extra "wh mem")) he2.1 (by rw [he2.1]; exact he2.2) (by decide) (by dsimp only [Around.deeper, ktrTop]; omega) ?_
          case db2 => rw [hm2]; unfold dLEsc; rw [if_pos (by assumption)]; exact DatIn.tuple List.mem_cons_self (DatAll.cons (DatIn.str _ _) (DatAll.cons (DatIn.str _ _) (DatAll.cons (DatIn.int _ _) (DatAll.nil))))
          repeat' (first | (k_extra "ka") | (k_end; (k_extra "z0"); (k_extra "z1"); (k_extra "z2"); (k_extra "z3"); (k_extra "z4"); first | wrow_close | walk1 | (dsimp only; walk1) | (leave1; (try dsimp only))) | ((fail_if_success k_end); (k_extra "z4"); (k_extra "kc")))
          refine exE (back_H hH D' (T2a.trans hT2) (by k_asm) (cb_drop (news := (I, o2) :: (l', lo) :: (news ++ own)) (by k_asm) (by (k_extra "wh mem")))) ?_; (k_extra "h1"); (try generalize c1 _ _ = frs2b); intro hE9; obtain ⟨Tu2b, F2b, N2b, hn2b⟩ := hE9
          refine unr_end ((l', lo) :: (frs2b ++ (news ++ own))) F2b (cb_drop N2b (by (k_extra "wh mem"))) (fun p hp q hq => by rw [List.mem_singleton.mp hq]; exact Nat.ne_of_lt (hIlt _ Tu2b p hp)) ⟨And.intro List.mem_cons_self trivial, ?_⟩
          clear F2b N2b
          refine ItemsRest.zero ?_
          (first | ((try dsimp only); (k_extra "h2"); generalize p2_1 T9 = h8, p2_2 T9 = tk8; clear T9; intro F8 N8) | intro h8 tk8 F8 N8)
          repeat' (first | (k_extra "ka") | (k_extra "kb") | ((fail_if_success k_end); (k_extra "kc")))
          refine kst_end frs2b (by k_asm) (by k_asm) (by (k_extra "wh mem")) (by (k_extra "wh mem")) (by rw [List.map_append, List.map_append, Tu2b.adr, Tu.adr]) Tu2b (by (k_extra "wh keep")) (by (try dsimp only); (k_extra "wh same3")) trivial
        · (with_reducible rename DatIn _ _ (dEsc _ _) => hD2)
          (with_reducible rename mLEsc _ _ _ = _ => hm2)
          (with_reducible rename KtsTurn _ g2a _ => hT2)
          expose_names
          have he2 := hE j (Str.ofString "") hj0 hj1 (by k_extra "a") (.inr rfl)
          refine dat_ne (n₂ := [(_, tupObj [_, _, _])]) (by k_asm) hD2 (by (k_extra "wh mem")) (b := Value.ref _) (?db2) (by (k_extra "wh mem")) he2.1 (by rw [he2.1]; exact he2.2) (by decide) (by dsimp only [Around.deeper, ktrTop]; omega) ?_
          case db2 => rw [hm2]; unfold dLEsc; rw [if_neg (by assumption)]; exact DatIn.tuple List.mem_cons_self (DatAll.cons (DatIn.str _ _) (DatAll.cons (DatIn.str _ _) (DatAll.cons (DatIn.int _ _) (DatAll.nil))))
          repeat' (first | (k_extra "ka") | (k_end; (k_extra "z0"); (k_extra "z1"); (k_extra "z2"); (k_extra "z3"); (k_extra "z4"); first | wrow_close | walk1 | (dsimp only; walk1) | (leave1; (try dsimp only))) | ((fail_if_success k_end); (k_extra "z4"); (k_extra "kc")))
          refine exE (back_H hH D' (T2a.trans hT2) (by k_asm) (cb_drop (news := (I, o2) :: (l', lo) :: (news ++ own)) (by k_asm) (by (k_extra "wh mem")))) ?_; (k_extra "h1"); (try generalize c1 _ _ = frs2b); intro hE9; obtain ⟨Tu2b, F2b, N2b, hn2b⟩ := hE9
          refine unr_end ((l', lo) :: (frs2b ++ (news ++ own))) F2b (cb_drop N2b (by (k_extra "wh mem"))) (fun p hp q hq => by rw [List.mem_singleton.mp hq]; exact Nat.ne_of_lt (hIlt _ Tu2b p hp)) ⟨And.intro List.mem_cons_self trivial, ?_⟩
          clear F2b N2b
          refine ItemsRest.zero ?_
          (first | ((try dsimp only); (k_extra "h2"); generalize p2_1 T9 = h8, p2_2 T9 = tk8; clear T9; intro F8 N8) | intro h8 tk8 F8 N8)
          repeat' (first | (k_extra "ka") | (k_extra "kb") | ((fail_if_success k_end); (k_extra "kc")))
          refine kst_end frs2b (by k_asm) (by k_asm) (by (k_extra "wh mem")) (by (k_extra "wh mem")) (by rw [List.map_append, List.map_append, Tu2b.adr, Tu.adr]) Tu2b (by (k_extra "wh keep")) (by (try dsimp only); (k_extra "wh same3")) trivial
      · (with_reducible rename DatIn _ _ (dEsc _ _) => hD1)
        (with_reducible rename mLEsc _ _ _ = _ => hm1)
        (with_reducible rename KtsTurn _ g1a _ => hT1)
        expose_names
        have he1 := hE j (Str.ofString "\"") hj0 hj1 (by k_extra "a") (.inl rfl)
        refine dat_ne (n₂ := [(_, tupObj [_, _, _])]) (by k_asm) hD1 (by (k_extra "wh mem")) (b := Value.ref _) (?db1) (by (k_extra "wh mem")) he1.1 (by rw [he1.1]; exact he1.2) (by decide) (by dsimp only [Around.deeper, ktrTop]; omega) ?_
        case db1 => rw [hm1]; unfold dLEsc; rw [if_neg (by assumption)]; exact DatIn.tuple List.mem_cons_self (DatAll.cons (DatIn.str _ _) (DatAll.cons (DatIn.str _ _) (DatAll.cons (DatIn.int _ _) (DatAll.nil))))
        repeat' (first | (k_extra "ka") | (k_end; (k_extra "z0"); (k_extra "z1"); (k_extra "z2"); (k_extra "z3"); (k_extra "z4"); first | wrow_close | walk1 | (dsimp only; walk1) | (leave1; (try dsimp only))) | ((fail_if_success k_end); (k_extra "z4"); (k_extra "kc")))
        refine exE (back_H hH D' (T1a.trans hT1) (by k_asm) (cb_drop (news := (I, o1) :: (l', lo) :: (news ++ own)) (by k_asm) (by (k_extra "wh mem")))) ?_; (k_extra "h1"); (try generalize c1 _ _ = frs1b); intro hE9; obtain ⟨Tu1b, F1b, N1b, hn1b⟩ := hE9
        refine unr_end ((l', lo) :: (frs1b ++ (news ++ own))) F1b (cb_drop N1b (by (k_extra "wh mem"))) (fun p hp q hq => by rw [List.mem_singleton.mp hq]; exact Nat.ne_of_lt (hIlt _ Tu1b p hp)) ⟨And.intro List.mem_cons_self trivial, ?_⟩
        clear F1b N1b
        refine ItemsRest.val ?_
        (first | ((try dsimp only); (k_extra "h2"); generalize p2_1 T9 = h2, p2_2 T9 = tk2; clear T9; intro FI2) | intro h2 tk2 FI2)
        refine AllObj.cons ?_; (k_extra "h1"); (try generalize c1 _ _ = o2); intro ho2; refine AllObj.nil ?_; intro NI2
        have NJ2 := cb_drop (news := frs1b ++ ((I, o2) :: (l', lo) :: (news ++ own))) NI2 (by (k_extra "wh mem"))
        clear NI2
        repeat' (first | (k_extra "ka") | (k_extra "kb") | ((fail_if_success k_end); (k_extra "z13"); (k_extra "kc")))
        refine exE (via_H (nw := (I, o2) :: (l', lo) :: (news ++ own)) hH B' XB TB D' Tu1b (by k_asm) (by k_asm) (hnl _ _)) ?_; (k_extra "h1"); (try generalize c1 _ _ = g2a); intro hE9; obtain ⟨T2a, B2a, X2a, P2a, D2a, FV2a, NV2a⟩ := hE9
        repeat' (first | (k_extra "ka") | (k_extra "kb") | ((fail_if_success k_end); (k_extra "z5"); (k_extra "kc")))
        · (with_reducible rename DatIn _ _ (dEsc _ _) => hD2)
          (with_reducible rename mLEsc _ _ _ = _ => hm2)
          (with_reducible rename KtsTurn _ g2a _ => hT2)
          expose_names
          have he2 := hE j (Str.ofString "") hj0 hj1 (by k_extra "a") (.inr rfl)
          refine dat_ne (n₂ := [(_, tupObj [_, _, _])]) (by k_asm) hD2 (by (k_extra "wh mem")) (b := Value.ref _) (?db2) (by (k_extra "wh mem")) he2.1 (by rw [he2.1]; exact he2.2) (by decide) (by dsimp only [Around.deeper, ktrTop]; omega) ?_
          case db2 => rw [hm2]; unfold dLEsc; rw [if_pos (by assumption)]; exact DatIn.tuple List.mem_cons_self (DatAll.cons (DatIn.str _ _) (DatAll.cons (DatIn.str _ _) (DatAll.cons (DatIn.int _ _) (DatAll.nil))))
          repeat' (first | (k_extra "ka") | (k_end; (k_extra "z0"); (k_extra "z1"); (k_extra "z2"); (k_extra "z3"); (k_extra "z4"); first | wrow_close | walk1 | (dsimp only; walk1) | (leave1; (try dsimp only))) | ((fail_if_success k_end); (k_extra "z4"); (k_extra "kc")))
          refine exE (back_H hH D' (T2a.trans hT2) (by k_asm) (cb_drop (news := (I, o2) :: (l', lo) :: (news ++ own)) (by k_asm) (by (k_extra "wh mem")))) ?_; (k_extra "h1"); (try generalize c1 _ _ = frs2b); intro hE9; obtain ⟨Tu2b, F2b, N2b, hn2b⟩ := hE9
          refine unr_end ((l', lo) :: (frs2b ++ (news ++ own))) F2b (cb_drop N2b (by (k_extra "wh mem"))) (fun p hp q hq => by rw [List.mem_singleton.mp hq]; exact Nat.ne_of_lt (hIlt _ Tu2b p hp)) ⟨And.intro List.mem_cons_self trivial, ?_⟩
          clear F2b N2b
          refine ItemsRest.zero ?_
          (first | ((try dsimp only); (k_extra "h2"); generalize p2_1 T9 = h8, p2_2 T9 = tk8; clear T9; intro F8 N8) | intro h8 tk8 F8 N8)
          repeat' (first | (k_extra "ka") | (k_extra "kb") | ((fail_if_success k_end); (k_extra "kc")))
          refine kst_end frs2b (by k_asm) (by k_asm) (by (k_extra "wh mem")) (by (k_extra "wh mem")) (by rw [List.map_append, List.map_append, Tu2b.adr, Tu.adr]) Tu2b (by (k_extra "wh keep")) (by (try dsimp only); (k_extra "wh same3")) trivial
        · (with_reducible rename DatIn _ _ (dEsc _ _) => hD2)
          (with_reducible rename mLEsc _ _ _ = _ => hm2)
          (with_reducible rename KtsTurn _ g2a _ => hT2)
          expose_names
          have he2 := hE j (Str.ofString "") hj0 hj1 (by k_extra "a") (.inr rfl)
          refine dat_ne (n₂ := [(_, tupObj [_, _, _])]) (by k_asm) hD2 (by (k_extra "wh mem")) (b := Value.ref _) (?db2) (by (k_extra "wh mem")) he2.1 (by rw [he2.1]; exact he2.2) (by decide) (by dsimp only [Around.deeper, ktrTop]; omega) ?_
          case db2 => rw [hm2]; unfold dLEsc; rw [if_neg (by assumption)]; exact DatIn.tuple List.mem_cons_self (DatAll.cons (DatIn.str _ _) (DatAll.cons (DatIn.str _ _) (DatAll.cons (DatIn.int _ _) (DatAll.nil))))
          repeat' (first | (k_extra "ka") | (k_end; (k_extra "z0"); (k_extra "z1"); (k_extra "z2"); (k_extra "z3"); (k_extra "z4"); first | wrow_close | walk1 | (dsimp only; walk1) | (leave1; (try dsimp only))) | ((fail_if_success k_end); (k_extra "z4"); (k_extra "kc")))
          refine exE (back_H hH D' (T2a.trans hT2) (by k_asm) (cb_drop (news := (I, o2) :: (l', lo) :: (news ++ own)) (by k_asm) (by (k_extra "wh mem")))) ?_; (k_extra "h1"); (try generalize c1 _ _ = frs2b); intro hE9; obtain ⟨Tu2b, F2b, N2b, hn2b⟩ := hE9
          refine unr_end ((l', lo) :: (frs2b ++ (news ++ own))) F2b (cb_drop N2b (by (k_extra "wh mem"))) (fun p hp q hq => by rw [List.mem_singleton.mp hq]; exact Nat.ne_of_lt (hIlt _ Tu2b p hp)) ⟨And.intro List.mem_cons_self trivial, ?_⟩
          clear F2b N2b
          refine ItemsRest.zero ?_
          (first | ((try dsimp only); (k_extra "h2"); generalize p2_1 T9 = h8, p2_2 T9 = tk8; clear T9; intro F8 N8) | intro h8 tk8 F8 N8)
          repeat' (first | (k_extra "ka") | (k_extra "kb") | ((fail_if_success k_end); (k_extra "kc")))
          refine kst_end frs2b (by k_asm) (by k_asm) (by (k_extra "wh mem")) (by (k_extra "wh mem")) (by rw [List.map_append, List.map_append, Tu2b.adr, Tu.adr]) Tu2b (by (k_extra "wh keep")) (by (try dsimp only); (k_extra "wh same3")) trivial

    · refine iter_listTurns rfl (by k_asm) (by k_asm) List.mem_cons_self rfl rfl ?_
      (k_extra "h1"); (try generalize c1 _ _ = I); intro hI
      refine ItemsRest.zero ?_
      (first | ((try dsimp only); (k_extra "h2"); generalize p2_1 T9 = h8, p2_2 T9 = tk8; clear T9; intro F8 N8) | intro h8 tk8 F8 N8)
      repeat' (first | (k_extra "ka") | (k_extra "kb") | ((fail_if_success k_end); (k_extra "kc")))
      refine kst_end frs1 (by k_asm) (by k_asm) (by (k_extra "wh mem")) (by (k_extra "wh mem")) (by rw [List.map_append, List.map_append, Tu1.adr, Tu.adr]) Tu1 (by (k_extra "wh keep")) (by (try dsimp only); (k_extra "wh same3")) trivial
  · skip
    (try dsimp only); (k_extra "h4"); generalize p4_1 T9 = frs1, p4_2 T9 = u', p4_3 T9 = h', p4_4 T9 = tk'; clear T9; intro Tu1 _ F' N'
    (try dsimp only [envOf] at F' N'); (try dsimp only at F' N' ⊢)
    refine exE (via_H (nw := _) hH B' XB TB D' Tu1 F' N' hn) ?_; (k_extra "h1"); (try generalize c1 _ _ = g5); intro hE9; obtain ⟨T5, B5, X5, P5, D5, FV5, NV5⟩ := hE9
    clear F' N' XH TH
    repeat' (first | (k_extra "ka") | (k_extra "kb") | ((fail_if_success k_end); (k_extra "kc")))
    exact hret _ _ _ (by k_extra "a") (by k_extra "a") (by k_extra "a") (by k_extra "a") (by k_extra "a") (by k_asm) (by k_asm)
 k_extra "q"
theorem reg123 : True := by
  k_with ".call ref" => ((k_here; (with_reducible show wpAny _ _ (call (Value.ref 406) _) _ _ _); k_dflt (refine' escright_c ?kB ?kF ?kX ?kN ?kT ?kK ?zkXB ?zkTB ?zkDD ?zkd ?zku ?zkhx ?zkhE ?_; (k_extra "kq"); (case zkXB => assumption); (case zkTB => assumption); (case zkDD => assumption); (case zkd => k_extra "my room"); (case zku => k_extra "my room"); (case zkhx => k_extra "my side"); (case zkhE => k_extra "my side"); ((try dsimp only); (k_extra "h3"); generalize p3_1 T9 = g, p3_2 T9 = h', p3_3 T9 = tk'; clear T9; (first | revert g h' tk' | ((try revert tk'); (try revert h'); (try revert g))); intros; (try k_sweep); (try (k_extra "kf"))))))
  trivial
noncomputable def PartsOK (x : Str) (n : Int) : Prop := ∃ R K₁ K₂, mLoop (bfS x (Str.ofString "\"")) (fun i => i + 1) x (Str.ofString "\"") (Str.ofString "") 0 K₁ 0 n [] [] = some R ∧ mRead x (Str.ofString "\"") n K₂ 0 [] = some R ∧ K₁ ≤ 65536 ∧ K₂ ≤ 65536 ∧ Flat 4 (dParts R) ∧
  (∀ j, 0 ≤ j → j < (x.length : Int) → (Txt.item x j == Str.ofString "$") = true → (mSignAt x (j + 1) == Str.ofString "{") = false ∧ mStart (mSignAt x (j + 1)) = false)
noncomputable def SingOK (x : Str) (n : Int) : Prop := dSingle n (mSingle x (0 + 1) []) = dSing n (mSing x 1 (Str.ofString "")) ∧ Flat 2 (dSing n (mSing x 1 (Str.ofString "")))
theorem fillF10 {w : World} {h₀ : Heap} (h : PySem.Challenge.rw_pq0846_01.row.prog = PySem.Challenge.rw_pq0846_01.row.prog) (X : (hd.heap_39 w.params).In h₀) : (hd.heap_39 w.params).In h₀ := by
  revert h X; k_fill; intro h X; exact X
section
variable {w : World} {mean mg mb} {dp un : Nat} {gd cn} {cs : Scope} {a ccd cl} {outer : List Env} {A₀ base h₀ L m} {s : Shared} {hp tk0 news} {Q E : Value → Shared → Prop}
 (B : Below A₀ base outer h₀) (F : Fr h₀ L hp m) (X : (hd.heap_39 w.params).In h₀) (N : News h₀ L hp news) (T : Top hd.view_39 (looseW hd.view_39 []) mean mg mb h₀) (hk : cs.kind = .function)
include B F X N T hk
theorem read_d {x q : Str} {tx tq tn : Tok} {n : Int} {R : Except (Str × Int) (List Part × Int)} (K : Nat) (hdp : dp + 30 < recursionLimit) (hun : un + 240 < cLine) (hx : x.length ≤ 65536) (hK : K ≤ 65536) (hR : mRead x q n K 0 [] = some R)
  (hret : ∀ v new h' tk', DatIn new v (dParts R) → (∀ q ∈ news, ∀ p ∈ new, q.1 < p.1) → Fr h₀ L h' m → News h₀ L h' (new ++ news) → Q v { s with heap := h', toks := tk' }) :
  wpAny (model PySem.Challenge.rw_pq0846_01.row.prog w) (ktrTop dp un gd cn cs L a ccd cl outer) (call (.ref 378) [.str x tx, .str q tq, .int n tn]) Q E { s with heap := hp, toks := tk0 } := by
 k_with "w" =>
  refine read_c B F X N T hk K hdp hun hx hK hR ?_ ?_
  · (try dsimp only); (k_extra "h11"); generalize p11_1 T9 = ps, p11_2 T9 = j, p11_3 T9 = r, p11_4 T9 = pa, p11_5 T9 = vs, p11_6 T9 = n1, p11_7 T9 = data, p11_8 T9 = k1, p11_9 T9 = k2, p11_10 T9 = h', p11_11 T9 = tk'; clear T9; intro e hA F' N' o1 o2 o3
    refine hret _ ((r, tupObj [.str "told" k1, .ref pa, .int j k2]) :: (pa, W.listOf vs.toArray n1) :: data) _ _ ?_ ?_ F' N'
    · rw [e]
      exact DatIn.tuple List.mem_cons_self (DatAll.cons (DatIn.str _ _) (DatAll.cons (DatIn.list (List.mem_cons_of_mem _ List.mem_cons_self) (DatAll.mono (fun p hp => List.mem_cons_of_mem _ (List.mem_cons_of_mem _ hp)) hA)) (DatAll.cons (DatIn.int _ _) .nil)))
    · exact fun q hq => (fmc ((o1 q hq).2.1) ((fmc ((o1 q hq).1) ((o1 q hq).2.2))))
  · (try dsimp only); (k_extra "h8"); generalize p8_1 T9 = y, p8_2 T9 = n', p8_3 T9 = r, p8_4 T9 = k1, p8_5 T9 = k2, p8_6 T9 = k3, p8_7 T9 = h', p8_8 T9 = tk'; clear T9; intro e F' N' o
    refine hret _ [(r, tupObj [.str "refused" k1, .str y k2, .int n' k3])] _ _ ?_ (ord1 o) F' N'
    rw [e]
    exact DatIn.tuple List.mem_cons_self (DatAll.cons (DatIn.str _ _) (DatAll.cons (DatIn.str _ _) (DatAll.cons (DatIn.int _ _) .nil)))
 k_extra "q"
end
theorem quotright_c : ∀ {w : World} {mean mg mb} {dp un : Nat} {gd cn} {cs : Scope} {a ccd cl} {outer : List Env} {A₀ base h₀ L m} {s : Shared} {hp tk0 news} {Q E : Value → Shared → Prop} {x : Str} {tx tn : Tok} {n : Int} (B : Below A₀ base outer h₀) (F : Fr h₀ L hp m) (X : (hd.heap_39 w.params).In h₀) (N : News h₀ L hp news) (T : Top hd.view_39 (looseW hd.view_39 []) mean mg mb h₀) (hk : cs.kind = .function) (XB : (hd.heap_39 w.params).In base) (TB : Top hd.view_39 (looseW hd.view_39 []) mean mg mb base) (D : KtsDicts (outer.filterMap (·.frame)) h₀) (hdp : dp + 130 < recursionLimit) (hun : un + 1040 < cLine) (hx : x.length ≤ 60000) (hp1 : PartsOK (x ++ Str.ofString "\"z\"") n) (hp2 : PartsOK (x ++ Str.ofString "") n) (hs3 : SingOK (Str.ofString "'" ++ x ++ Str.ofString "'z'") n) (hs4 : SingOK (Str.ofString "'" ++ x ++ Str.ofString "") n)
  (hret : ∀ g h' tk', KtsTurn (outer.filterMap (·.frame)) h₀ g → Below A₀ base outer g → (hd.heap_39 w.params).In g → Top hd.view_39 (looseW hd.view_39 []) mean mg mb g → KtsDicts (outer.filterMap (·.frame)) g → Fr g L h' m → News g L h' (news) → Q (.bool true) { s with heap := h', toks := tk' }),
  wpAny (model PySem.Challenge.rw_pq0846_01.row.prog w) (ktrTop dp un gd cn cs L a ccd cl outer) (call (.ref 413) [.str x tx, .int n tn]) Q E { s with heap := hp, toks := tk0 } := by
 k_with "w" =>
  (k_extra "cp")
  (k_extra "n4"); generalize p4_1 T9 = x, p4_2 T9 = tx, p4_3 T9 = tn, p4_4 T9 = n; clear T9
  intro B F X N T hk XB TB D hdp hun hx hp1 hp2 hs3 hs4 hret
  refine wpAny_call ?_
  k_dflt (k_extra "my enterS")
  expose_names
  have XH := in_hide B' XB
  have TH := top_hide B' TB
  refine exE (back_h D' KtsTurn.refl F' N') ?_; (k_extra "h1"); (try generalize c1 _ _ = frs); intro hE9; obtain ⟨Tu, FH, NH, hn⟩ := hE9
  generalize hH : hideAll g' _ = H at XH TH FH NH
  clear F' N' X' T'
  repeat' (first | (k_extra "ka") | (k_extra "kb") | ((fail_if_success k_end); (k_extra "sF"); (k_extra "kc")))
  refine For_turns (by k_asm) ?_
  repeat' (first | (k_extra "ka") | (k_extra "kb") | ((fail_if_success k_end); (k_extra "sP"); (k_extra "kc")))
  expose_names
  have hlfI := Tu.above (r := frs ++ news) (by k_extra "a") (fun p hp => List.mem_append_left _ hp)
  refine iter_listTurns rfl (by k_asm) (by k_asm) List.mem_cons_self rfl rfl ?_
  (k_extra "h1"); (try generalize c1 _ _ = I); intro hI
  have hnlI : ∀ (o lo' : Obj), ∀ p ∈ (I, o) :: (l', lo') :: news, p.1 ∉ ((envX cn cs L a ccd cl :: outer).filterMap (·.frame)) := fun o lo' => (fmc (Tu.above hI (by (k_extra "wh mem"))) ((fmc (hlfI) (hn))))
  generalize hloI : W.listOf #[_, _] 0 = loI at *
  clear hloI
  have hIltI : ∀ f', Turned g' ((envX cn cs L a ccd cl :: outer).filterMap (·.frame)) f' → ∀ p ∈ (l', loI) :: (f' ++ news), p.1 < I := fun f' Tf => (fmc (hI _ List.mem_cons_self) ((fma (Tu.under Tf hI (by (k_extra "wh mem"))) (fun p hp => hI p (List.mem_cons_of_mem _ (List.mem_append_right _ hp))))))
  refine ItemsRest.val ?_
  (first | ((try dsimp only); (k_extra "h2"); generalize p2_1 T9 = h1, p2_2 T9 = tk1; clear T9; intro FI1) | intro h1 tk1 FI1)
  refine AllObj.cons ?_; (k_extra "h1"); (try generalize c1 _ _ = o1); intro ho1; refine AllObj.nil ?_; intro NI1
  have NJ1 := cb_drop (news := frs ++ ((I, o1) :: (l', loI) :: news)) NI1 (by (k_extra "wh mem"))
  clear NI1
  repeat' (first | (k_extra "ka") | (k_extra "kb") | ((fail_if_success k_end); (k_extra "z6"); (k_extra "kc")))
  refine exE (via_H (nw := (I, o1) :: (l', loI) :: news) hH B' XB TB D' Tu (by k_asm) (by k_asm) (hnlI _ _)) ?_; (k_extra "h1"); (try generalize c1 _ _ = g1a); intro hE9; obtain ⟨T1a, B1a, X1a, P1a, D1a, FV1a, NV1a⟩ := hE9
  refine exE hp1 ?_; (try dsimp only); ((k_extra "h1"); generalize c1 _ _ = R1); intro hE9
  refine exE hE9 ?_; clear hE9; (try dsimp only); ((k_extra "h1"); generalize c1 _ _ = K1); intro hE9
  refine exE hE9 ?_; clear hE9; (try dsimp only); ((k_extra "h1"); generalize c1 _ _ = J1); intro hE9
  obtain ⟨hm1, hr1, hK1, hJ1, hf1, hd1⟩ := hE9
  repeat' (first | (k_extra "ka") | (k_extra "kb") | ((fail_if_success k_end); (k_extra "z6"); (k_extra "kc")))
  refine told_parts_c (by k_asm) (by k_asm) (by k_asm) (by k_asm) (by k_asm) (by first | exact rfl | assumption) (by k_extra "a") (by k_extra "a") (by k_extra "a") K1 (by k_extra "my room") (by k_extra "my room") (by rw [Str.length_append]; exact Nat.le_trans (Nat.add_le_add_right hx _) (by decide)) (Int.le_refl 0) StopV.str (strR hm1) (by decide) hd1 hK1 ?_
  ((try dsimp only); (k_extra "h5"); generalize p5_1 T9 = v, p5_2 T9 = new, p5_3 T9 = g, p5_4 T9 = h', p5_5 T9 = tk'; clear T9; intros; (try k_sweep); (try (k_extra "kf")))
  (with_reducible rename DatIn _ _ (dParts _) => hD1)
  (with_reducible rename KtsTurn _ g1a _ => hT1)
  repeat' (first | (k_extra "ka") | (k_extra "kb") | ((fail_if_success k_end); (k_extra "z14"); (k_extra "kc")))
  refine read_d (by k_asm) (by k_asm) (by k_asm) (by k_asm) (by k_asm) (by first | exact rfl | assumption) J1 (by k_extra "my room") (by k_extra "my room") (by rw [Str.length_append]; exact Nat.le_trans (Nat.add_le_add_right hx _) (by decide)) hJ1 hr1 ?_
  ((try dsimp only); (k_extra "h4"); generalize p4_1 T9 = v, p4_2 T9 = new, p4_3 T9 = h', p4_4 T9 = tk'; clear T9; intros; (try k_sweep); (try (k_extra "kf")))
  (with_reducible rename DatIn _ _ (dParts _) => hE1)
  repeat' (first | (k_extra "ka") | (k_extra "kb") | ((fail_if_success k_end); (k_extra "z5"); (k_extra "kc")))
  refine dat_ne (by k_asm) hD1 (by (k_extra "wh mem")) hE1 (by (k_extra "wh mem")) rfl hf1 (by decide) (by dsimp only [Around.deeper, ktrTop]; omega) ?_
  all_goals repeat' (first | (k_extra "ka") | (k_end; (k_extra "z0"); (k_extra "z1"); (k_extra "z2"); (k_extra "z3"); (k_extra "z4"); first | wrow_close | walk1 | (dsimp only; walk1) | (leave1; (try dsimp only))) | ((fail_if_success k_end); (k_extra "z4"); (k_extra "kc")))
  all_goals
    refine exE (back_H hH D' (T1a.trans hT1) (by k_asm) (cb_drop (news := (I, o1) :: (l', loI) :: news) (by k_asm) (by (k_extra "wh mem")))) ?_; (k_extra "h1"); (try generalize c1 _ _ = frs1b); intro hE9; obtain ⟨Tu1b, F1b, N1b, hn1b⟩ := hE9
    refine unr_end ((l', loI) :: (frs1b ++ news)) F1b (cb_drop N1b (by (k_extra "wh mem"))) (fun p hp q hq => by rw [List.mem_singleton.mp hq]; exact Nat.ne_of_lt (hIltI _ Tu1b p hp)) ⟨And.intro List.mem_cons_self trivial, ?_⟩
    clear F1b N1b
  refine ItemsRest.val ?_
  (first | ((try dsimp only); (k_extra "h2"); generalize p2_1 T9 = h2, p2_2 T9 = tk2; clear T9; intro FI2) | intro h2 tk2 FI2)
  refine AllObj.cons ?_; (k_extra "h1"); (try generalize c1 _ _ = o2); intro ho2; refine AllObj.nil ?_; intro NI2
  have NJ2 := cb_drop (news := frs1b ++ ((I, o2) :: (l', loI) :: news)) NI2 (by (k_extra "wh mem"))
  clear NI2
  repeat' (first | (k_extra "ka") | (k_extra "kb") | ((fail_if_success k_end); (k_extra "z6"); (k_extra "kc")))
  refine exE (via_H (nw := (I, o2) :: (l', loI) :: news) hH B' XB TB D' Tu1b (by k_asm) (by k_asm) (hnlI _ _)) ?_; (k_extra "h1"); (try generalize c1 _ _ = g2a); intro hE9; obtain ⟨T2a, B2a, X2a, P2a, D2a, FV2a, NV2a⟩ := hE9
  refine exE hp2 ?_; (try dsimp only); ((k_extra "h1"); generalize c1 _ _ = R2); intro hE9
  refine exE hE9 ?_; clear hE9; (try dsimp only); ((k_extra "h1"); generalize c1 _ _ = K2); intro hE9
  refine exE hE9 ?_; clear hE9; (try dsimp only); ((k_extra "h1"); generalize c1 _ _ = J2); intro hE9
  obtain ⟨hm2, hr2, hK2, hJ2, hf2, hd2⟩ := hE9
  repeat' (first | (k_extra "ka") | (k_extra "kb") | ((fail_if_success k_end); (k_extra "z6"); (k_extra "kc")))
  refine told_parts_c (by k_asm) (by k_asm) (by k_asm) (by k_asm) (by k_asm) (by first | exact rfl | assumption) (by k_extra "a") (by k_extra "a") (by k_extra "a") K2 (by k_extra "my room") (by k_extra "my room") (by rw [Str.length_append]; exact Nat.le_trans (Nat.add_le_add_right hx _) (by decide)) (Int.le_refl 0) StopV.str (strR hm2) (by decide) hd2 hK2 ?_
  ((try dsimp only); (k_extra "h5"); generalize p5_1 T9 = v, p5_2 T9 = new, p5_3 T9 = g, p5_4 T9 = h', p5_5 T9 = tk'; clear T9; intros; (try k_sweep); (try (k_extra "kf")))
  (with_reducible rename DatIn _ _ (dParts _) => hD2)
  (with_reducible rename KtsTurn _ g2a _ => hT2)
  repeat' (first | (k_extra "ka") | (k_extra "kb") | ((fail_if_success k_end); (k_extra "z14"); (k_extra "kc")))
  refine read_d (by k_asm) (by k_asm) (by k_asm) (by k_asm) (by k_asm) (by first | exact rfl | assumption) J2 (by k_extra "my room") (by k_extra "my room") (by rw [Str.length_append]; exact Nat.le_trans (Nat.add_le_add_right hx _) (by decide)) hJ2 hr2 ?_
  ((try dsimp only); (k_extra "h4"); generalize p4_1 T9 = v, p4_2 T9 = new, p4_3 T9 = h', p4_4 T9 = tk'; clear T9; intros; (try k_sweep); (try (k_extra "kf")))
  (with_reducible rename DatIn _ _ (dParts _) => hE2)
  repeat' (first | (k_extra "ka") | (k_extra "kb") | ((fail_if_success k_end); (k_extra "z5"); (k_extra "kc")))
  refine dat_ne (by k_asm) hD2 (by (k_extra "wh mem")) hE2 (by (k_extra "wh mem")) rfl hf2 (by decide) (by dsimp only [Around.deeper, ktrTop]; omega) ?_
  all_goals repeat' (first | (k_extra "ka") | (k_end; (k_extra "z0"); (k_extra "z1"); (k_extra "z2"); (k_extra "z3"); (k_extra "z4"); first | wrow_close | walk1 | (dsimp only; walk1) | (leave1; (try dsimp only))) | ((fail_if_success k_end); (k_extra "z4"); (k_extra "kc")))
  all_goals
    refine exE (back_H hH D' (T2a.trans hT2) (by k_asm) (cb_drop (news := (I, o2) :: (l', loI) :: news) (by k_asm) (by (k_extra "wh mem")))) ?_; (k_extra "h1"); (try generalize c1 _ _ = frs2b); intro hE9; obtain ⟨Tu2b, F2b, N2b, hn2b⟩ := hE9
    refine unr_end ((l', loI) :: (frs2b ++ news)) F2b (cb_drop N2b (by (k_extra "wh mem"))) (fun p hp q hq => by rw [List.mem_singleton.mp hq]; exact Nat.ne_of_lt (hIltI _ Tu2b p hp)) ⟨And.intro List.mem_cons_self trivial, ?_⟩
    clear F2b N2b
  refine ItemsRest.zero ?_
  (first | ((try dsimp only); (k_extra "h2"); generalize p2_1 T9 = h8, p2_2 T9 = tk8; clear T9; intro F8 N8) | intro h8 tk8 F8 N8)
  have N9 := cb_drop (news := frs2b ++ news) N8 (by (k_extra "wh mem"))
  clear N8
  repeat' (first | (k_extra "ka") | (k_extra "kb") | ((fail_if_success k_end); (k_extra "sF"); (k_extra "kc")))
  refine For_turns (by k_asm) ?_
  repeat' (first | (k_extra "ka") | (k_extra "kb") | ((fail_if_success k_end); (k_extra "sP"); (k_extra "kc")))
  expose_names
  have hlfU := Tu2b.above (r := frs2b ++ news) (by k_extra "a") (fun p hp => List.mem_append_left _ hp)
  refine iter_listTurns rfl (by k_asm) (by k_asm) List.mem_cons_self rfl rfl ?_
  (k_extra "h1"); (try generalize c1 _ _ = U); intro hU
  have hnlU : ∀ (o lo' : Obj), ∀ p ∈ (U, o) :: (l'_1, lo') :: news, p.1 ∉ ((envX cn cs L a ccd cl :: outer).filterMap (·.frame)) := fun o lo' => (fmc (Tu2b.above hU (by (k_extra "wh mem"))) ((fmc (hlfU) (hn))))
  generalize hloU : W.listOf #[_, _] 0 = loU at *
  clear hloU
  have hIltU : ∀ f', Turned g' ((envX cn cs L a ccd cl :: outer).filterMap (·.frame)) f' → ∀ p ∈ (l'_1, loU) :: (f' ++ news), p.1 < U := fun f' Tf => (fmc (hU _ List.mem_cons_self) ((fma (Tu2b.under Tf hU (by (k_extra "wh mem"))) (fun p hp => hU p (List.mem_cons_of_mem _ (List.mem_append_right _ hp))))))
  refine ItemsRest.val ?_
  (first | ((try dsimp only); (k_extra "h2"); generalize p2_1 T9 = h3, p2_2 T9 = tk3; clear T9; intro FI3) | intro h3 tk3 FI3)
  refine AllObj.cons ?_; (k_extra "h1"); (try generalize c1 _ _ = o3); intro ho3; refine AllObj.nil ?_; intro NI3
  have NJ3 := cb_drop (news := frs2b ++ ((U, o3) :: (l'_1, loU) :: news)) NI3 (by (k_extra "wh mem"))
  clear NI3
  repeat' (first | (k_extra "ka") | (k_extra "kb") | ((fail_if_success k_end); (k_extra "z6"); (k_extra "kc")))
  refine exE (via_H (nw := (U, o3) :: (l'_1, loU) :: news) hH B' XB TB D' Tu2b (by k_asm) (by k_asm) (hnlU _ _)) ?_; (k_extra "h1"); (try generalize c1 _ _ = g3a); intro hE9; obtain ⟨T3a, B3a, X3a, P3a, D3a, FV3a, NV3a⟩ := hE9
  repeat' (first | (k_extra "ka") | (k_extra "kb") | ((fail_if_success k_end); (k_extra "z6"); (k_extra "kc")))
  refine told_single_c (by k_asm) (by k_asm) (by k_asm) (by k_asm) (by k_asm) (by first | exact rfl | assumption) (by k_extra "a") (by k_extra "a") (by k_extra "a")  (by k_extra "my room") (by k_extra "my room") (by rw [Str.length_append, Str.length_append]; exact Nat.le_trans (Nat.add_le_add_right (Nat.add_le_add_left hx _) _) (by decide)) (Int.le_refl 0) ?_
  ((try dsimp only); (k_extra "h5"); generalize p5_1 T9 = v, p5_2 T9 = new, p5_3 T9 = g, p5_4 T9 = h', p5_5 T9 = tk'; clear T9; intros; (try k_sweep); (try (k_extra "kf")))
  (with_reducible rename DatIn _ _ (dSingle _ _) => hD3)
  (with_reducible rename KtsTurn _ g3a _ => hT3)
  repeat' (first | (k_extra "ka") | (k_extra "kb") | ((fail_if_success k_end); (fail_if_success (with_reducible show wpAny _ _ (call (Value.ref 385) _) _ _ _)); (k_extra "kc")))
  refine lsing_c (by k_asm) (by k_asm) (by k_asm) (by k_asm) (by k_asm) (by first | exact rfl | assumption)  (by k_extra "my room") (by k_extra "my room") (by rw [Str.length_append, Str.length_append]; exact Nat.le_trans (Nat.add_le_add_right (Nat.add_le_add_left hx _) _) (by decide)) ?_
  ((try dsimp only); (k_extra "h4"); generalize p4_1 T9 = v, p4_2 T9 = new, p4_3 T9 = h', p4_4 T9 = tk'; clear T9; intros; (try k_sweep); (try (k_extra "kf")))
  (with_reducible rename DatIn _ _ (dSing _ _) => hE3)
  repeat' (first | (k_extra "ka") | (k_extra "kb") | ((fail_if_success k_end); (k_extra "z5"); (k_extra "kc")))
  refine dat_ne (by k_asm) hD3 (by (k_extra "wh mem")) hE3 (by (k_extra "wh mem")) hs3.1 (by rw [hs3.1]; exact hs3.2) (by decide) (by dsimp only [Around.deeper, ktrTop]; omega) ?_
  all_goals repeat' (first | (k_extra "ka") | (k_end; (k_extra "z0"); (k_extra "z1"); (k_extra "z2"); (k_extra "z3"); (k_extra "z4"); first | wrow_close | walk1 | (dsimp only; walk1) | (leave1; (try dsimp only))) | ((fail_if_success k_end); (k_extra "z4"); (k_extra "kc")))
  all_goals
    refine exE (back_H hH D' (T3a.trans hT3) (by k_asm) (cb_drop (news := (U, o3) :: (l'_1, loU) :: news) (by k_asm) (by (k_extra "wh mem")))) ?_; (k_extra "h1"); (try generalize c1 _ _ = frs3b); intro hE9; obtain ⟨Tu3b, F3b, N3b, hn3b⟩ := hE9
    refine unr_end ((l'_1, loU) :: (frs3b ++ news)) F3b (cb_drop N3b (by (k_extra "wh mem"))) (fun p hp q hq => by rw [List.mem_singleton.mp hq]; exact Nat.ne_of_lt (hIltU _ Tu3b p hp)) ⟨And.intro List.mem_cons_self trivial, ?_⟩
    clear F3b N3b
  refine ItemsRest.val ?_
  (first | ((try dsimp only); (k_extra "h2"); generalize p2_1 T9 = h4, p2_2 T9 = tk4; clear T9; intro FI4) | intro h4 tk4 FI4)
  refine AllObj.cons ?_; (k_extra "h1"); (try generalize c1 _ _ = o4); intro ho4; refine AllObj.nil ?_; intro NI4
  have NJ4 := cb_drop (news := frs3b ++ ((U, o4) :: (l'_1, loU) :: news)) NI4 (by (k_extra "wh mem"))
  clear NI4
  repeat' (first | (k_extra "ka") | (k_extra "kb") | ((fail_if_success k_end); (k_extra "z6"); (k_extra "kc")))
  refine exE (via_H (nw := (U, o4) :: (l'_1, loU) :: news) hH B' XB TB D' Tu3b (by k_asm) (by k_asm) (hnlU _ _)) ?_; (k_extra "h1"); (try generalize c1 _ _ = g4a); intro hE9; obtain ⟨T4a, B4a, X4a, P4a, D4a, FV4a, NV4a⟩ := hE9
  repeat' (first | (k_extra "ka") | (k_extra "kb") | ((fail_if_success k_end); (k_extra "z6"); (k_extra "kc")))
  refine told_single_c (by k_asm) (by k_asm) (by k_asm) (by k_asm) (by k_asm) (by first | exact rfl | assumption) (by k_extra "a") (by k_extra "a") (by k_extra "a")  (by k_extra "my room") (by k_extra "my room") (by rw [Str.length_append, Str.length_append]; exact Nat.le_trans (Nat.add_le_add_right (Nat.add_le_add_left hx _) _) (by decide)) (Int.le_refl 0) ?_
  ((try dsimp only); (k_extra "h5"); generalize p5_1 T9 = v, p5_2 T9 = new, p5_3 T9 = g, p5_4 T9 = h', p5_5 T9 = tk'; clear T9; intros; (try k_sweep); (try (k_extra "kf")))
  (with_reducible rename DatIn _ _ (dSingle _ _) => hD4)
  (with_reducible rename KtsTurn _ g4a _ => hT4)
  repeat' (first | (k_extra "ka") | (k_extra "kb") | ((fail_if_success k_end); (fail_if_success (with_reducible show wpAny _ _ (call (Value.ref 385) _) _ _ _)); (k_extra "kc")))
  refine lsing_c (by k_asm) (by k_asm) (by k_asm) (by k_asm) (by k_asm) (by first | exact rfl | assumption)  (by k_extra "my room") (by k_extra "my room") (by rw [Str.length_append, Str.length_append]; exact Nat.le_trans (Nat.add_le_add_right (Nat.add_le_add_left hx _) _) (by decide)) ?_
  ((try dsimp only); (k_extra "h4"); generalize p4_1 T9 = v, p4_2 T9 = new, p4_3 T9 = h', p4_4 T9 = tk'; clear T9; intros; (try k_sweep); (try (k_extra "kf")))
  (with_reducible rename DatIn _ _ (dSing _ _) => hE4)
  repeat' (first | (k_extra "ka") | (k_extra "kb") | ((fail_if_success k_end); (k_extra "z5"); (k_extra "kc")))
  refine dat_ne (by k_asm) hD4 (by (k_extra "wh mem")) hE4 (by (k_extra "wh mem")) hs4.1 (by rw [hs4.1]; exact hs4.2) (by decide) (by dsimp only [Around.deeper, ktrTop]; omega) ?_
  all_goals repeat' (first | (k_extra "ka") | (k_end; (k_extra "z0"); (k_extra "z1"); (k_extra "z2"); (k_extra "z3"); (k_extra "z4"); first | wrow_close | walk1 | (dsimp only; walk1) | (leave1; (try dsimp only))) | ((fail_if_success k_end); (k_extra "z4"); (k_extra "kc")))
  all_goals
    refine exE (back_H hH D' (T4a.trans hT4) (by k_asm) (cb_drop (news := (U, o4) :: (l'_1, loU) :: news) (by k_asm) (by (k_extra "wh mem")))) ?_; (k_extra "h1"); (try generalize c1 _ _ = frs4b); intro hE9; obtain ⟨Tu4b, F4b, N4b, hn4b⟩ := hE9
    refine unr_end ((l'_1, loU) :: (frs4b ++ news)) F4b (cb_drop N4b (by (k_extra "wh mem"))) (fun p hp q hq => by rw [List.mem_singleton.mp hq]; exact Nat.ne_of_lt (hIltU _ Tu4b p hp)) ⟨And.intro List.mem_cons_self trivial, ?_⟩
    clear F4b N4b
  refine ItemsRest.zero ?_
  (first | ((try dsimp only); (k_extra "h2"); generalize p2_1 T9 = h8, p2_2 T9 = tk8; clear T9; intro F8 N8) | intro h8 tk8 F8 N8)
  have N9 := cb_drop (news := frs4b ++ news) N8 (by (k_extra "wh mem"))
  clear N8
  refine exE (via_H (nw := _) hH B' XB TB D' Tu4b F8 N9 hn) ?_; (k_extra "h1"); (try generalize c1 _ _ = g9); intro hE9; obtain ⟨T9, B9, X9, P9, D9, FV9, NV9⟩ := hE9
  clear F8 N9 XH TH
  repeat' (first | (k_extra "ka") | (k_extra "kb") | ((fail_if_success k_end); (k_extra "kc")))
  exact hret _ _ _ (by k_extra "a") (by k_extra "a") (by k_extra "a") (by k_extra "a") (by k_extra "a") (by k_asm) (by k_asm)
 k_extra "q"
theorem reg124 : True := by
  k_with ".call ref" => ((k_here; (with_reducible show wpAny _ _ (call (Value.ref 413) _) _ _ _); k_dflt (refine' quotright_c ?kB ?kF ?kX ?kN ?kT ?kK ?zkXB ?zkTB ?zkDD ?zkd ?zku ?zkhx ?zkhp1 ?zkhp2 ?zkhs3 ?zkhs4 ?_; (k_extra "kq"); (case zkXB => assumption); (case zkTB => assumption); (case zkDD => assumption); (case zkd => k_extra "my room"); (case zku => k_extra "my room"); (case zkhx => k_extra "my side"); (case zkhp1 => k_extra "my side"); (case zkhp2 => k_extra "my side"); (case zkhs3 => k_extra "my side"); (case zkhs4 => k_extra "my side"); ((try dsimp only); (k_extra "h3"); generalize p3_1 T9 = g, p3_2 T9 = h', p3_3 T9 = tk'; clear T9; (first | revert g h' tk' | ((try revert tk'); (try revert h'); (try revert g))); intros; (try k_sweep); (try (k_extra "kf"))))))
  trivial
noncomputable def mHeads : List (Str × Option (Str × Bool × Int)) := [(Str.ofString "<<<EOT\n", some (Str.ofString "EOT", false, 7)), (Str.ofString "<<< \tEOT\n", some (Str.ofString "EOT", false, 9)), (Str.ofString "<<<\"EOT\"\r\n", some (Str.ofString "EOT", false, 10)), (Str.ofString "<<<'EOT'\n", some (Str.ofString "EOT", true, 9)), (Str.ofString "<<<'EOT\"\n", none), (Str.ofString "<<<EOT \n", none), (Str.ofString "<<<\n", none), (Str.ofString "<<EOT\n", none), (Str.ofString "<<<5T\n", none), (Str.ofString "<<<'EOT'", none), (Str.ofString "<<<''\n", none)]
noncomputable def dHead : Option (Str × Bool × Int) → Dat
  | none => .none
  | some (l, b, i) => .tuple [.str l, .bool b, .int i]
noncomputable def dHeadRow (p : Str × Option (Str × Bool × Int)) : Dat := .tuple [.str p.1, dHead p.2]
theorem fillF11 {w : World} {h₀ : Heap} (h : PySem.Challenge.rw_pq0846_01.row.prog = PySem.Challenge.rw_pq0846_01.row.prog) (X : (hd.heap_39 w.params).In h₀) : (hd.heap_39 w.params).In h₀ := by
  revert h X; k_fill; intro h X; exact X
section
variable {w : World} {mean mg mb} {dp un : Nat} {gd cn} {cs : Scope} {a ccd cl} {outer : List Env} {A₀ base h₀ L m} {s : Shared} {hp tk0 news} {Q E : Value → Shared → Prop}
 (B : Below A₀ base outer h₀) (F : Fr h₀ L hp m) (X : (hd.heap_39 w.params).In h₀) (N : News h₀ L hp news) (T : Top hd.view_39 (looseW hd.view_39 []) mean mg mb h₀) (hk : cs.kind = .function)
include B F X N T hk
theorem heads_c  (hdp : dp + 12 < recursionLimit) (hun : un + 96 < cLine) 
  (hret : ∀ v new h' tk', DatIn new v (Dat.list (mHeads.map dHeadRow)) → (∀ q ∈ news, ∀ p ∈ new, q.1 < p.1) → Fr h₀ L h' m → News h₀ L h' (new ++ news) → Q v { s with heap := h', toks := tk' }) :
  wpAny (model PySem.Challenge.rw_pq0846_01.row.prog w) (ktrTop dp un gd cn cs L a ccd cl outer) (call (.ref 420) []) Q E { s with heap := hp, toks := tk0 } := by
 k_with "w" =>
  revert B F X N T hk hdp hun hret
  revert w mean mg mb dp un gd cn cs a ccd cl outer A₀ base h₀ L m s hp tk0 news Q E
  (k_extra "cp")
  intro B F X N T hk hdp hun hret
  refine wpAny_call ?_
  k_dflt (k_extra "my enter")
  repeat' (first | (k_extra "ka") | (k_extra "kb") | ((fail_if_success k_end); (k_extra "kc")))
  refine' hret _ [(_, _), (_, _), (_, _), (_, _), (_, _), (_, _), (_, _), (_, _), (_, _), (_, _), (_, _), (_, _), (_, _), (_, _), (_, _), (_, _)] _ _ ?d ?o ?f ?n
  case f => k_asm
  case n => k_asm
  case d => exact DatIn.list List.mem_cons_self (DatAll.cons (DatIn.tuple (by (with_reducible (k_extra "wh in"))) (DatAll.cons (DatIn.str _ _) (DatAll.cons (DatIn.tuple (by (with_reducible (k_extra "wh in"))) (DatAll.cons (DatIn.str _ _) (DatAll.cons (DatIn.bool _) (DatAll.cons (DatIn.int _ _) .nil)))) .nil))) (DatAll.cons (DatIn.tuple (by (with_reducible (k_extra "wh in"))) (DatAll.cons (DatIn.str _ _) (DatAll.cons (DatIn.tuple (by (with_reducible (k_extra "wh in"))) (DatAll.cons (DatIn.str _ _) (DatAll.cons (DatIn.bool _) (DatAll.cons (DatIn.int _ _) .nil)))) .nil))) (DatAll.cons (DatIn.tuple (by (with_reducible (k_extra "wh in"))) (DatAll.cons (DatIn.str _ _) (DatAll.cons (DatIn.tuple (by (with_reducible (k_extra "wh in"))) (DatAll.cons (DatIn.str _ _) (DatAll.cons (DatIn.bool _) (DatAll.cons (DatIn.int _ _) .nil)))) .nil))) (DatAll.cons (DatIn.tuple (by (with_reducible (k_extra "wh in"))) (DatAll.cons (DatIn.str _ _) (DatAll.cons (DatIn.tuple (by (with_reducible (k_extra "wh in"))) (DatAll.cons (DatIn.str _ _) (DatAll.cons (DatIn.bool _) (DatAll.cons (DatIn.int _ _) .nil)))) .nil))) (DatAll.cons (DatIn.tuple (by (with_reducible (k_extra "wh in"))) (DatAll.cons (DatIn.str _ _) (DatAll.cons (DatIn.none) .nil))) (DatAll.cons (DatIn.tuple (by (with_reducible (k_extra "wh in"))) (DatAll.cons (DatIn.str _ _) (DatAll.cons (DatIn.none) .nil))) (DatAll.cons (DatIn.tuple (by (with_reducible (k_extra "wh in"))) (DatAll.cons (DatIn.str _ _) (DatAll.cons (DatIn.none) .nil))) (DatAll.cons (DatIn.tuple (by (with_reducible (k_extra "wh in"))) (DatAll.cons (DatIn.str _ _) (DatAll.cons (DatIn.none) .nil))) (DatAll.cons (DatIn.tuple (by (with_reducible (k_extra "wh in"))) (DatAll.cons (DatIn.str _ _) (DatAll.cons (DatIn.none) .nil))) (DatAll.cons (DatIn.tuple (by (with_reducible (k_extra "wh in"))) (DatAll.cons (DatIn.str _ _) (DatAll.cons (DatIn.none) .nil))) (DatAll.cons (DatIn.tuple (by (with_reducible (k_extra "wh in"))) (DatAll.cons (DatIn.str _ _) (DatAll.cons (DatIn.none) .nil))) (.nil))))))))))))
  case o => exact fun q hq => (fmc ((by first | with_reducible assumption | exact allLt_iff.mp (by k_extra "a") | exact allLt_iff.mp (And.right (by k_extra "a")) | exact allLt_iff.mp (And.right (And.right (by k_extra "a"))) | exact allLt_iff.mp (And.right (And.right (And.right (by k_extra "a")))) | exact allLt_iff.mp (And.right (And.right (And.right (And.right (by k_extra "a"))))) | exact allLt_iff.mp (And.right (And.right (And.right (And.right (And.right (by k_extra "a")))))) | exact allLt_iff.mp (And.right (And.right (And.right (And.right (And.right (And.right (by k_extra "a"))))))) | exact allLt_iff.mp (And.right (And.right (And.right (And.right (And.right (And.right (And.right (by k_extra "a")))))))) | exact allLt_iff.mp (And.right (And.right (And.right (And.right (And.right (And.right (And.right (And.right (by k_extra "a"))))))))) | exact allLt_iff.mp (And.right (And.right (And.right (And.right (And.right (And.right (And.right (And.right (And.right (by k_extra "a")))))))))) | exact allLt_iff.mp (And.right (And.right (And.right (And.right (And.right (And.right (And.right (And.right (And.right (And.right (by k_extra "a"))))))))))) | exact allLt_iff.mp (And.right (And.right (And.right (And.right (And.right (And.right (And.right (And.right (And.right (And.right (And.right (by k_extra "a")))))))))))) | exact allLt_iff.mp (And.right (And.right (And.right (And.right (And.right (And.right (And.right (And.right (And.right (And.right (And.right (And.right (by k_extra "a"))))))))))))) | exact allLt_iff.mp (And.right (And.right (And.right (And.right (And.right (And.right (And.right (And.right (And.right (And.right (And.right (And.right (And.right (by k_extra "a")))))))))))))) | exact allLt_iff.mp (And.right (And.right (And.right (And.right (And.right (And.right (And.right (And.right (And.right (And.right (And.right (And.right (And.right (And.right (by k_extra "a"))))))))))))))) | exact allLt_iff.mp (And.right (And.right (And.right (And.right (And.right (And.right (And.right (And.right (And.right (And.right (And.right (And.right (And.right (And.right (And.right (by k_extra "a")))))))))))))))) : ∀ p ∈ news, p.1 < _) q hq) ((fmc ((by first | with_reducible assumption | exact allLt_iff.mp (by k_extra "a") | exact allLt_iff.mp (And.right (by k_extra "a")) | exact allLt_iff.mp (And.right (And.right (by k_extra "a"))) | exact allLt_iff.mp (And.right (And.right (And.right (by k_extra "a")))) | exact allLt_iff.mp (And.right (And.right (And.right (And.right (by k_extra "a"))))) | exact allLt_iff.mp (And.right (And.right (And.right (And.right (And.right (by k_extra "a")))))) | exact allLt_iff.mp (And.right (And.right (And.right (And.right (And.right (And.right (by k_extra "a"))))))) | exact allLt_iff.mp (And.right (And.right (And.right (And.right (And.right (And.right (And.right (by k_extra "a")))))))) | exact allLt_iff.mp (And.right (And.right (And.right (And.right (And.right (And.right (And.right (And.right (by k_extra "a"))))))))) | exact allLt_iff.mp (And.right (And.right (And.right (And.right (And.right (And.right (And.right (And.right (And.right (by k_extra "a")))))))))) | exact allLt_iff.mp (And.right (And.right (And.right (And.right (And.right (And.right (And.right (And.right (And.right (And.right (by k_extra "a"))))))))))) | exact allLt_iff.mp (And.right (And.right (And.right (And.right (And.right (And.right (And.right (And.right (And.right (And.right (And.right (by k_extra "a")))))))))))) | exact allLt_iff.mp (And.right (And.right (And.right (And.right (And.right (And.right (And.right (And.right (And.right (And.right (And.right (And.right (by k_extra "a"))))))))))))) | exact allLt_iff.mp (And.right (And.right (And.right (And.right (And.right (And.right (And.right (And.right (And.right (And.right (And.right (And.right (And.right (by k_extra "a")))))))))))))) | exact allLt_iff.mp (And.right (And.right (And.right (And.right (And.right (And.right (And.right (And.right (And.right (And.right (And.right (And.right (And.right (And.right (by k_extra "a"))))))))))))))) | exact allLt_iff.mp (And.right (And.right (And.right (And.right (And.right (And.right (And.right (And.right (And.right (And.right (And.right (And.right (And.right (And.right (And.right (by k_extra "a")))))))))))))))) : ∀ p ∈ news, p.1 < _) q hq) ((fmc ((by first | with_reducible assumption | exact allLt_iff.mp (by k_extra "a") | exact allLt_iff.mp (And.right (by k_extra "a")) | exact allLt_iff.mp (And.right (And.right (by k_extra "a"))) | exact allLt_iff.mp (And.right (And.right (And.right (by k_extra "a")))) | exact allLt_iff.mp (And.right (And.right (And.right (And.right (by k_extra "a"))))) | exact allLt_iff.mp (And.right (And.right (And.right (And.right (And.right (by k_extra "a")))))) | exact allLt_iff.mp (And.right (And.right (And.right (And.right (And.right (And.right (by k_extra "a"))))))) | exact allLt_iff.mp (And.right (And.right (And.right (And.right (And.right (And.right (And.right (by k_extra "a")))))))) | exact allLt_iff.mp (And.right (And.right (And.right (And.right (And.right (And.right (And.right (And.right (by k_extra "a"))))))))) | exact allLt_iff.mp (And.right (And.right (And.right (And.right (And.right (And.right (And.right (And.right (And.right (by k_extra "a")))))))))) | exact allLt_iff.mp (And.right (And.right (And.right (And.right (And.right (And.right (And.right (And.right (And.right (And.right (by k_extra "a"))))))))))) | exact allLt_iff.mp (And.right (And.right (And.right (And.right (And.right (And.right (And.right (And.right (And.right (And.right (And.right (by k_extra "a")))))))))))) | exact allLt_iff.mp (And.right (And.right (And.right (And.right (And.right (And.right (And.right (And.right (And.right (And.right (And.right (And.right (by k_extra "a"))))))))))))) | exact allLt_iff.mp (And.right (And.right (And.right (And.right (And.right (And.right (And.right (And.right (And.right (And.right (And.right (And.right (And.right (by k_extra "a")))))))))))))) | exact allLt_iff.mp (And.right (And.right (And.right (And.right (And.right (And.right (And.right (And.right (And.right (And.right (And.right (And.right (And.right (And.right (by k_extra "a"))))))))))))))) | exact allLt_iff.mp (And.right (And.right (And.right (And.right (And.right (And.right (And.right (And.right (And.right (And.right (And.right (And.right (And.right (And.right (And.right (by k_extra "a")))))))))))))))) : ∀ p ∈ news, p.1 < _) q hq) ((fmc ((by first | with_reducible assumption | exact allLt_iff.mp (by k_extra "a") | exact allLt_iff.mp (And.right (by k_extra "a")) | exact allLt_iff.mp (And.right (And.right (by k_extra "a"))) | exact allLt_iff.mp (And.right (And.right (And.right (by k_extra "a")))) | exact allLt_iff.mp (And.right (And.right (And.right (And.right (by k_extra "a"))))) | exact allLt_iff.mp (And.right (And.right (And.right (And.right (And.right (by k_extra "a")))))) | exact allLt_iff.mp (And.right (And.right (And.right (And.right (And.right (And.right (by k_extra "a"))))))) | exact allLt_iff.mp (And.right (And.right (And.right (And.right (And.right (And.right (And.right (by k_extra "a")))))))) | exact allLt_iff.mp (And.right (And.right (And.right (And.right (And.right (And.right (And.right (And.right (by k_extra "a"))))))))) | exact allLt_iff.mp (And.right (And.right (And.right (And.right (And.right (And.right (And.right (And.right (And.right (by k_extra "a")))))))))) | exact allLt_iff.mp (And.right (And.right (And.right (And.right (And.right (And.right (And.right (And.right (And.right (And.right (by k_extra "a"))))))))))) | exact allLt_iff.mp (And.right (And.right (And.right (And.right (And.right (And.right (And.right (And.right (And.right (And.right (And.right (by k_extra "a")))))))))))) | exact allLt_iff.mp (And.right (And.right (And.right (And.right (And.right (And.right (And.right (And.right (And.right (And.right (And.right (And.right (by k_extra "a"))))))))))))) | exact allLt_iff.mp (And.right (And.right (And.right (And.right (And.right (And.right (And.right (And.right (And.right (And.right (And.right (And.right (And.right (by k_extra "a")))))))))))))) | exact allLt_iff.mp (And.right (And.right (And.right (And.right (And.right (And.right (And.right (And.right (And.right (And.right (And.right (And.right (And.right (And.right (by k_extra "a"))))))))))))))) | exact allLt_iff.mp (And.right (And.right (And.right (And.right (And.right (And.right (And.right (And.right (And.right (And.right (And.right (And.right (And.right (And.right (And.right (by k_extra "a")))))))))))))))) : ∀ p ∈ news, p.1 < _) q hq) ((fmc ((by first | with_reducible assumption | exact allLt_iff.mp (by k_extra "a") | exact allLt_iff.mp (And.right (by k_extra "a")) | exact allLt_iff.mp (And.right (And.right (by k_extra "a"))) | exact allLt_iff.mp (And.right (And.right (And.right (by k_extra "a")))) | exact allLt_iff.mp (And.right (And.right (And.right (And.right (by k_extra "a"))))) | exact allLt_iff.mp (And.right (And.right (And.right (And.right (And.right (by k_extra "a")))))) | exact allLt_iff.mp (And.right (And.right (And.right (And.right (And.right (And.right (by k_extra "a"))))))) | exact allLt_iff.mp (And.right (And.right (And.right (And.right (And.right (And.right (And.right (by k_extra "a")))))))) | exact allLt_iff.mp (And.right (And.right (And.right (And.right (And.right (And.right (And.right (And.right (by k_extra "a"))))))))) | exact allLt_iff.mp (And.right (And.right (And.right (And.right (And.right (And.right (And.right (And.right (And.right (by k_extra "a")))))))))) | exact allLt_iff.mp (And.right (And.right (And.right (And.right (And.right (And.right (And.right (And.right (And.right (And.right (by k_extra "a"))))))))))) | exact allLt_iff.mp (And.right (And.right (And.right (And.right (And.right (And.right (And.right (And.right (And.right (And.right (And.right (by k_extra "a")))))))))))) | exact allLt_iff.mp (And.right (And.right (And.right (And.right (And.right (And.right (And.right (And.right (And.right (And.right (And.right (And.right (by k_extra "a"))))))))))))) | exact allLt_iff.mp (And.right (And.right (And.right (And.right (And.right (And.right (And.right (And.right (And.right (And.right (And.right (And.right (And.right (by k_extra "a")))))))))))))) | exact allLt_iff.mp (And.right (And.right (And.right (And.right (And.right (And.right (And.right (And.right (And.right (And.right (And.right (And.right (And.right (And.right (by k_extra "a"))))))))))))))) | exact allLt_iff.mp (And.right (And.right (And.right (And.right (And.right (And.right (And.right (And.right (And.right (And.right (And.right (And.right (And.right (And.right (And.right (by k_extra "a")))))))))))))))) : ∀ p ∈ news, p.1 < _) q hq) ((fmc ((by first | with_reducible assumption | exact allLt_iff.mp (by k_extra "a") | exact allLt_iff.mp (And.right (by k_extra "a")) | exact allLt_iff.mp (And.right (And.right (by k_extra "a"))) | exact allLt_iff.mp (And.right (And.right (And.right (by k_extra "a")))) | exact allLt_iff.mp (And.right (And.right (And.right (And.right (by k_extra "a"))))) | exact allLt_iff.mp (And.right (And.right (And.right (And.right (And.right (by k_extra "a")))))) | exact allLt_iff.mp (And.right (And.right (And.right (And.right (And.right (And.right (by k_extra "a"))))))) | exact allLt_iff.mp (And.right (And.right (And.right (And.right (And.right (And.right (And.right (by k_extra "a")))))))) | exact allLt_iff.mp (And.right (And.right (And.right (And.right (And.right (And.right (And.right (And.right (by k_extra "a"))))))))) | exact allLt_iff.mp (And.right (And.right (And.right (And.right (And.right (And.right (And.right (And.right (And.right (by k_extra "a")))))))))) | exact allLt_iff.mp (And.right (And.right (And.right (And.right (And.right (And.right (And.right (And.right (And.right (And.right (by k_extra "a"))))))))))) | exact allLt_iff.mp (And.right (And.right (And.right (And.right (And.right (And.right (And.right (And.right (And.right (And.right (And.right (by k_extra "a")))))))))))) | exact allLt_iff.mp (And.right (And.right (And.right (And.right (And.right (And.right (And.right (And.right (And.right (And.right (And.right (And.right (by k_extra "a"))))))))))))) | exact allLt_iff.mp (And.right (And.right (And.right (And.right (And.right (And.right (And.right (And.right (And.right (And.right (And.right (And.right (And.right (by k_extra "a")))))))))))))) | exact allLt_iff.mp (And.right (And.right (And.right (And.right (And.right (And.right (And.right (And.right (And.right (And.right (And.right (And.right (And.right (And.right (by k_extra "a"))))))))))))))) | exact allLt_iff.mp (And.right (And.right (And.right (And.right (And.right (And.right (And.right (And.right (And.right (And.right (And.right (And.right (And.right (And.right (And.right (by k_extra "a")))))))))))))))) : ∀ p ∈ news, p.1 < _) q hq) ((fmc ((by first | with_reducible assumption | exact allLt_iff.mp (by k_extra "a") | exact allLt_iff.mp (And.right (by k_extra "a")) | exact allLt_iff.mp (And.right (And.right (by k_extra "a"))) | exact allLt_iff.mp (And.right (And.right (And.right (by k_extra "a")))) | exact allLt_iff.mp (And.right (And.right (And.right (And.right (by k_extra "a"))))) | exact allLt_iff.mp (And.right (And.right (And.right (And.right (And.right (by k_extra "a")))))) | exact allLt_iff.mp (And.right (And.right (And.right (And.right (And.right (And.right (by k_extra "a"))))))) | exact allLt_iff.mp (And.right (And.right (And.right (And.right (And.right (And.right (And.right (by k_extra "a")))))))) | exact allLt_iff.mp (And.right (And.right (And.right (And.right (And.right (And.right (And.right (And.right (by k_extra "a"))))))))) | exact allLt_iff.mp (And.right (And.right (And.right (And.right (And.right (And.right (And.right (And.right (And.right (by k_extra "a")))))))))) | exact allLt_iff.mp (And.right (And.right (And.right (And.right (And.right (And.right (And.right (And.right (And.right (And.right (by k_extra "a"))))))))))) | exact allLt_iff.mp (And.right (And.right (And.right (And.right (And.right (And.right (And.right (And.right (And.right (And.right (And.right (by k_extra "a")))))))))))) | exact allLt_iff.mp (And.right (And.right (And.right (And.right (And.right (And.right (And.right (And.right (And.right (And.right (And.right (And.right (by k_extra "a"))))))))))))) | exact allLt_iff.mp (And.right (And.right (And.right (And.right (And.right (And.right (And.right (And.right (And.right (And.right (And.right (And.right (And.right (by k_extra "a")))))))))))))) | exact allLt_iff.mp (And.right (And.right (And.right (And.right (And.right (And.right (And.right (And.right (And.right (And.right (And.right (And.right (And.right (And.right (by k_extra "a"))))))))))))))) | exact allLt_iff.mp (And.right (And.right (And.right (And.right (And.right (And.right (And.right (And.right (And.right (And.right (And.right (And.right (And.right (And.right (And.right (by k_extra "a")))))))))))))))) : ∀ p ∈ news, p.1 < _) q hq) ((fmc ((by first | with_reducible assumption | exact allLt_iff.mp (by k_extra "a") | exact allLt_iff.mp (And.right (by k_extra "a")) | exact allLt_iff.mp (And.right (And.right (by k_extra "a"))) | exact allLt_iff.mp (And.right (And.right (And.right (by k_extra "a")))) | exact allLt_iff.mp (And.right (And.right (And.right (And.right (by k_extra "a"))))) | exact allLt_iff.mp (And.right (And.right (And.right (And.right (And.right (by k_extra "a")))))) | exact allLt_iff.mp (And.right (And.right (And.right (And.right (And.right (And.right (by k_extra "a"))))))) | exact allLt_iff.mp (And.right (And.right (And.right (And.right (And.right (And.right (And.right (by k_extra "a")))))))) | exact allLt_iff.mp (And.right (And.right (And.right (And.right (And.right (And.right (And.right (And.right (by k_extra "a"))))))))) | exact allLt_iff.mp (And.right (And.right (And.right (And.right (And.right (And.right (And.right (And.right (And.right (by k_extra "a")))))))))) | exact allLt_iff.mp (And.right (And.right (And.right (And.right (And.right (And.right (And.right (And.right (And.right (And.right (by k_extra "a"))))))))))) | exact allLt_iff.mp (And.right (And.right (And.right (And.right (And.right (And.right (And.right (And.right (And.right (And.right (And.right (by k_extra "a")))))))))))) | exact allLt_iff.mp (And.right (And.right (And.right (And.right (And.right (And.right (And.right (And.right (And.right (And.right (And.right (And.right (by k_extra "a"))))))))))))) | exact allLt_iff.mp (And.right (And.right (And.right (And.right (And.right (And.right (And.right (And.right (And.right (And.right (And.right (And.right (And.right (by k_extra "a")))))))))))))) | exact allLt_iff.mp (And.right (And.right (And.right (And.right (And.right (And.right (And.right (And.right (And.right (And.right (And.right (And.right (And.right (And.right (by k_extra "a"))))))))))))))) | exact allLt_iff.mp (And.right (And.right (And.right (And.right (And.right (And.right (And.right (And.right (And.right (And.right (And.right (And.right (And.right (And.right (And.right (by k_extra "a")))))))))))))))) : ∀ p ∈ news, p.1 < _) q hq) ((fmc ((by first | with_reducible assumption | exact allLt_iff.mp (by k_extra "a") | exact allLt_iff.mp (And.right (by k_extra "a")) | exact allLt_iff.mp (And.right (And.right (by k_extra "a"))) | exact allLt_iff.mp (And.right (And.right (And.right (by k_extra "a")))) | exact allLt_iff.mp (And.right (And.right (And.right (And.right (by k_extra "a"))))) | exact allLt_iff.mp (And.right (And.right (And.right (And.right (And.right (by k_extra "a")))))) | exact allLt_iff.mp (And.right (And.right (And.right (And.right (And.right (And.right (by k_extra "a"))))))) | exact allLt_iff.mp (And.right (And.right (And.right (And.right (And.right (And.right (And.right (by k_extra "a")))))))) | exact allLt_iff.mp (And.right (And.right (And.right (And.right (And.right (And.right (And.right (And.right (by k_extra "a"))))))))) | exact allLt_iff.mp (And.right (And.right (And.right (And.right (And.right (And.right (And.right (And.right (And.right (by k_extra "a")))))))))) | exact allLt_iff.mp (And.right (And.right (And.right (And.right (And.right (And.right (And.right (And.right (And.right (And.right (by k_extra "a"))))))))))) | exact allLt_iff.mp (And.right (And.right (And.right (And.right (And.right (And.right (And.right (And.right (And.right (And.right (And.right (by k_extra "a")))))))))))) | exact allLt_iff.mp (And.right (And.right (And.right (And.right (And.right (And.right (And.right (And.right (And.right (And.right (And.right (And.right (by k_extra "a"))))))))))))) | exact allLt_iff.mp (And.right (And.right (And.right (And.right (And.right (And.right (And.right (And.right (And.right (And.right (And.right (And.right (And.right (by k_extra "a")))))))))))))) | exact allLt_iff.mp (And.right (And.right (And.right (And.right (And.right (And.right (And.right (And.right (And.right (And.right (And.right (And.right (And.right (And.right (by k_extra "a"))))))))))))))) | exact allLt_iff.mp (And.right (And.right (And.right (And.right (And.right (And.right (And.right (And.right (And.right (And.right (And.right (And.right (And.right (And.right (And.right (by k_extra "a")))))))))))))))) : ∀ p ∈ news, p.1 < _) q hq) ((fmc ((by first | with_reducible assumption | exact allLt_iff.mp (by k_extra "a") | exact allLt_iff.mp (And.right (by k_extra "a")) | exact allLt_iff.mp (And.right (And.right (by k_extra "a"))) | exact allLt_iff.mp (And.right (And.right (And.right (by k_extra "a")))) | exact allLt_iff.mp (And.right (And.right (And.right (And.right (by k_extra "a"))))) | exact allLt_iff.mp (And.right (And.right (And.right (And.right (And.right (by k_extra "a")))))) | exact allLt_iff.mp (And.right (And.right (And.right (And.right (And.right (And.right (by k_extra "a"))))))) | exact allLt_iff.mp (And.right (And.right (And.right (And.right (And.right (And.right (And.right (by k_extra "a")))))))) | exact allLt_iff.mp (And.right (And.right (And.right (And.right (And.right (And.right (And.right (And.right (by k_extra "a"))))))))) | exact allLt_iff.mp (And.right (And.right (And.right (And.right (And.right (And.right (And.right (And.right (And.right (by k_extra "a")))))))))) | exact allLt_iff.mp (And.right (And.right (And.right (And.right (And.right (And.right (And.right (And.right (And.right (And.right (by k_extra "a"))))))))))) | exact allLt_iff.mp (And.right (And.right (And.right (And.right (And.right (And.right (And.right (And.right (And.right (And.right (And.right (by k_extra "a")))))))))))) | exact allLt_iff.mp (And.right (And.right (And.right (And.right (And.right (And.right (And.right (And.right (And.right (And.right (And.right (And.right (by k_extra "a"))))))))))))) | exact allLt_iff.mp (And.right (And.right (And.right (And.right (And.right (And.right (And.right (And.right (And.right (And.right (And.right (And.right (And.right (by k_extra "a")))))))))))))) | exact allLt_iff.mp (And.right (And.right (And.right (And.right (And.right (And.right (And.right (And.right (And.right (And.right (And.right (And.right (And.right (And.right (by k_extra "a"))))))))))))))) | exact allLt_iff.mp (And.right (And.right (And.right (And.right (And.right (And.right (And.right (And.right (And.right (And.right (And.right (And.right (And.right (And.right (And.right (by k_extra "a")))))))))))))))) : ∀ p ∈ news, p.1 < _) q hq) ((fmc ((by first | with_reducible assumption | exact allLt_iff.mp (by k_extra "a") | exact allLt_iff.mp (And.right (by k_extra "a")) | exact allLt_iff.mp (And.right (And.right (by k_extra "a"))) | exact allLt_iff.mp (And.right (And.right (And.right (by k_extra "a")))) | exact allLt_iff.mp (And.right (And.right (And.right (And.right (by k_extra "a"))))) | exact allLt_iff.mp (And.right (And.right (And.right (And.right (And.right (by k_extra "a")))))) | exact allLt_iff.mp (And.right (And.right (And.right (And.right (And.right (And.right (by k_extra "a"))))))) | exact allLt_iff.mp (And.right (And.right (And.right (And.right (And.right (And.right (And.right (by k_extra "a")))))))) | exact allLt_iff.mp (And.right (And.right (And.right (And.right (And.right (And.right (And.right (And.right (by k_extra "a"))))))))) | exact allLt_iff.mp (And.right (And.right (And.right (And.right (And.right (And.right (And.right (And.right (And.right (by k_extra "a")))))))))) | exact allLt_iff.mp (And.right (And.right (And.right (And.right (And.right (And.right (And.right (And.right (And.right (And.right (by k_extra "a"))))))))))) | exact allLt_iff.mp (And.right (And.right (And.right (And.right (And.right (And.right (And.right (And.right (And.right (And.right (And.right (by k_extra "a")))))))))))) | exact allLt_iff.mp (And.right (And.right (And.right (And.right (And.right (And.right (And.right (And.right (And.right (And.right (And.right (And.right (by k_extra "a"))))))))))))) | exact allLt_iff.mp (And.right (And.right (And.right (And.right (And.right (And.right (And.right (And.right (And.right (And.right (And.right (And.right (And.right (by k_extra "a")))))))))))))) | exact allLt_iff.mp (And.right (And.right (And.right (And.right (And.right (And.right (And.right (And.right (And.right (And.right (And.right (And.right (And.right (And.right (by k_extra "a"))))))))))))))) | exact allLt_iff.mp (And.right (And.right (And.right (And.right (And.right (And.right (And.right (And.right (And.right (And.right (And.right (And.right (And.right (And.right (And.right (by k_extra "a")))))))))))))))) : ∀ p ∈ news, p.1 < _) q hq) ((fmc ((by first | with_reducible assumption | exact allLt_iff.mp (by k_extra "a") | exact allLt_iff.mp (And.right (by k_extra "a")) | exact allLt_iff.mp (And.right (And.right (by k_extra "a"))) | exact allLt_iff.mp (And.right (And.right (And.right (by k_extra "a")))) | exact allLt_iff.mp (And.right (And.right (And.right (And.right (by k_extra "a"))))) | exact allLt_iff.mp (And.right (And.right (And.right (And.right (And.right (by k_extra "a")))))) | exact allLt_iff.mp (And.right (And.right (And.right (And.right (And.right (And.right (by k_extra "a"))))))) | exact allLt_iff.mp (And.right (And.right (And.right (And.right (And.right (And.right (And.right (by k_extra "a")))))))) | exact allLt_iff.mp (And.right (And.right (And.right (And.right (And.right (And.right (And.right (And.right (by k_extra "a"))))))))) | exact allLt_iff.mp (And.right (And.right (And.right (And.right (And.right (And.right (And.right (And.right (And.right (by k_extra "a")))))))))) | exact allLt_iff.mp (And.right (And.right (And.right (And.right (And.right (And.right (And.right (And.right (And.right (And.right (by k_extra "a"))))))))))) | exact allLt_iff.mp (And.right (And.right (And.right (And.right (And.right (And.right (And.right (And.right (And.right (And.right (And.right (by k_extra "a")))))))))))) | exact allLt_iff.mp (And.right (And.right (And.right (And.right (And.right (And.right (And.right (And.right (And.right (And.right (And.right (And.right (by k_extra "a"))))))))))))) | exact allLt_iff.mp (And.right (And.right (And.right (And.right (And.right (And.right (And.right (And.right (And.right (And.right (And.right (And.right (And.right (by k_extra "a")))))))))))))) | exact allLt_iff.mp (And.right (And.right (And.right (And.right (And.right (And.right (And.right (And.right (And.right (And.right (And.right (And.right (And.right (And.right (by k_extra "a"))))))))))))))) | exact allLt_iff.mp (And.right (And.right (And.right (And.right (And.right (And.right (And.right (And.right (And.right (And.right (And.right (And.right (And.right (And.right (And.right (by k_extra "a")))))))))))))))) : ∀ p ∈ news, p.1 < _) q hq) ((fmc ((by first | with_reducible assumption | exact allLt_iff.mp (by k_extra "a") | exact allLt_iff.mp (And.right (by k_extra "a")) | exact allLt_iff.mp (And.right (And.right (by k_extra "a"))) | exact allLt_iff.mp (And.right (And.right (And.right (by k_extra "a")))) | exact allLt_iff.mp (And.right (And.right (And.right (And.right (by k_extra "a"))))) | exact allLt_iff.mp (And.right (And.right (And.right (And.right (And.right (by k_extra "a")))))) | exact allLt_iff.mp (And.right (And.right (And.right (And.right (And.right (And.right (by k_extra "a"))))))) | exact allLt_iff.mp (And.right (And.right (And.right (And.right (And.right (And.right (And.right (by k_extra "a")))))))) | exact allLt_iff.mp (And.right (And.right (And.right (And.right (And.right (And.right (And.right (And.right (by k_extra "a"))))))))) | exact allLt_iff.mp (And.right (And.right (And.right (And.right (And.right (And.right (And.right (And.right (And.right (by k_extra "a")))))))))) | exact allLt_iff.mp (And.right (And.right (And.right (And.right (And.right (And.right (And.right (And.right (And.right (And.right (by k_extra "a"))))))))))) | exact allLt_iff.mp (And.right (And.right (And.right (And.right (And.right (And.right (And.right (And.right (And.right (And.right (And.right (by k_extra "a")))))))))))) | exact allLt_iff.mp (And.right (And.right (And.right (And.right (And.right (And.right (And.right (And.right (And.right (And.right (And.right (And.right (by k_extra "a"))))))))))))) | exact allLt_iff.mp (And.right (And.right (And.right (And.right (And.right (And.right (And.right (And.right (And.right (And.right (And.right (And.right (And.right (by k_extra "a")))))))))))))) | exact allLt_iff.mp (And.right (And.right (And.right (And.right (And.right (And.right (And.right (And.right (And.right (And.right (And.right (And.right (And.right (And.right (by k_extra "a"))))))))))))))) | exact allLt_iff.mp (And.right (And.right (And.right (And.right (And.right (And.right (And.right (And.right (And.right (And.right (And.right (And.right (And.right (And.right (And.right (by k_extra "a")))))))))))))))) : ∀ p ∈ news, p.1 < _) q hq) ((fmc ((by first | with_reducible assumption | exact allLt_iff.mp (by k_extra "a") | exact allLt_iff.mp (And.right (by k_extra "a")) | exact allLt_iff.mp (And.right (And.right (by k_extra "a"))) | exact allLt_iff.mp (And.right (And.right (And.right (by k_extra "a")))) | exact allLt_iff.mp (And.right (And.right (And.right (And.right (by k_extra "a"))))) | exact allLt_iff.mp (And.right (And.right (And.right (And.right (And.right (by k_extra "a")))))) | exact allLt_iff.mp (And.right (And.right (And.right (And.right (And.right (And.right (by k_extra "a"))))))) | exact allLt_iff.mp (And.right (And.right (And.right (And.right (And.right (And.right (And.right (by k_extra "a")))))))) | exact allLt_iff.mp (And.right (And.right (And.right (And.right (And.right (And.right (And.right (And.right (by k_extra "a"))))))))) | exact allLt_iff.mp (And.right (And.right (And.right (And.right (And.right (And.right (And.right (And.right (And.right (by k_extra "a")))))))))) | exact allLt_iff.mp (And.right (And.right (And.right (And.right (And.right (And.right (And.right (And.right (And.right (And.right (by k_extra "a"))))))))))) | exact allLt_iff.mp (And.right (And.right (And.right (And.right (And.right (And.right (And.right (And.right (And.right (And.right (And.right (by k_extra "a")))))))))))) | exact allLt_iff.mp (And.right (And.right (And.right (And.right (And.right (And.right (And.right (And.right (And.right (And.right (And.right (And.right (by k_extra "a"))))))))))))) | exact allLt_iff.mp (And.right (And.right (And.right (And.right (And.right (And.right (And.right (And.right (And.right (And.right (And.right (And.right (And.right (by k_extra "a")))))))))))))) | exact allLt_iff.mp (And.right (And.right (And.right (And.right (And.right (And.right (And.right (And.right (And.right (And.right (And.right (And.right (And.right (And.right (by k_extra "a"))))))))))))))) | exact allLt_iff.mp (And.right (And.right (And.right (And.right (And.right (And.right (And.right (And.right (And.right (And.right (And.right (And.right (And.right (And.right (And.right (by k_extra "a")))))))))))))))) : ∀ p ∈ news, p.1 < _) q hq) ((fmc ((by first | with_reducible assumption | exact allLt_iff.mp (by k_extra "a") | exact allLt_iff.mp (And.right (by k_extra "a")) | exact allLt_iff.mp (And.right (And.right (by k_extra "a"))) | exact allLt_iff.mp (And.right (And.right (And.right (by k_extra "a")))) | exact allLt_iff.mp (And.right (And.right (And.right (And.right (by k_extra "a"))))) | exact allLt_iff.mp (And.right (And.right (And.right (And.right (And.right (by k_extra "a")))))) | exact allLt_iff.mp (And.right (And.right (And.right (And.right (And.right (And.right (by k_extra "a"))))))) | exact allLt_iff.mp (And.right (And.right (And.right (And.right (And.right (And.right (And.right (by k_extra "a")))))))) | exact allLt_iff.mp (And.right (And.right (And.right (And.right (And.right (And.right (And.right (And.right (by k_extra "a"))))))))) | exact allLt_iff.mp (And.right (And.right (And.right (And.right (And.right (And.right (And.right (And.right (And.right (by k_extra "a")))))))))) | exact allLt_iff.mp (And.right (And.right (And.right (And.right (And.right (And.right (And.right (And.right (And.right (And.right (by k_extra "a"))))))))))) | exact allLt_iff.mp (And.right (And.right (And.right (And.right (And.right (And.right (And.right (And.right (And.right (And.right (And.right (by k_extra "a")))))))))))) | exact allLt_iff.mp (And.right (And.right (And.right (And.right (And.right (And.right (And.right (And.right (And.right (And.right (And.right (And.right (by k_extra "a"))))))))))))) | exact allLt_iff.mp (And.right (And.right (And.right (And.right (And.right (And.right (And.right (And.right (And.right (And.right (And.right (And.right (And.right (by k_extra "a")))))))))))))) | exact allLt_iff.mp (And.right (And.right (And.right (And.right (And.right (And.right (And.right (And.right (And.right (And.right (And.right (And.right (And.right (And.right (by k_extra "a"))))))))))))))) | exact allLt_iff.mp (And.right (And.right (And.right (And.right (And.right (And.right (And.right (And.right (And.right (And.right (And.right (And.right (And.right (And.right (And.right (by k_extra "a")))))))))))))))) : ∀ p ∈ news, p.1 < _) q hq) ((fmc ((by first | with_reducible assumption | exact allLt_iff.mp (by k_extra "a") | exact allLt_iff.mp (And.right (by k_extra "a")) | exact allLt_iff.mp (And.right (And.right (by k_extra "a"))) | exact allLt_iff.mp (And.right (And.right (And.right (by k_extra "a")))) | exact allLt_iff.mp (And.right (And.right (And.right (And.right (by k_extra "a"))))) | exact allLt_iff.mp (And.right (And.right (And.right (And.right (And.right (by k_extra "a")))))) | exact allLt_iff.mp (And.right (And.right (And.right (And.right (And.right (And.right (by k_extra "a"))))))) | exact allLt_iff.mp (And.right (And.right (And.right (And.right (And.right (And.right (And.right (by k_extra "a")))))))) | exact allLt_iff.mp (And.right (And.right (And.right (And.right (And.right (And.right (And.right (And.right (by k_extra "a"))))))))) | exact allLt_iff.mp (And.right (And.right (And.right (And.right (And.right (And.right (And.right (And.right (And.right (by k_extra "a")))))))))) | exact allLt_iff.mp (And.right (And.right (And.right (And.right (And.right (And.right (And.right (And.right (And.right (And.right (by k_extra "a"))))))))))) | exact allLt_iff.mp (And.right (And.right (And.right (And.right (And.right (And.right (And.right (And.right (And.right (And.right (And.right (by k_extra "a")))))))))))) | exact allLt_iff.mp (And.right (And.right (And.right (And.right (And.right (And.right (And.right (And.right (And.right (And.right (And.right (And.right (by k_extra "a"))))))))))))) | exact allLt_iff.mp (And.right (And.right (And.right (And.right (And.right (And.right (And.right (And.right (And.right (And.right (And.right (And.right (And.right (by k_extra "a")))))))))))))) | exact allLt_iff.mp (And.right (And.right (And.right (And.right (And.right (And.right (And.right (And.right (And.right (And.right (And.right (And.right (And.right (And.right (by k_extra "a"))))))))))))))) | exact allLt_iff.mp (And.right (And.right (And.right (And.right (And.right (And.right (And.right (And.right (And.right (And.right (And.right (And.right (And.right (And.right (And.right (by k_extra "a")))))))))))))))) : ∀ p ∈ news, p.1 < _) q hq) (List.forall_mem_nil _))))))))))))))))))))))))))))))))
 k_extra "q"
end
theorem reg125 : True := by
  k_with ".call ref" => ((k_here; (with_reducible show wpAny _ _ (call (Value.ref 420) _) _ _ _); k_dflt (refine' heads_c ?kB ?kF ?kX ?kN ?kT ?kK ?zkd ?zku  ?_; (k_extra "kq"); (case zkd => k_extra "my room"); (case zku => k_extra "my room"); ((try dsimp only); (k_extra "h4"); generalize p4_1 T9 = v, p4_2 T9 = new, p4_3 T9 = h', p4_4 T9 = tk'; clear T9; (first | revert v new h' tk' | ((try revert tk'); (try revert h'); (try revert new); (try revert v))); intros; (try k_sweep); (try (k_extra "kf"))))))
  trivial
structure AtV (C : Value → Prop) (x : Str) (h₀ : Heap) (L : Addr) (m : Str → Option Value) (news : List (Addr × Obj)) (s : Shared) (f : Flow) (s' : Shared) : Prop where
  next : f = .next
  here : ∃ v h tk, C v ∧ s' = { s with heap := h, toks := tk } ∧ Fr h₀ L h (fun y => if y = x then some v else m y) ∧ News h₀ L h news
section
variable {M : Model} {A : Around} {E : Value → Shared → Prop} {s : Shared} {env : Env} {h₀ h : Heap} {L : Addr} {m : Str → Option Value} {news : List (Addr × Obj)}
theorem AtV.set {C : Value → Prop} {x : Str} {v : Value} {tk : Nat} (hc : C v) (F : Fr h₀ L h (fun y => if y = x then some v else m y)) (N : News h₀ L h news) : AtV C x h₀ L m news s .next { s with heap := h, toks := tk } := ⟨rfl, v, h, tk, hc, rfl, F, N⟩
theorem AtV.same {C : Value → Prop} {x : Str} {v : Value} {tk : Nat} (hm : m x = some v) (hc : C v) (F : Fr h₀ L h m) (N : News h₀ L h news) : AtV C x h₀ L m news s .next { s with heap := h, toks := tk } := by
  refine ⟨rfl, v, h, tk, hc, rfl, ?_, N⟩
  have e : (fun y => if y = x then some v else m y) = m := by
    funext y
    by_cases hy : y = x
    · rw [if_pos hy, hy, hm]
    · rw [if_neg hy]
  rw [e]; exact F
theorem at_v (C : Value → Prop) (x : Str) {st : Stmt} {Q : Flow → Shared → Prop} (F : Fr h₀ L s.heap m) (N : News h₀ L s.heap news)
    (h1 : wpAny M A (exec st env) (AtV C x h₀ L m news s) E s)
    (h2 : ∀ v h tk, C v → Fr h₀ L h (fun y => if y = x then some v else m y) → News h₀ L h news → Q .next { s with heap := h, toks := tk }) : wpAny M A (exec st env) Q E s :=
  wpAny_mono h1 (fun f s' q => by obtain ⟨rfl, i, h, tk, c, rfl, F', N'⟩ := q; exact h2 i h tk c F' N') fun _ _ x => x
end
noncomputable def rowTx (y : Str) (q : Int) : Str := if q = 2 then Str.ofString "EOTz" ++ y else y
noncomputable def mRowOf (d y : Str) (q : Int) : Str × Str × Str :=
  if (y == Str.ofString "") = true then (y, Txt.slice d none (some q), Str.ofString "")
  else if q = 7 ∧ (d != Str.ofString "") = true ∧ (Txt.item y 0 != Str.ofString " ") = true then (y, Txt.slice d (some 1) none ++ y, whyL d)
  else if q = 8 ∧ (d != Str.ofString "") = true then (y, (if (Txt.item d 0 == Str.ofString " ") = true then Str.ofString "\t" else Str.ofString " ") ++ Txt.slice d (some 1) none ++ y, whyM)
  else (y, d ++ y, Str.ofString "")
noncomputable def mRowSort (p : Int) (ns : List Int) : Int := (((ns.length : Int).fmod 3) + (mPen 25 p ns.length).fmod 9).fmod 9
noncomputable def mRow (p : Int) (ns : List Int) (d : Str) : Str × Str × Str := mRowOf d (rowTx (mText 25 p ns) (mRowSort p ns)) (mRowSort p ns)
theorem text_le (many p : Int) (ns : List Int) : (mText many p ns).length ≤ 9 * ns.length := by
  unfold mText; rw [join_len]; exact mDraws_sum many ns p
theorem rowTx_le (y : Str) (q : Int) : (rowTx y q).length ≤ y.length + 4 := by
  unfold rowTx; split
  · rw [Str.length_append, show (Str.ofString "EOTz").length = 4 by decide]; omega
  · omega
theorem nonempty_pos {y : Str} (h : ¬ (y == Str.ofString "") = true) : 0 < y.length := by
  apply Nat.pos_of_ne_zero
  intro e
  obtain ⟨⟨l⟩⟩ := y
  have : l = [] := List.eq_nil_of_length_eq_zero e
  subst this
  exact h (by decide)
theorem ne_pos {y : Str} (h : (y != Str.ofString "") = true) : 0 < y.length := nonempty_pos (fun z => by rw [bne, z] at h; cases h)
section
variable {d y : Str} {q : Int}
theorem rowOf1 (h : (y == Str.ofString "") = true) : mRowOf d y q = (y, Txt.slice d none (some q), Str.ofString "") := by unfold mRowOf; exact if_pos h
theorem rowOf2 (h : ¬ (y == Str.ofString "") = true) (h2 : q = 7 ∧ (d != Str.ofString "") = true ∧ (Txt.item y 0 != Str.ofString " ") = true) : mRowOf d y q = (y, Txt.slice d (some 1) none ++ y, whyL d) := by
  unfold mRowOf; rw [if_neg h]; exact if_pos h2
theorem rowOf3 (h : ¬ (y == Str.ofString "") = true) (h2 : ¬ (q = 7 ∧ (d != Str.ofString "") = true ∧ (Txt.item y 0 != Str.ofString " ") = true)) (h3 : q = 8 ∧ (d != Str.ofString "") = true) {o : Str} (ho : o = if (Txt.item d 0 == Str.ofString " ") = true then Str.ofString "\t" else Str.ofString " ") :
    mRowOf d y q = (y, o ++ Txt.slice d (some 1) none ++ y, whyM) := by
  subst ho; unfold mRowOf; rw [if_neg h, if_neg h2]; exact if_pos h3
theorem rowOf4 (h : ¬ (y == Str.ofString "") = true) (h2 : ¬ (q = 7 ∧ (d != Str.ofString "") = true ∧ (Txt.item y 0 != Str.ofString " ") = true)) (h3 : ¬ (q = 8 ∧ (d != Str.ofString "") = true)) : mRowOf d y q = (y, d ++ y, Str.ofString "") := by
  unfold mRowOf; rw [if_neg h, if_neg h2]; exact if_neg h3
end
theorem fillF12 {w : World} {h₀ : Heap} (h : PySem.Challenge.rw_pq0846_01.row.prog = PySem.Challenge.rw_pq0846_01.row.prog) (X : (hd.heap_39 w.params).In h₀) : (hd.heap_39 w.params).In h₀ := by
  revert h X; k_fill; intro h X; exact X
theorem row_c : ∀ {w : World} {mean mg mb} {dp un : Nat} {gd cn} {cs : Scope} {a ccd cl} {outer : List Env} {A₀ base h₀ L m} {s : Shared} {hp tk0 news} {Q E : Value → Shared → Prop} {l t : Addr} {p : Int} {tp : Tok} {nn n2 : Nat} {ts : List Value} {d : Str} {td : Tok} {ns : List Int} (B : Below A₀ base outer h₀) (F : Fr h₀ L hp m) (X : (hd.heap_39 w.params).In h₀) (N : News h₀ L hp ((l, W.listOf [Value.int p tp].toArray nn) :: (t, W.listOf ts.toArray n2) :: news)) (T : Top hd.view_39 (looseW hd.view_39 []) mean mg mb h₀) (hk : cs.kind = .function) (hdp : dp + 40 < recursionLimit) (hun : un + 320 < cLine) (hlt : t ≠ l) (hl : ∀ p ∈ news, p.1 ≠ l) (hi : IntsAre ts ns) (hn : ns.length ≤ 20) (hdl : d.length ≤ 8)
  (hret : ∀ r x y z k1 k2 k3 k4 h' tk', mRow p ns d = (x, y, z) → Fr h₀ L h' m → News h₀ L h' ((r, tupObj [.str x k2, .str y k3, .str z k4]) :: (l, W.listOf [Value.int ((mPen 25 p ns.length).fdiv 9) k1].toArray nn) :: (t, W.listOf ts.toArray n2) :: news) → (∀ q ∈ (l, W.listOf [Value.int ((mPen 25 p ns.length).fdiv 9) k1].toArray nn) :: (t, W.listOf ts.toArray n2) :: news, q.1 < r) → Q (.ref r) { s with heap := h', toks := tk' }),
  wpAny (model PySem.Challenge.rw_pq0846_01.row.prog w) (ktrTop dp un gd cn cs L a ccd cl outer) (call (.ref 427) [.ref l, .ref t, .str d td]) Q E { s with heap := hp, toks := tk0 } := by
 k_with "w" =>
  (k_extra "cp")
  (k_extra "n8"); generalize p8_1 T9 = l, p8_2 T9 = t, p8_3 T9 = p, p8_4 T9 = tp, p8_5 T9 = nn, p8_6 T9 = n2, p8_7 T9 = ts, p8_8 T9 = d; clear T9
  (k_extra "n2"); generalize p2_1 T9 = td, p2_2 T9 = ns; clear T9
  intro B F X N T hk hdp hun hlt hl hi hn hdl hret
  refine wpAny_call ?_
  k_dflt (k_extra "my enter")
  have hl2 : ∀ p ∈ (t, W.listOf ts.toArray n2) :: news, p.1 ≠ l := (fmc (hlt) (hl))
  have hts : ts.length = ns.length := hi.length
  have hyl : (mText 25 p ns).length ≤ 180 := Nat.le_trans (text_le _ _ _) (by omega)
  have hrl := rowTx_le (mText 25 p ns) (mRowSort p ns)
  have hmr : mRow p ns d = mRowOf d (rowTx (mText 25 p ns) (mRowSort p ns)) (mRowSort p ns) := id rfl
  repeat' (first | (k_extra "ka") | (k_extra "kb") | ((fail_if_success k_end); (k_extra "sI"); (k_extra "kc")))
  generalize mText 25 p ns = y0 at *
  expose_names
  generalize hq : (((ns.length : Int).fmod 3) + (mPen 25 p ns.length).fmod 9).fmod 9 = q at *
  rw [show mRowSort p ns = q from hq] at hmr hrl
  have hqB := Box.mk hq; clear hq
  refine at_v (fun v => ∃ t, v = .str (rowTx y0 q) t) (Str.ofString "row") (by k_asm) (by k_asm) ?_ ?_
  · repeat' (first | (k_extra "ka") | (k_extra "kb") | ((fail_if_success k_end); (k_extra "kc")))
    · exact AtV.set ⟨_, by unfold rowTx; rw [if_pos (by assumption)]⟩ (by k_asm) (by (k_extra "wh drop"))
    · exact AtV.same rfl ⟨_, by unfold rowTx; rw [if_neg (by assumption)]⟩ (by k_asm) (by (k_extra "wh drop"))
  (first | ((try dsimp only); (k_extra "h3"); generalize p3_1 T9 = v5, p3_2 T9 = h5, p3_3 T9 = tk5; clear T9; intro hv5 F5 N5) | intro v5 h5 tk5 hv5 F5 N5)
  obtain ⟨t5, rfl⟩ := hv5
  generalize rowTx y0 q = y at *
  repeat' (first | (k_extra "ka") | (k_extra "kb") | ((fail_if_success k_end); (k_extra "sI"); (k_extra "kc")))

  refine if_join ((y == Str.ofString "") = true) (by k_asm) (by k_asm) ?_ ?_ ?_
  · repeat' (first | (k_extra "ka") | (k_extra "kb") | ((fail_if_success k_end); (k_extra "kc")))
    all_goals first | (k_extra "jb") | (fail "open")
  · intro hP1; (try dsimp only); (k_extra "h2"); generalize p2_1 T9 = h', p2_2 T9 = tk'; clear T9; intro F' N'
    repeat' (first | (k_extra "ka") | (k_extra "kb") | ((fail_if_success k_end); (k_extra "kc")))
    exact hret _ _ _ _ _ _ _ _ _ _ (hmr.trans (rowOf1 hP1)) (by k_asm) (by (k_extra "wh drop1")) (by (k_extra "wh low"))
  intro hP1; (try dsimp only); (k_extra "h2"); generalize p2_1 T9 = h', p2_2 T9 = tk'; clear T9; intro F' N'
  have hpos := nonempty_pos hP1
  repeat' (first | (k_extra "ka") | (k_extra "kb") | ((fail_if_success k_end); (k_extra "sI"); (k_extra "kc")))
  refine if_join (q = 7 ∧ (d != Str.ofString "") = true ∧ (Txt.item y 0 != Str.ofString " ") = true) (by k_asm) (by k_asm) ?_ ?_ ?_
  · repeat' (first | (k_extra "ka") | (k_extra "kb") | ((fail_if_success k_end); (k_extra "kc")))
    all_goals first | (k_extra "jb") | (fail "open")
  · intro hP2; (try dsimp only); (k_extra "h2"); generalize p2_1 T9 = h', p2_2 T9 = tk'; clear T9; intro F' N'
    repeat' (first | (k_extra "ka") | (k_extra "kb") | ((fail_if_success k_end); (k_extra "kc")))
    exact hret _ _ _ _ _ _ _ _ _ _ (hmr.trans (rowOf2 hP1 hP2)) (by k_asm) (by (k_extra "wh drop1")) (by (k_extra "wh low"))
  intro hP2; (try dsimp only); (k_extra "h2"); generalize p2_1 T9 = h', p2_2 T9 = tk'; clear T9; intro F' N'
  repeat' (first | (k_extra "ka") | (k_extra "kb") | ((fail_if_success k_end); (k_extra "sI"); (k_extra "kc")))
  refine if_join (q = 8 ∧ (d != Str.ofString "") = true) (by k_asm) (by k_asm) ?_ ?_ ?_
  · repeat' (first | (k_extra "ka") | (k_extra "kb") | ((fail_if_success k_end); (k_extra "kc")))
    all_goals first | (k_extra "jb") | (fail "open")
  · intro hP3; (try dsimp only); (k_extra "h2"); generalize p2_1 T9 = h', p2_2 T9 = tk'; clear T9; intro F' N'
    have hdp := ne_pos hP3.2
    repeat' (first | (k_extra "ka") | (k_extra "kb") | ((fail_if_success k_end); (k_extra "kc")))
    all_goals first
    | exact hret _ _ _ _ _ _ _ _ _ _ (hmr.trans (rowOf3 hP1 hP2 hP3 (o := Str.ofString "\t") (by rw [if_pos (by k_extra "a")]))) (by k_asm) (by (k_extra "wh drop1")) (by (k_extra "wh low"))
    | exact hret _ _ _ _ _ _ _ _ _ _ (hmr.trans (rowOf3 hP1 hP2 hP3 (o := Str.ofString " ") (by rw [(by with_reducible assumption : (Txt.item d 0 == Str.ofString " ") = false)]; rfl))) (by k_asm) (by (k_extra "wh drop1")) (by (k_extra "wh low"))
    | (fail "open")
  intro hP3; (try dsimp only); (k_extra "h2"); generalize p2_1 T9 = h', p2_2 T9 = tk'; clear T9; intro F' N'
  repeat' (first | (k_extra "ka") | (k_extra "kb") | ((fail_if_success k_end); (k_extra "kc")))
  exact hret _ _ _ _ _ _ _ _ _ _ (hmr.trans (rowOf4 hP1 hP2 hP3)) (by k_asm) (by (k_extra "wh drop1")) (by (k_extra "wh low"))
 k_extra "q"
theorem reg126 : True := by
  k_with ".call ref" => ((k_here; (with_reducible show wpAny _ _ (call (Value.ref 427) _) _ _ _); k_dflt (refine' row_c ?kB ?kF ?kX ?kN ?kT ?kK ?zkd ?zku ?zkhlt ?zkhl ?zkhi ?zkhn ?zkhdl ?_; (k_extra "kq"); (case zkd => k_extra "my room"); (case zku => k_extra "my room"); (case zkhlt => k_extra "my side"); (case zkhl => k_extra "my side"); (case zkhi => k_extra "my side"); (case zkhn => k_extra "my side"); (case zkhdl => k_extra "my side"); ((try dsimp only); (k_extra "h10"); generalize p10_1 T9 = r, p10_2 T9 = x, p10_3 T9 = y, p10_4 T9 = z, p10_5 T9 = k1, p10_6 T9 = k2, p10_7 T9 = k3, p10_8 T9 = k4, p10_9 T9 = h', p10_10 T9 = tk'; clear T9; (first | revert r x y z k1 k2 k3 k4 h' tk' | ((try revert tk'); (try revert h'); (try revert k4); (try revert k3); (try revert k2); (try revert k1); (try revert z); (try revert y); (try revert x); (try revert r))); intros; (try k_sweep); (try (k_extra "kf"))))))
  trivial
section
variable {prog : Program} {w : World} {A : Around} {E : Value → Shared → Prop} {s : Shared} {env : Env} {h₀ : Heap} {target : Expr} {body : List Stmt} {Q : Flow → Shared → Prop}
theorem items_ind {ws : List (Addr × String)} {keep : List (Addr × Obj)} {σ : Type} (Led : σ → List (Addr × Obj)) (mm : σ → Str → Option Value) (J : List Value → σ → Prop)
    (step : ∀ v r c, J (v :: r) c → ∀ h tk, Fr h₀ env.locals h (mm c) → AllObj ws (fun its => News h₀ env.locals h (its ++ Led c) →
      wpAny (model prog w) A (assign target env v) (fun _ s₂ => wpAny (model prog w) A (execs body env) (UnrPostW h₀ env.locals { s with heap := h, toks := tk } its (fun m' n' => SubL keep n' ∧ ∃ c', m' = mm c' ∧ n' = Led c' ∧ J r c') Q) E s₂) E { s with heap := h, toks := tk }))
    (stop : ∀ c, J [] c → ∀ h tk, Fr h₀ env.locals h (mm c) → News h₀ env.locals h (Led c) → Q .next { s with heap := h, toks := tk }) :
    ∀ (vs : List Value) (c : σ), J vs c → ItemsRest prog w A E h₀ env target body Q s ws keep (vs.map .val) (mm c) (Led c) := by
 k_with "w" =>
  intro vs
  induction vs with
  | nil => intro c hJ; exact ItemsRest.zero (stop c hJ)
  | cons v r ih =>
    intro c hJ
    have all : ∀ (l : List (Addr × String)) (k k' : List (Addr × Obj) → Prop), (∀ its, k its → k' its) → AllObj l k → AllObj l k' := by
      intro l
      induction l with
      | nil => intro k k' hk h; exact hk _ h
      | cons p r ihl => intro k k' hk h o ho; exact ihl _ _ (fun its hi => hk _ hi) (h o ho)
    refine ItemsRest.val (fun h tk F => all _ _ _ (fun its q N => ?_) (step v r c hJ h tk F))
    refine wpAny_mono (q N) (fun _ s₂ h2 => wpAny_mono h2 (fun f s₃ h3 => ?_) fun _ _ e => e) fun _ _ e => e
    have up : UnrEndW h₀ env.locals { s with heap := h, toks := tk } its (fun m' n' => SubL keep n' ∧ ∃ c', m' = mm c' ∧ n' = Led c' ∧ J r c') s₃ → UnrEndW h₀ env.locals { s with heap := h, toks := tk } its (fun m' n' => SubL keep n' ∧ ItemsRest prog w A E h₀ env target body Q s ws keep (r.map .val) m' n') s₃ := by
      rintro ⟨h', tk', m', n', e, F', N', o, k, c', rfl, rfl, hJ'⟩
      exact ⟨h', tk', _, _, e, F', N', o, k, ih c' hJ'⟩
    cases f with
    | ret v => exact h3
    | brk => exact h3
    | next => exact up h3
    | cont => exact up h3
 k_extra "q"
theorem items_ind1 {I : Addr} {ty : String} {keep : List (Addr × Obj)} {σ : Type} (Led : σ → List (Addr × Obj)) (mm : σ → Str → Option Value) (J : List Value → σ → Prop)
    (step : ∀ v r c h tk o, J (v :: r) c → Fr h₀ env.locals h (mm c) → o.cls = .type ty → News h₀ env.locals h ((I, o) :: Led c) →
      wpAny (model prog w) A (assign target env v) (fun _ s₂ => wpAny (model prog w) A (execs body env) (UnrPostW h₀ env.locals { s with heap := h, toks := tk } [(I, o)] (fun m' n' => SubL keep n' ∧ ∃ c', m' = mm c' ∧ n' = Led c' ∧ J r c') Q) E s₂) E { s with heap := h, toks := tk })
    (stop : ∀ c h tk, J [] c → Fr h₀ env.locals h (mm c) → News h₀ env.locals h (Led c) → Q .next { s with heap := h, toks := tk }) :
    ∀ (vs : List Value) (c : σ), J vs c → ItemsRest prog w A E h₀ env target body Q s [(I, ty)] keep (vs.map .val) (mm c) (Led c) :=
  items_ind Led mm J (fun v r c hJ h tk F => AllObj.cons fun o ho => AllObj.nil fun N => step v r c h tk o hJ F ho N) fun c hJ h tk F N => stop c h tk hJ F N
end
theorem canon2 {x1 x2 : Str} {m m₀ : Str → Option Value} (h : ∀ z, z ≠ x1 → z ≠ x2 → m z = m₀ z) : (fun y => if y = x1 then m y else if y = x2 then m y else m₀ y) = m := by
  funext y
  by_cases h1 : y = x1
  · rw [if_pos h1]
  · by_cases h2 : y = x2
    · rw [if_neg h1, if_pos h2]
    · rw [if_neg h1, if_neg h2]; exact (h y h1 h2).symm
theorem reg127 : True := by
  k_with "wh mid" => (first | with_reducible assumption | with_reducible exact List.mem_cons_self | ((with_reducible refine List.mem_cons_of_mem _ ?_); (k_extra "wh mid")) | ((with_reducible refine List.mem_append_right _ ?_); (k_extra "wh mid")) | ((with_reducible refine List.mem_append_left _ ?_); (k_extra "wh mid")))
  k_with "mac7" => (((with_reducible show _ ∈ _); (k_extra "wh mid")))
  trivial
local macro_rules | `(tactic| k_mem) => `(tactic| k_extra "mac7")
theorem reg128 : True := by
  k_with ".call builtin:len" => ((k_here; (with_reducible show wpAny _ _ (call (Value.builtin "len") [Value.ref _]) _ _ _); k_dflt (refine' kst_len ?zk1 ?zk2 ?zk3 ?zk4 ?_; (case zk1 => k_asm); (case zk2 => k_mem); (case zk3 => with_reducible assumption); (case zk4 => omega))))
  trivial
theorem datIn_row {r : List (Addr × Obj)} {v : Value} {p : Str × Str × Str} (h : DatIn r v (.tuple [.str p.1, .str p.2.1, .str p.2.2])) : ∃ a k1 k2 k3 n, v = .ref a ∧ (a, tupN [Value.str p.1 k1, Value.str p.2.1 k2, Value.str p.2.2 k3] n) ∈ r := by
  obtain ⟨a, vs, n, e, hm, k⟩ := datIn_tuple h
  obtain ⟨v1, us, rfl, h1, k⟩ := datAll_cons k
  obtain ⟨v2, us, rfl, h2, k⟩ := datAll_cons k
  obtain ⟨v3, us, rfl, h3, k⟩ := datAll_cons k
  obtain rfl := datAll_nil' k
  obtain ⟨t1, rfl⟩ := datIn_str h1
  obtain ⟨t2, rfl⟩ := datIn_str h2
  obtain ⟨t3, rfl⟩ := datIn_str h3
  exact ⟨_, _, _, _, _, e, hm⟩
theorem optE {α : Type} (o : Option α) : o = none ∨ ∃ r, o = some r := by
  cases o with
  | none => exact .inl rfl
  | some r => exact .inr ⟨r, rfl⟩
theorem partsE (qs : List Part) : qs = [] ∨ (∃ z r, qs = .text z :: r) ∨ ∃ z n r, qs = .code z n :: r := by
  match qs with
  | [] => exact .inl rfl
  | .text z :: r => exact .inr (.inl ⟨z, r, rfl⟩)
  | .code z n :: r => exact .inr (.inr ⟨z, n, r, rfl⟩)
structure DS where
  vs : List Value
  n1 : Nat
  ps : List Part
structure LT where
  vs : List Value
  n1 : Nat
  dat : List (Addr × Obj)
  ps : List Part
  mm : Str → Option Value
  qs : List Part
theorem all_step (ne : Nonempty (Value × List Value × List Value × Nat × List (Addr × Obj) × List Part × (Str → Option Value) × List Part × Heap × Nat × Obj)) {G : Value → List Value → LT → Heap → Nat → Obj → Prop} (h : G (p11_1 (c11 ne fun v r x1 x2 x3 x4 x5 x6 h tk o => G v r ⟨x1, x2, x3, x4, x5, x6⟩ h tk o)) (p11_2 (c11 ne fun v r x1 x2 x3 x4 x5 x6 h tk o => G v r ⟨x1, x2, x3, x4, x5, x6⟩ h tk o)) ⟨p11_3 (c11 ne fun v r x1 x2 x3 x4 x5 x6 h tk o => G v r ⟨x1, x2, x3, x4, x5, x6⟩ h tk o), p11_4 (c11 ne fun v r x1 x2 x3 x4 x5 x6 h tk o => G v r ⟨x1, x2, x3, x4, x5, x6⟩ h tk o), p11_5 (c11 ne fun v r x1 x2 x3 x4 x5 x6 h tk o => G v r ⟨x1, x2, x3, x4, x5, x6⟩ h tk o), p11_6 (c11 ne fun v r x1 x2 x3 x4 x5 x6 h tk o => G v r ⟨x1, x2, x3, x4, x5, x6⟩ h tk o), p11_7 (c11 ne fun v r x1 x2 x3 x4 x5 x6 h tk o => G v r ⟨x1, x2, x3, x4, x5, x6⟩ h tk o), p11_8 (c11 ne fun v r x1 x2 x3 x4 x5 x6 h tk o => G v r ⟨x1, x2, x3, x4, x5, x6⟩ h tk o)⟩ (p11_9 (c11 ne fun v r x1 x2 x3 x4 x5 x6 h tk o => G v r ⟨x1, x2, x3, x4, x5, x6⟩ h tk o)) (p11_10 (c11 ne fun v r x1 x2 x3 x4 x5 x6 h tk o => G v r ⟨x1, x2, x3, x4, x5, x6⟩ h tk o)) (p11_11 (c11 ne fun v r x1 x2 x3 x4 x5 x6 h tk o => G v r ⟨x1, x2, x3, x4, x5, x6⟩ h tk o))) : ∀ v r c h tk o, G v r c h tk o := fun v r c h' tk o => all11 ne (G := fun v r x1 x2 x3 x4 x5 x6 h tk o => G v r ⟨x1, x2, x3, x4, x5, x6⟩ h tk o) h v r c.vs c.n1 c.dat c.ps c.mm c.qs h' tk o
theorem all_stop (ne : Nonempty (List Value × Nat × List (Addr × Obj) × List Part × (Str → Option Value) × List Part × Heap × Nat)) {G : LT → Heap → Nat → Prop} (h : G ⟨p8_1 (c8 ne fun x1 x2 x3 x4 x5 x6 h tk => G ⟨x1, x2, x3, x4, x5, x6⟩ h tk), p8_2 (c8 ne fun x1 x2 x3 x4 x5 x6 h tk => G ⟨x1, x2, x3, x4, x5, x6⟩ h tk), p8_3 (c8 ne fun x1 x2 x3 x4 x5 x6 h tk => G ⟨x1, x2, x3, x4, x5, x6⟩ h tk), p8_4 (c8 ne fun x1 x2 x3 x4 x5 x6 h tk => G ⟨x1, x2, x3, x4, x5, x6⟩ h tk), p8_5 (c8 ne fun x1 x2 x3 x4 x5 x6 h tk => G ⟨x1, x2, x3, x4, x5, x6⟩ h tk), p8_6 (c8 ne fun x1 x2 x3 x4 x5 x6 h tk => G ⟨x1, x2, x3, x4, x5, x6⟩ h tk)⟩ (p8_7 (c8 ne fun x1 x2 x3 x4 x5 x6 h tk => G ⟨x1, x2, x3, x4, x5, x6⟩ h tk)) (p8_8 (c8 ne fun x1 x2 x3 x4 x5 x6 h tk => G ⟨x1, x2, x3, x4, x5, x6⟩ h tk))) : ∀ c h tk, G c h tk := fun c h' tk => all8 ne (G := fun x1 x2 x3 x4 x5 x6 h tk => G ⟨x1, x2, x3, x4, x5, x6⟩ h tk) h c.vs c.n1 c.dat c.ps c.mm c.qs h' tk
theorem ne_DS : Nonempty DS := ⟨⟨[], 0, []⟩⟩
theorem all_DS {G : DS → Prop} (h : G ⟨(c1 ne_DS G).vs, (c1 ne_DS G).n1, (c1 ne_DS G).ps⟩) : ∀ c, G c := all1 ne_DS h
theorem fr_map {g h : Heap} {L : Addr} {m : Str → Option Value} (F : Fr g L h m) : ∃ m0, m0 = m ∧ Fr g L h m0 := ⟨m, rfl, F⟩
theorem datIn_codeT {r : List (Addr × Obj)} {v : Value} {x : Str} {d : Dat} (h : DatIn r v (.tuple [.str x, d])) : ∃ a k1 v2 n, v = .ref a ∧ (a, tupN [Value.str x k1, v2] n) ∈ r ∧ DatIn r v2 d := datIn_codepair h
theorem datIn_textT {r : List (Addr × Obj)} {v : Value} {x y : Str} (h : DatIn r v (.tuple [.str x, .str y])) : ∃ a k1 k2 n, v = .ref a ∧ (a, tupN [Value.str x k1, Value.str y k2] n) ∈ r := datIn_pair h
section
variable {prog : Program} {w : World} {A : Around} {E : Value → Shared → Prop} {s : Shared} {h₀ : Heap} {L : Addr} {m : Str → Option Value} {news news' : List (Addr × Obj)}
theorem pop_last {D : Addr} {us : List Value} {y : Value} {n : Nat} {Q : Value → Shared → Prop} (F : Fr h₀ L s.heap m) (N : News h₀ L s.heap news) (U : Upd D (W.listOf (us ++ [y]).toArray n) (W.listOf us.toArray (n + 1)) news news') (hz : us.length ≤ 1000000)
    (h : ∀ h', Fr h₀ L h' m → News h₀ L h' news' → Q y { s with heap := h' }) : wpAny (model prog w) A (call (.builtin "list.pop") [.ref D]) Q E s :=
  kl_pop F N (by rw [List.toList_toArray]; exact kpa_last y us) U (by rw [List.toList_toArray, List.length_append, List.length_singleton, sizeLine_eq]; omega) h
end
theorem reg129 : True := by
  k_with ".call builtin:list.pop" => ((((k_here; (with_reducible show wpAny _ _ (call (Value.builtin "list.pop") _) _ _ _); k_dflt (refine' pop_last ?zk1 ?zk2 ?zk3 ?zk4 ?_; (case zk1 => k_asm); (case zk2 => k_asm); (case zk3 => k_upd); (case zk4 => omega); k_whole); (k_extra "h1"); (try generalize c1 _ _ = h'); intro F' N'; (try k_sweep))); (try revert h'); intros))
  trivial
inductive GotAt (g : Heap) (L : Addr) (m : Str → Option Value) (base : List (Addr × Obj)) (s : Shared) (C : List Part → Prop) (D : Str → Int → Prop) : Flow → Shared → Prop where
  | told {r la : Addr} {vs : List Value} {nn : Nat} {j : Int} {data : List (Addr × Obj)} {qs : List Part} {k1 k2 : Tok} {h : Heap} {tk : Nat} (hc : C qs) (D2 : DatAll data vs (qs.map Part.dat)) (hb : ∀ p ∈ base, p.1 < la ∧ ∀ q ∈ data, p.1 < q.1) (F : Fr g L h (fun y => if y = Str.ofString "got" then some (.ref r) else m y)) (N : News g L h ((r, tupObj [.str (Str.ofString "told") k1, .ref la, .int j k2]) :: (la, W.listOf vs.toArray nn) :: (data ++ base))) : GotAt g L m base s C D .next { s with heap := h, toks := tk }
  | refused {r : Addr} {y : Str} {n : Int} {k1 k2 k3 : Tok} {h : Heap} {tk : Nat} (hd : D y n) (F : Fr g L h (fun y => if y = Str.ofString "got" then some (.ref r) else m y)) (N : News g L h ((r, tupObj [.str (Str.ofString "refused") k1, .str y k2, .int n k3]) :: base)) : GotAt g L m base s C D .next { s with heap := h, toks := tk }
theorem GotAt.raw {g : Heap} {L : Addr} {m : Str → Option Value} {base rest : List (Addr × Obj)} {s : Shared} {C : List Part → Prop} {D : Str → Int → Prop} {r la d2 : Addr} {nn : Nat} {j : Int} {k1 k2 q1 q2 : Tok} {y : Str} {h : Heap} {tk : Nat}
    (N : News g L h ((r, tupObj [.str (Str.ofString "told") k1, .ref la, .int j k2]) :: (la, W.listOf [Value.ref d2].toArray nn) :: (d2, tupObj [.str (Str.ofString "text") q1, .str y q2]) :: rest)) (hs : ∀ p ∈ base, p ∈ rest) (h1 : ∀ p ∈ rest, p.1 < d2) (h2 : d2 < la) (hc : C [Part.text y]) (F : Fr g L h (fun y => if y = Str.ofString "got" then some (.ref r) else m y)) : GotAt g L m base s C D .next { s with heap := h, toks := tk } :=
  GotAt.told (data := [(d2, tupObj [.str (Str.ofString "text") q1, .str y q2])]) hc (DatAll.one (DatIn.tuple List.mem_cons_self (DatAll.cons (DatIn.str _ _) (DatAll.cons (DatIn.str _ _) .nil)))) (fun p hp => ⟨Nat.lt_trans (h1 p (hs p hp)) h2, fun q hq => by rw [List.mem_singleton.mp hq]; exact h1 p (hs p hp)⟩) F (cb_drop N (by
    refine (fmc (List.mem_cons_self) ((fmc (List.mem_cons_of_mem _ List.mem_cons_self) ((fma (fun p hp => ?_) (fun p hp => List.mem_cons_of_mem _ (List.mem_cons_of_mem _ (List.mem_cons_of_mem _ (hs p hp)))))))))
    rw [List.mem_singleton.mp hp]; exact List.mem_cons_of_mem _ (List.mem_cons_of_mem _ List.mem_cons_self)))
theorem got_cut {M : Model} {A : Around} {E : Value → Shared → Prop} {s : Shared} {env : Env} {g : Heap} {L : Addr} {m : Str → Option Value} (base : List (Addr × Obj)) (C : List Part → Prop) (D : Str → Int → Prop) {st : Stmt} {Q : Flow → Shared → Prop} (F : Fr g L s.heap m)
    (h1 : wpAny M A (exec st env) (GotAt g L m base s C D) E s)
    (h2 : ∀ (r la : Addr) (vs : List Value) (nn : Nat) (j : Int) (data : List (Addr × Obj)) (qs : List Part) (k1 k2 : Tok) (h : Heap) (tk : Nat), C qs → DatAll data vs (qs.map Part.dat) → (∀ p ∈ base, p.1 < la ∧ ∀ q ∈ data, p.1 < q.1) → Fr g L h (fun y => if y = Str.ofString "got" then some (.ref r) else m y) → News g L h ((r, tupObj [.str (Str.ofString "told") k1, .ref la, .int j k2]) :: (la, W.listOf vs.toArray nn) :: (data ++ base)) → Q .next { s with heap := h, toks := tk })
    (h3 : ∀ (r : Addr) (y : Str) (n : Int) (k1 k2 k3 : Tok) (h : Heap) (tk : Nat), D y n → Fr g L h (fun y => if y = Str.ofString "got" then some (.ref r) else m y) → News g L h ((r, tupObj [.str (Str.ofString "refused") k1, .str y k2, .int n k3]) :: base) → Q .next { s with heap := h, toks := tk }) : wpAny M A (exec st env) Q E s :=
  wpAny_mono h1 (fun _ _ q => by
    cases q with
    | told hc D2 hb F N => exact h2 _ _ _ _ _ _ _ _ _ _ _ hc D2 hb F N
    | refused hd F N => exact h3 _ _ _ _ _ _ _ _ hd F N) fun _ _ x => x
noncomputable def mAdd (ps : List Part) : Part → List Part
  | .text y => mPut ps y
  | .code y n => ps ++ [.code y n]
@[reducible] def DueJ (I l : Addr) (data2 tl low : List (Addr × Obj)) (m0 : Str → Option Value) (W Ln : Nat) (fin : List Part) (r : List Value) (c : LT) : Prop :=
  DatAll data2 r (c.qs.map Part.dat) ∧ c.qs.foldl mAdd c.ps = fin ∧ DatAll (c.dat ++ data2) c.vs (c.ps.map Part.dat) ∧ (∀ p ∈ c.dat, p ∈ data2 ++ tl ∨ (I < p.1 ∧ l < p.1 ∧ ∀ q ∈ tl ++ low, q.1 < p.1)) ∧ psW c.ps + psW c.qs ≤ W ∧ c.ps.length + c.qs.length ≤ Ln ∧ ∀ z, z ≠ Str.ofString "sort" → z ≠ Str.ofString "part" → c.mm z = m0 z
noncomputable def dRow (p : Str × Str × Str) : Dat := .tuple [.str p.1, .str p.2.1, .str p.2.2]
noncomputable def mDue (raw : Bool) (K : Nat) : List (Str × Str × Str) → Int → List Part → Option (Except (Str × Int) (List Part))
  | [], _, ps => some (.ok ps)
  | (x, _, y) :: r, n, ps =>
    if (y != Str.ofString "") = true then some (.error (y, n))
    else if raw = true then mDue raw K r (n + 1) (mPut ps (x ++ Str.ofString "\n"))
    else match mRead (x ++ Str.ofString "\n") (Str.ofString "") n K 0 [] with
      | none => none
      | some (.error e) => some (.error e)
      | some (.ok (qs, _)) => mDue raw K r (n + 1) (qs.foldl mAdd ps)
theorem mDue_nil (raw : Bool) (K : Nat) (n : Int) (ps : List Part) : mDue raw K [] n ps = some (.ok ps) := id rfl
theorem mDue_cons (raw : Bool) (K : Nat) (x u y : Str) (r : List (Str × Str × Str)) (n : Int) (ps : List Part) : mDue raw K ((x, u, y) :: r) n ps = (if (y != Str.ofString "") = true then some (.error (y, n))
    else if raw = true then mDue raw K r (n + 1) (mPut ps (x ++ Str.ofString "\n"))
    else match mRead (x ++ Str.ofString "\n") (Str.ofString "") n K 0 [] with
      | none => none
      | some (.error e) => some (.error e)
      | some (.ok (qs, _)) => mDue raw K r (n + 1) (qs.foldl mAdd ps)) := id rfl
theorem mDue_consR (raw : Bool) (K : Nat) (p : Str × Str × Str) (r : List (Str × Str × Str)) (n : Int) (ps : List Part) : mDue raw K (p :: r) n ps = (if (p.2.2 != Str.ofString "") = true then some (.error (p.2.2, n))
    else if raw = true then mDue raw K r (n + 1) (mPut ps (p.1 ++ Str.ofString "\n"))
    else match mRead (p.1 ++ Str.ofString "\n") (Str.ofString "") n K 0 [] with
      | none => none
      | some (.error e) => some (.error e)
      | some (.ok (qs, _)) => mDue raw K r (n + 1) (qs.foldl mAdd ps)) := id rfl
noncomputable def mFin (ps : List Part) : List Part := match ps.getLast? with
  | some (.text z) => if (Txt.slice z none (some (-1)) != Str.ofString "") = true then ps.dropLast ++ [.text (Txt.slice z none (some (-1)))] else ps.dropLast
  | _ => ps
theorem mFin_text (qs : List Part) (y : Str) : mFin (qs ++ [.text y]) = if (Txt.slice y none (some (-1)) != Str.ofString "") = true then qs ++ [.text (Txt.slice y none (some (-1)))] else qs := by unfold mFin; simp
theorem mRead_w (x q : Str) (n : Int) : ∀ (k : Nat) (i : Int) (ps qs : List Part) (j : Int), 0 ≤ i → mRead x q n k i ps = some (.ok (qs, j)) → psW qs ≤ psW ps + 4 * k ∧ qs.length ≤ ps.length + k := by
 k_with "w" =>
  intro k
  induction k with
  | zero => intro i ps qs j _ h; rw [mRead_zero] at h; cases h
  | succ k ih =>
    intro i ps qs j h0 h
    rw [mRead_succ] at h
    by_cases c1 : i < x.length ∧ (Txt.item x i != q) = true
    · rw [if_pos c1] at h
      by_cases c2 : (Txt.slice x (some i) (some (i + 2)) == Str.ofString "{$") = true
      · rw [if_pos c2] at h
        have := ih _ _ _ _ (lexEnd_nn _ _) h
        rw [psW_app, List.length_append, List.length_singleton] at this
        simp only [psW] at this
        omega
      · rw [if_neg c2] at h
        by_cases c3 : (Txt.item x i == Str.ofString "\\") = true
        · rw [if_pos c3] at h
          by_cases c4 : (mLEsc x i q).2 < 0
          · rw [if_pos c4] at h; cases h
          · rw [if_neg c4] at h
            have := ih _ _ _ _ (by omega) h
            have e := lesc_len (y := (mLEsc x i q).1) (j := (mLEsc x i q).2) h0 rfl (by omega)
            have := psW_put ps (mLEsc x i q).1
            have := put_len ps (mLEsc x i q).1
            omega
        · rw [if_neg c3] at h
          have := ih _ _ _ _ (by omega) h
          have := psW_put ps (Txt.item x i)
          have := put_len ps (Txt.item x i)
          have := item_len x i
          omega
    · rw [if_neg c1] at h
      by_cases c5 : (q != Str.ofString "") = true ∧ i = x.length
      · rw [if_pos c5] at h; cases h
      · rw [if_neg c5] at h; cases h; omega
 k_extra "q"
theorem fillF13 {w : World} {h₀ : Heap} (h : PySem.Challenge.rw_pq0846_01.row.prog = PySem.Challenge.rw_pq0846_01.row.prog) (X : (hd.heap_39 w.params).In h₀) : (hd.heap_39 w.params).In h₀ := by
  revert h X; k_fill; intro h X; exact X
section
variable {w : World} {mean mg mb} {dp un : Nat} {gd cn} {cs : Scope} {a ccd cl} {outer : List Env} {A₀ base h₀ L m} {s : Shared} {hp tk0 news} {Q E : Value → Shared → Prop}
 (B : Below A₀ base outer h₀) (F : Fr h₀ L hp m) (X : (hd.heap_39 w.params).In h₀) (N : News h₀ L hp news) (T : Top hd.view_39 (looseW hd.view_39 []) mean mg mb h₀) (hk : cs.kind = .function)
include B F X N T hk
theorem due_c {ra : Addr} {rvs : List Value} {rn : Nat} {rd : List (Addr × Obj)} {rs : List (Str × Str × Str)} {n : Int} {tn : Tok} {b : Bool} {R : Except (Str × Int) (List Part)} (K : Nat) (hdp : dp + 60 < recursionLimit) (hun : un + 480 < cLine) (hra : (ra, W.listOf rvs.toArray rn) ∈ news) (hrD : DatAll rd rvs (rs.map dRow)) (hrd : ∀ p ∈ rd, p ∈ news) (hK : K ≤ 2000) (hrl : rs.length ≤ 4) (hrx : ∀ p ∈ rs, p.1.length ≤ 200 ∧ p.2.1.length ≤ 300 ∧ p.2.2.length ≤ 200) (hR : mDue b K rs n [] = some R) (hfin : ∀ ps, R = .ok ps → ps = [] ∨ ∃ qs y, ps = qs ++ [.text y])
  (hret : ∀ ps r pa vs n1 data k1 k2 h' tk', R = .ok ps → DatAll data vs ((mFin ps).map Part.dat) → Fr h₀ L h' m → News h₀ L h' ((r, tupObj [.str "told" k1, .ref pa, .int 0 k2]) :: (pa, W.listOf vs.toArray n1) :: (data ++ news)) → Q (.ref r) { s with heap := h', toks := tk' })
  (href : ∀ y n' r k1 k2 k3 h' tk', R = .error (y, n') → Fr h₀ L h' m → News h₀ L h' ((r, tupObj [.str "refused" k1, .str y k2, .int n' k3]) :: news) → Q (.ref r) { s with heap := h', toks := tk' }) :
  wpAny (model PySem.Challenge.rw_pq0846_01.row.prog w) (ktrTop dp un gd cn cs L a ccd cl outer) (call (.ref 434) [.ref ra, .bool b, .int n tn]) Q E { s with heap := hp, toks := tk0 } := by
 k_with "w" =>
  revert B F X N T hk hdp hun hra hrD hrd hK hrl hrx hR hfin hret href
  revert w mean mg mb dp un gd cn cs a ccd cl outer A₀ base h₀ L m s hp tk0 news Q E ra rvs rn rd rs n tn b R K
  (k_extra "cp")
  (k_extra "n8"); generalize p8_1 T9 = ra, p8_2 T9 = rvs, p8_3 T9 = rn, p8_4 T9 = rd, p8_5 T9 = rs, p8_6 T9 = n, p8_7 T9 = tn, p8_8 T9 = b; clear T9
  (k_extra "n2"); generalize p2_1 T9 = R, p2_2 T9 = K; clear T9
  intro B F X N T hk hdp hun hra hrD hrd hK hrl hrx hR hfin hret href
  have hrvl := hrD.length
  rw [List.length_map] at hrvl
  have hrw : rs.length ≤ 1000000 := Nat.le_trans hrl (by decide)
  have hrB := Box.mk hrl
  clear hrl
  refine wpAny_call ?_
  k_dflt (k_extra "my enter")
  repeat' (first | (k_extra "ka") | (k_extra "kb") | ((fail_if_success k_end); (k_extra "sP"); (k_extra "kc")))
  expose_names
  refine kd_range (n := rs.length) (fun c : DS => (l', W.listOf c.vs.toArray c.n1) :: news) [] (fun _ => []) (fun r c => DatAll r c.vs (c.ps.map Part.dat)) [Str.ofString "row", Str.ofString "written", Str.ofString "why", Str.ofString "got", Str.ofString "sort", Str.ofString "part"]
    (fun pre c => psW c.ps ≤ 8500 * pre.length ∧ c.ps.length ≤ 2001 * pre.length ∧ mDue b K (rs.drop pre.length) (n + pre.length) c.ps = some R) (l' :: news.map (·.1)) ⟨[], 0, []⟩
    (by rfl) (by assumption) (small_one (by omega) (by omega) (by omega) (by omega)) (rangeSize_nat _ _) (by k_asm) (by k_asm) (by (try dsimp only); simp only [List.append_nil]; exact fun _ h => h) (fun c => by simp) .nil (by (k_extra "wh keep")) ⟨by simp [psW], by simp, by simpa using hR⟩ ?_ ?_
  · (try dsimp only); with_reducible refine (all_DS ?_); generalize c1 _ _ = T9; generalize DS.vs T9 = vs, DS.n1 T9 = n1, DS.ps T9 = ps; clear T9; (k_extra "h8"); generalize p8_1 T9 = tl, p8_2 T9 = pre', p8_3 T9 = j, p8_4 T9 = t', p8_5 T9 = u', p8_6 T9 = h', p8_7 T9 = tk', p8_8 T9 = own; clear T9; intro e1 e2 hsep hoff I1 I' F' N'; (try dsimp only [envOf] at F' N'); (try dsimp only at I1 I' F' N' ⊢); obtain ⟨I3, I4, I5⟩ := I'
    rw [List.nil_append] at I1
    have hrl := hrB.out
    have hex : ∃ (row : Str × Str × Str) (v : Value), rvs[pre'.length]? = some v ∧ DatIn rd v (dRow row) ∧ (row.1.length ≤ 200 ∧ row.2.1.length ≤ 300 ∧ row.2.2.length ≤ 200) ∧ rs.drop pre'.length = row :: rs.drop (pre'.length + 1) := by
      obtain ⟨v, hv1, hv2⟩ := hrD.get (k := pre'.length) (by rw [List.length_map]; omega)
      rw [List.getElem_map] at hv2
      exact ⟨_, v, hv1, hv2, hrx _ (List.getElem_mem (by omega : pre'.length < rs.length)), List.drop_eq_getElem_cons (by omega)⟩
    refine exE hex ?_; clear hex; (try dsimp only); ((k_extra "h1"); generalize c1 _ _ = row); intro hE9; refine exE hE9 ?_; clear hE9; (try dsimp only); ((k_extra "h1"); generalize c1 _ _ = v); intro hE9; obtain ⟨hv1, hv2, hlen, hdr⟩ := hE9
    refine exE ((datIn_row hv2)) ?_; (try dsimp only); ((k_extra "h1"); generalize c1 _ _ = a'); intro hE9; refine exE hE9 ?_; clear hE9; (try dsimp only); ((k_extra "h1"); generalize c1 _ _ = k1); intro hE9; refine exE hE9 ?_; clear hE9; (try dsimp only); ((k_extra "h1"); generalize c1 _ _ = k2); intro hE9; refine exE hE9 ?_; clear hE9; (try dsimp only); ((k_extra "h1"); generalize c1 _ _ = k3); intro hE9; refine exE hE9 ?_; clear hE9; (try dsimp only); ((k_extra "h1"); generalize c1 _ _ = n9); intro hE9; obtain ⟨rfl, hm⟩ := hE9
    rw [hdr, mDue_consR] at I5
    clear hdr hv2
    generalize row.1 = x, row.2.1 = u, row.2.2 = y at *
    have hm9 := hrd _ hm
    rw [show (0 : Int) + (pre'.length : Int) = (pre'.length : Int) by omega] at e1
    subst e1
    have hI1 := I1.length
    rw [List.length_map] at hI1
    have ho1 : ∀ p ∈ tl ++ own, p.1 ≠ l' := fun p hp => hoff p hp l' List.mem_cons_self
    have ho2 : ∀ p ∈ news, p.1 ≠ l' := fun p hp => Nat.ne_of_lt (l1_1 p hp)
    have NA := cb_drop (news := (a', tupN [Value.str x k1, Value.str u k2, Value.str y k3] n9) :: (l', W.listOf vs.toArray n1) :: (tl ++ (news ++ own))) N' ((fmc (by simp [hm9]) (by rw [List.nil_append, List.cons_append]; (k_extra "wh mem"))))
    clear N'
    repeat' (first | (k_extra "ka") | (k_extra "kb") | ((fail_if_success k_end); (k_extra "z12"); (k_extra "kc")))
    refine kim_list (by k_asm) (List.mem_cons_of_mem _ (List.mem_cons_of_mem _ (List.mem_append_right _ (List.mem_append_left _ hra)))) rfl rfl (by omega) (by omega) (by rw [Int.toNat_natCast]; exact hv1) ?_
    repeat' (first | (k_extra "ka") | (k_extra "kb") | ((fail_if_success k_end); (k_extra "sA"); (k_extra "kc")))
    · rw [if_pos (by assumption)] at I5
      exact href _ _ _ _ _ _ _ _ (Option.some.inj I5).symm (by k_asm) (by (k_extra "wh drop1"))
    · rw [if_neg (by rw [(by assumption : (y != Str.ofString "") = false)]; simp)] at I5
      have hlow : ∀ p ∈ (l', W.listOf vs.toArray n1) :: (tl ++ (news ++ own)), p ∈ (a', tupN [Value.str x k1, Value.str u k2, Value.str y k3] n9) :: (l', W.listOf vs.toArray n1) :: (tl ++ (news ++ own)) := fun p hp => List.mem_cons_of_mem _ hp
      refine got_cut ((l', W.listOf vs.toArray n1) :: (tl ++ (news ++ own))) (fun qs => psW qs ≤ 8000 ∧ qs.length ≤ 2000 ∧ mDue b K (rs.drop (pre'.length + 1)) (n + (pre'.length : Int) + 1) (qs.foldl mAdd ps) = some R) (fun y n => R = .error (y, n)) (by k_asm) ?_ ?_ ?_
      · repeat' (first | (k_extra "ka") | (k_end; (k_extra "z0"); (k_extra "z1"); (k_extra "z2"); (k_extra "z3"); (k_extra "z10"); first | wrow_close | walk1 | (dsimp only; walk1) | (leave1; (try dsimp only))) | ((fail_if_success k_end); (k_extra "z14"); (k_extra "z10"); (k_extra "kc")))
        · rw [if_pos (by assumption)] at I5
          expose_names
          (with_reducible rename News g' L' _ ((_, tupObj [_, _, _]) :: _) => NQ)
          refine GotAt.raw NQ hlow (by (k_extra "wh low")) (by (k_extra "wh lt")) ⟨?_, Nat.le_trans (Nat.le_refl 1) (by decide), I5⟩ (by k_asm)
          have h1 : (Str.ofString "\n").length = 1 := by decide
          simp only [psW, Str.length_append]; omega
        · rw [if_neg (by rw [(by assumption : b = false)]; simp)] at I5
          rcases optE (mRead (x ++ Str.ofString "\n") (Str.ofString "") (n + (pre'.length : Int)) K 0 []) with hq | hq
          · rw [hq] at I5; cases I5
          · refine exE hq ?_; clear hq; (try dsimp only); ((k_extra "h1"); generalize c1 _ _ = R'); intro hE9; have hq := hE9; clear hE9
            rw [hq] at I5
            refine read_c (by k_asm) (by k_asm) (by k_asm) (by k_asm) (by k_asm) (by first | exact rfl | assumption) K (by k_extra "my room") (by k_extra "my room") (by rw [Str.length_append]; exact Nat.le_trans (Nat.add_le_add_right hlen.1 _) (by decide)) (Nat.le_trans hK (by decide)) hq ?_ ?_
            · (first | ((try dsimp only); (k_extra "h11"); generalize p11_1 T9 = qs, p11_2 T9 = j2, p11_3 T9 = r2, p11_4 T9 = la, p11_5 T9 = vs2, p11_6 T9 = nn2, p11_7 T9 = data2, p11_8 T9 = q1, p11_9 T9 = q2, p11_10 T9 = h2, p11_11 T9 = tk2; clear T9; intro e3 D3 F3 N3 o1 o2 o3) | intro qs j2 r2 la vs2 nn2 data2 q1 q2 h2 tk2 e3 D3 F3 N3 o1 o2 o3)
              subst e3
              (try dsimp only at I5 ⊢)
              (try (k_extra "kf"))
              repeat' (first | (k_extra "ka") | (k_end; (k_extra "z0"); (k_extra "z1"); (k_extra "z2"); (k_extra "z3"); (k_extra "z10"); first | wrow_close | walk1 | (dsimp only; walk1) | (leave1; (try dsimp only))) | ((fail_if_success k_end); (k_extra "z10"); (k_extra "kc")))
              have hW := mRead_w _ _ _ _ _ _ _ _ (Int.le_refl 0) hq
              rw [show psW [] = 0 from rfl, List.length_nil] at hW
              exact GotAt.told ⟨by omega, by omega, I5⟩ D3 (fun p hp => by
                have := o1 p (hlow p hp)
                exact ⟨this.1, this.2.2⟩) (by k_asm) (by (k_extra "wh drop"))
            · (first | ((try dsimp only); (k_extra "h8"); generalize p8_1 T9 = y2, p8_2 T9 = n2, p8_3 T9 = r2, p8_4 T9 = q1, p8_5 T9 = q2, p8_6 T9 = q3, p8_7 T9 = h2, p8_8 T9 = tk2; clear T9; intro e3 F3 N3 o1) | intro y2 n2 r2 q1 q2 q3 h2 tk2 e3 F3 N3 o1)
              subst e3
              (try dsimp only at I5 ⊢)
              (try (k_extra "kf"))
              repeat' (first | (k_extra "ka") | (k_end; (k_extra "z0"); (k_extra "z1"); (k_extra "z2"); (k_extra "z3"); (k_extra "z10"); first | wrow_close | walk1 | (dsimp only; walk1) | (leave1; (try dsimp only))) | ((fail_if_success k_end); (k_extra "z10"); (k_extra "kc")))
              exact GotAt.refused (Option.some.inj I5).symm (by k_asm) (by (k_extra "wh drop1"))
      · expose_names
        as_aux_lemma =>
          clear B F X N T hra hrD hrd hK hrx hR hfin hret href hrvl hrw hrB FG' l1 hqk h h_3 hv1 I5 hlen hm hm9 F' N' h_1 hlow
          revert ho2; revert ho1; revert hI1; revert hrl; revert I4; revert I3; revert I1; revert hoff; revert hsep; revert e2; revert l1_1; revert T'; revert X'; revert B'; revert hun; revert hdp; revert hk
          revert tk; revert h'_7; revert y; revert u; revert x; revert k3; revert k2; revert k1; revert own; revert tk'; revert h'; revert u'; revert t'; revert pre'; revert tl; revert ps; revert n1; revert vs; revert l'; revert qk; revert L'; revert g'; revert K; revert R; revert b; revert tn; revert n; revert rs; revert ra; revert E; revert news; revert s; revert L; revert base; revert outer; revert cl; revert ccd; revert a; revert cs; revert cn; revert gd; revert un; revert dp; revert mb; revert mg; revert mean; revert w
          with_reducible refine no_implicit_lambda% (all1 ne_w ?_); generalize c1 _ _ = w
          (k_extra "n11"); generalize p11_1 T9 = mean, p11_2 T9 = mg, p11_3 T9 = mb, p11_4 T9 = dp, p11_5 T9 = un, p11_6 T9 = gd, p11_7 T9 = cn, p11_8 T9 = cs, p11_9 T9 = a, p11_10 T9 = ccd, p11_11 T9 = cl; clear T9
          (k_extra "n3"); generalize p3_1 T9 = outer, p3_2 T9 = base, p3_3 T9 = L; clear T9
          with_reducible refine no_implicit_lambda% (all1 ne_s ?_); generalize c1 _ _ = s
          (k_extra "n11"); generalize p11_1 T9 = news, p11_2 T9 = E, p11_3 T9 = ra, p11_4 T9 = rs, p11_5 T9 = n, p11_6 T9 = tn, p11_7 T9 = b, p11_8 T9 = R, p11_9 T9 = K, p11_10 T9 = g', p11_11 T9 = L'; clear T9
          (k_extra "n11"); generalize p11_1 T9 = qk, p11_2 T9 = l', p11_3 T9 = vs, p11_4 T9 = n1, p11_5 T9 = ps, p11_6 T9 = tl, p11_7 T9 = pre', p11_8 T9 = t', p11_9 T9 = u', p11_10 T9 = h', p11_11 T9 = tk'; clear T9
          (k_extra "n9"); generalize p9_1 T9 = own, p9_2 T9 = k1, p9_3 T9 = k2, p9_4 T9 = k3, p9_5 T9 = x, p9_6 T9 = u, p9_7 T9 = y, p9_8 T9 = h'_7, p9_9 T9 = tk; clear T9
          intro hk hdp hun B' X' T' l1_1 e2 hsep hoff I1 I3 I4 hrl hI1 ho1 ho2
          (try dsimp only); (k_extra "h7"); generalize p7_1 T9 = r2, p7_2 T9 = la, p7_3 T9 = vs2, p7_4 T9 = nn2, p7_5 T9 = j2, p7_6 T9 = data2, p7_7 T9 = qs; clear T9; (k_extra "h4"); generalize p4_1 T9 = q1, p4_2 T9 = q2, p4_3 T9 = h2, p4_4 T9 = tk2; clear T9; intro hC D3 hbase F3 N3
          obtain ⟨hW1, hW2, I6⟩ := hC
          repeat' (first | (k_extra "ka") | (k_extra "kb") | ((fail_if_success k_end); (k_extra "sF"); (k_extra "kc")))
          refine For_turns (by k_asm) ?_
          repeat' (first | (k_extra "ka") | (k_extra "kb") | ((fail_if_success k_end); (k_extra "sP"); (k_extra "kc")))
          (with_reducible rename News g' L' _ ((r2, _) :: _) => NQ)
          have NB := cb_drop (news := (l', W.listOf (vs).toArray (n1)) :: (tl ++ (data2 ++ (tl ++ (news ++ ((la, W.listOf vs2.toArray nn2) :: own)))))) NQ (by (k_extra "wh mem"))
          have hdl : ∀ p ∈ data2 ++ tl, p.1 ≠ l' := (fma (fun p hp => Nat.ne_of_gt ((hbase _ List.mem_cons_self).2 p hp)) (fun p hp => ho1 p (List.mem_append_left _ hp)))
          have hla : la ≠ l' := Nat.ne_of_gt (hbase _ List.mem_cons_self).1
          have hown : ∀ p ∈ own, p.1 ≠ l' := fun p hp => ho1 p (List.mem_append_right _ hp)
          have hD2 := D3
          (with_reducible rename Fr g' L' _ _ => FQ)
          refine exE ((fr_map FQ)) ?_; (try dsimp only); ((k_extra "h1"); generalize c1 _ _ = m0); intro hE9; obtain ⟨hm0, F9⟩ := hE9
          clear FQ
          refine iter_listTurns rfl F9 NB (by (k_extra "wh mid")) rfl rfl ?_
          (k_extra "h1"); (try generalize c1 _ _ = I); intro hI
          have hIl : I ≠ l' := Nat.ne_of_gt (hI _ List.mem_cons_self)
          refine items_ind1 (fun c : LT => (l', W.listOf (c.vs).toArray (c.n1)) :: (c.dat ++ (data2 ++ (tl ++ (news ++ ((la, W.listOf vs2.toArray nn2) :: own)))))) (fun c => c.mm) (DueJ I l' data2 tl (news ++ ((la, W.listOf vs2.toArray nn2) :: own)) m0 (psW ps + psW qs) (ps.length + qs.length) (qs.foldl mAdd ps)) ?step ?stop vs2 ⟨vs, n1, tl, ps, m0, qs⟩ ⟨hD2, rfl, DatAll.mono (fun p hp => List.mem_append_left _ hp) I1, fun p hp => .inl (List.mem_append_right _ hp), Nat.le_refl _, Nat.le_refl _, fun _ _ _ => rfl⟩
          case step =>
            (try dsimp only); with_reducible refine (all_step inferInstance ?_); generalize c11 _ _ = T9; generalize p11_1 T9 = v, p11_2 T9 = r, p11_3 T9 = vs6, p11_4 T9 = n6, p11_5 T9 = dat6, p11_6 T9 = ps6, p11_7 T9 = mm6, p11_8 T9 = qs6, p11_9 T9 = h6, p11_10 T9 = tk6, p11_11 T9 = o6; clear T9; intro hJ F6 ho6 N6
            (try (k_extra "kf"))
            obtain ⟨J1, J2, J3, J4, J5, J6, J7⟩ := hJ
            (try dsimp only at J1 J2 J3 J4 J5 J6 J7 F6 N6)
            have F7 : Fr g' L' h6 (fun y => if y = Str.ofString "sort" then mm6 y else if y = Str.ofString "part" then mm6 y else m0 y) := by rw [canon2 J7]; exact F6
            clear F6
            have hvl6 := J3.length
            rw [List.length_map] at hvl6
            have hps6 : ps6.length ≤ 900000 := by omega
            have hl6 : ∀ p ∈ (dat6 ++ data2) ++ (data2 ++ (tl ++ (news ++ ((la, W.listOf vs2.toArray nn2) :: (I, o6) :: own)))), p.1 ≠ l' := (fma ((fma (fun p hp => (J4 p hp).elim (fun h => hdl p h) (fun h => Nat.ne_of_gt h.2.1)) (fun p hp => hdl p (List.mem_append_left _ hp)))) ((fma (fun p hp => hdl p (List.mem_append_left _ hp)) ((fma (fun p hp => hdl p (List.mem_append_right _ hp)) ((fma (ho2) ((fmc (hla) ((fmc (hIl) (hown))))))))))))
            have hl7 : ∀ p ∈ dat6 ++ (data2 ++ (tl ++ (news ++ ((la, W.listOf vs2.toArray nn2) :: own)))), p.1 ≠ l' := (fma (fun p hp => hl6 p (List.mem_append_left _ (List.mem_append_left _ hp))) (fun p hp => hl6 p (List.mem_append_right _ ((by (k_extra "wh mem") : ∀ p ∈ data2 ++ (tl ++ (news ++ ((la, W.listOf vs2.toArray nn2) :: own))), p ∈ data2 ++ (tl ++ (news ++ ((la, W.listOf vs2.toArray nn2) :: (I, o6) :: own)))) p hp))))
            have hI6 : ∀ p ∈ dat6, p.1 ≠ I := fun p hp => (J4 p hp).elim (fun h => Nat.ne_of_lt (hI p (by simp only [List.mem_cons, List.mem_append] at h ⊢; rcases h with h | h <;> simp [h]))) (fun h => Nat.ne_of_gt h.1)
            rcases partsE qs6 with hqs | hqs | hqs
            · rw [hqs] at J1; cases J1
            · refine exE hqs ?_; clear hqs; (try dsimp only); ((k_extra "h1"); generalize c1 _ _ = z); intro hE9; refine exE hE9 ?_; clear hE9; (try dsimp only); ((k_extra "h1"); generalize c1 _ _ = qs1); intro hE9; obtain rfl := hE9
              cases J1 with
              | cons hv hr =>
                  refine exE ((datIn_textT hv)) ?_; (try dsimp only); ((k_extra "h1"); generalize c1 _ _ = a6); intro hE9; refine exE hE9 ?_; clear hE9; (try dsimp only); ((k_extra "h1"); generalize c1 _ _ = q1); intro hE9; refine exE hE9 ?_; clear hE9; (try dsimp only); ((k_extra "h1"); generalize c1 _ _ = q2); intro hE9; refine exE hE9 ?_; clear hE9; (try dsimp only); ((k_extra "h1"); generalize c1 _ _ = n7); intro hE9; obtain ⟨rfl, hm6⟩ := hE9
                  have N7 := cb_drop (news := (I, o6) :: (a6, tupN [Value.str (Str.ofString "text") q1, Value.str z q2] n7) :: (l', W.listOf (vs6).toArray (n6)) :: (dat6 ++ (data2 ++ (tl ++ (news ++ ((la, W.listOf vs2.toArray nn2) :: own)))))) N6 ((fmc (List.mem_cons_self) ((fmc (by simp [hm6]) (by (k_extra "wh mem"))))))
                  clear N6
                  subst hm0
                  repeat' (first | (k_extra "ka") | (k_extra "kb") | ((fail_if_success k_end); (fail_if_success (with_reducible show wpAny _ _ (call (Value.ref 371) _) _ _ _)); (k_extra "kc")))
                  have hzw : z.length ≤ psW (Part.text z :: qs1) := by rw [psW]; omega
                  refine lput_c (data := dat6 ++ data2) (vs := vs6) (n1 := n6) (news := data2 ++ (tl ++ (news ++ ((la, W.listOf vs2.toArray nn2) :: (I, o6) :: own)))) (by k_asm) (by k_asm) (by k_asm) (cb_drop (by k_asm) (by (k_extra "wh mem"))) (by k_asm) (by first | exact rfl | assumption) ps6 (by k_extra "my room") (by k_extra "my room") J3 hl6 (by omega) (by omega) ?_
                  (first | ((try dsimp only); (k_extra "h6"); generalize p6_1 T9 = ps8, p6_2 T9 = vs8, p6_3 T9 = n8, p6_4 T9 = dat8, p6_5 T9 = h8, p6_6 T9 = tk8; clear T9; intro e8 w8 p8 D8 O8 F8 N8) | intro ps8 vs8 n8 dat8 h8 tk8 e8 w8 p8 D8 O8 F8 N8)
                  (try dsimp only)
                  (try (k_extra "kf"))
                  repeat' (first | (k_extra "ka") | (k_end; (k_extra "z0"); (k_extra "z1"); (k_extra "z2"); (k_extra "z3"); (k_extra "z4"); first | wrow_close | walk1 | (dsimp only; walk1) | (leave1; (try dsimp only))) | ((fail_if_success k_end); (k_extra "z4"); (k_extra "kc")))
                  have hIm : (I, o6) ∈ data2 ++ (tl ++ (news ++ ((la, W.listOf vs2.toArray nn2) :: (I, o6) :: own))) := by (k_extra "wh mid")
                  refine unr_end ((l', W.listOf (vs8).toArray (n8)) :: (dat8 ++ (data2 ++ (tl ++ (news ++ ((la, W.listOf vs2.toArray nn2) :: own)))))) (by k_asm) (cb_drop N8 (by rw [List.cons_append, List.nil_append]; (k_extra "wh mem"))) ?_ ?_
                  · intro p hp q hq
                    rw [List.mem_singleton.mp hq]
                    exact ((fmc (Ne.symm hIl) ((fma (fun p hp => (O8 p hp).elim (fun h => (List.mem_append.mp h).elim (fun h => hI6 p h) (fun h => Nat.ne_of_lt (hI p (List.mem_cons_of_mem _ (List.mem_append_right _ (List.mem_append_left _ h)))))) (fun h => Nat.ne_of_gt (h.2 _ hIm))) (fun p hp => Nat.ne_of_lt (hI p (List.mem_cons_of_mem _ (List.mem_append_right _ hp))))))) : ∀ p ∈ (l', W.listOf (vs8).toArray (n8)) :: (dat8 ++ (data2 ++ (tl ++ (news ++ ((la, W.listOf vs2.toArray nn2) :: own))))), p.1 ≠ I) p hp
                  · refine ⟨And.intro (by (k_extra "wh mid")) trivial, ⟨vs8, n8, dat8, ps8, _, qs1⟩, rfl, rfl, hr, by rw [e8]; exact J2, DatAll.mono (fun p hp => List.mem_append_left _ hp) D8, fun p hp => (O8 p hp).elim (fun h => (List.mem_append.mp h).elim (fun h => J4 p h) (fun h => .inl (List.mem_append_left _ h))) (fun h => .inr ⟨h.2 _ hIm, h.1, fun q hq => h.2 q ((by (k_extra "wh mem") : ∀ q ∈ tl ++ (news ++ ((la, W.listOf vs2.toArray nn2) :: own)), q ∈ data2 ++ (tl ++ (news ++ ((la, W.listOf vs2.toArray nn2) :: (I, o6) :: own)))) q hq)⟩), ?_, ?_, ?_⟩
                    · have : psW (Part.text z :: qs1) = z.length + psW qs1 := id rfl
                      (try dsimp only); omega
                    · rw [List.length_cons] at J6
                      (try dsimp only); omega
                    · intro z h1 h2
                      show (if z = Str.ofString "part" then _ else if z = Str.ofString "sort" then _ else if z = Str.ofString "sort" then _ else if z = Str.ofString "part" then _ else _) = _
                      rw [if_neg h2, if_neg h1, if_neg h1, if_neg h2]
            · refine exE hqs ?_; clear hqs; (try dsimp only); ((k_extra "h1"); generalize c1 _ _ = z); intro hE9; refine exE hE9 ?_; clear hE9; (try dsimp only); ((k_extra "h1"); generalize c1 _ _ = mz); intro hE9; refine exE hE9 ?_; clear hE9; (try dsimp only); ((k_extra "h1"); generalize c1 _ _ = qs1); intro hE9; obtain rfl := hE9
              cases J1 with
              | cons hv hr =>
                  refine exE ((datIn_codeT hv)) ?_; (try dsimp only); ((k_extra "h1"); generalize c1 _ _ = a6); intro hE9; refine exE hE9 ?_; clear hE9; (try dsimp only); ((k_extra "h1"); generalize c1 _ _ = q1); intro hE9; refine exE hE9 ?_; clear hE9; (try dsimp only); ((k_extra "h1"); generalize c1 _ _ = v2); intro hE9; refine exE hE9 ?_; clear hE9; (try dsimp only); ((k_extra "h1"); generalize c1 _ _ = n7); intro hE9; obtain ⟨rfl, hm6, hv2⟩ := hE9
                  have ha6 : a6 ≠ l' := hdl _ (List.mem_append_left _ hm6)
                  have N7 := cb_drop (news := (I, o6) :: (a6, tupN [Value.str (Str.ofString "code") q1, v2] n7) :: (l', W.listOf (vs6).toArray (n6)) :: (dat6 ++ (data2 ++ (tl ++ (news ++ ((la, W.listOf vs2.toArray nn2) :: own)))))) N6 ((fmc (List.mem_cons_self) ((fmc (by simp [hm6]) (by (k_extra "wh mem"))))))
                  clear N6
                  subst hm0
                  repeat' (first | (k_extra "ka") | (k_end; (k_extra "z0"); (k_extra "z1"); (k_extra "z2"); (k_extra "z3"); (k_extra "z4"); first | wrow_close | walk1 | (dsimp only; walk1) | (leave1; (try dsimp only))) | ((fail_if_success k_end); (k_extra "z4"); (k_extra "kc")))
                  expose_names
                  have hlo : ∀ q ∈ dat6 ++ (data2 ++ (tl ++ (news ++ ((la, W.listOf vs2.toArray nn2) :: own)))), q.1 < D' := by (k_extra "wh low")
                  have hID : I < D' := by (k_extra "wh lt")
                  have hlD : l' < D' := by (k_extra "wh lt")
                  refine unr_end ((l', W.listOf (vs6 ++ [Value.ref D']).toArray (n6 + 1)) :: (((D', tupObj [Value.str (Str.ofString "code") _, v2]) :: dat6) ++ (data2 ++ (tl ++ (news ++ ((la, W.listOf vs2.toArray nn2) :: own)))))) (by k_asm) (cb_drop (by k_asm) (by simp only [List.cons_append, List.nil_append]; (k_extra "wh mem"))) ?_ ?_
                  · intro p hp q hq
                    rw [List.mem_singleton.mp hq]
                    exact ((fmc (Ne.symm hIl) ((fmc (Nat.ne_of_gt hID) ((fma (hI6) (fun p hp => Nat.ne_of_lt (hI p (List.mem_cons_of_mem _ (List.mem_append_right _ hp))))))))) : ∀ p ∈ (l', W.listOf (vs6 ++ [Value.ref D']).toArray (n6 + 1)) :: (D', tupObj [Value.str (Str.ofString "code") q1, v2]) :: (dat6 ++ (data2 ++ (tl ++ (news ++ ((la, W.listOf vs2.toArray nn2) :: own))))), p.1 ≠ I) p hp
                  · refine ⟨And.intro (by simp only [List.cons_append]; (k_extra "wh mid")) trivial, ⟨vs6 ++ [Value.ref D'], n6 + 1, (D', tupObj [Value.str (Str.ofString "code") _, v2]) :: dat6, ps6 ++ [Part.code z mz], _, qs1⟩, rfl, rfl, hr, J2, ?_, (fmc (.inr ⟨hID, hlD, fun q hq => hlo q (List.mem_append_right _ (List.mem_append_right _ hq))⟩) (J4)), ?_, ?_, ?_⟩
                    · (try dsimp only)
                      rw [List.map_append, List.map_singleton]
                      exact DatAll.append (DatAll.mono (fun p hp => List.mem_cons_of_mem _ hp) J3) (DatAll.one (DatIn.tuple List.mem_cons_self (DatAll.cons (DatIn.str _ _) (DatAll.cons (DatIn.mono (fun p hp => List.mem_cons_of_mem _ (List.mem_append_right _ hp)) hv2) .nil))))
                    · have : psW (Part.code z mz :: qs1) = psW qs1 := id rfl
                      (try dsimp only); rw [psW_app, show psW [Part.code z mz] = 0 from rfl]; omega
                    · rw [List.length_cons] at J6
                      (try dsimp only); rw [List.length_append, List.length_singleton]; omega
                    · intro z h1 h2
                      show (if z = Str.ofString "part" then _ else if z = Str.ofString "sort" then _ else if z = Str.ofString "sort" then _ else if z = Str.ofString "part" then _ else _) = _
                      rw [if_neg h2, if_neg h1, if_neg h1, if_neg h2]
          case stop =>
            (try dsimp only); with_reducible refine (all_stop inferInstance ?_); generalize c8 _ _ = T9; generalize p8_1 T9 = vs6, p8_2 T9 = n6, p8_3 T9 = dat6, p8_4 T9 = ps6, p8_5 T9 = mm6, p8_6 T9 = qs6, p8_7 T9 = h6, p8_8 T9 = tk6; clear T9; intro hJ F6 N6
            obtain ⟨J1, J2, J3, J4, J5, J6, J7⟩ := hJ
            (try dsimp only at J1 J2 J3 J4 J5 J6 J7 F6 N6)
            have F7 : Fr g' L' h6 (fun y => if y = Str.ofString "sort" then mm6 y else if y = Str.ofString "part" then mm6 y else m0 y) := by rw [canon2 J7]; exact F6
            clear F6
            subst hm0
            obtain rfl : qs6 = [] := by
              cases qs6 with
              | nil => rfl
              | cons q r => cases J1
            (try dsimp only [List.foldl] at J2)
            repeat' (first | (k_extra "ka") | (k_end; (k_extra "z0"); (k_extra "z1"); (k_extra "z2"); (k_extra "z3"); (fail_if_success (with_reducible show InvEndG _ _ _ _ _)); first | wrow_close | walk1 | (dsimp only; walk1) | (leave1; (try dsimp only))) | ((fail_if_success k_end); (fail_if_success (with_reducible show InvEndG _ _ _ _ _)); (k_extra "kc")))
            have hq9 : ∀ q ∈ dat6 ++ data2, q ∈ tl ∨ ∀ p ∈ (l', W.listOf vs.toArray n1) :: (news ++ own), p.1 < q.1 := by
              have hd9 : ∀ q ∈ data2, ∀ p ∈ (l', W.listOf vs.toArray n1) :: (news ++ own), p.1 < q.1 := fun q hq p hp => (hbase p ((by (k_extra "wh mem") : ∀ p ∈ (l', W.listOf vs.toArray n1) :: (news ++ own), p ∈ (l', W.listOf vs.toArray n1) :: (tl ++ (news ++ own))) p hp)).2 q hq
              refine (fma (fun q hq => (J4 q hq).elim (fun h => (List.mem_append.mp h).elim (fun h => .inr (hd9 q h)) (fun h => .inl h)) (fun h => .inr ?_)) (fun q hq => .inr (hd9 q hq)))
              exact (fmc (h.2.1) (fun p hp => h.2.2 p ((by (k_extra "wh mem") : ∀ p ∈ news ++ own, p ∈ tl ++ (news ++ ((la, W.listOf vs2.toArray nn2) :: own))) p hp)))
            have hb9 : ∀ q ∈ dat6 ++ data2, ∀ b ∈ l' :: news.map (·.1), b ≠ q.1 := fun q hq => (hq9 q hq).elim (fun h b hb => Ne.symm (hsep.three q h b hb)) (fun h => (fmc (Nat.ne_of_lt (h _ List.mem_cons_self)) (fun b hb => by
              obtain ⟨p, hp, rfl⟩ := List.mem_map.mp hb
              exact Nat.ne_of_lt (h p (List.mem_cons_of_mem _ (List.mem_append_left _ hp))))))
            have hw9 : ∀ q ∈ dat6 ++ data2, ∀ p ∈ own, p.1 ≠ q.1 := fun q hq => (hq9 q hq).elim (fun h p hp => hsep.two p hp q.1 (List.mem_map.mpr ⟨q, h, rfl⟩)) (fun h p hp => Nat.ne_of_lt (h p (List.mem_cons_of_mem _ (List.mem_append_right _ hp))))
            refine kd_end (DS.mk vs6 n6 ps6) (dat6 ++ data2) hsep (by k_asm) (by k_asm) (by simp only [List.nil_append, List.cons_append]; (k_extra "wh mem")) (by (k_extra "wh mem")) (by simp) hb9 hw9 (by (k_extra "wh keep")) (by (try dsimp only); (k_extra "wh same3")) (by rw [List.nil_append]; exact DatAll.mono (fun p hp => List.mem_append_left _ hp) J3) ⟨?_, ?_, ?_⟩
            · rw [List.length_append, List.length_singleton]; (try dsimp only); rw [show psW [] = 0 from rfl] at J5; omega
            · rw [List.length_append, List.length_singleton]; (try dsimp only); rw [List.length_nil] at J6; omega
            · rw [List.length_append, List.length_singleton]; (try dsimp only); rw [J2, ← I6]; congr 1; omega
      · (try dsimp only); (k_extra "h7"); generalize p7_1 T9 = r2, p7_2 T9 = y2, p7_3 T9 = n2, p7_4 T9 = q1, p7_5 T9 = q2, p7_6 T9 = q3, p7_7 T9 = h2; clear T9; (k_extra "h1"); (generalize c1 _ _ = tk2); intro hD F3 N3
        repeat' (first | (k_extra "ka") | (k_extra "kb") | ((fail_if_success k_end); (k_extra "kc")))
        exact href _ _ _ _ _ _ _ _ hD (by k_asm) (by (k_extra "wh drop1"))
  · (try dsimp only); with_reducible refine (all_DS ?_); generalize c1 _ _ = T9; generalize DS.vs T9 = vs, DS.n1 T9 = n1, DS.ps T9 = ps; clear T9; (k_extra "h4"); generalize p4_1 T9 = tl, p4_2 T9 = u', p4_3 T9 = h', p4_4 T9 = tk'; clear T9; intro ho1 I1 I' F' N'; (try dsimp only [envOf] at F' N'); (try dsimp only at I1 I' F' N' ⊢); obtain ⟨I3, I4, I5⟩ := I'
    rw [List.nil_append] at I1 N'
    rw [List.cons_append] at N'
    have ho3 : ∀ p ∈ tl ++ news, p.1 ≠ l' := (fma (fun p hp => ho1 p hp l' List.mem_cons_self) (fun p hp => Nat.ne_of_lt (l1_1 p hp)))
    have hrl := hrB.out
    have hI1 := I1.length
    rw [List.length_map] at hI1
    have hkl := rangeKs_length 0 rs.length
    rw [hkl] at I3 I4 I5
    rw [List.drop_length, mDue_nil] at I5
    have hR5 := (Option.some.inj I5).symm
    rcases hfin ps hR5 with rfl | hfin9
    · obtain rfl := datAll_nil I1
      have N8 := cb_drop (news := (l', W.listOf [].toArray n1) :: (tl ++ news)) N' (by (k_extra "wh mem"))
      clear N'
      repeat' (first | (k_extra "ka") | (k_extra "kb") | ((fail_if_success k_end); (k_extra "kc")))
      all_goals first
        | exact absurd (by assumption : ([] : List Value).isEmpty = false) (by simp)
        | exact hret [] _ _ [] n1 tl _ _ _ _ hR5 .nil (by k_asm) (by (k_extra "wh drop"))
    · refine exE hfin9 ?_; clear hfin9; (try dsimp only); (k_extra "h1"); generalize c1 _ _ = qs; intro hE9; refine exE hE9 ?_; clear hE9; (try dsimp only); (k_extra "h1"); generalize c1 _ _ = y; intro hE9; obtain rfl := hE9
      rw [List.map_append, List.map_singleton] at I1
      refine exE ((datAll_snoc' I1)) ?_; (try dsimp only); (k_extra "h1"); generalize c1 _ _ = us; intro hE9; refine exE hE9 ?_; clear hE9; (try dsimp only); (k_extra "h1"); generalize c1 _ _ = v; intro hE9; obtain ⟨rfl, hus, hv1⟩ := hE9
      refine exE ((datIn_textT hv1)) ?_; (try dsimp only); (k_extra "h1"); generalize c1 _ _ = a3; intro hE9; refine exE hE9 ?_; clear hE9; (try dsimp only); (k_extra "h1"); generalize c1 _ _ = k1; intro hE9; refine exE hE9 ?_; clear hE9; (try dsimp only); (k_extra "h1"); generalize c1 _ _ = k2; intro hE9; refine exE hE9 ?_; clear hE9; (try dsimp only); (k_extra "h1"); generalize c1 _ _ = n9; intro hE9; obtain ⟨rfl, hm⟩ := hE9
      have N8 := cb_drop (news := (l', W.listOf (us ++ [Value.ref a3]).toArray n1) :: (a3, tupN [Value.str (Str.ofString "text") k1, Value.str y k2] n9) :: (tl ++ news)) N' ((fmc (List.mem_cons_self) ((fmc (by simp [hm]) (by (k_extra "wh mem"))))))
      clear N'
      have ha3 : a3 ≠ l' := ho3 _ (List.mem_append_left _ hm)
      have hus2 := hus.length
      rw [List.length_map] at hus2
      rw [List.length_append] at hI1
      have hyw : y.length ≤ 65536 := by rw [psW_app] at I3; simp only [psW] at I3; omega
      repeat' (first | (k_extra "ka") | (k_extra "kb") | ((fail_if_success k_end); (k_extra "kc")))
      all_goals expose_names
      · exact absurd (by assumption : (us ++ [Value.ref a3] : List Value).isEmpty = true) (by simp)
      · refine hret _ _ l' (us ++ [Value.ref D']) _ ((D', tupObj [Value.str (Str.ofString "text") _, Value.str (Txt.slice y none (some (-1))) _]) :: tl) _ _ _ _ hR5 ?_ (by k_asm) (show News _ _ _ (_ :: _ :: _ :: (tl ++ news)) from by (k_extra "wh drop"))
        rw [mFin_text, if_pos (by assumption), List.map_append, List.map_singleton]
        exact DatAll.append (DatAll.mono (fun p hp => List.mem_cons_of_mem _ hp) hus) (DatAll.one (DatIn.tuple List.mem_cons_self (DatAll.cons (DatIn.str _ _) (DatAll.cons (DatIn.str _ _) .nil))))
      · refine hret _ _ l' us _ tl _ _ _ _ hR5 ?_ (by k_asm) (by (k_extra "wh drop"))
        rw [mFin_text, if_neg (by rw [(by assumption : (Txt.slice y none (some (-1)) != Str.ofString "") = false)]; simp)]
        exact hus
 k_extra "q"
end
theorem reg130 : True := by
  k_with ".call ref" => ((k_here; (with_reducible show wpAny _ _ (call (Value.ref 434) _) _ _ _); k_dflt (refine' due_c ?kB ?kF ?kX ?kN ?kT ?kK ?zkd ?zku ?zkhra ?zkhrD ?zkhrd ?zkhK ?zkhrl ?zkhrx ?zkhR ?zkhfin ?_ ?_; (k_extra "kq"); (case zkd => k_extra "my room"); (case zku => k_extra "my room"); (case zkhra => k_extra "my side"); (case zkhrD => k_extra "my side"); (case zkhrd => k_extra "my side"); (case zkhK => k_extra "my side"); (case zkhrl => k_extra "my side"); (case zkhrx => k_extra "my side"); (case zkhR => assumption); (case zkhfin => k_extra "my side"); ((try dsimp only); (k_extra "h10"); generalize p10_1 T9 = ps, p10_2 T9 = r, p10_3 T9 = pa, p10_4 T9 = vs, p10_5 T9 = n1, p10_6 T9 = data, p10_7 T9 = k1, p10_8 T9 = k2, p10_9 T9 = h', p10_10 T9 = tk'; clear T9; (first | revert ps r pa vs n1 data k1 k2 h' tk' | ((try revert tk'); (try revert h'); (try revert k2); (try revert k1); (try revert data); (try revert n1); (try revert vs); (try revert pa); (try revert r); (try revert ps))); intros; (try k_sweep); (try (k_extra "kf"))); rotate_left; ((try dsimp only); (k_extra "h8"); generalize p8_1 T9 = y, p8_2 T9 = n', p8_3 T9 = r, p8_4 T9 = k1, p8_5 T9 = k2, p8_6 T9 = k3, p8_7 T9 = h', p8_8 T9 = tk'; clear T9; (first | revert y n' r k1 k2 k3 h' tk' | ((try revert tk'); (try revert h'); (try revert k3); (try revert k2); (try revert k1); (try revert r); (try revert n'); (try revert y))); intros; (try k_sweep); (try (k_extra "kf"))); rotate_left)))
  trivial
section
open PySem.Spec
noncomputable def Mids (news : List (Addr × Obj)) (rvs ws : List Value) : Prop := ws.length = rvs.length ∧ ∀ (i : Nat) (v : Value), rvs[i]? = some v → ∃ t v1 v2 v3 nt, v = .ref t ∧ (t, tupN [v1, v2, v3] nt) ∈ news ∧ ws[i]? = some v2
section
variable {prog : Program} {w : World} {A : Around} {E : Value → Shared → Prop} {s : Shared} {h₀ : Heap} {L : Addr} {m : Str → Option Value} {env : Env}
theorem comp3 (F₀ : Fr h₀ L s.heap m) {iter : Expr} {x y z : Str} {px py pz ty tp : Pos} {tk} {scope : Scope} {cl : List (Str × Addr)} {pos : Pos} {Q : Value → Shared → Prop}
    (hclos : closureFor scope env = pure cl) (hcell : ∀ y ∈ scope.names, y.2 ≠ .cell) (hkind : scope.kind = .function)
    (hnames : ∀ y ∈ scope.names, y.2 = .local → scope.names.lookup y.1 = some .local) (hx : scope.names.lookup x = some .local) (hy : scope.names.lookup y = some .local) (hz : scope.names.lookup z = some .local) (hyz : y ≠ z) (hdb : (y == ("__debug__" : Str)) = false)
    (h : wpAny (model prog w) A (eval iter env) (fun xv s₁ => ∃ ra rvs k ws news, xv = .ref ra ∧ A.handled = none ∧ Fr h₀ L s₁.heap m ∧ News h₀ L s₁.heap news ∧ (ra, W.listOf (List.toArray rvs) k) ∈ news ∧ rvs.length ≤ 1000 ∧ Mids news rvs ws ∧
      ∀ D h tk, Fr h₀ L h m → News h₀ L h ((D, W.listOf ws.toArray ws.length) :: news) → (∀ p ∈ news, p.1 < D) → Q (.ref D) { s₁ with heap := h, toks := tk }) E s)
    (hs : ∀ x, foldedSetIterable iter env x = pure x := by intro _; rfl) :
    wpAny (model prog w) A (eval (.ListComp (.Name y ty) [⟨.Tuple [.Name x px, .Name y py, .Name z pz] tk tp, iter, [], 0⟩] scope pos) env) Q E s := by
 k_with "w" =>
  revert prog w A E s h₀ L m env F₀ iter x y z px py pz ty tp tk scope cl pos Q hclos hcell hkind hnames hx hy hz hyz hdb h hs
  (k_extra "n1"); generalize c1 _ _ = prog
  with_reducible refine no_implicit_lambda% (all1 ne_w ?_); generalize c1 _ _ = w
  with_reducible refine no_implicit_lambda% (all1 ne_a ?_); generalize c1 _ _ = A
  (k_extra "n1"); generalize c1 _ _ = E
  with_reducible refine no_implicit_lambda% (all1 ne_s ?_); generalize c1 _ _ = s
  (k_extra "n4"); generalize p4_1 T9 = h₀, p4_2 T9 = L, p4_3 T9 = m, p4_4 T9 = env; clear T9
  intro F₀
  (k_extra "n8"); generalize p8_1 T9 = iter, p8_2 T9 = x, p8_3 T9 = y, p8_4 T9 = z, p8_5 T9 = px, p8_6 T9 = py, p8_7 T9 = pz, p8_8 T9 = ty; clear T9
  (k_extra "n1"); generalize c1 _ _ = tp
  (k_extra "n1"); generalize c1 _ _ = tk
  (k_extra "n4"); generalize p4_1 T9 = scope, p4_2 T9 = cl, p4_3 T9 = pos, p4_4 T9 = Q; clear T9
  intro hclos hcell hkind hnames hx hy hz hyz hdb h hs
  rw [eval_ListComp]
  refine wpAny_comprehension_free (use := none) rfl hs hclos hkind hnames (wpAny_mono h ?_ fun _ _ e => e)
  (try dsimp only); (k_extra "h1"); (generalize c1 _ _ = xv); with_reducible refine no_implicit_lambda% (all1 ne_s ?_); generalize c1 _ _ = s₁; intro h₁
  refine exE h₁ ?_; clear h₁; (try dsimp only); ((k_extra "h1"); generalize c1 _ _ = ra); intro hE9; refine exE hE9 ?_; clear hE9; (try dsimp only); ((k_extra "h1"); generalize c1 _ _ = rvs); intro hE9; refine exE hE9 ?_; clear hE9; (try dsimp only); ((k_extra "h1"); generalize c1 _ _ = k); intro hE9; refine exE hE9 ?_; clear hE9; (try dsimp only); ((k_extra "h1"); generalize c1 _ _ = ws); intro hE9; refine exE hE9 ?_; clear hE9; (try dsimp only); ((k_extra "h1"); generalize c1 _ _ = news); intro hE9; obtain ⟨rfl, hh, F, N, hm, hlen, ⟨hwl, hmid⟩, fin⟩ := hE9
  have hl : s₁.heap.IsList ra rvs.toArray := News.isList N hm
  have hra : ra < s₁.heap.objs.size := Heap.lt_size (N _ hm).1
  have hnw : ∀ p ∈ news, p.1 < s₁.heap.objs.size := fun p hp => Heap.lt_size (N p hp).1
  have hLs : L < s₁.heap.objs.size := F.ns.lt
  have h0s : ∀ a, s₁.heap.objs.size ≤ a → h₀.get? a = none := fun a ha => by
    cases e : h₀.get? a with
    | none => rfl
    | some o => exact absurd (Heap.lt_size (F.keep _ _ e)) (Nat.not_lt.mpr ha)
  refine wpAny_pyIter_list hl ?_
  refine wpAny_newObj_type (wpAny_newFunctionEnv hcell (by intro y hy; simp at hy) ?_ hkind)
  (try dsimp only); (k_extra "h1"); (generalize c1 _ _ = h₁); intro hns₁ hsb₁
  (try dsimp only at hns₁ hsb₁ ⊢)
  generalize hi : s₁.heap.push { cls := .type "list_iterator", data := .fields #[.ref ra, .int 0 0] } = H1 at hns₁ hsb₁ ⊢
  generalize hI : s₁.heap.objs.size = I at *
  have s1 : H1.objs.size = I + 1 := by rw [← hi, Heap.size_push, hI]
  have e1 : ∀ b o, s₁.heap.get? b = some o → H1.get? b = some o := fun b o e => hi ▸ Heap.get?_push_of_some _ e
  have eI : H1.get? I = some { cls := .type "list_iterator", data := .fields #[.ref ra, .int 0 0] } := by rw [← hi, ← hI]; exact Heap.get?_push_size _ rfl
  generalize hd : H1.push { cls := .type "list", dict := none, data := .seq ([] : List Value).toArray } = H2 at hns₁ hsb₁ ⊢
  have s2 : H2.objs.size = I + 1 + 1 := by rw [← hd, Heap.size_push, s1]
  have e2 : ∀ b o, H1.get? b = some o → H2.get? b = some o := fun b o e => hd ▸ Heap.get?_push_of_some _ e
  have eD : H2.get? (I + 1) = some (LCg.lst []) := by rw [← hd, ← s1]; exact Heap.get?_push_size _ rfl
  rw [s1]
  rw [s2] at hns₁ hsb₁ ⊢
  have e3 : ∀ b o, b < I + 1 + 1 → H2.get? b = some o → h₁.get? b = some o := fun b o hb e => hsb₁.extBut b o (Nat.ne_of_lt hb) (Heap.get?_push_of_some _ e)
  have W := Walks.list (prog := prog) (w := w) hh I ra (Nat.ne_of_lt hra) rvs.toArray
  have start : h₁.IsListIter I ra 0 ∧ h₁.IsList ra rvs.toArray := by
    refine ⟨⟨_, e3 _ _ (by omega) (e2 _ _ eI), rfl, rfl⟩, ?_⟩
    obtain ⟨o, ho, r⟩ := hl
    exact ⟨o, e3 _ _ (Nat.lt_trans hra (by omega)) (e2 _ _ (e1 _ _ ho)), r⟩
  have hLI : L ≠ I := Nat.ne_of_lt hLs
  have hI₀ : h₀.get? I = none := h0s _ (Nat.le_refl _)
  have hD₀ : h₀.get? (I + 1) = none := h0s _ (Nat.le_succ _)
  have hC₀ : h₀.get? (I + 1 + 1) = none := h0s _ (Nat.le_trans (Nat.le_succ _) (Nat.le_succ _))
  have lt1 : ∀ {b : Nat}, b < I → b ≠ I + 1 := fun hb => Nat.ne_of_lt (Nat.lt_succ_of_lt hb)
  have lt2 : ∀ {b : Nat}, b < I → b ≠ I + 1 + 1 := fun hb => Nat.ne_of_lt (Nat.lt_succ_of_lt (Nat.lt_succ_of_lt hb))
  refine (fun (loop : codeAny (model prog w) A (.compLoop (.ListComp (.Name y ty) [⟨.Tuple [.Name x px, .Name y py, .Name z pz] tk tp, iter, [], 0⟩] scope pos) 0 (.ref I) (.ref (I + 1)) (compEnvC scope cl (I + 1 + 1) env)) _ _) => codeAny_compStart_list loop (W.self 0 _ _ _ start loop)) ?_
  refine LCp.codeAny_compLoop_pair (fun n s' => ∃ h' tk' i m', s' = { s₁ with heap := h', toks := tk' } ∧ i ≤ rvs.length ∧ n = rvs.length + 1 - i ∧ (h'.IsListIter I ra i ∧ h'.IsList ra rvs.toArray) ∧ Fr h₀ L h' m ∧ News h₀ L h' ((I + 1, LCg.lst (ws.take i)) :: news) ∧ h'.Ns (I + 1 + 1) m') ?_ (rvs.length + 1) ⟨h₁, _, 0, _, rfl, Nat.zero_le _, rfl, start, ?_, ?_, hns₁⟩
  · (try dsimp only); (k_extra "h1"); (generalize c1 _ _ = n); with_reducible refine no_implicit_lambda% (all1 ne_s ?_); generalize c1 _ _ = s'; intro hq9
    refine exE hq9 ?_; clear hq9; (try dsimp only); ((k_extra "h1"); generalize c1 _ _ = h'); intro hE9; refine exE hE9 ?_; clear hE9; (try dsimp only); ((k_extra "h1"); generalize c1 _ _ = tk'); intro hE9; refine exE hE9 ?_; clear hE9; (try dsimp only); ((k_extra "h1"); generalize c1 _ _ = i); intro hE9; refine exE hE9 ?_; clear hE9; (try dsimp only); ((k_extra "h1"); generalize c1 _ _ = m'); intro hE9; obtain ⟨rfl, hile, rfl, st, F', N', hn'⟩ := hE9
    by_cases hlt : i < rvs.length
    · refine W.item i _ _ _ (by rw [List.size_toArray]; exact hlt) st ?_
      (try dsimp only); (k_extra "h3"); generalize p3_1 T9 = v, p3_2 T9 = h₂, p3_3 T9 = tk₂; clear T9; intro hPv st₂ hk₂
      refine exE ((hmid i v (by simpa using hPv))) ?_; (try dsimp only); ((k_extra "h1"); generalize c1 _ _ = t); intro hE9; refine exE hE9 ?_; clear hE9; (try dsimp only); ((k_extra "h1"); generalize c1 _ _ = v1); intro hE9; refine exE hE9 ?_; clear hE9; (try dsimp only); ((k_extra "h1"); generalize c1 _ _ = v2); intro hE9; refine exE hE9 ?_; clear hE9; (try dsimp only); ((k_extra "h1"); generalize c1 _ _ = v3); intro hE9; refine exE hE9 ?_; clear hE9; (try dsimp only); ((k_extra "h1"); generalize c1 _ _ = nt); intro hE9; obtain ⟨rfl, hmt, hw⟩ := hE9
      have keep2 : ∀ p ∈ (I + 1, LCg.lst (ws.take i)) :: news, h₂.get? p.1 = some p.2 := fun p hp => hk₂ _ _ (by
        rw [List.mem_singleton]
        rcases List.mem_cons.mp hp with rfl | hp
        · exact Nat.ne_of_gt (Nat.lt_succ_self _)
        · exact Nat.ne_of_lt (hnw p hp)) (N' p hp).1
      have ht : IsTup h₂ t #[v1, v2, v3] := ⟨_, keep2 _ (List.mem_cons_of_mem _ hmt), rfl, nt, rfl⟩
      refine wpAny_letOwnedTupleGo_listiter st₂.1 ?_
      refine assign_Tuple_tuple hh ht rfl rfl ?_
      (try dsimp only); (k_extra "h1"); (generalize c1 _ _ = h₃); intro he
      have hn₂ : h₂.Ns (I + 1 + 1) m' := hn'.at' fun o e => hk₂ _ o (by rw [List.mem_singleton]; exact Nat.ne_of_gt (Nat.lt_succ_of_lt (Nat.lt_succ_self _))) e
      have he' : ∀ b o, h₂.get? b = some o → h₃.get? b = some o := fun b o e => he b o (Nat.ne_of_lt (Heap.lt_size e)) e
      have hf : (compEnvC scope cl (I + 1 + 1) env).scope.kind = .function := by simp [compEnvC, relabel, hkind]
      refine assignInOrder_cons (wpAny_assign_Name (wpAny_storeName_local (lookup_relabel_local hx) (hn₂.at' fun o e => he' _ o e) ?_ (by simp [compEnvC, relabel, hkind])))
      (try dsimp only); (k_extra "h1"); (generalize c1 _ _ = h₄); intro hn₄ hs₄
      refine assignInOrder_cons (wpAny_assign_Name (wpAny_storeName_local (lookup_relabel_local hy) hn₄ ?_ (by simp [compEnvC, relabel, hkind])))
      (try dsimp only); (k_extra "h1"); (generalize c1 _ _ = h₅); intro hn₅ hs₅
      refine assignInOrder_cons (wpAny_assign_Name (wpAny_storeName_local (lookup_relabel_local hz) hn₅ ?_ (by simp [compEnvC, relabel, hkind])))
      (try dsimp only); (k_extra "h1"); (generalize c1 _ _ = h₆); intro hn₆ hs₆
      refine assignInOrder_nil ?_
      have keep6 : ∀ b o, b ≠ I + 1 + 1 → h₂.get? b = some o → h₆.get? b = some o := fun b o hb e => hs₆.extBut b o hb (hs₅.extBut b o hb (hs₄.extBut b o hb (he' b o e)))
      refine wpAny_Name (wpAny_loadName_local (v := v2) hf (lookup_relabel_local hy) hn₆ (by simp [hyz]) ?_) hdb
      have eD6 : h₆.get? (I + 1) = some (LCg.lst (ws.take i)) := keep6 _ _ (Nat.ne_of_lt (Nat.lt_succ_self _)) (keep2 _ List.mem_cons_self)
      refine append_at (hsz := by rw [List.size_toArray, List.length_take, sizeLine_eq]; omega) eD6 ?_
      (try dsimp only); (k_extra "h1"); (generalize c1 _ _ = h₇); intro hs₇ hD₇
      have keep7 : ∀ b o, b ≠ I + 1 → b ≠ I + 1 + 1 → h₂.get? b = some o → h₇.get? b = some o := fun b o hb hb2 e => hs₇.extBut b o hb (keep6 b o hb2 e)
      refine ⟨rvs.length + 1 - (i + 1), by omega, h₇, _, i + 1, _, rfl, hlt, rfl, ?_, ?_, ?_, hn₆.sameBut hs₇ (Nat.ne_of_gt (Nat.lt_succ_self _))⟩
      · refine W.frame _ _ _ st₂ fun b hb o e => ?_
        rcases List.mem_cons.mp hb with rfl | hb
        · exact keep7 _ _ (Nat.ne_of_lt (Nat.lt_succ_self _)) (Nat.ne_of_lt (Nat.lt_succ_of_lt (Nat.lt_succ_self _))) e
        · rw [List.mem_singleton.mp hb] at e ⊢
          exact keep7 _ _ (lt1 hra) (lt2 hra) e
      · have F2 : Fr h₀ L h₂ m := ⟨F'.ns.at' fun o e => hk₂ L o (by simpa using hLI) e, fun b o e => hk₂ b o (by
            rw [List.mem_singleton]; intro q; rw [q, hI₀] at e; cases e) (F'.keep b o e), F'.above⟩
        exact ((((F2.keeps he').change hs₄ (lt2 hLs).symm hC₀).change hs₅ (lt2 hLs).symm hC₀).change hs₆ (lt2 hLs).symm hC₀).change hs₇ (lt1 hLs).symm hD₀
      · intro p hp
        rcases List.mem_cons.mp hp with rfl | hp
        · refine ⟨hD₇.trans (congrArg some ?_), (lt1 hLs).symm, hD₀⟩
          have e9 : ws.take (i + 1) = ws.take i ++ [v2] := by rw [List.take_add_one, hw]; rfl
          have e8 : (ws.take i).length = i := by rw [List.length_take]; omega
          rw [e9, ← LCg.lst_snoc, e8]
        · exact ⟨keep7 _ _ (lt1 (hnw p hp)) (lt2 (hnw p hp)) (keep2 p (List.mem_cons_of_mem _ hp)), (N' p (List.mem_cons_of_mem _ hp)).2⟩
    · obtain rfl : i = rvs.length := by omega
      refine W.done _ _ _ (by rw [List.size_toArray]; exact st) fun h₂ tk₂ hk₂ => ?_
      have hwt : ws.take rvs.length = ws := List.take_of_length_le (by omega)
      rw [hwt] at N'
      have keep2 : ∀ p ∈ (I + 1, LCg.lst ws) :: news, h₂.get? p.1 = some p.2 := fun p hp => hk₂ _ _ (by
        rw [List.mem_singleton]
        rcases List.mem_cons.mp hp with rfl | hp
        · exact Nat.ne_of_gt (Nat.lt_succ_self _)
        · exact Nat.ne_of_lt (hnw p hp)) (N' p hp).1
      have F2 : Fr h₀ L h₂ m := ⟨F'.ns.at' fun o e => hk₂ L o (by simpa using hLI) e, fun b o e => hk₂ b o (by
            rw [List.mem_singleton]; intro q; rw [q, hI₀] at e; cases e) (F'.keep b o e), F'.above⟩
      refine ⟨m', hn'.at' fun o e => hk₂ _ o (by rw [List.mem_singleton]; exact Nat.ne_of_gt (Nat.lt_succ_of_lt (Nat.lt_succ_self _))) e, fun h₃ hs₃ => fin (I + 1) h₃ tk₂ (F2.change hs₃ (lt2 hLs).symm hC₀) (fun p hp => ?_) (fun p hp => Nat.lt_succ_of_lt (hnw p hp))⟩
      refine ⟨hs₃.extBut _ _ ?_ (keep2 p hp), (N' p hp).2⟩
      rcases List.mem_cons.mp hp with rfl | hp
      · exact Nat.ne_of_lt (Nat.lt_succ_self _)
      · exact lt2 (hnw p hp)
  · refine F.keeps fun b o e => e3 b o (Nat.lt_trans (Heap.lt_size e) (by rw [hI]; exact Nat.lt_succ_of_lt (Nat.lt_succ_self _))) (e2 _ _ (e1 _ _ e))
  · intro p hp
    rcases List.mem_cons.mp hp with rfl | hp
    · exact ⟨by rw [List.take_zero]; exact e3 _ _ (Nat.lt_succ_self _) eD, (lt1 hLs).symm, hD₀⟩
    · exact ⟨e3 _ _ (Nat.lt_trans (hnw p hp) (Nat.lt_succ_of_lt (Nat.lt_succ_self _))) (e2 _ _ (e1 _ _ (N p hp).1)), (N p hp).2⟩
 k_extra "q"
end
end
section
variable {prog : Program} {w : World} {A A₀ : Around} {s : Shared} {K : Frag} {L : Addr} {h₀ base : Heap} {m mg mb : Str → Option Value} {news : List (Addr × Obj)} {p : Program} {loose : List Str} {mean : ExcName → Option Value}
  {env : Env} {outer : List Env} {R : Result → Shared → Prop} {name qual : Str} {params : Arguments} {body : List Stmt} {scope : Scope} {dV kV doc pm cdv ct oc : Value} {an od : Option Addr} {osl : Array (Option Value)} {f : Addr} {args : Args} {binds : List (Str × Value)}
theorem code_turnC (B : Below A₀ base outer h₀) (F : Fr h₀ L s.heap m) (X₀ : K.In h₀) (N : News h₀ L s.heap news) (T : Top p loose mean mg mb h₀) (XB : K.In base) (TB : Top p loose mean mg mb base) (D : KtsDicts (outer.filterMap (·.frame)) h₀)
    (hA : A.frames = some (env :: outer)) (hf : env.frame = some L) (hke : env.scope.kind = .function)
    (ho : K.lookup f = some ⟨oc, od, .func (fnOf name qual params body scope dV kV doc pm an cdv ct), osl⟩) (hcd : codeIn K cdv qual = true) (hroom : A.depth < recursionLimit)
    (hbind : BindsTo s (fnOf name qual params body scope dV kV doc pm an cdv ct) args binds) (hkind : (binds.all fun y => scope.names.lookup y.1 == some .local || scope.names.lookup y.1 == some .cell) = true)
    (hnd : ((cellsFrom 0 scope.names []).map (·.1)).Nodup)
    (h : ∀ g L' h₁ tk cells, Fr h₀ L g m → Fr g L' h₁ (bindL (envOfC qual scope L' f cdv).kindOf binds fun _ => none) → News g L' h₁ (cells ++ news) →
      CellsAre (bindC (envOfC qual scope L' f cdv).kindOf binds fun _ => none) (cellsFrom (L' + 1) scope.names []) cells → Below A base (env :: outer) g → K.In g → Top p loose mean mg mb g → KtsDicts ((env :: outer).filterMap (·.frame)) g → (∀ p ∈ news, p.1 < L') →
      wpAny (model prog w) (A.deeper (envOfC qual scope L' f cdv)) (execs body (envOfC qual scope L' f cdv))
        (fun fl s' => LeaveS ((env :: outer).filterMap (·.frame)) A₀ base outer K p loose mean mg mb h₀ h₀ L m g R (match fl with | .ret v => v | _ => .none) s')
        (fun e s' => wpAny (model prog w) (A.deeper (envOfC qual scope L' f cdv)) (leaving (envOfC qual scope L' f cdv) e) (fun _ s'' => R (.error e) s'') (fun e' s'' => R (.error e') s'') s')
        { s with heap := h₁, toks := tk })
    (hco : scope.isCoroutine = false) (hgen : scope.isGenerator = false) (hk : scope.kind = .function) : codeAny (model prog w) A (.call (.ref f) args) R s := by
 k_with "w" =>
  obtain ⟨FG, BG, st, lv⟩ := groundX (R := R) B F N hA hf hke
  obtain ⟨oL, es, ep, hL, hLd, hLk, hLf⟩ := FG.ns
  have DG : KtsDicts ((env :: outer).filterMap (·.frame)) (hideAll s.heap (news.map (·.1))) := fun b hb => by
    rcases frame_or hf hb with rfl | hb
    · exact ⟨oL, es, ep, hL, hLd⟩
    · obtain ⟨o, es', n', ho', hd'⟩ := D b hb
      exact ⟨o, es', n', st b o ho', hd'⟩
  refine codeAny_call_function hroom ((X₀.keeps F.keep) _ _ ho) rfl hco hgen rfl (codeRec_of (X₀.keeps F.keep) hcd) (hbind _ _ _ _ ?_)
  refine wpAny_newFunctionEnv_cells hk (kindsX hkind _) fun env' he s' x => ?_
  subst he
  refine ⟨(T.nolimit.keeps F.keep).keeps x.toInCall.keep, codeAny_func ?_⟩
  obtain ⟨h₁, tk, rfl, _⟩ := x.done
  have hk₁ := x.toInCall.keep
  obtain ⟨cells, NC, Y⟩ := Cl.news (h₀ := s.heap) (Nat.le_refl _) fun n c hm => ⟨x.cell n c (lookup_of_mem_nodup (cellsFrom_names scope.names 0 (s.heap.objs.size + 1) [] [] rfl ▸ hnd) hm), x.above n c hm⟩
  refine wpAny_mono (h _ s.heap.objs.size h₁ tk cells FG ⟨x.toInCall.ns, fun b o e => hk₁ b o (of_hideAll _ e), Nat.le_of_eq (hideAll_size _ _)⟩ (fun p hp => ?_) Y BG (X₀.keeps st) (T.keeps st) DG (fun p hp => Heap.lt_size (N p hp).1)) (fun fl s' hl => leave_turn B F N XB TB D hA hf hke hl) fun _ _ y => y
  rcases List.mem_append.mp hp with hp | hp
  · refine ⟨(NC p hp).1, (NC p hp).2.1, ?_⟩
    cases q : (hideAll s.heap (news.map (·.1))).get? p.1 with
    | none => rfl
    | some o =>
      have := of_hideAll _ q
      rw [(NC p hp).2.2] at this; cases this
  · exact ⟨hk₁ _ _ (N p hp).1, Nat.ne_of_lt (Heap.lt_size (N p hp).1), hideAll_none _ (List.mem_map_of_mem hp)⟩
 k_extra "q"
end
theorem reg131 : True := by
  k_with "my enterSC" => (((( refine' code_turnC ?zk1 ?zk2 ?zk3 ?zk4 ?zk5 ?zXB ?zTB ?zD ?zkA ?kF ?kK ?zk6 ?zk7 ?zk8 ?zk9 ?kB ?zkD ?_ ?zc2 ?zc3 ?zc4; (case zkA => exact rfl); (case kF => exact rfl); (case kK => first | exact rfl | assumption); (case zXB => assumption); (case zTB => assumption); (case zD => assumption); (case zk1 => k_asm); (case zk2 => k_asm); (case zk3 => k_asm); (case zk4 => k_asm); (case zk5 => k_asm); (case zk6 => k_is); (case zk7 => k_is); (case zk8 => first | exact room0 (by k_extra "a") | ktr_room); (case zk9 => exact BindsTo.of_eq rfl); (case kB => exact rfl); (case zkD => decide +kernel); (case zc2 => exact rfl); (case zc3 => exact rfl); (case zc4 => exact rfl); k_whole; (k_extra "h5"); generalize p5_1 T9 = g', p5_2 T9 = L', p5_3 T9 = h', p5_4 T9 = tk', p5_5 T9 = cells'; clear T9; intro FG' F' N' Y' B' X' T' D' l1; k_cells Y'; (try simp only [List.cons_append, List.nil_append] at N'); (try dsimp only); (try (k_extra "kf")); have l2 := lt_succ l1; have l3 := lt_succ l2; have l4 := lt_succ l3; (try (first | (rename Obj => x4; revert x4; rename Obj => x3; revert x3; rename Obj => x2; revert x2; rename Obj => x1; revert x1; (try dsimp only); (k_extra "h1"); generalize c1 _ _ = o'; intro d1'; (k_extra "h1"); generalize c1 _ _ = o2'; intro d2'; (k_extra "h1"); generalize c1 _ _ = o3'; intro d3'; (k_extra "h1"); generalize c1 _ _ = o4'; intro d4'; intros) | (rename Obj => x3; revert x3; rename Obj => x2; revert x2; rename Obj => x1; revert x1; (try dsimp only); (k_extra "h1"); generalize c1 _ _ = o'; intro d1'; (k_extra "h1"); generalize c1 _ _ = o2'; intro d2'; (k_extra "h1"); generalize c1 _ _ = o3'; intro d3'; intros) | (rename Obj => x2; revert x2; rename Obj => x1; revert x1; (try dsimp only); (k_extra "h1"); generalize c1 _ _ = o'; intro d1'; (k_extra "h1"); generalize c1 _ _ = o2'; intro d2'; intros) | (rename Obj => x1; revert x1; (try dsimp only); (k_extra "h1"); generalize c1 _ _ = o'; intro d1'; intros))))); (first | revert g' L' h' tk' cells' o' o2' o3' o4' | ((try revert o4'); (try revert o3'); (try revert o2'); (try revert o'); (try revert cells'); (try revert tk'); (try revert h'); (try revert L'); (try revert g'))); intros))
  trivial
theorem adjust_to (a n : Nat) (ha : a ≤ n) : Builtin.Slice.sliceAdjust none (some (a : Int)) 1 (n : Int) = (0, (a : Int)) := by
  unfold Builtin.Slice.sliceAdjust
  have h1 : ¬ ((1 : Int) < 0) := by omega
  have h2 : ¬ ((a : Int) < 0) := by omega
  simp only [h1, h2, if_false]
  congr 1
  omega
theorem places_to (a : Nat) : Builtin.Slice.slicePlaces 0 (a : Int) 1 = a := by
  unfold Builtin.Slice.slicePlaces
  have h1 : (1 : Int) > 0 := by omega
  simp only [h1, if_true, Int.ediv_one]
  split <;> omega
section
variable {prog : Program} {w : World} {A : Around} {E : Value → Shared → Prop} {s : Shared} {h₀ : Heap} {L : Addr} {m : Str → Option Value} {news : List (Addr × Obj)}
theorem sliceApplied_to {sl : Addr} {a n : Nat} {u : Tok} {Q : Int × Int × Nat → Shared → Prop} (hs : s.heap.IsSliceOf sl .none (.int a u) .none) (ha : a ≤ n) (h : Q (0, 1, a) s) :
    wpAny (model prog w) A (Builtin.Slice.sliceApplied (.ref sl) (pure (n : Int))) Q E s := by
 k_with "w" =>
  obtain ⟨os, hos, hcs, hds⟩ := id hs
  unfold Builtin.Slice.sliceApplied Builtin.Slice.sliceFields
  refine wpAny_bind (wpAny_bind (wpAny_field hos hds (x := .none) rfl (wpAny_bind (wpAny_field hos hds (x := .int a u) rfl (wpAny_bind (wpAny_field hos hds (x := .none) rfl (wpAny_pure ?_)))))))
  refine wpAny_bind (slicePart_none ?_)
  show wpAny _ _ (if ((1 : Int) == 0) = true then _ else _) _ _ s
  rw [if_neg (by decide)]
  refine wpAny_bind (slicePart_none (wpAny_bind (slicePart_int (wpAny_bind (wpAny_pure ?_)))))
  show wpAny _ _ (match Builtin.Slice.sliceAdjust none (some (a : Int)) 1 (n : Int) with | (lo, hi) => pure (lo, (1 : Int), Builtin.Slice.slicePlaces lo hi 1)) _ _ s
  rw [adjust_to a n ha]
  show wpAny _ _ (pure ((0 : Int), (1 : Int), Builtin.Slice.slicePlaces 0 (a : Int) 1)) _ _ s
  rw [places_to a]
  exact wpAny_pure h
 k_extra "q"
theorem pick_to (xs : Array Value) (a : Nat) : ((List.range a).filterMap fun (k : Nat) => xs[((0 : Int) + (k : Int) * 1).toNat]?).toArray = (xs.toList.take a).toArray := by
  have e : (fun (k : Nat) => xs[((0 : Int) + (k : Int) * 1).toNat]?) = fun k => xs[0 + k]? := by
    funext k
    have : ((0 : Int) + (k : Int) * 1).toNat = 0 + k := by omega
    rw [this]
  rw [e]
  have := pick_run xs 0 a
  rw [List.filterMap_map] at this
  have e2 : ((fun x => xs[x]?) ∘ fun x => 0 + x) = fun k => xs[0 + k]? := rfl
  rw [e2] at this
  rw [this, List.drop_zero]
theorem getItem_tuple_to {t sl : Addr} {items : Array Value} {a : Nat} {u : Tok} {Q : Value → Shared → Prop} (ht : IsTup s.heap t items) (hs : s.heap.IsSliceOf sl .none (.int a u) .none) (ha : a < items.size)
    (h : Q (.ref s.heap.objs.size) { s with heap := s.heap.push { cls := .type "tuple", data := .seq (items.toList.take a).toArray } })
    (hsz : items.size ≤ sizeLine) : wpAny (model prog w) A (getItem (.ref t) (.ref sl)) Q E s := by
 k_with "w" =>
  have hdrop : sizeOk (.seq (items.toList.take a).toArray) := by
    show (items.toList.take a).toArray.size ≤ sizeLine
    rw [List.size_toArray, List.length_take, Array.length_toList]
    omega
  obtain ⟨os, hos, hcs, hds⟩ := id hs
  have hTs : s.TypeIs (.ref sl) "slice" := ⟨os, hos, hcs⟩
  unfold getItem
  try with_reducible refine wpAny_holding ?_
  first | refine wpAny_bind (wpAny_pure ?_) | skip
  refine wpAny_bind (wpAny_sequenceKey ht.typeIs (by decide) ?_)
  refine wpAny_bind (wpAny_callSpecial?_slot (name := Str.ofString "__getitem__") ht.typeIs slot_tuple_getitem
    (wpAny_call_entry slot_tuple_getitem ht.typeIs entry_tuple_getitem ?_ (args_tuple_getitem _ _)))
  show wpAny _ _ (Builtin.Tuple.tupleItemsOf (.ref t) >>= _) _ _ s
  refine wpAny_bind (tupleItemsOf_ ht ?_)
  refine wpAny_bind (wpAny_typeOf hTs ?_)
  rw [if_pos (by decide)]
  refine wpAny_bind (sliceApplied_to hs (Nat.le_of_lt ha) ?_)
  have hno : ¬ (((0 : Int) == 0 && (1 : Int) == 1 && a == items.size) = true) := by
    have : (a == items.size) = false := by rw [beq_eq_false_iff_ne]; omega
    rw [this]; simp
  show wpAny _ _ (if ((0 : Int) == 0 && (1 : Int) == 1 && a == items.size) = true then _ else _) _ _ s
  rw [if_neg hno, pick_to items a]
  first
    | exact wpAny_bind (m := Builtin.Tuple.tupleExact _) (wpAny_newObj_type (wpAny_pure ⟨_, rfl, wpAny_pure h⟩) hdrop)
    | exact wpAny_bind (m := Builtin.Tuple.tupleExact _) (wpAny_newObj_type (wpAny_bind (wpAny_pure (wpAny_pure ⟨_, rfl, wpAny_pure h⟩))) hdrop)
    | exact wpAny_bind (wpAny_bind (m := Builtin.Tuple.tupleExact _) (wpAny_newObj_type (wpAny_pure (wpAny_pure ⟨_, rfl, wpAny_pure h⟩)) hdrop))
    | exact wpAny_bind (wpAny_bind (m := Builtin.Tuple.tupleExact _) (wpAny_newObj_type (wpAny_pure ⟨_, rfl, wpAny_pure h⟩) hdrop))
 k_extra "q"
theorem tup_to {value slice : Expr} {t : Addr} {vs : List Value} {a nt : Nat} {u : Tok} {H : Heap} {tk : Nat} {Q : Value → Shared → Prop} (F : Fr h₀ L H m) (N : News h₀ L H news) (hm : (t, tupN vs nt) ∈ news) (ha : a < vs.length) (hz : vs.length ≤ 1000)
    (h : ∀ D h', Fr h₀ L h' m → News h₀ L h' ((D, tupObj (vs.take a)) :: news) → (∀ p ∈ news, p.1 < D) → Q (.ref D) { s with heap := h', toks := tk })
    (hs : subscripted slice false (.ref t) (.ref H.objs.size) = operate [.ref H.objs.size, .ref t] (getItem (.ref t) (.ref H.objs.size)))
    (hg : ∀ r, letTemporaryGo value (.ref t) r = pure ()) :
    wpAny (model prog w) A (subscriptTail value slice (.ref t) (.ref H.objs.size)) Q E { s with heap := H.push { cls := .type "slice", data := .fields #[.none, .int a u, .none] }, toks := tk } := by
 k_with "w" =>
  have ht : IsTup H t vs.toArray := ⟨_, (N _ hm).1, rfl, nt, rfl⟩
  have ht' : IsTup (H.push { cls := .type "slice", data := .fields #[.none, .int a u, .none] }) t vs.toArray := ht.keeps fun _ _ e => Heap.get?_push_of_some _ e
  refine subscriptTail_ops (s := { s with heap := H.push { cls := .type "slice", data := .fields #[.none, .int a u, .none] }, toks := tk }) ht'.typeIs slot_tuple_getitem.lookup
    (getItem_tuple_to (s := { s with heap := H.push { cls := .type "slice", data := .fields #[.none, .int a u, .none] }, toks := tk }) ht' (Heap.IsSliceOf.new ..) (by rw [List.size_toArray]; exact ha) ?_ (by rw [List.size_toArray, sizeLine_eq]; omega)) hs hg
  have N1 := News.push (F.push { cls := .type "slice", data := .fields #[.none, .int a u, .none] }) (N.grown fun _ _ e => Heap.get?_push_of_some _ e) { cls := .type "tuple", data := .seq (vs.toArray.toList.take a).toArray }
  rw [Heap.size_push] at N1
  rw [List.toList_toArray] at N1 ⊢
  show Q (.ref (H.push _).objs.size) _
  rw [Heap.size_push]
  exact h _ _ ((F.push _).push _) N1 fun p hp => Nat.lt_succ_of_lt (Heap.lt_size (N p hp).1)
 k_extra "q"
end
theorem reg132 : True := by
  k_with ".subscriptTail Name Slice ref ref" => ((((k_here; (with_reducible show wpAny _ _ (subscriptTail _ (PySem.Expr.Slice none _ none _) (Value.ref _) (Value.ref _)) _ _ _); k_dflt (refine' tup_to ?zF ?zN ?zl ?za ?zz ?_ ?zs ?zt; (case zF => k_asm); (case zN => k_asm); (case zl => k_mem); (case za => exact Nat.le_of_ble_eq_true rfl); (case zz => exact Nat.le_of_ble_eq_true rfl); (case zs => with_unfolding_all rfl); (case zt => kmk_pure)); (k_extra "h2"); generalize p2_1 T9 = D', p2_2 T9 = h'; clear T9; intro F' N' l1; (try simp only [List.take_succ_cons, List.take_zero] at N'); (try k_lt l1); (try k_sweep))); (first | revert D' h' | ((try revert h'); (try revert D'))); intros))
  trivial
section
variable {prog : Program} {w : World} {A : Around} {E : Value → Shared → Prop} {s : Shared} {h₀ : Heap} {L : Addr} {news : List (Addr × Obj)}
theorem tup_at {value slice : Expr} {t : Addr} {vs : List Value} {n : Nat} {k : Int} {u : Tok} {x : Value} {Q : Value → Shared → Prop} (j : Nat) (N : News h₀ L s.heap news) (hm : (t, tupN vs n) ∈ news)
    (hk : k = (j : Int)) (hj : j < 1000) (hv : vs[j]? = some x) (hs : subscripted slice false (.ref t) (.int k u) = operate [.ref t, .int k u] (getItem (.ref t) (.int k u))) (hg : ∀ r, letTemporaryGo value (.ref t) r = pure ()) (h : Q x s) :
    wpAny (model prog w) A (subscriptTail value slice (.ref t) (.int k u)) Q E s := by
  subst hk
  have hlt : j < vs.length := by
    apply Classical.byContradiction
    intro q
    rw [List.getElem?_eq_none (by omega)] at hv; cases hv
  refine item_tupleL (j := j) ⟨_, (N _ hm).1, rfl, n, rfl⟩ (by omega) (by omega) ?_ hv h hs hg
  unfold seqIndex?
  simp only [Int.toNat_natCast]
  first | (rw [if_pos (by omega)]; done) | (split <;> first | rfl | omega | (exfalso; omega)) | (simp; omega)
end
theorem reg133 : True := by
  k_with ".subscriptTail Name Constant ref int" => ((k_here; (with_reducible show wpAny _ _ (subscriptTail _ _ (Value.ref _) (Value.int _ _)) _ _ _); k_dflt (first | (refine' tup_at 0 ?zN ?zm (by exact rfl) (by decide) ?zv ?zs ?zg ?_; (case zN => k_asm); (case zm => k_mem); (case zv => exact rfl); (case zs => with_unfolding_all rfl); (case zg => kmk_pure)) | (refine' tup_at 1 ?zN ?zm (by exact rfl) (by decide) ?zv ?zs ?zg ?_; (case zN => k_asm); (case zm => k_mem); (case zv => exact rfl); (case zs => with_unfolding_all rfl); (case zg => kmk_pure)) | (refine' tup_at 2 ?zN ?zm (by exact rfl) (by decide) ?zv ?zs ?zg ?_; (case zN => k_asm); (case zm => k_mem); (case zv => exact rfl); (case zs => with_unfolding_all rfl); (case zg => kmk_pure)))))
  trivial
noncomputable def toldL : List (List Int) := [[24, 0, 14, 19], [], [1, 23, 17, 1], [21, 24]]
noncomputable def indents : List Str := [Str.ofString "  ", Str.ofString "", Str.ofString "\t", Str.ofString "   "]
noncomputable def rowPen (p : Int) (ns : List Int) : Int := (mPen 25 p ns.length).fdiv 9
noncomputable def mRowL (d : Str) : Int → List (List Int) → List (Str × Str × Str)
  | _, [] => []
  | p, ns :: r => mRow p ns d :: mRowL d (rowPen p ns) r
noncomputable def mRowPens : Int → List (List Int) → Int
  | p, [] => p
  | p, ns :: r => mRowPens (rowPen p ns) r
theorem mRowL_snoc (d : Str) (ns : List Int) : ∀ (r : List (List Int)) (p : Int), mRowL d p (r ++ [ns]) = mRowL d p r ++ [mRow (mRowPens p r) ns d]
  | [], p => id rfl
  | a :: r, p => by rw [List.cons_append, mRowL, mRowL_snoc d ns r (rowPen p a)]; rfl
theorem mRowPens_snoc (ns : List Int) : ∀ (r : List (List Int)) (p : Int), mRowPens p (r ++ [ns]) = rowPen (mRowPens p r) ns
  | [], p => id rfl
  | a :: r, p => by rw [List.cons_append, mRowPens, mRowPens_snoc ns r (rowPen p a)]; rfl

theorem datIn_list {r : List (Addr × Obj)} {v : Value} {ds : List Dat} (h : DatIn r v (.list ds)) : ∃ a vs n, v = .ref a ∧ (a, W.listOf (List.toArray vs) n) ∈ r ∧ DatAll r vs ds := by
  cases h with
  | list hm k => exact ⟨_, _, _, rfl, hm, k⟩
theorem datIn_bool {r : List (Addr × Obj)} {v : Value} {b : Bool} (h : DatIn r v (.bool b)) : v = .bool b := by
  cases h; rfl
theorem datIn_int {r : List (Addr × Obj)} {v : Value} {i : Int} (h : DatIn r v (.int i)) : ∃ t, v = .int i t := by
  cases h; exact ⟨_, rfl⟩
theorem datIn_head {r : List (Addr × Obj)} {v : Value} {x l : Str} {b : Bool} {i : Int} (h : DatIn r v (dHeadRow (x, some (l, b, i)))) : ∃ a a2 k1 k2 k3 n n2, v = .ref a ∧ (a, tupN [Value.str x k1, Value.ref a2] n) ∈ r ∧ (a2, tupN [Value.str l k2, Value.bool b, Value.int i k3] n2) ∈ r := by
 k_with "w" =>
  obtain ⟨a, k1, v2, n, e, hm, h2⟩ := datIn_codeT (show DatIn r v (.tuple [.str x, .tuple [.str l, .bool b, .int i]]) from h)
  obtain ⟨a2, vs, n2, rfl, hm2, k⟩ := datIn_tuple h2
  obtain ⟨v1, us, rfl, h1, k⟩ := datAll_cons k
  obtain ⟨v2, us, rfl, h2, k⟩ := datAll_cons k
  obtain ⟨v3, us, rfl, h3, k⟩ := datAll_cons k
  obtain rfl := datAll_nil' k
  obtain ⟨t1, rfl⟩ := datIn_str h1
  obtain rfl := datIn_bool h2
  obtain ⟨t3, rfl⟩ := datIn_int h3
  exact ⟨_, _, _, _, _, _, _, e, hm, hm2⟩
 k_extra "q"
theorem pull {g h : Heap} {L l : Addr} {o : Obj} {r : List (Addr × Obj)} (N : News g L h r) (hm : (l, o) ∈ r) : ∃ rest, News g L h ((l, o) :: rest) ∧ (∀ p ∈ r, p.1 ≠ l → p ∈ rest) ∧ (∀ p ∈ rest, p.1 ≠ l ∧ p ∈ r) := by
  refine ⟨r.filter fun p => decide (p.1 ≠ l), fun p hp => ?_, fun p hp hne => List.mem_filter.mpr ⟨hp, decide_eq_true hne⟩, fun p hp => ⟨of_decide_eq_true (List.mem_filter.mp hp).2, (List.mem_filter.mp hp).1⟩⟩
  rcases List.mem_cons.mp hp with rfl | hp
  · exact N _ hm
  · exact N _ (List.mem_filter.mp hp).1
theorem told_len : ∀ k : Nat, (toldL.getD k []).length ≤ 20
  | 0 => by decide
  | 1 => by decide
  | 2 => by decide
  | 3 => by decide
  | k + 4 => by rw [List.getD_eq_getElem?_getD, List.getElem?_eq_none (by show 4 ≤ k + 4; omega)]; decide
theorem told_take {i : Nat} (h : i < 4) : toldL.take (i + 1) = toldL.take i ++ [toldL.getD i []] := by
  rw [List.take_add_one, List.getD_eq_getElem?_getD, List.getElem?_eq_getElem (show i < toldL.length from h)]; rfl
theorem head_at : ∀ k : Nat, k < 4 → ∃ h b i, mHeads[k]? = some (h, some (Str.ofString "EOT", b, i)) ∧ h.length ≤ 12 ∧ 0 ≤ i ∧ i ≤ 12
  | 0, _ => ⟨_, _, _, rfl, by decide, by decide, by decide⟩
  | 1, _ => ⟨_, _, _, rfl, by decide, by decide, by decide⟩
  | 2, _ => ⟨_, _, _, rfl, by decide, by decide, by decide⟩
  | 3, _ => ⟨_, _, _, rfl, by decide, by decide, by decide⟩
theorem ind_at {t0 t1 t2 t3 : Tok} : ∀ k : Nat, k < 4 → ∃ d t, [Value.str (Str.ofString "  ") t0, Value.str (Str.ofString "") t1, Value.str (Str.ofString "\t") t2, Value.str (Str.ofString "   ") t3][k]? = some (.str d t) ∧ indents[k]? = some d ∧ d.length ≤ 3
  | 0, _ => ⟨_, _, rfl, rfl, by decide⟩
  | 1, _ => ⟨_, _, rfl, rfl, by decide⟩
  | 2, _ => ⟨_, _, rfl, rfl, by decide⟩
  | 3, _ => ⟨_, _, rfl, rfl, by decide⟩

noncomputable def hereB (rs : List (Str × Str × Str)) : Str := Txt.join (Str.ofString "\n") (rs.map (·.2.1))
noncomputable def hereT (x d : Str) (rs : List (Str × Str × Str)) : Str := x ++ hereB rs ++ (if rs.isEmpty = true then Str.ofString "" else Str.ofString "\n") ++ d ++ Str.ofString "EOT"
theorem mRowL_len (d : Str) : ∀ (l : List (List Int)) (p : Int), (mRowL d p l).length = l.length
  | [], _ => id rfl
  | a :: r, p => by rw [mRowL, List.length_cons, List.length_cons, mRowL_len d r]
theorem ind_ok {d : Str} : ∀ {k : Nat}, indents[k]? = some d → PyData.strOk d = true
  | 0, h => by cases h; decide +kernel
  | 1, h => by cases h; decide +kernel
  | 2, h => by cases h; decide +kernel
  | 3, h => by cases h; decide +kernel
  | k + 4, h => by cases h
theorem flat_head (b : Bool) (i : Int) : Flat 2 (dHead (some (Str.ofString "EOT", b, i))) :=
  Flat.tuple _ ((fmc (Flat.str _ (by decide +kernel)) ((fmc (Flat.bool _) ((fmc (Flat.int _) (List.forall_mem_nil _)))))))
theorem flat_end {d : Str} (h : PyData.strOk d = true) (n e b : Int) : Flat 2 (dEnd n (.ok (e, d, b))) :=
  Flat.tuple _ ((fmc (Flat.str _ (by decide +kernel)) ((fmc (Flat.int _) ((fmc (Flat.str _ h) ((fmc (Flat.int _) (List.forall_mem_nil _)))))))))
theorem flat_endE (n : Int) : Flat 2 (dEnd n (.error whyE)) :=
  Flat.tuple _ ((fmc (Flat.str _ (by decide +kernel)) ((fmc (Flat.str _ (by decide +kernel)) ((fmc (Flat.int _) (List.forall_mem_nil _)))))))
theorem why_bd {d : Str} : ∀ {k : Nat}, indents[k]? = some d → (whyL d).length ≤ 200 ∧ d.length ≤ 3
  | 0, h => by cases h; decide +kernel
  | 1, h => by cases h; decide +kernel
  | 2, h => by cases h; decide +kernel
  | 3, h => by cases h; decide +kernel
  | k + 4, h => by cases h
theorem nil_le : (Str.ofString "").length ≤ 200 := by decide
theorem whyM_le : whyM.length ≤ 200 := by decide
theorem mRow_bd {d : Str} {k : Nat} (h : indents[k]? = some d) (p : Int) (ns : List Int) (hn : ns.length ≤ 20) : (mRow p ns d).1.length ≤ 200 ∧ (mRow p ns d).2.1.length ≤ 300 ∧ (mRow p ns d).2.2.length ≤ 200 := by
 k_with "w" =>
  obtain ⟨h1, h2⟩ := why_bd h
  have h3 := text_le 25 p ns
  have h4 := rowTx_le (mText 25 p ns) (mRowSort p ns)
  have hq : 0 ≤ mRowSort p ns := Int.fmod_nonneg_of_pos _ (by decide)
  have e1 : (Txt.slice d none (some (mRowSort p ns))).length ≤ 3 := by rw [← L_len, slice_ns d hq, List.length_take, L_len]; omega
  have e2 : (Txt.slice d (some 1) none).length ≤ 3 := by rw [← L_len, slice_sn d (by decide), List.length_drop, L_len]; omega
  unfold mRow mRowOf
  generalize rowTx _ _ = y at *
  split
  · refine ⟨?_, ?_, nil_le⟩ <;> dsimp only <;> omega
  split
  · refine ⟨?_, ?_, h1⟩ <;> dsimp only <;> (try rw [Str.length_append]) <;> omega
  split
  · refine ⟨by dsimp only; omega, ?_, whyM_le⟩
    dsimp only
    rw [Str.length_append, Str.length_append]
    split
    · rw [show (Str.ofString "\t").length = 1 by decide]; omega
    · rw [show (Str.ofString " ").length = 1 by decide]; omega
  · refine ⟨?_, ?_, nil_le⟩ <;> dsimp only <;> (try rw [Str.length_append]) <;> omega
 k_extra "q"
theorem mRowL_bd {d : Str} {k : Nat} (h : indents[k]? = some d) : ∀ (l : List (List Int)) (p : Int), (∀ ns ∈ l, ns.length ≤ 20) → ∀ q ∈ mRowL d p l, q.1.length ≤ 200 ∧ q.2.1.length ≤ 300 ∧ q.2.2.length ≤ 200
  | [], _, _, q, hq => by cases hq
  | ns :: r, p, hl, q, hq => by
    rw [mRowL] at hq
    rcases List.mem_cons.mp hq with rfl | hq
    · exact mRow_bd h p ns (hl _ List.mem_cons_self)
    · exact mRowL_bd h r _ (fun n hn => hl n (List.mem_cons_of_mem _ hn)) q hq
theorem toldL_bd : ∀ ns ∈ toldL, ns.length ≤ 20 := by decide
theorem mids_of {rd : List (Addr × Obj)} : ∀ {rs : List (Str × Str × Str)} {ys : List Value}, DatAll rd ys (rs.map dRow) → ∃ us : List (Str × Tok), us.map (·.1) = rs.map (·.2.1) ∧ Mids rd ys (strValues us)
  | [], _, h => by cases h; exact ⟨[], rfl, rfl, fun i v e => by cases e⟩
  | r :: rs, _, h => by
    cases h with
    | cons h1 h2 =>
      obtain ⟨us, e, h3, h4⟩ := mids_of h2
      obtain ⟨a, k1, k2, k3, n, rfl, hm⟩ := datIn_row h1
      refine ⟨(r.2.1, k2) :: us, by rw [List.map_cons, e, List.map_cons], by rw [strValues, List.map_cons, List.length_cons, List.length_cons, ← h3, strValues], fun i v hv => ?_⟩
      cases i with
      | zero => cases hv; exact ⟨_, _, _, _, _, rfl, hm, rfl⟩
      | succ i => exact h4 i v hv
noncomputable def Part.tx : Part → Str
  | .text y => y
  | .code y _ => y
theorem rows_sum : ∀ (rs : List (Str × Str × Str)), (∀ q ∈ rs, q.1.length ≤ 200 ∧ q.2.1.length ≤ 300 ∧ q.2.2.length ≤ 200) → ((rs.map (·.2.1)).map (·.length)).sum ≤ 300 * rs.length
  | [], _ => Nat.zero_le _
  | r :: rs, h => by
    have h1 := (h r List.mem_cons_self).2.1
    have := rows_sum rs fun q hq => h q (List.mem_cons_of_mem _ hq)
    rw [List.map_cons, List.map_cons, List.sum_cons, List.length_cons]; omega
theorem tx_sum {ps : List Part} {us : List (Str × Tok)} (h : us.map (·.1) = ps.map Part.tx) : ((us.map (·.1)).map (·.length)).sum = (ps.map fun q => q.tx.length).sum ∧ us.length = ps.length := by
  rw [h, List.map_map]
  refine ⟨rfl, ?_⟩
  have := congrArg List.length h
  simpa using this
theorem Mids.mono {a b : List (Addr × Obj)} {rvs ws : List Value} (h : Mids a rvs ws) (hs : ∀ p ∈ a, p ∈ b) : Mids b rvs ws :=
  ⟨h.1, fun i v hv => by obtain ⟨t, v1, v2, v3, nt, e, hm, hw⟩ := h.2 i v hv; exact ⟨t, v1, v2, v3, nt, e, hs _ hm, hw⟩⟩
theorem hereB_le (rs : List (Str × Str × Str)) (h : rs.length ≤ 4) (hb : ∀ q ∈ rs, q.1.length ≤ 200 ∧ q.2.1.length ≤ 300 ∧ q.2.2.length ≤ 200) : (hereB rs).length ≤ 1300 := by
 k_with "w" =>
  have key : ∀ rs : List (Str × Str × Str), (∀ q ∈ rs, q.1.length ≤ 200 ∧ q.2.1.length ≤ 300 ∧ q.2.2.length ≤ 200) → (hereB rs).length ≤ 301 * rs.length := by
    intro rs
    induction rs with
    | nil => intro _; decide
    | cons r rs ih =>
      intro hb
      have := ih fun q hq => hb q (List.mem_cons_of_mem _ hq)
      have h1 := (hb r List.mem_cons_self).2.1
      cases rs with
      | nil =>
        have e : hereB [r] = r.2.1 := join_one _ _
        rw [e, List.length_singleton]; omega
      | cons r2 rs =>
        have e : hereB (r :: r2 :: rs) = r.2.1 ++ Str.ofString "\n" ++ hereB (r2 :: rs) := join_cons _ _ _ _
        rw [e, Str.length_append, Str.length_append, show (Str.ofString "\n").length = 1 by decide, List.length_cons]; omega
  have := key rs hb
  omega
 k_extra "q"
theorem reg134 : True := by
  k_with ".binaryOp Add str str" => ((((k_here; (with_reducible show wpAny _ _ (binaryOp Operator.Add (Value.str _ _) (Value.str _ _)) _ _ _); (refine' KOpn.add ?zkxac ?_; (case zkxac => omega)); (try dsimp only); (k_extra "h2"); generalize p2_1 T9 = t', p2_2 T9 = k'; clear T9; intro _)); (first | revert t' k' | ((try revert k'); (try revert t'))); intros))
  trivial
theorem nl_le (rs : List (Str × Str × Str)) : (if rs.isEmpty = true then Str.ofString "" else Str.ofString "\n").length ≤ 1 := by split <;> decide
theorem eot_len : (Str.ofString "EOT").length = 3 := by decide
theorem x_len : (Str.ofString "x").length = 1 := by decide

noncomputable def dueAt (stop : Int) : Except (Str × Int) (List Part) → Except (Str × Int) (List Part × Int)
  | .ok ps => .ok (mFin ps, stop)
  | .error e => .error e
noncomputable def dRawDue (stop : Int) : Except (Str × Int) (List Part) → Dat
  | .ok ps => dTold [.str (Txt.join (Str.ofString "") ((mFin ps).map Part.tx)), .int stop]
  | .error (y, n) => dRefused y n
structure HereAt (x d : Str) (b : Bool) (i : Int) (rs : List (Str × Str × Str)) (n : Int) (K : Nat) (R : Except (Str × Int) (List Part)) : Prop where
  h1 : mHead (Str.ofString "x" ++ hereT x d rs) 1 = some (Str.ofString "EOT", b, i + 1)
  h2 : mHead (hereT x d rs) 0 = some (Str.ofString "EOT", b, i)
  h3 : ∃ K, mEnd (hereT x d rs ++ Str.ofString ";\nEOT\n") (Str.ofString "EOT") x.length K x.length = some (.ok ((x.length : Int) + (hereB rs).length, d, (hereT x d rs).length))
  h4 : ∃ K, mEnd (Txt.slice (hereT x d rs) none (some (-1)) ++ Str.ofString "Tz") (Str.ofString "EOT") x.length K x.length = some (.error whyE)
  h5 : mDue b K rs (n + 1) [] = some R
  h6 : K ≤ 2000
  h7 : ∀ ps, R = .ok ps → ps = [] ∨ ∃ qs y, ps = qs ++ [.text y]
  raw : b = true → ∃ K R2, K ≤ 8 ∧ mRaw (hereT x d rs ++ Str.ofString ";") d ((x.length : Int) + (hereB rs).length) K x.length (n + 1) [] = some R2 ∧ dRaw ((x.length : Int) + (hereB rs).length) R2 = dRawDue ((x.length : Int) + (hereB rs).length) R ∧ Flat 3 (dRawDue ((x.length : Int) + (hereB rs).length) R) ∧ ∀ ps, R = .ok ps → (∀ q ∈ mFin ps, ∃ y, q = .text y) ∧ ((mFin ps).map fun q => q.tx.length).sum ≤ 65536 ∧ (mFin ps).length ≤ 65536
  parts : b = false → ∃ K, K ≤ 65536 ∧ (match (if (d != Str.ofString "") = true then mPass (hereT x d rs ++ Str.ofString ";") d ((x.length : Int) + (hereB rs).length) d.length x.length else .ok (x.length : Int)) with | .error y => some (.error (y, n + 1)) | .ok i' => mLoop (bfI ((x.length : Int) + (hereB rs).length)) (fun i => i) (hereT x d rs ++ Str.ofString ";") (Str.ofString "") d ((x.length : Int) + (hereB rs).length) K i' (n + 1) [] []) = some (dueAt ((x.length : Int) + (hereB rs).length) R) ∧
    Flat 4 (dParts (dueAt ((x.length : Int) + (hereB rs).length) R)) ∧
    (∀ j, 0 ≤ j → j < ((hereT x d rs ++ Str.ofString ";").length : Int) → (Txt.item (hereT x d rs ++ Str.ofString ";") j == Str.ofString "$") = true → (mSignAt (hereT x d rs ++ Str.ofString ";") (j + 1) == Str.ofString "{") = false ∧ mStart (mSignAt (hereT x d rs ++ Str.ofString ";") (j + 1)) = false)
noncomputable def HereOK (p n : Int) : Prop := ∀ x b i d, mHeads[(((0 : Int) + p.fmod 4).fmod 4).toNat]? = some (x, some (Str.ofString "EOT", b, i)) → indents[(((0 : Int) + (p.fdiv 4).fmod 4).fmod 4).toNat]? = some d →
  ∃ K R, HereAt x d b i (mRowL d (((p.fdiv 4).fdiv 4).fdiv 5) (toldL.take (((4 : Int) + ((p.fdiv 4).fdiv 4).fmod 5).fmod 5 - 0).toNat)) n K R
theorem fillF14 {w : World} {h₀ : Heap} (h : PySem.Challenge.rw_pq0846_01.row.prog = PySem.Challenge.rw_pq0846_01.row.prog) (X : (hd.heap_39 w.params).In h₀) : (hd.heap_39 w.params).In h₀ := by
  revert h X; k_fill; intro h X; exact X
theorem hereright_c : ∀ {w : World} {mean mg mb} {dp un : Nat} {gd cn} {cs : Scope} {a ccd cl} {outer : List Env} {A₀ base h₀ L m} {s : Shared} {hp tk0 news} {Q E : Value → Shared → Prop} {l : Addr} {p : Int} {tp : Tok} {nn : Nat} {n : Int} {tn : Tok} (B : Below A₀ base outer h₀) (F : Fr h₀ L hp m) (X : (hd.heap_39 w.params).In h₀) (N : News h₀ L hp ((l, W.listOf [Value.int p tp].toArray nn) :: news)) (T : Top hd.view_39 (looseW hd.view_39 []) mean mg mb h₀) (hk : cs.kind = .function) (XB : (hd.heap_39 w.params).In base) (TB : Top hd.view_39 (looseW hd.view_39 []) mean mg mb base) (D : KtsDicts (outer.filterMap (·.frame)) h₀) (hdp : dp + 150 < recursionLimit) (hun : un + 1200 < cLine) (hl : ∀ p ∈ news, p.1 ≠ l) (hOK : HereOK p n)
  (hret : ∀ g h' tk', KtsTurn (outer.filterMap (·.frame)) h₀ g → Below A₀ base outer g → (hd.heap_39 w.params).In g → Top hd.view_39 (looseW hd.view_39 []) mean mg mb g → KtsDicts (outer.filterMap (·.frame)) g → Fr g L h' m → News g L h' (news) → Q (.bool true) { s with heap := h', toks := tk' }),
  wpAny (model PySem.Challenge.rw_pq0846_01.row.prog w) (ktrTop dp un gd cn cs L a ccd cl outer) (call (.ref 439) [.ref l, .int n tn]) Q E { s with heap := hp, toks := tk0 } := by
 k_with "w" =>
  (k_extra "cp")
  (k_extra "n6"); generalize p6_1 T9 = l, p6_2 T9 = p, p6_3 T9 = tp, p6_4 T9 = nn, p6_5 T9 = n, p6_6 T9 = tn; clear T9
  intro B F X N T hk XB TB D hdp hun hl hOK hret
  refine wpAny_call ?_
  k_dflt (k_extra "my enterSC")
  repeat' (first | (k_extra "ka") | (k_extra "kb") | ((fail_if_success k_end); (k_extra "z11"); (k_extra "kc")))
  (with_reducible rename DatIn _ _ _ => hH)
  expose_names
  (with_reducible rename News g' L' _ (new ++ _) => NH)
  (with_reducible rename (∀ q ∈ _, ∀ p ∈ new, _) => oH)
  refine exE ((datIn_list hH)) ?_; (try dsimp only); ((k_extra "h1"); generalize c1 _ _ = ha); intro hE9; refine exE hE9 ?_; clear hE9; (try dsimp only); ((k_extra "h1"); generalize c1 _ _ = hvs); intro hE9; refine exE hE9 ?_; clear hE9; (try dsimp only); ((k_extra "h1"); generalize c1 _ _ = hn); intro hE9; obtain ⟨rfl, hmH, hAll⟩ := hE9
  have e3 : o3'.data = Data.cell (some (.ref l)) := d3'
  have e2 : o2'.data = Data.cell none := d2'
  have e1 : o'.data = Data.cell none := d1'
  have hll : @LT.lt Nat _ l L' := l1 _ List.mem_cons_self
  have hnl : ∀ q ∈ new, q.1 ≠ l := fun q hp => Nat.ne_of_gt (oH (l, W.listOf [Value.int p tp].toArray nn) (by (k_extra "wh mid")) q hp)
  clear d1' d2' d3'
  have N0 := cb_drop (news := (l, W.listOf [Value.int p tp].toArray nn) :: (L' + 1 + 1 + 1, o') :: (L' + 1 + 1, o2') :: (L' + 1, o3') :: (new ++ news)) NH (by (k_extra "wh mem"))
  have hc3 : L' + 1 + 1 + 1 ≠ l := by refine neN ?_; omega
  have hc2 : L' + 1 + 1 ≠ l := by refine neN ?_; omega
  have hc1 : L' + 1 ≠ l := by refine neN ?_; omega
  have z1 := Int.fmod_nonneg_of_pos (0 + p.fmod 4) (by decide : (0 : Int) < 4)
  have z2 := Int.fmod_lt_of_pos (0 + p.fmod 4) (by decide : (0 : Int) < 4)
  refine drawn_c (by k_asm) (by k_asm) (by k_asm) N0 (by k_asm) (by first | exact rfl | assumption) (by k_extra "my room") (by k_extra "my room") ((fmc (hc3) ((fmc (hc2) ((fmc (hc1) ((fma (hnl) (hl))))))))) (by omega) ?_
  (first | ((try dsimp only); (k_extra "h4"); generalize p4_1 T9 = q1, p4_2 T9 = kp1, p4_3 T9 = h1, p4_4 T9 = tk1; clear T9; intro F1 N1) | intro q1 kp1 h1 tk1 F1 N1)
  (try k_unfold)
  (try dsimp only)
  (try (k_extra "kf"))
  refine exE ((head_at _ ((mod_nat (by decide) rfl) : (((0 : Int) + p.fmod 4).fmod 4).toNat < 4))) ?_; (try dsimp only); ((k_extra "h1"); generalize c1 _ _ = x); intro hE9; refine exE hE9 ?_; clear hE9; (try dsimp only); ((k_extra "h1"); generalize c1 _ _ = b); intro hE9; refine exE hE9 ?_; clear hE9; (try dsimp only); ((k_extra "h1"); generalize c1 _ _ = i); intro hE9; obtain ⟨hk0, hxl, hi0, hi1⟩ := hE9
  refine exE ((hAll.get (k := (((0 : Int) + p.fmod 4).fmod 4).toNat) (by rw [List.length_map]; exact Nat.lt_of_lt_of_le ((mod_nat (by decide) rfl) : (((0 : Int) + p.fmod 4).fmod 4).toNat < 4) (by decide)))) ?_; (try dsimp only); ((k_extra "h1"); generalize c1 _ _ = v); intro hE9; obtain ⟨hv1, hv2⟩ := hE9
  rw [List.getElem_map] at hv2
  rw [(List.getElem?_eq_some_iff.mp hk0).2] at hv2
  refine exE ((datIn_head hv2)) ?_; (try dsimp only); ((k_extra "h1"); generalize c1 _ _ = a3); intro hE9; refine exE hE9 ?_; clear hE9; (try dsimp only); ((k_extra "h1"); generalize c1 _ _ = a4); intro hE9; refine exE hE9 ?_; clear hE9; (try dsimp only); ((k_extra "h1"); generalize c1 _ _ = t1); intro hE9; refine exE hE9 ?_; clear hE9; (try dsimp only); ((k_extra "h1"); generalize c1 _ _ = t2); intro hE9; refine exE hE9 ?_; clear hE9; (try dsimp only); ((k_extra "h1"); generalize c1 _ _ = t3); intro hE9; refine exE hE9 ?_; clear hE9; (try dsimp only); ((k_extra "h1"); generalize c1 _ _ = n1); intro hE9; refine exE hE9 ?_; clear hE9; (try dsimp only); ((k_extra "h1"); generalize c1 _ _ = n2); intro hE9; obtain ⟨rfl, hm3, hm4⟩ := hE9
  (k_extra "post")
  refine kba_turn (value' := PySem.Expr.Name (PySem.Str.ofString "_") ⟨0, 0, 0, 0⟩) (fun _ => rfl) ?_
  refine kim_list (by k_asm) (List.mem_cons_of_mem _ (List.mem_cons_of_mem _ (List.mem_cons_of_mem _ (List.mem_cons_of_mem _ (List.mem_append_left _ hmH))))) rfl rfl z1 (by omega) hv1 ?_
  have ha3 : a3 ≠ l := hnl _ hm3
  have ha4 : a4 ≠ l := hnl _ hm4
  have N2 := cb_drop (news := (l, W.listOf [Value.int (p.fdiv 4) kp1].toArray nn) :: (L' + 1 + 1 + 1, o') :: (L' + 1 + 1, o2') :: (L' + 1, o3') :: (a3, tupN [Value.str x t1, Value.ref a4] n1) :: (a4, tupN [Value.str (Str.ofString "EOT") t2, Value.bool b, Value.int i t3] n2) :: news) N1 (by refine (fmc (by (k_extra "wh mid")) ((fmc (by (k_extra "wh mid")) ((fmc (by (k_extra "wh mid")) ((fmc (by (k_extra "wh mid")) ((fmc (by simp [hm3]) ((fmc (by simp [hm4]) (by (k_extra "wh mem"))))))))))))))
  clear N1 N0 NH
  generalize hp1 : p.fdiv 4 = p1 at *
  have hlt4 : ∀ q ∈ news, q.1 < a4 := fun q hq => oH q (by (k_extra "wh mid")) _ hm4
  have k1 : @LT.lt Nat _ (L' + 1) a3 := oH (L' + 1, o3') (by (k_extra "wh mid")) _ hm3
  have k2 : @LT.lt Nat _ (L' + 1 + 1) a3 := oH (L' + 1 + 1, o2') (by (k_extra "wh mid")) _ hm3
  have k3 : @LT.lt Nat _ (L' + 1 + 1 + 1) a3 := oH (L' + 1 + 1 + 1, o') (by (k_extra "wh mid")) _ hm3
  have k4 : @LT.lt Nat _ (L' + 1) a4 := oH (L' + 1, o3') (by (k_extra "wh mid")) _ hm4
  have k5 : @LT.lt Nat _ (L' + 1 + 1) a4 := oH (L' + 1 + 1, o2') (by (k_extra "wh mid")) _ hm4
  have k6 : @LT.lt Nat _ (L' + 1 + 1 + 1) a4 := oH (L' + 1 + 1 + 1, o') (by (k_extra "wh mid")) _ hm4
  clear oH hH hAll hv1 hv2 hmH hm3 hm4
  repeat' (first | (k_extra "ka") | (k_extra "kb") | ((fail_if_success k_end); (k_extra "z11"); (k_extra "kc")))
  expose_names
  have N3 := news_swap (by k_asm : News g' L' _ _)
  have hl'l : @LT.lt Nat _ l l' := by (k_extra "wh lt")
  have y1 := Int.fmod_nonneg_of_pos (0 + p1.fmod 4) (by decide : (0 : Int) < 4)
  have y2 := Int.fmod_lt_of_pos (0 + p1.fmod 4) (by decide : (0 : Int) < 4)
  refine drawn_c (by k_asm) (by k_asm) (by k_asm) N3 (by k_asm) (by first | exact rfl | assumption) (by k_extra "my room") (by k_extra "my room") ((fmc (Nat.ne_of_gt hl'l) ((fmc (hc3) ((fmc (hc2) ((fmc (hc1) ((fmc (ha3) ((fmc (ha4) (hl))))))))))))) (by omega) ?_
  (first | ((try dsimp only); (k_extra "h4"); generalize p4_1 T9 = q2, p4_2 T9 = kp2, p4_3 T9 = h2, p4_4 T9 = tk2; clear T9; intro F2 N4) | intro q2 kp2 h2 tk2 F2 N4)
  clear N3
  (try k_unfold)
  (try dsimp only)
  (try (k_extra "kf"))
  refine exE ((ind_at (t0 := tk) (t1 := tk + 1) (t2 := tk + 1 + 1) (t3 := tk + 1 + 1 + 1) _ ((mod_nat (by decide) rfl) : (((0 : Int) + p1.fmod 4).fmod 4).toNat < 4))) ?_; (try dsimp only); ((k_extra "h1"); generalize c1 _ _ = d); intro hE9; refine exE hE9 ?_; clear hE9; (try dsimp only); ((k_extra "h1"); generalize c1 _ _ = td); intro hE9; obtain ⟨hd1, hk1, hdl⟩ := hE9
  (try (k_extra "post"))
  refine kba_turn (value' := PySem.Expr.Name (PySem.Str.ofString "_") ⟨0, 0, 0, 0⟩) (fun _ => rfl) ?_
  refine kim_list (by k_asm) (List.mem_cons_of_mem _ List.mem_cons_self) rfl rfl y1 (by omega) hd1 ?_
  generalize hp2 : p1.fdiv 4 = p2 at *
  skip
  repeat' (first | (k_extra "ka") | (k_extra "kb") | ((fail_if_success k_end); (k_extra "z11"); (k_extra "kc")))
  expose_names
  refine exE ((pull N' (o := W.listOf [Value.int p2 kp2].toArray nn) (l := l) (by (k_extra "wh mid")))) ?_; (try dsimp only); ((k_extra "h1"); generalize c1 _ _ = rest); intro hE9; obtain ⟨N6, hin, hout⟩ := hE9
  have hT : (l'_5, W.listOf [Value.ref l'_1, Value.ref l'_2, Value.ref l'_3, Value.ref l'_4].toArray 0) ∈ rest := hin _ (by (k_extra "wh mid")) (by refine neN ?_; dsimp only; omega)
  have hC3 : (L' + 1 + 1 + 1, o'_2) ∈ rest := hin _ (by (k_extra "wh mid")) (by refine neN ?_; dsimp only; omega)
  have hC2 : (L' + 1 + 1, o'_1) ∈ rest := hin _ (by (k_extra "wh mid")) (by refine neN ?_; dsimp only; omega)
  have hC1 : (L' + 1, o3') ∈ rest := hin _ (by (k_extra "wh mid")) (by refine neN ?_; dsimp only; omega)
  have hA3 : (a3, tupN [Value.str x t1, Value.ref a4] n1) ∈ rest := hin _ (by (k_extra "wh mid")) (by refine neN ?_; dsimp only; omega)
  have hA4 : (a4, tupN [Value.str (Str.ofString "EOT") t2, Value.bool b, Value.int i t3] n2) ∈ rest := hin _ (by (k_extra "wh mid")) (by refine neN ?_; dsimp only; omega)
  have hNw : ∀ q ∈ news, q ∈ rest := fun q hq => hin q (by (k_extra "wh mid")) (hl q hq)
  have hrl : ∀ q ∈ rest, q.1 ≠ l := fun q hq => (hout q hq).1
  have htold : ∀ k : Nat, k < 4 → ∃ tk vs nn2, [Value.ref l'_1, Value.ref l'_2, Value.ref l'_3, Value.ref l'_4][k]? = some (.ref tk) ∧ (tk, W.listOf (List.toArray vs) nn2) ∈ rest ∧ IntsAre vs (toldL.getD k []) ∧ tk ≠ l := by
    intro k hk
    match k, hk with
    | 0, _ => exact ⟨l'_1, [_, _, _, _], _, rfl, hin _ (by (k_extra "wh mid")) (by refine neN ?_; dsimp only; omega), .cons _ _ (.cons _ _ (.cons _ _ (.cons _ _ .nil))), by refine neN ?_; omega⟩
    | 1, _ => exact ⟨l'_2, [], _, rfl, hin _ (by (k_extra "wh mid")) (by refine neN ?_; dsimp only; omega), .nil, by refine neN ?_; omega⟩
    | 2, _ => exact ⟨l'_3, [_, _, _, _], _, rfl, hin _ (by (k_extra "wh mid")) (by refine neN ?_; dsimp only; omega), .cons _ _ (.cons _ _ (.cons _ _ (.cons _ _ .nil))), by refine neN ?_; omega⟩
    | 3, _ => exact ⟨l'_4, [_, _], _, rfl, hin _ (by (k_extra "wh mid")) (by refine neN ?_; dsimp only; omega), .cons _ _ (.cons _ _ .nil), by refine neN ?_; omega⟩
  clear N' hin hout
  have x1 := Int.fmod_nonneg_of_pos (4 + p2.fmod 5) (by decide : (0 : Int) < 5)
  have x2 := Int.fmod_lt_of_pos (4 + p2.fmod 5) (by decide : (0 : Int) < 5)
  refine drawn_c (by k_asm) (by k_asm) (by k_asm) N6 (by k_asm) (by first | exact rfl | assumption) (by k_extra "my room") (by k_extra "my room") hrl (by omega) ?_
  (first | ((try dsimp only); (k_extra "h4"); generalize p4_1 T9 = q3, p4_2 T9 = kp3, p4_3 T9 = h3, p4_4 T9 = tk3; clear T9; intro F3 N7) | intro q3 kp3 h3 tk3 F3 N7)
  clear N6
  (try k_unfold)
  (try dsimp only)
  (try (k_extra "kf"))
  generalize hp3 : p2.fdiv 5 = p3 at *
  generalize hct : (4 + p2.fmod 5).fmod 5 = cnt at *
  repeat' (first | (k_extra "ka") | (k_end; (k_extra "z0"); (k_extra "z1"); (k_extra "z2"); (k_extra "z3"); (k_extra "z9"); first | wrow_close | walk1 | (dsimp only; walk1) | (leave1; (try dsimp only))) | ((fail_if_success k_end); (k_extra "z9"); (k_extra "kc")))
  expose_names
  refine LCg.CompSrc.range (n := (cnt - 0).toNat) rfl (by k_asm) (by k_asm : News g' L' _ ((l, _) :: rest)) (by first | assumption | (rw [← hct]; assumption)) (small_one (by omega) (by omega) (by omega) (by omega)) (rangeSize_nat _ _) (by rw [sizeLine_eq]; omega) ?_
  (try dsimp only); (k_extra "h1"); (generalize c1 _ _ = g)
  refine comp_inv (Inv := fun i ys nw => ∃ k9 rd, nw = (l, W.listOf [Value.int (mRowPens p3 (toldL.take i)) k9].toArray nn) :: (rd ++ rest) ∧ DatAll rd ys ((mRowL d p3 (toldL.take i)).map dRow) ∧ ∀ q ∈ rd, q.1 ≠ l) ?turn ?fin ?start
  case start => exact ⟨kp3, [], rfl, .nil, List.forall_mem_nil _⟩
  case turn =>
    (try dsimp only); (k_extra "h7"); generalize p7_1 T9 = i, p7_2 T9 = ys, p7_3 T9 = nw, p7_4 T9 = v, p7_5 T9 = I, p7_6 T9 = oI, p7_7 T9 = C; clear T9; (k_extra "h6"); generalize p6_1 T9 = oC, p6_2 T9 = D9, p6_3 T9 = m2, p6_4 T9 = h, p6_5 T9 = tk, p6_6 T9 = E'; clear T9; intro hi' hI hP hC hx F4 N8 off ne
    refine exE hI ?_; clear hI; (try dsimp only); ((k_extra "h1"); generalize c1 _ _ = k9); intro hE9; refine exE hE9 ?_; clear hE9; (try dsimp only); ((k_extra "h1"); generalize c1 _ _ = rd); intro hE9; obtain ⟨rfl, hrd, hrdl⟩ := hE9
    refine exE hP ?_; clear hP; (try dsimp only); ((k_extra "h1"); generalize c1 _ _ = t9); intro hE9; obtain rfl := hE9
    have off1 := off.mem _ List.mem_cons_self
    refine exE ((htold i (by omega))) ?_; (try dsimp only); ((k_extra "h1"); generalize c1 _ _ = tk9); intro hE9; refine exE hE9 ?_; clear hE9; (try dsimp only); ((k_extra "h1"); generalize c1 _ _ = vs9); intro hE9; refine exE hE9 ?_; clear hE9; (try dsimp only); ((k_extra "h1"); generalize c1 _ _ = nn9); intro hE9; obtain ⟨ht1, ht2, ht3, ht4⟩ := hE9
    repeat' (first | (k_extra "ka") | (k_extra "kb") | ((fail_if_success k_end); (k_extra "z12"); (k_extra "kc")))
    refine kim_list (by k_asm) (List.mem_cons_of_mem _ (List.mem_cons_of_mem _ (List.mem_cons_of_mem _ (List.mem_cons_of_mem _ (List.mem_append_right _ hT))))) rfl rfl (by omega) (by omega) (by rw [show ((0 : Int) + (i : Int)).toNat = i by omega]; exact ht1) ?_
    have N9 := cb_drop (news := (l, W.listOf [Value.int (mRowPens p3 (toldL.take i)) k9].toArray nn) :: (tk9, W.listOf vs9.toArray nn9) :: (I, oI) :: (C, oC) :: (D9, LCg.lst ys) :: (rd ++ rest)) N8 ((fmc (by (k_extra "wh mid")) ((fmc (List.mem_cons_of_mem _ (List.mem_cons_of_mem _ (List.mem_cons_of_mem _ (List.mem_cons_of_mem _ (List.mem_append_right _ ht2))))) ((fmc (by (k_extra "wh mid")) ((fmc (by (k_extra "wh mid")) ((fmc (by (k_extra "wh mid")) (fun q hq => List.mem_cons_of_mem _ (List.mem_cons_of_mem _ (List.mem_cons_of_mem _ (List.mem_cons_of_mem _ hq))))))))))))))
    clear N8
    repeat' (first | (k_extra "ka") | (k_extra "kb") | ((fail_if_success k_end); (fail_if_success (with_reducible show wpAny _ _ (call (Value.ref 427) _) _ _ _)); (k_extra "kc")))
    refine row_c (by k_asm) (by k_asm) (by k_asm) (by k_asm) (by k_asm) (by first | exact rfl | assumption) (by k_extra "my room") (by k_extra "my room") ht4 ((fmc (Ne.symm off1.1) ((fmc (Ne.symm off1.2.1) ((fmc (Ne.symm off1.2.2) ((fma (hrdl) (hrl))))))))) ht3 (told_len i) (by omega) ?_
    (first | ((try dsimp only); (k_extra "h10"); generalize p10_1 T9 = r9, p10_2 T9 = x9, p10_3 T9 = y9, p10_4 T9 = z9, p10_5 T9 = j1, p10_6 T9 = j2, p10_7 T9 = j3, p10_8 T9 = j4, p10_9 T9 = h9, p10_10 T9 = tk9'; clear T9; intro hrow F9 N10 lo9) | intro r9 x9 y9 z9 j1 j2 j3 j4 h9 tk9' hrow F9 N10 lo9)
    (try k_unfold)
    (try dsimp only)
    have hr9 : ∀ q ∈ (I, oI) :: (C, oC) :: (D9, LCg.lst ys) :: (rd ++ rest), q.1 ≠ r9 := fun q hq => Nat.ne_of_lt (lo9 q (List.mem_cons_of_mem _ (List.mem_cons_of_mem _ hq)))
    have hr9l : l ≠ r9 := Nat.ne_of_lt (lo9 _ List.mem_cons_self)
    refine LCg.CompEnd.intro (by k_asm) N10 ((l, W.listOf [Value.int (mRowPens p3 (toldL.take (i + 1))) j1].toArray nn) :: (((r9, tupObj [.str x9 j2, .str y9 j3, .str z9 j4]) :: rd) ++ rest)) ?sub ?off trivial ⟨j1, _, rfl, ?dat, (fmc (Ne.symm hr9l) (hrdl))⟩
    case sub =>
      rw [told_take (by omega), mRowPens_snoc]
      exact (fmc (by (k_extra "wh mid")) ((fmc (by (k_extra "wh mid")) ((fmc (by (k_extra "wh mid")) ((fmc (List.mem_cons_of_mem _ List.mem_cons_self) ((fmc (by (k_extra "wh mid")) (fun q hq => List.mem_cons_of_mem _ (List.mem_cons_of_mem _ (List.mem_cons_of_mem _ (List.mem_cons_of_mem _ (List.mem_cons_of_mem _ (List.mem_cons_of_mem _ hq)))))))))))))))
    case off =>
      refine LCg.Off3.of fun q hq => ?_
      rcases List.mem_cons.mp hq with rfl | hq
      · exact off1
      · rcases List.mem_cons.mp hq with rfl | hq
        · exact ⟨(hr9 _ List.mem_cons_self).symm, (hr9 _ (List.mem_cons_of_mem _ List.mem_cons_self)).symm, (hr9 _ (List.mem_cons_of_mem _ (List.mem_cons_of_mem _ List.mem_cons_self))).symm⟩
        · exact off.mem _ (List.mem_cons_of_mem _ hq)
    case dat =>
      rw [told_take (by omega), mRowL_snoc, List.map_append]
      refine DatAll.append (DatAll.mono (fun q hq => List.mem_cons_of_mem _ hq) hrd) (DatAll.one ?_)
      rw [hrow]
      exact DatIn.tuple List.mem_cons_self (DatAll.cons (DatIn.str _ _) (DatAll.cons (DatIn.str _ _) (DatAll.cons (DatIn.str _ _) .nil)))
  case fin =>
    (try dsimp only); (k_extra "h2"); generalize p2_1 T9 = ys, p2_2 T9 = nw; clear T9; intro hI
    refine exE hI ?_; clear hI; (try dsimp only); ((k_extra "h1"); generalize c1 _ _ = k9); intro hE9; refine exE hE9 ?_; clear hE9; (try dsimp only); ((k_extra "h1"); generalize c1 _ _ = rd); intro hE9; obtain ⟨rfl, hrd, hrdl⟩ := hE9
    (first | ((try dsimp only); (k_extra "h3"); generalize p3_1 T9 = D9, p3_2 T9 = h, p3_3 T9 = tk; clear T9; intro F4 N8 off) | intro D9 h tk F4 N8 off)
    revert D9 h tk F4 N8 off
    (try dsimp only); (k_extra "h3"); generalize p3_1 T9 = D9, p3_2 T9 = h, p3_3 T9 = tk; clear T9; intro F4 N8 off
    have hrs4 : (mRowL d p3 (toldL.take (cnt - 0).toNat)).length ≤ 4 := by rw [mRowL_len, List.length_take]; exact Nat.min_le_right _ _
    have hrsb := mRowL_bd hk1 (toldL.take (cnt - 0).toNat) p3 (fun ns hn => toldL_bd ns (List.mem_of_mem_take hn))
    refine exE ((show ∃ K R, HereAt x d b i (mRowL d p3 (toldL.take (cnt - 0).toNat)) n K R from by subst hct hp3 hp2 hp1; exact hOK _ _ _ _ hk0 hk1)) ?_; (try dsimp only); ((k_extra "h1"); generalize c1 _ _ = KD); intro hE9; refine exE hE9 ?_; clear hE9; (try dsimp only); ((k_extra "h1"); generalize c1 _ _ = R); intro hE9; have hok := hE9; clear hE9
    clear hOK hk0
    generalize hrse : mRowL d p3 (toldL.take (cnt - 0).toNat) = rs at *
    have hlen := hrd.length
    rw [List.length_map] at hlen
    have he : ys.isEmpty = rs.isEmpty := by cases ys <;> cases rs <;> simp at hlen <;> rfl
    have hB := hereB_le rs hrs4 hrsb
    refine exE ((mids_of hrd)) ?_; (try dsimp only); ((k_extra "h1"); generalize c1 _ _ = us); intro hE9; obtain ⟨hus, hmids⟩ := hE9
    repeat' (first | (k_extra "ka") | (k_extra "kb") | ((fail_if_success k_end); (fail_if_success (with_reducible show wpAny _ _ (eval (PySem.Expr.ListComp _ _ _ _) _) _ _ _)); (k_extra "kc")))
    refine comp3 (by k_asm) (by with_unfolding_all rfl) (by decide) (by rfl) (by decide) (by rfl) (by rfl) (by rfl) (by decide) (by decide) ?_
    repeat' (first | (k_extra "ka") | (k_end; (k_extra "z0"); (k_extra "z1"); (k_extra "z2"); (k_extra "z3"); (fail_if_success (with_reducible show ∃ ra rvs k ws news, _)); first | wrow_close | walk1 | (dsimp only; walk1) | (leave1; (try dsimp only))) | ((fail_if_success k_end); (fail_if_success (with_reducible show ∃ ra rvs k ws news, _)); (k_extra "kc")))
    refine ⟨D9, ys, _, strValues us, _, rfl, rfl, (by k_asm), N8, List.mem_cons_self, by omega, hmids.mono (fun q hq => List.mem_cons_of_mem _ (List.mem_cons_of_mem _ (List.mem_append_left _ hq))), ?_⟩
    (first | ((try dsimp only); (k_extra "h3"); generalize p3_1 T9 = D8, p3_2 T9 = h8, p3_3 T9 = tk8; clear T9; intro F8 N9 l8) | intro D8 h8 tk8 F8 N9 l8)
    have hjl : (us.map (·.1)).length = rs.length := by rw [hus, List.length_map]
    rw [List.length_map] at hjl
    have hsum := rows_sum rs hrsb
    rw [← hus] at hsum
    clear z1 z2 y1 y2 x1 x2 k1 k2 k3 k4 k5 k6 hc1 hc2 hc3 ha3 ha4 hlt4 hll hl'l hrdl htold hrl l8 l1_1 l1_2 l1_3 l1_4 l1_5 l1_6 hp1 hp2 hp3 hd1 hct l1 l2 l3 l4
    repeat' (first | (k_extra "ka") | (k_extra "kb") | ((fail_if_success k_end); (k_extra "sA"); (k_extra "kc")))
    rw [show Txt.join (Str.ofString "\n") (us.map (·.1)) = hereB rs by rw [hus]; rfl] at *
    repeat' (first | (k_extra "ka") | (k_extra "kb") | ((fail_if_success k_end); (fail_if_success (with_reducible show wpAny _ _ (eval (PySem.Expr.IfExp _ _ _ _) _) _ _ _)); (k_extra "kc")))
    expose_names
    refine at_e (fun v => ∃ t, v = .str (if rs.isEmpty = true then Str.ofString "" else Str.ofString "\n") t) (by k_asm) (by k_asm) ?_ ?_
    · repeat' (first | (k_extra "ka") | (k_extra "kb") | ((fail_if_success k_end); (k_extra "kc")))
      · exact AtE.set ⟨_, by rw [if_pos (he.symm.trans (by assumption))]⟩ (by k_asm) (by (k_extra "wh drop"))
      · exact AtE.set ⟨_, by rw [if_neg (by rw [← he, (by assumption : ys.isEmpty = false)]; exact Bool.false_ne_true)]⟩ (by k_asm) (by (k_extra "wh drop"))
    (first | ((try dsimp only); (k_extra "h3"); generalize p3_1 T9 = v10, p3_2 T9 = h10, p3_3 T9 = tk10; clear T9; intro hv10 F10 N10) | intro v10 h10 tk10 hv10 F10 N10)
    refine exE hv10 ?_; clear hv10; (try dsimp only); ((k_extra "h1"); generalize c1 _ _ = t10); intro hE9; obtain rfl := hE9
    have hnl1 := nl_le rs
    have hl3 := eot_len
    have hl1 := x_len
    repeat' (first | (k_extra "ka") | (k_extra "kb") | ((fail_if_success k_end); (k_extra "z15"); (k_extra "kc")))
    expose_names
    have hTl : (x ++ hereB rs ++ (if rs.isEmpty = true then Str.ofString "" else Str.ofString "\n") ++ d ++ Str.ofString "EOT").length ≤ 2000 := by omega
    have hTs : x.length + (hereB rs).length + 3 ≤ (x ++ hereB rs ++ (if rs.isEmpty = true then Str.ofString "" else Str.ofString "\n") ++ d ++ Str.ofString "EOT").length := by omega
    generalize hTe : x ++ hereB rs ++ (if rs.isEmpty = true then Str.ofString "" else Str.ofString "\n") ++ d ++ Str.ofString "EOT" = TX at *
    have hTX : hereT x d rs = TX := hTe
    clear hTe
    clear h_4 h_5 h_6 hnl1 hl3
    have q1 := hok.h1
    have q2 := hok.h2
    have q3 := hok.h3
    have q4 := hok.h4
    rw [hTX] at q1 q2 q3 q4
    refine head_c (by k_asm) (by k_asm) (by k_asm) (by k_asm) (by k_asm) (by first | exact rfl | assumption) (by k_extra "my room") (by k_extra "my room") (by omega) (by decide) ?_ ?_
    · intro _ _ e; rw [q1] at e; cases e
    (first | ((try dsimp only); (k_extra "h8"); generalize p8_1 T9 = y1, p8_2 T9 = b1, p8_3 T9 = j1, p8_4 T9 = r1, p8_5 T9 = u1, p8_6 T9 = u2, p8_7 T9 = h11, p8_8 T9 = tk11; clear T9; intro e F11 N11 o11) | intro y1 b1 j1 r1 u1 u2 h11 tk11 e F11 N11 o11)
    rw [q1] at e
    cases e
    repeat' (first | (k_extra "ka") | (k_extra "kb") | ((fail_if_success k_end); (k_extra "z12"); (k_extra "kc")))
    refine tup_to (a := 2) (by k_asm) (by k_asm) (by k_mem) (Nat.le_of_ble_eq_true rfl) (Nat.le_of_ble_eq_true rfl) ?_ (by with_unfolding_all rfl) (by kmk_pure)
    (try dsimp only); (k_extra "h2"); generalize p2_1 T9 = D12, p2_2 T9 = h12; clear T9; intro F12 N12 l12
    have N13 : News g' L' h12 ((D12, tupObj [Value.str (Str.ofString "EOT") t2, Value.bool b]) :: _) := N12
    clear N12
    repeat' (first | (k_extra "ka") | (k_extra "kb") | ((fail_if_success k_end); (fail_if_success (with_reducible show wpAny _ _ (binaryOp _ (Value.ref _) (Value.ref _)) _ _ _)); (k_extra "kc")))
    expose_names
    have N14 := (by k_asm : News g' L' _ ((_, _) :: (D12, _) :: _))
    refine kde_addT (by k_asm) N14 ⟨_, (N14 _ (List.mem_cons_of_mem _ List.mem_cons_self)).1, rfl, _, rfl⟩ ⟨_, (N14 _ List.mem_cons_self).1, rfl, _, rfl⟩ (by simp) (by simp) (by simp) rfl ?_
    (try dsimp only); (k_extra "h2"); generalize p2_1 T9 = D15, p2_2 T9 = h15; clear T9; intro F15 N15 l15
    have N16 : News g' L' h15 ((D15, tupObj [Value.str (Str.ofString "EOT") t2, Value.bool b, Value.int (i + 1) _]) :: _) := N15
    clear N15
    repeat' (first | (k_extra "ka") | (k_extra "kb") | ((fail_if_success k_end); (k_extra "z5"); (k_extra "kc")))
    refine dat_ne (n₁ := [(r1, tupObj [_, _, _])]) (n₂ := [(D15, tupObj [_, _, _])]) (d := dHead (some (Str.ofString "EOT", b, i + 1))) (e := dHead (some (Str.ofString "EOT", b, i + 1))) N16 (DatIn.tuple List.mem_cons_self (DatAll.cons (DatIn.str _ _) (DatAll.cons (DatIn.bool _) (DatAll.cons (DatIn.int _ _) .nil)))) (by (k_extra "wh mem")) (DatIn.tuple List.mem_cons_self (DatAll.cons (DatIn.str _ _) (DatAll.cons (DatIn.bool _) (DatAll.cons (DatIn.int _ _) .nil)))) (by (k_extra "wh mem")) rfl (flat_head _ _) (by decide) (by dsimp only [Around.deeper, ktrTop]; omega) ?_
    repeat' (first | (k_extra "ka") | (k_extra "kb") | ((fail_if_success k_end); (k_extra "z15"); (k_extra "kc")))
    have N17 := cb_drop (news := (D9, LCg.lst ys) :: (l, W.listOf [Value.int (mRowPens p3 (toldL.take (cnt - 0).toNat)) k9].toArray nn) :: (rd ++ rest)) (by k_asm : News g' L' _ ((D15, _) :: _)) (by (k_extra "wh mem"))
    clear N16
    refine head_c (by k_asm) (by k_asm) (by k_asm) N17 (by k_asm) (by first | exact rfl | assumption) (by k_extra "my room") (by k_extra "my room") (by omega) (by decide) ?_ ?_
    · intro _ _ e; rw [q2] at e; cases e
    (first | ((try dsimp only); (k_extra "h8"); generalize p8_1 T9 = y3, p8_2 T9 = b3, p8_3 T9 = j3, p8_4 T9 = r3, p8_5 T9 = u3, p8_6 T9 = u4, p8_7 T9 = h16, p8_8 T9 = tk16; clear T9; intro e F16 N18 o16) | intro y3 b3 j3 r3 u3 u4 h16 tk16 e F16 N18 o16)
    rw [q2] at e
    cases e
    repeat' (first | (k_extra "ka") | (k_extra "kb") | ((fail_if_success k_end); (k_extra "z5"); (k_extra "kc")))
    refine dat_ne (n₁ := [(r3, tupObj [_, _, _])]) (n₂ := rest) (d := dHead (some (Str.ofString "EOT", b, i))) (e := dHead (some (Str.ofString "EOT", b, i))) N18 (DatIn.tuple List.mem_cons_self (DatAll.cons (DatIn.str _ _) (DatAll.cons (DatIn.bool _) (DatAll.cons (DatIn.int _ _) .nil)))) (by (k_extra "wh mem")) (DatIn.tuple hA4 (DatAll.cons (DatIn.str _ _) (DatAll.cons (DatIn.bool _) (DatAll.cons (DatIn.int _ _) .nil)))) (fun p hp => List.mem_cons_of_mem _ (List.mem_cons_of_mem _ (List.mem_cons_of_mem _ (List.mem_append_right _ hp)))) rfl (flat_head _ _) (by decide) (by dsimp only [Around.deeper, ktrTop]; omega) ?_
    expose_names
    as_aux_lemma =>
    clear F X N T hl hqk e3 e2 e1 hnl hi0 hi1 hqk_1 d'_1 hT hC3 hC1 hA3 hqk_2 h_1 h_3 hrse hlen he hus hmids hjl hsum hl1 h_7 q1 q2 o11 l12 F' N' l1 N14 F15 l15 N17 o16
    revert N18; revert F16; revert q4; revert q3; revert hTX; revert hTs; revert hTl; revert h_2; revert hB; revert hok; revert hrsb; revert hrs4; revert hrd; revert off; revert hNw; revert hA4; revert hC2; revert d'; revert hdl; revert hk1; revert hxl; revert D'; revert T'; revert X'; revert B'; revert FG'; revert hret; revert hun; revert hdp; revert D; revert TB; revert XB; revert hk; revert B
    revert tk16; revert h16; revert u4; revert u3; revert r3; revert TX; revert t'_4; revert tk_5; revert tk_4; revert t'; revert rs; revert R; revert KD; revert D9; revert rd; revert k9; revert ys; revert cnt; revert p3; revert rest; revert o'_1; revert td; revert d; revert p1; revert n2; revert t3; revert t2; revert t1; revert a4; revert i; revert b; revert x; revert L'; revert g'; revert tn; revert n; revert nn; revert l; revert E; revert Q; revert news; revert s; revert m; revert L; revert h₀; revert base; revert A₀; revert outer; revert cl; revert ccd; revert a; revert cs; revert cn; revert gd; revert un; revert dp; revert mb; revert mg; revert mean; revert w
    with_reducible refine no_implicit_lambda% (all1 ne_w ?_); generalize c1 _ _ = w
    (k_extra "n11"); generalize p11_1 T9 = mean, p11_2 T9 = mg, p11_3 T9 = mb, p11_4 T9 = dp, p11_5 T9 = un, p11_6 T9 = gd, p11_7 T9 = cn, p11_8 T9 = cs, p11_9 T9 = a, p11_10 T9 = ccd, p11_11 T9 = cl; clear T9
    (k_extra "n1"); generalize c1 _ _ = outer
    with_reducible refine no_implicit_lambda% (all1 ne_a ?_); generalize c1 _ _ = A₀
    (k_extra "n4"); generalize p4_1 T9 = base, p4_2 T9 = h₀, p4_3 T9 = L, p4_4 T9 = m; clear T9
    with_reducible refine no_implicit_lambda% (all1 ne_s ?_); generalize c1 _ _ = s
    (k_extra "n11"); generalize p11_1 T9 = news, p11_2 T9 = Q, p11_3 T9 = E, p11_4 T9 = l, p11_5 T9 = nn, p11_6 T9 = n, p11_7 T9 = tn, p11_8 T9 = g', p11_9 T9 = L', p11_10 T9 = x, p11_11 T9 = b; clear T9
    (k_extra "n11"); generalize p11_1 T9 = i, p11_2 T9 = a4, p11_3 T9 = t1, p11_4 T9 = t2, p11_5 T9 = t3, p11_6 T9 = n2, p11_7 T9 = p1, p11_8 T9 = d, p11_9 T9 = td, p11_10 T9 = o'_1, p11_11 T9 = rest; clear T9
    (k_extra "n11"); generalize p11_1 T9 = p3, p11_2 T9 = cnt, p11_3 T9 = ys, p11_4 T9 = k9, p11_5 T9 = rd, p11_6 T9 = D9, p11_7 T9 = KD, p11_8 T9 = R, p11_9 T9 = rs, p11_10 T9 = t', p11_11 T9 = tk_4; clear T9
    (k_extra "n8"); generalize p8_1 T9 = tk_5, p8_2 T9 = t'_4, p8_3 T9 = TX, p8_4 T9 = r3, p8_5 T9 = u3, p8_6 T9 = u4, p8_7 T9 = h16, p8_8 T9 = tk16; clear T9
    intro B hk XB TB D hdp hun hret FG' B' X' T' D' hxl hk1 hdl d' hC2 hA4 hNw off hrd hrs4 hrsb hok hB h_2 hTl hTs hTX q3 q4 F16 N18
    have hdk := ind_ok hk1
    refine exE q3 ?_; clear q3; (try dsimp only); ((k_extra "h1"); generalize c1 _ _ = K3); intro hE9; have q3 := hE9; clear hE9
    refine exE q4 ?_; clear q4; (try dsimp only); ((k_extra "h1"); generalize c1 _ _ = K4); intro hE9; have q4 := hE9; clear hE9
    have hle1 : (Str.ofString ";\nEOT\n").length = 6 := by decide
    repeat' (first | (k_extra "ka") | (k_extra "kb") | ((fail_if_success k_end); (k_extra "z6"); (k_extra "kc")))
    refine told_end_c (by k_asm) (by k_asm) (by k_asm) (by k_asm) (by k_asm) (by first | exact rfl | assumption) (by k_extra "a") (by k_extra "a") (by k_extra "a") K3 (by k_extra "my room") (by k_extra "my room") (by rw [Str.length_append]; omega) (by omega) q3 ?_
    (first | ((try dsimp only); (k_extra "h5"); generalize p5_1 T9 = v20, p5_2 T9 = new20, p5_3 T9 = g20, p5_4 T9 = h20, p5_5 T9 = tk20; clear T9; intro D20 O20 T20 B20 X20 P20 Q20 F20 N20) | intro v20 new20 g20 h20 tk20 D20 O20 T20 B20 X20 P20 Q20 F20 N20)
    (try k_unfold)
    (try dsimp only)
    (try (k_extra "kf"))
    clear B' X' T' D' N18 F16
    repeat' (first | (k_extra "ka") | (k_extra "kb") | ((fail_if_success k_end); (k_extra "z5"); (k_extra "kc")))
    refine dat_ne (n₁ := new20) (n₂ := [(_, tupObj [_, _, _, _])]) (e := dEnd n (.ok ((x.length : Int) + (hereB rs).length, d, (TX.length : Int)))) (by k_asm) D20 (by (k_extra "wh mem")) (DatIn.tuple List.mem_cons_self (DatAll.cons (DatIn.str _ _) (DatAll.cons (DatIn.int _ _) (DatAll.cons (DatIn.str _ _) (DatAll.cons (DatIn.int _ _) .nil))))) (by (k_extra "wh mem")) rfl (flat_end hdk _ _ _) (by decide) (by dsimp only [Around.deeper, ktrTop]; omega) ?_
    repeat' (first | (k_extra "ka") | (k_extra "kb") | ((fail_if_success k_end); (k_extra "sA"); (k_extra "kc")))
    have N21 := cb_drop (news := (D9, LCg.lst ys) :: (l, W.listOf [Value.int (mRowPens p3 (toldL.take (cnt - 0).toNat)) k9].toArray nn) :: (rd ++ rest)) (by k_asm : News g20 L' _ ((_, _) :: (new20 ++ _))) (by (k_extra "wh mem"))
    clear D20 O20
    have hle2 : (Txt.slice TX none (some (-1))).length ≤ 2000 := by
      rw [← L_len, slice_neg TX (j := 1) (by decide) (by omega), List.length_take, L_len]; omega
    have hle3 : (Str.ofString "Tz").length = 2 := by decide
    have hle4 : (Str.ofString ";").length = 1 := by decide
    repeat' (first | (k_extra "ka") | (k_extra "kb") | ((fail_if_success k_end); (k_extra "z6"); (k_extra "kc")))
    refine told_end_c (by k_asm) (by k_asm) (by k_asm) (by k_asm) (by k_asm) (by first | exact rfl | assumption) (by k_extra "a") (by k_extra "a") (by k_extra "a") K4 (by k_extra "my room") (by k_extra "my room") (by rw [Str.length_append]; omega) (by omega) q4 ?_
    (first | ((try dsimp only); (k_extra "h5"); generalize p5_1 T9 = v24, p5_2 T9 = new24, p5_3 T9 = g24, p5_4 T9 = h24, p5_5 T9 = tk24; clear T9; intro D24 O24 T24 B24 X24 P24 Q24 F24 N24) | intro v24 new24 g24 h24 tk24 D24 O24 T24 B24 X24 P24 Q24 F24 N24)
    (try k_unfold)
    (try dsimp only)
    (try (k_extra "kf"))
    have TT := T20.trans T24
    clear B20 X20 P20 Q20 T20 T24
    repeat' (first | (k_extra "ka") | (k_extra "kb") | ((fail_if_success k_end); (k_extra "z5"); (k_extra "kc")))
    refine dat_ne (n₁ := new24) (n₂ := [(_, tupObj [Value.str (Str.ofString "refused") _, Value.str (Str.ofString "syntax error, unexpected end of file") _, _])]) (e := dEnd n (.error whyE)) (by k_asm) D24 (by (k_extra "wh mem")) (DatIn.tuple List.mem_cons_self (DatAll.cons (DatIn.str _ _) (DatAll.cons (DatIn.str _ _) (DatAll.cons (DatIn.int _ _) .nil)))) (by (k_extra "wh mem")) rfl (flat_endE _) (by decide) (by dsimp only [Around.deeper, ktrTop]; omega) ?_
    repeat' (first | (k_extra "ka") | (k_extra "kb") | ((fail_if_success k_end); (fail_if_success (with_reducible show wpAny _ _ (call (Value.ref 434) _) _ _ _)); (k_extra "kc")))
    have N25 := cb_drop (news := (D9, LCg.lst ys) :: (l, W.listOf [Value.int (mRowPens p3 (toldL.take (cnt - 0).toNat)) k9].toArray nn) :: (rd ++ rest)) (by k_asm : News g24 L' _ (new24 ++ _)) (by (k_extra "wh mem"))
    clear D24 O24
    refine due_c (by k_asm) (by k_asm) (by k_asm) N25 (by k_asm) (by first | exact rfl | assumption) KD (by k_extra "my room") (by k_extra "my room") List.mem_cons_self hrd (fun p hp => List.mem_cons_of_mem _ (List.mem_cons_of_mem _ (List.mem_append_left _ hp))) hok.h6 hrs4 hrsb hok.h5 hok.h7 ?_ ?_
    · (first | ((try dsimp only); (k_extra "h10"); generalize p10_1 T9 = ps, p10_2 T9 = r30, p10_3 T9 = pa30, p10_4 T9 = vs30, p10_5 T9 = n30, p10_6 T9 = data30, p10_7 T9 = k31, p10_8 T9 = k32, p10_9 T9 = h30, p10_10 T9 = tk30; clear T9; intro eR hD30 F30 N30) | intro ps r30 pa30 vs30 n30 data30 k31 k32 h30 tk30 eR hD30 F30 N30)
      (try k_unfold)
      (try dsimp only)
      (try (k_extra "kf"))
      repeat' (first | (k_extra "ka") | (k_extra "kb") | ((fail_if_success k_end); (k_extra "z6"); (k_extra "kc")))
      · (with_reducible rename b = true => hb)
        refine exE ((hok.raw hb)) ?_; (try dsimp only); ((k_extra "h1"); generalize c1 _ _ = K5); intro hE9; refine exE hE9 ?_; clear hE9; (try dsimp only); ((k_extra "h1"); generalize c1 _ _ = R5); intro hE9; obtain ⟨hK5, hR5, hd5, hf5, hx5⟩ := hE9
        rw [hTX] at hR5
        refine told_raw_c (by k_asm) (by k_asm) (by k_asm) (by k_asm) (by k_asm) (by first | exact rfl | assumption) (by k_extra "a") (by k_extra "a") (by k_extra "a") K5 (by k_extra "my room") (by k_extra "my room") (by rw [Str.length_append]; omega) (by omega) (by rw [Str.length_append]; omega) (by omega) (by omega) hK5 hR5 ?_
        (first | ((try dsimp only); (k_extra "h5"); generalize p5_1 T9 = v40, p5_2 T9 = new40, p5_3 T9 = g40, p5_4 T9 = h40, p5_5 T9 = tk40; clear T9; intro D40 O40 T40 B40 X40 P40 Q40 F40 N40) | intro v40 new40 g40 h40 tk40 D40 O40 T40 B40 X40 P40 Q40 F40 N40)
        (try k_unfold)
        (try dsimp only)
        (try (k_extra "kf"))
        have TT2 := TT.trans T40
        clear TT T40 B24 X24 P24 Q24
        obtain ⟨hx6, hx7, hx8⟩ := hx5 ps eR
        repeat' (first | (k_extra "ka") | (k_extra "kb") | ((fail_if_success k_end); (fail_if_success (with_reducible show wpAny _ _ (eval (PySem.Expr.ListComp _ _ _ _) _) _ _ _)); (k_extra "kc")))
        refine LCg.ListComp_U (F₀ := by k_asm) (by with_unfolding_all rfl) (by decide) (by rfl) (by decide) (by rfl) ?_
        repeat' (first | (k_extra "ka") | (k_end; (k_extra "z0"); (k_extra "z1"); (k_extra "z2"); (k_extra "z3"); (k_extra "z9"); first | wrow_close | walk1 | (dsimp only; walk1) | (leave1; (try dsimp only))) | ((fail_if_success k_end); (k_extra "z9"); (k_extra "kc")))
        have hvl := hD30.length
        rw [List.length_map] at hvl
        have N41 := (by k_asm : News g40 L' _ (new40 ++ _ :: (pa30, W.listOf vs30.toArray n30) :: (data30 ++ _)))
        generalize hnw : new40 ++ _ = nw41 at N41
        have hm41 : (pa30, W.listOf vs30.toArray n30) ∈ nw41 := by rw [← hnw]; exact List.mem_append_right _ (List.mem_cons_of_mem _ List.mem_cons_self)
        have hd41 : ∀ q ∈ data30, q ∈ nw41 := by rw [← hnw]; exact fun q hq => List.mem_append_right _ (List.mem_cons_of_mem _ (List.mem_cons_of_mem _ (List.mem_append_left _ hq)))
        have hn41 : ∀ q ∈ new40, q ∈ nw41 := by rw [← hnw]; exact fun q hq => List.mem_append_left _ hq
        have hr41 : ∀ q ∈ news, q ∈ nw41 := by
          rw [← hnw]
          intro q hq
          have hq2 := hNw q hq
          (k_extra "wh mid")
        clear hnw
        refine LCg.CompSrc.ledger rfl (by k_asm) N41 hm41 (by rw [List.size_toArray, sizeLine_eq]; omega) ?_
        (try dsimp only); (k_extra "h1"); (generalize c1 _ _ = g)
        refine comp_inv (Inv := fun i ys nw => nw = nw41 ∧ ∃ us, ys = strValues us ∧ us.map (·.1) = ((mFin ps).take i).map Part.tx) ?turn2 ?fin2 ?start2
        case start2 => exact ⟨rfl, [], rfl, rfl⟩
        case turn2 =>
          (try dsimp only); (k_extra "h7"); generalize p7_1 T9 = i, p7_2 T9 = ys, p7_3 T9 = nw, p7_4 T9 = v, p7_5 T9 = I, p7_6 T9 = oI, p7_7 T9 = C; clear T9; (k_extra "h6"); generalize p6_1 T9 = oC, p6_2 T9 = D9, p6_3 T9 = m2, p6_4 T9 = h, p6_5 T9 = tk, p6_6 T9 = E'; clear T9; intro hi' hI hP hC hx F42 N42 off ne
          obtain ⟨rfl, hI⟩ := hI
          refine exE hI ?_; clear hI; (try dsimp only); ((k_extra "h1"); generalize c1 _ _ = us2); intro hE9; obtain ⟨rfl, hu2⟩ := hE9
          rw [List.size_toArray] at hi'
          have hex : ∃ v' y6, vs30[i]? = some v' ∧ DatIn data30 v' (Part.text y6).dat ∧ (mFin ps)[i]? = some (Part.text y6) := by
            obtain ⟨v', a1, a2⟩ := hD30.get (k := i) (by rw [List.length_map]; omega)
            rw [List.getElem_map] at a2
            obtain ⟨y6, a3⟩ := hx6 _ (List.getElem_mem (show i < (mFin ps).length by omega))
            rw [a3] at a2
            exact ⟨v', y6, a1, a2, by rw [List.getElem?_eq_getElem (show i < (mFin ps).length by omega), a3]⟩
          refine exE hex ?_; clear hex; (try dsimp only); ((k_extra "h1"); generalize c1 _ _ = v'); intro hE9; refine exE hE9 ?_; clear hE9; (try dsimp only); ((k_extra "h1"); generalize c1 _ _ = y6); intro hE9; obtain ⟨hv1, hv2, hy6⟩ := hE9
          have hiv : v = v' := by
            rw [List.getElem?_toArray] at hP
            exact Option.some.inj (hP.symm.trans hv1)
          subst hiv
          refine exE ((datIn_textT hv2)) ?_; (try dsimp only); ((k_extra "h1"); generalize c1 _ _ = a6); intro hE9; refine exE hE9 ?_; clear hE9; (try dsimp only); ((k_extra "h1"); generalize c1 _ _ = k61); intro hE9; refine exE hE9 ?_; clear hE9; (try dsimp only); ((k_extra "h1"); generalize c1 _ _ = k62); intro hE9; refine exE hE9 ?_; clear hE9; (try dsimp only); ((k_extra "h1"); generalize c1 _ _ = n6); intro hE9; obtain ⟨rfl, hm6⟩ := hE9
          have N43 := cb_drop (news := (a6, tupN [Value.str (Str.ofString "text") k61, Value.str y6 k62] n6) :: (I, oI) :: (C, oC) :: (D9, LCg.lst (strValues us2)) :: nw) N42 ((fmc (List.mem_cons_of_mem _ (List.mem_cons_of_mem _ (List.mem_cons_of_mem _ (hd41 _ hm6)))) (fun q hq => hq)))
          clear N42
          repeat' (first | (k_extra "ka") | (k_end; (k_extra "z0"); (k_extra "z1"); (k_extra "z2"); (k_extra "z3"); (fail_if_success (with_reducible show LCg.CompEnd _ _ _ _ _ _ _ _ _ _ _ _ _ _)); first | wrow_close | walk1 | (dsimp only; walk1) | (leave1; (try dsimp only))) | ((fail_if_success k_end); (fail_if_success (with_reducible show LCg.CompEnd _ _ _ _ _ _ _ _ _ _ _ _ _ _)); (k_extra "kc")))
          refine LCg.CompEnd.intro (by k_asm) (by k_asm) nw (by (k_extra "wh mem")) off (.inr ⟨_, hm41, rfl, _, rfl⟩) ⟨rfl, us2 ++ [(y6, k62)], (strVals_snoc _ _ _).symm, ?_⟩
          rw [List.take_add_one, hy6, List.map_append, hu2, List.map_append]; rfl
        case fin2 =>
          (try dsimp only); (k_extra "h2"); generalize p2_1 T9 = ys, p2_2 T9 = nw; clear T9; intro hI
          obtain ⟨rfl, hI⟩ := hI
          refine exE hI ?_; clear hI; (try dsimp only); ((k_extra "h1"); generalize c1 _ _ = us2); intro hE9; obtain ⟨rfl, hu2⟩ := hE9
          (first | ((try dsimp only); (k_extra "h3"); generalize p3_1 T9 = D43, p3_2 T9 = h43, p3_3 T9 = tk43; clear T9; intro F43 N43 off43) | intro D43 h43 tk43 F43 N43 off43)
          revert D43 h43 tk43 F43 N43 off43
          (try dsimp only); (k_extra "h3"); generalize p3_1 T9 = D43, p3_2 T9 = h43, p3_3 T9 = tk43; clear T9; intro F43 N43 off43
          rw [List.size_toArray, List.take_of_length_le (by omega)] at hu2
          obtain ⟨hs1, hs2⟩ := tx_sum hu2
          rw [← hs1] at hx7
          repeat' (first | (k_extra "ka") | (k_extra "kb") | ((fail_if_success k_end); (fail_if_success (with_reducible show wpAny _ _ (compareOp CmpOp.Eq v40 _) _ _ _)); (k_extra "kc")))
          refine dat_eq (n₁ := new40) (n₂ := [(_, tupObj [_, _, _])]) (e := dTold [.str (Txt.join (Str.ofString "") (us2.map (·.1))), .int ((x.length : Int) + (hereB rs).length)]) (by k_asm) D40 (fun p hp => List.mem_cons_of_mem _ (List.mem_cons_of_mem _ (hn41 p hp))) (DatIn.tuple List.mem_cons_self (DatAll.cons (DatIn.str _ _) (DatAll.cons (DatIn.str _ _) (DatAll.cons (DatIn.int _ _) .nil)))) (by (k_extra "wh mem")) (by rw [hd5, eR, hu2]; rfl) (by rw [hd5]; exact hf5) (by decide) (by dsimp only [Around.deeper, ktrTop]; omega) ?_
          repeat' (first | (k_extra "ka") | (k_extra "kb") | ((fail_if_success k_end); (k_extra "kc")))
          exact hret _ _ _ (by k_extra "a") (by k_extra "a") (by k_extra "a") (by k_extra "a") (by k_extra "a") (by k_asm) (cb_drop (by k_asm) (fun q hq => List.mem_cons_of_mem _ (List.mem_cons_of_mem _ (hr41 q hq))))
      · (with_reducible rename b = false => hb)
        refine exE ((hok.parts hb)) ?_; (try dsimp only); ((k_extra "h1"); generalize c1 _ _ = K5); intro hE9; obtain ⟨hK5, hR5, hf5, hdol⟩ := hE9
        rw [hTX] at hR5 hdol
        refine told_parts_c (by k_asm) (by k_asm) (by k_asm) (by k_asm) (by k_asm) (by first | exact rfl | assumption) (by k_extra "a") (by k_extra "a") (by k_extra "a") K5 (by k_extra "my room") (by k_extra "my room") (by rw [Str.length_append]; omega) (by omega) (StopV.int (by rw [Str.length_append]; omega)) hR5 (by omega) hdol hK5 ?_
        (first | ((try dsimp only); (k_extra "h5"); generalize p5_1 T9 = v40, p5_2 T9 = new40, p5_3 T9 = g40, p5_4 T9 = h40, p5_5 T9 = tk40; clear T9; intro D40 T40 B40 X40 P40 Q40 F40 N40) | intro v40 new40 g40 h40 tk40 D40 T40 B40 X40 P40 Q40 F40 N40)
        (try k_unfold)
        (try dsimp only)
        (try (k_extra "kf"))
        have TT2 := TT.trans T40
        clear TT T40 B24 X24 P24 Q24
        rw [eR] at D40 hf5
        repeat' (first | (k_extra "ka") | (k_extra "kb") | ((fail_if_success k_end); (fail_if_success (with_reducible show wpAny _ _ (compareOp CmpOp.Eq v40 _) _ _ _)); (k_extra "kc")))
        refine dat_eq (n₁ := new40) (e := dParts (dueAt ((x.length : Int) + (hereB rs).length) (.ok ps))) (by k_asm) D40 (by (k_extra "wh mem")) (DatIn.tuple List.mem_cons_self (DatAll.cons (DatIn.str _ _) (DatAll.cons (DatIn.list (by (k_extra "wh mid")) (DatAll.mono (fun q hq => List.mem_cons_of_mem _ (List.mem_append_right _ (List.mem_cons_of_mem _ (List.mem_cons_of_mem _ (List.mem_append_left _ hq))))) hD30)) (DatAll.cons (DatIn.int _ _) .nil)))) (fun _ h => h) rfl hf5 (by decide) (by dsimp only [Around.deeper, ktrTop]; omega) ?_
        repeat' (first | (k_extra "ka") | (k_extra "kb") | ((fail_if_success k_end); (k_extra "kc")))
        exact hret _ _ _ (by k_extra "a") (by k_extra "a") (by k_extra "a") (by k_extra "a") (by k_extra "a") (by k_asm) (by refine cb_drop (by k_asm) (fun q hq => ?_); have hq2 := hNw q hq; (k_extra "wh mid"))
    · (first | ((try dsimp only); (k_extra "h8"); generalize p8_1 T9 = y30, p8_2 T9 = n30, p8_3 T9 = r30, p8_4 T9 = k31, p8_5 T9 = k32, p8_6 T9 = k33, p8_7 T9 = h30, p8_8 T9 = tk30; clear T9; intro eR F30 N30) | intro y30 n30 r30 k31 k32 k33 h30 tk30 eR F30 N30)
      (try k_unfold)
      (try dsimp only)
      (try (k_extra "kf"))
      repeat' (first | (k_extra "ka") | (k_extra "kb") | ((fail_if_success k_end); (k_extra "z6"); (k_extra "kc")))
      · (with_reducible rename b = true => hb)
        refine exE ((hok.raw hb)) ?_; (try dsimp only); ((k_extra "h1"); generalize c1 _ _ = K5); intro hE9; refine exE hE9 ?_; clear hE9; (try dsimp only); ((k_extra "h1"); generalize c1 _ _ = R5); intro hE9; obtain ⟨hK5, hR5, hd5, hf5, hx5⟩ := hE9
        rw [hTX] at hR5
        refine told_raw_c (by k_asm) (by k_asm) (by k_asm) (by k_asm) (by k_asm) (by first | exact rfl | assumption) (by k_extra "a") (by k_extra "a") (by k_extra "a") K5 (by k_extra "my room") (by k_extra "my room") (by rw [Str.length_append]; omega) (by omega) (by rw [Str.length_append]; omega) (by omega) (by omega) hK5 hR5 ?_
        (first | ((try dsimp only); (k_extra "h5"); generalize p5_1 T9 = v40, p5_2 T9 = new40, p5_3 T9 = g40, p5_4 T9 = h40, p5_5 T9 = tk40; clear T9; intro D40 O40 T40 B40 X40 P40 Q40 F40 N40) | intro v40 new40 g40 h40 tk40 D40 O40 T40 B40 X40 P40 Q40 F40 N40)
        (try k_unfold)
        (try dsimp only)
        (try (k_extra "kf"))
        have TT2 := TT.trans T40
        clear TT T40 B24 X24 P24 Q24
        repeat' (first | (k_extra "ka") | (k_extra "kb") | ((fail_if_success k_end); (fail_if_success (with_reducible show wpAny _ _ (compareOp CmpOp.Eq v40 _) _ _ _)); (k_extra "kc")))
        refine dat_eq (n₁ := new40) (n₂ := [(r30, tupObj [_, _, _])]) (e := dRefused y30 n30) (by k_asm) D40 (by (k_extra "wh mem")) (DatIn.tuple List.mem_cons_self (DatAll.cons (DatIn.str _ _) (DatAll.cons (DatIn.str _ _) (DatAll.cons (DatIn.int _ _) .nil)))) (by (k_extra "wh mem")) (by rw [hd5, eR]; rfl) (by rw [hd5]; exact hf5) (by decide) (by dsimp only [Around.deeper, ktrTop]; omega) ?_
        repeat' (first | (k_extra "ka") | (k_extra "kb") | ((fail_if_success k_end); (k_extra "kc")))
        exact hret _ _ _ (by k_extra "a") (by k_extra "a") (by k_extra "a") (by k_extra "a") (by k_extra "a") (by k_asm) (by refine cb_drop (by k_asm) (fun q hq => ?_); have hq2 := hNw q hq; (k_extra "wh mid"))
      · (with_reducible rename b = false => hb)
        refine exE ((hok.parts hb)) ?_; (try dsimp only); ((k_extra "h1"); generalize c1 _ _ = K5); intro hE9; obtain ⟨hK5, hR5, hf5, hdol⟩ := hE9
        rw [hTX] at hR5 hdol
        refine told_parts_c (by k_asm) (by k_asm) (by k_asm) (by k_asm) (by k_asm) (by first | exact rfl | assumption) (by k_extra "a") (by k_extra "a") (by k_extra "a") K5 (by k_extra "my room") (by k_extra "my room") (by rw [Str.length_append]; omega) (by omega) (StopV.int (by rw [Str.length_append]; omega)) hR5 (by omega) hdol hK5 ?_
        (first | ((try dsimp only); (k_extra "h5"); generalize p5_1 T9 = v40, p5_2 T9 = new40, p5_3 T9 = g40, p5_4 T9 = h40, p5_5 T9 = tk40; clear T9; intro D40 T40 B40 X40 P40 Q40 F40 N40) | intro v40 new40 g40 h40 tk40 D40 T40 B40 X40 P40 Q40 F40 N40)
        (try k_unfold)
        (try dsimp only)
        (try (k_extra "kf"))
        have TT2 := TT.trans T40
        clear TT T40 B24 X24 P24 Q24
        repeat' (first | (k_extra "ka") | (k_extra "kb") | ((fail_if_success k_end); (fail_if_success (with_reducible show wpAny _ _ (compareOp CmpOp.Eq v40 _) _ _ _)); (k_extra "kc")))
        refine dat_eq (n₁ := new40) (n₂ := [(r30, tupObj [_, _, _])]) (e := dRefused y30 n30) (by k_asm) D40 (by (k_extra "wh mem")) (DatIn.tuple List.mem_cons_self (DatAll.cons (DatIn.str _ _) (DatAll.cons (DatIn.str _ _) (DatAll.cons (DatIn.int _ _) .nil)))) (by (k_extra "wh mem")) (by rw [eR]; rfl) hf5 (by decide) (by dsimp only [Around.deeper, ktrTop]; omega) ?_
        repeat' (first | (k_extra "ka") | (k_extra "kb") | ((fail_if_success k_end); (k_extra "kc")))
        exact hret _ _ _ (by k_extra "a") (by k_extra "a") (by k_extra "a") (by k_extra "a") (by k_extra "a") (by k_asm) (by refine cb_drop (by k_asm) (fun q hq => ?_); have hq2 := hNw q hq; (k_extra "wh mid"))
 k_extra "q"
theorem reg135 : True := by
  k_with ".call ref" => ((k_here; (with_reducible show wpAny _ _ (call (Value.ref 439) _) _ _ _); k_dflt (refine' hereright_c ?kB ?kF ?kX ?kN ?kT ?kK ?zkXB ?zkTB ?zkDD ?zkd ?zku ?zkhl ?zkhOK ?_; (k_extra "kq"); (case zkXB => assumption); (case zkTB => assumption); (case zkDD => assumption); (case zkd => k_extra "my room"); (case zku => k_extra "my room"); (case zkhl => k_extra "my side"); (case zkhOK => k_extra "my side"); ((try dsimp only); (k_extra "h3"); generalize p3_1 T9 = g, p3_2 T9 = h', p3_3 T9 = tk'; clear T9; (first | revert g h' tk' | ((try revert tk'); (try revert h'); (try revert g))); intros; (try k_sweep); (try (k_extra "kf"))))))
  trivial
section
open PySem.Builtin.Str
noncomputable def S (l : List Nat) : Str := ⟨l.toArray⟩
theorem L_S (l : List Nat) : L (S l) = l := rfl
theorem S_L (x : Str) : S (L x) = x := rfl
theorem S_of {x : Str} {l : List Nat} (h : L x = l) : x = S l := by rw [← h]; rfl
theorem S_inj {a b : List Nat} (h : S a = S b) : a = b := congrArg L h
theorem S_eq (a b : List Nat) : (S a == S b) = (a == b) := by
  by_cases h : a = b
  · subst h; simp
  · rw [beq_eq_false_iff_ne.mpr h]; exact beq_eq_false_iff_ne.mpr fun q => h (S_inj q)
theorem str_eqL (x y : Str) : (x == y) = (L x == L y) := by rw [← S_eq, S_L, S_L]
theorem S_e : Str.ofString "" = S [] := by decide
noncomputable def isHex (c : Nat) : Bool := hexes.cps.contains c
noncomputable def isOct (c : Nat) : Bool := octs.cps.contains c
noncomputable def octOf (t : List Nat) : List Nat := (t.take 3).takeWhile isOct
noncomputable def hexOf (t : List Nat) : List Nat := ((t.drop 1).take 2).takeWhile isHex
noncomputable def ptOf (t : List Nat) : List Nat := (t.drop 2).takeWhile isHex
noncomputable def escL (t : List Nat) (q : Str) : Except Str (Str × Nat) :=
  match plainOf (S (t.take 1)) with
  | some y => .ok (y, 2)
  | none =>
    if t.take 1 ≠ [] ∧ t.take 1 = L q then .ok (S (t.take 1), 2)
    else if octOf t ≠ [] then .ok (chr1 ((numL 8 (octOf t)).fmod 256), 1 + (octOf t).length)
    else if (t.take 1 = [120] ∨ t.take 1 = [88]) ∧ hexOf t ≠ [] then .ok (chr1 (numL 16 (hexOf t)), 2 + (hexOf t).length)
    else if t.take 2 = [117, 123] then
      if ptOf t = [] ∨ ((t.drop 2).drop (ptOf t).length).take 1 ≠ [125] then .error why1
      else if 1114111 < numL 16 (ptOf t) then .error why2
      else .ok (mOctets (numL 16 (ptOf t)), 4 + (ptOf t).length)
    else if t.take 1 = [123] then .ok (Str.ofString "\\{", 2) else .ok (Str.ofString "\\", 1)
noncomputable def sfx (x : Str) (i : Int) : List Nat := (L x).drop i.toNat
theorem sfx_add {x : Str} {i : Int} (h : 0 ≤ i) (k : Nat) : sfx x (i + k) = (sfx x i).drop k := by
  unfold sfx; rw [List.drop_drop, Int.toNat_add_nat h]
theorem sign_S {x : Str} {i : Int} (h : 0 ≤ i) : mSignAt x i = S ((sfx x i).take 1) := by
  apply S_of; unfold mSignAt sfx; rw [slice_ss x h (by omega), show (i + 1).toNat - i.toNat = 1 by omega]
theorem lit_tab : ∀ c < 256, ((occurrences lesc ⟨#[c]⟩ 0 lesc.length 1).isEmpty = (plainOf ⟨#[c]⟩).isNone) ∧ ((plainOf ⟨#[c]⟩).all fun y => Txt.item lesv (Txt.find lesc ⟨#[c]⟩) == y) = true := by decide +kernel
theorem plain_e : plainOf (S []) = none := by decide
theorem pr1 {y : Str} {a b : Int} (h : a = b) : (y, a) = (y, b) := by rw [h]
theorem pr2 {y : Str} {a b : Int} (h : a = b) : (Except.ok (y, a) : Except Str (Str × Int)) = .ok (y, b) := by rw [h]
section
variable {x : Str} {i : Int} (h0 : 0 ≤ i)
include h0
theorem lC_S : lC x i = S ((sfx x (i + 1)).take 1) := by
  apply S_of; unfold lC sfx; rw [slice_ss x (by omega) (by omega), show (i + 2).toNat - (i + 1).toNat = 1 by omega]
theorem lO_L : L (lO x i) = octOf (sfx x (i + 1)) := by
  unfold lO octOf sfx; rw [lead_L, slice_ss x (by omega) (by omega)]
  rw [show (i + 4).toNat - (i + 1).toNat = 3 by omega]; rfl
theorem lX_L : L (lX x i) = hexOf (sfx x (i + 1)) := by
  unfold lX hexOf sfx; rw [lead_L, slice_ss x (by omega) (by omega), List.drop_drop]
  rw [show (i + 4).toNat - (i + 2).toNat = 2 by omega, show (i + 2).toNat = (i + 1).toNat + 1 by omega]; rfl
theorem lP_L : L (lP x i) = ptOf (sfx x (i + 1)) := by
  unfold lP ptOf sfx; rw [lead_L, slice_sn x (by omega), List.drop_drop]
  rw [show (i + 3).toNat = (i + 1).toNat + 2 by omega]; rfl
omit h0 in
theorem ne_L (y : Str) : (y != Str.ofString "") = true ↔ L y ≠ [] := by
  rw [bne_iff_ne, S_e]; exact ⟨fun h q => h (S_of q), fun h q => h (congrArg L q)⟩
omit h0 in
theorem take1_cases (t : List Nat) : t.take 1 = [] ∨ ∃ c, t.take 1 = [c] ∧ c ∈ t := by
  cases t with
  | nil => exact .inl rfl
  | cons c t => exact .inr ⟨c, rfl, List.mem_cons_self⟩
omit h0 in
theorem mem_sfx {c : Nat} (h : c ∈ sfx x i) : c ∈ L x := List.mem_of_mem_drop h
theorem lesc_L (hx : ∀ c ∈ L x, c < 256) (q : Str) : mLEsc x i q = match escL (sfx x (i + 1)) q with
    | .ok (y, k) => (y, i + k)
    | .error y => (y, -1) := by
 k_with "w" =>
  revert x i h0 hx q
  (k_extra "n2"); generalize p2_1 T9 = x, p2_2 T9 = i; clear T9
  intro h0 hx
  (k_extra "n1"); generalize c1 _ _ = q
  unfold mLEsc escL
  have e1 := lC_S (x := x) h0
  have e2 := lO_L (x := x) h0
  have e3 := lX_L (x := x) h0
  have e4 := lP_L (x := x) h0
  have e5 : L (Txt.slice x (some (i + 1)) (some (i + 3))) = (sfx x (i + 1)).take 2 := by
    unfold sfx; rw [slice_ss x (by omega) (by omega), show (i + 3).toNat - (i + 1).toNat = 2 by omega]
  have e6 : ∀ k : Nat, L (Txt.slice x (some (i + 3 + (k : Int))) (some (i + 3 + (k : Int) + 1))) = (((sfx x (i + 1)).drop 2).drop k).take 1 := by
    intro k; unfold sfx
    rw [slice_ss x (by omega) (by omega), List.drop_drop, List.drop_drop, show (i + 3 + (k : Int) + 1).toNat - (i + 3 + (k : Int)).toNat = 1 by omega, show (i + 3 + (k : Int)).toNat = (i + 1).toNat + (2 + k) by omega]
  have hm : ∀ c ∈ sfx x (i + 1), c < 256 := fun c hc => hx c (List.mem_of_mem_drop hc)
  have l2 := congrArg List.length e2
  have l3 := congrArg List.length e3
  have l4 := congrArg List.length e4
  rw [L_len] at l2 l3 l4
  generalize sfx x (i + 1) = t at *
  revert t e1 e2 e3 e4 e5 e6 hm l2 l3 l4
  (k_extra "n1"); generalize c1 _ _ = t
  intro e1 e2 e3 e4 e5 e6 hm l2 l3 l4
  have hu : L (Str.ofString "u{") = [117, 123] := by decide
  have hb : L (Str.ofString "}") = [125] := by decide
  have hc1 : L (Str.ofString "x") = [120] := by decide
  have hc2 : L (Str.ofString "X") = [88] := by decide
  have hc3 : L (Str.ofString "{") = [123] := by decide
  have p1 : (lC x i != Str.ofString "") = true ∧ (occurrences lesc (lC x i) 0 lesc.length 1).isEmpty = false ↔ (plainOf (S (t.take 1))).isSome = true := by
    rw [ne_L, e1, L_S]
    rcases take1_cases t with h | ⟨c, h, hc⟩
    · rw [h, plain_e]; simp
    · rw [h]
      have := (lit_tab c (hm c hc)).1
      show _ ∧ (occurrences lesc ⟨#[c]⟩ 0 lesc.length 1).isEmpty = false ↔ (plainOf ⟨#[c]⟩).isSome = true
      rw [this]; cases plainOf ⟨#[c]⟩ <;> simp
  have p2 : ∀ y, plainOf (S (t.take 1)) = some y → Txt.item lesv (Txt.find lesc (lC x i)) = y := by
    intro y hy
    rcases take1_cases t with h | ⟨c, h, hc⟩
    · rw [h, plain_e] at hy; cases hy
    · rw [h] at hy e1
      have := (lit_tab c (hm c hc)).2
      rw [show plainOf ⟨#[c]⟩ = some y from hy] at this
      rw [e1]; exact eq_of_beq this
  cases hp : plainOf (S (t.take 1)) with
  | some y =>
    rw [if_pos (p1.mpr (by rw [hp]; rfl)), p2 y hp]; rfl
  | none =>
    rw [if_neg (fun h => by have := p1.mp h; rw [hp] at this; cases this)]
    dsimp only
    have q1 : ((lC x i != Str.ofString "") = true ∧ (lC x i == q) = true) = (t.take 1 ≠ [] ∧ t.take 1 = L q) := by
      rw [ne_L, str_eqL, e1, L_S, beq_iff_eq]
    have q2 : ((lO x i != Str.ofString "") = true) = (octOf t ≠ []) := by rw [ne_L, e2]
    have q3 : (([Str.ofString "x", Str.ofString "X"].any fun y => y == lC x i) = true ∧ (lX x i != Str.ofString "") = true) = ((t.take 1 = [120] ∨ t.take 1 = [88]) ∧ hexOf t ≠ []) := by
      rw [ne_L, e3, e1]
      simp only [List.any_cons, List.any_nil, Bool.or_false, Bool.or_eq_true, str_eqL, hc1, hc2, L_S, beq_iff_eq]
      rw [eq_comm (a := [120]), eq_comm (a := [88])]
    have q4 : ((Txt.slice x (some (i + 1)) (some (i + 3)) == Str.ofString "u{") = true) = (t.take 2 = [117, 123]) := by
      rw [str_eqL, e5, hu, beq_iff_eq]
    have q5 : ((lP x i == Str.ofString "") = true ∨ (Txt.slice x (some (i + 3 + ((ptOf t).length : Int))) (some (i + 3 + ((ptOf t).length : Int) + 1)) != Str.ofString "}") = true) = (ptOf t = [] ∨ ((t.drop 2).drop (ptOf t).length).take 1 ≠ [125]) := by
      rw [str_eqL, e4, bne, str_eqL, e6, hb, S_e, L_S, Bool.not_eq_true', beq_eq_false_iff_ne, beq_iff_eq]
    have q6 : ((lC x i == Str.ofString "{") = true) = (t.take 1 = [123]) := by rw [str_eqL, e1, hc3, L_S, beq_iff_eq]
    simp only [q1, q2, q3, q4, q5, q6, num_L, e2, e3, e4, l2, l3, l4]
    by_cases c1 : t.take 1 ≠ [] ∧ t.take 1 = L q
    · rw [if_pos c1, if_pos c1, e1]; rfl
    rw [if_neg c1, if_neg c1]
    by_cases c2 : octOf t ≠ []
    · rw [if_pos c2, if_pos c2]; exact pr1 (by omega)
    rw [if_neg c2, if_neg c2]
    by_cases c3 : (t.take 1 = [120] ∨ t.take 1 = [88]) ∧ hexOf t ≠ []
    · rw [if_pos c3, if_pos c3]; exact pr1 (by omega)
    rw [if_neg c3, if_neg c3]
    by_cases c4 : t.take 2 = [117, 123]
    · rw [if_pos c4, if_pos c4]
      by_cases c5 : ptOf t = [] ∨ ((t.drop 2).drop (ptOf t).length).take 1 ≠ [125]
      · rw [if_pos c5, if_pos c5]
      rw [if_neg c5, if_neg c5]
      by_cases c6 : 1114111 < numL 16 (ptOf t)
      · rw [if_pos c6, if_pos c6]
      rw [if_neg c6, if_neg c6]; exact pr1 (by omega)
    rw [if_neg c4, if_neg c4]
    by_cases c5 : t.take 1 = [123]
    · rw [if_pos c5, if_pos c5]; rfl
    rw [if_neg c5, if_neg c5]; rfl
 k_extra "q"
end
theorem digit_S (c : Nat) : mDigit (S [c]) = if 0 ≤ hexVal c then hexVal c else 99 := by
  unfold mDigit
  have : S [c] ≠ Str.ofString "" := by rw [S_e]; intro h; cases S_inj h
  simp only [this, ne_eq, not_false_eq_true, true_and]
  rfl
theorem digit_e : mDigit (S []) = 99 := by decide
theorem digit_p {b : Int} {p : Nat → Bool} (hb : b ≤ 16) (hp : ∀ c < 256, (0 ≤ hexVal c ∧ hexVal c < b) ↔ p c = true) {c : Nat} (hc : c < 256) : mDigit (S [c]) < b ↔ p c = true := by
  rw [digit_S, ← hp c hc]; split <;> omega
noncomputable def numF (b v : Int) (l : List Nat) : Int := l.foldl (fun t c => t * b + hexVal c) v
theorem digits_L {x : Str} (hx : ∀ c ∈ L x, c < 256) {b : Int} {p : Nat → Bool} (hb : b ≤ 16) (hp : ∀ c < 256, (0 ≤ hexVal c ∧ hexVal c < b) ↔ p c = true) (most : Int) :
    ∀ (v i : Int), 0 ≤ i → mDigits x b most v i = (numF b v (((sfx x i).take (most - i).toNat).takeWhile p), i + (((sfx x i).take (most - i).toNat).takeWhile p).length) := by
 k_with "w" =>
  revert x hx b p hb hp most
  (k_extra "n1"); generalize c1 _ _ = x
  intro hx
  (k_extra "n2"); generalize p2_1 T9 = b, p2_2 T9 = p; clear T9
  intro hb hp
  (k_extra "n1"); generalize c1 _ _ = most
  intro v i
  induction v, i using mDigits_ind x b most with
  | case1 v i h1 h2 ih =>
    intro h0
    rw [mDigits_eq, if_pos h1, if_pos h2, ih (by omega)]
    rw [sign_S h0] at h2
    cases ht : sfx x i with
    | nil => rw [ht] at h2; rw [show (List.take 1 ([] : List Nat)) = [] from rfl, digit_e] at h2; omega
    | cons c t =>
      rw [ht] at h2
      have hc : c < 256 := hx c (List.mem_of_mem_drop (show c ∈ (L x).drop i.toNat by unfold sfx at ht; rw [ht]; exact List.mem_cons_self))
      have hpc : p c = true := (digit_p hb hp hc).mp h2
      have e1 : sfx x (i + 1) = t := by rw [show i + 1 = i + (1 : Nat) from rfl, sfx_add h0, ht]; rfl
      have e2 : (most - i).toNat = (most - (i + 1)).toNat + 1 := i_sub h1
      have hlt : i.toNat < (L x).length := by
        have := congrArg List.length ht
        unfold sfx at this; rw [List.length_drop, List.length_cons] at this; exact lt_of_sub this
      have e3 : Txt.item x i = S [c] := by
        rw [item_slice x h0 (by rw [L_len] at hlt; exact tn_lt h0 hlt)]
        show mSignAt x i = _
        rw [sign_S h0, ht]; rfl
      have e4 : mDigit (S [c]) = hexVal c := by
        rw [digit_S]; have := (hp c hc).mpr hpc; rw [if_pos this.1]
      rw [e1, e2, e3, e4, List.take_succ_cons, List.takeWhile_cons, if_pos hpc, List.length_cons]
      unfold numF
      rw [List.foldl_cons]
      congr 1; omega
  | case2 v i h1 h2 =>
    intro h0
    rw [mDigits_eq, if_pos h1, if_neg h2]
    have e2 : (most - i).toNat = (most - (i + 1)).toNat + 1 := i_sub h1
    rw [sign_S h0] at h2
    cases ht : sfx x i with
    | nil => rw [List.take_nil, List.takeWhile_nil]; unfold numF; simp
    | cons c t =>
      rw [ht] at h2
      have hc : c < 256 := hx c (List.mem_of_mem_drop (show c ∈ (L x).drop i.toNat by unfold sfx at ht; rw [ht]; exact List.mem_cons_self))
      have hpc : ¬ p c = true := fun q => h2 ((digit_p hb hp hc).mpr q)
      rw [e2, List.take_succ_cons, List.takeWhile_cons, if_neg hpc]; unfold numF; simp
  | case3 v i h1 =>
    intro h0
    rw [mDigits_eq, if_neg h1]
    rw [show (most - i).toNat = 0 by omega, List.take_zero, List.takeWhile_nil]; unfold numF; simp
 k_extra "q"
theorem take1_ne {t : List Nat} {p : Nat → Bool} {n : Nat} {b : Int} (hb : b ≤ 16) (hp : ∀ c < 256, (0 ≤ hexVal c ∧ hexVal c < b) ↔ p c = true) (ht : ∀ c ∈ t, c < 256) : (mDigit (S (t.take 1)) < b) = (((t.take (n + 1)).takeWhile p) ≠ []) := by
  cases t with
  | nil => simp [digit_e]; omega
  | cons c r =>
    rw [show List.take 1 (c :: r) = [c] from rfl, propext (digit_p hb hp (ht c List.mem_cons_self)), List.take_succ_cons, List.takeWhile_cons]
    split <;> simp [*]
theorem oct_p : ∀ c < 256, (0 ≤ hexVal c ∧ hexVal c < 8) ↔ isOct c = true := oct_all
theorem hex_p : ∀ c < 256, (0 ≤ hexVal c ∧ hexVal c < 16) ↔ isHex c = true := hex_all
theorem take2_iff (t : List Nat) (a b : Nat) : (t.take 1 = [a] ∧ (t.drop 1).take 1 = [b]) = (t.take 2 = [a, b]) := by
  match t with
  | [] => simp
  | [c] => simp
  | c :: d :: r => simp
theorem mesc_L {x : Str} {i : Int} (h0 : 0 ≤ i) (hx : ∀ c ∈ L x, c < 256) (q : Str) : mEscape x i q = match escL (sfx x (i + 1)) q with
    | .ok (y, k) => .ok (y, i + k)
    | .error y => .error y := by
 k_with "w" =>
  revert x i h0 hx q
  (k_extra "n2"); generalize p2_1 T9 = x, p2_2 T9 = i; clear T9
  intro h0 hx
  (k_extra "n1"); generalize c1 _ _ = q
  have d8 := digits_L hx (by decide) oct_p (i + 1 + 3) 0 (i + 1) (by omega)
  have d16 := digits_L hx (by decide) hex_p (i + 2 + 2) 0 (i + 2) (by omega)
  have dpt := digits_L hx (by decide) hex_p (i + 3 + x.length) 0 (i + 3) (by omega)
  have s1 : sfx x (i + 2) = (sfx x (i + 1)).drop 1 := by rw [← sfx_add (by omega)]; congr 1; omega
  have s2 : sfx x (i + 3) = (sfx x (i + 1)).drop 2 := by rw [← sfx_add (by omega)]; congr 1; omega
  have g1 : mSignAt x (i + 1) = S ((sfx x (i + 1)).take 1) := sign_S (by omega)
  have g2 : mSignAt x (i + 2) = S (((sfx x (i + 1)).drop 1).take 1) := by rw [sign_S (by omega), s1]
  have g3 : ∀ k : Nat, mSignAt x (i + 3 + k) = S ((((sfx x (i + 1)).drop 2).drop k).take 1) := by intro k; rw [sign_S (by omega), sfx_add (by omega), s2]
  have hm : ∀ c ∈ sfx x (i + 1), c < 256 := fun c hc => hx c (List.mem_of_mem_drop hc)
  have hl : (sfx x (i + 1)).length ≤ x.length := by unfold sfx; rw [List.length_drop, L_len]; omega
  rw [s1] at d16
  rw [s2] at dpt
  unfold mEscape escL mPoint
  generalize sfx x (i + 1) = t at *
  revert t d8 d16 dpt s1 s2 g1 g2 g3 hm hl
  (k_extra "n1"); generalize c1 _ _ = t
  intro d8 d16 dpt s1 s2 g1 g2 g3 hm hl
  rw [show (i + 1 + 3 - (i + 1)).toNat = 3 by omega] at d8
  rw [show (i + 2 + 2 - (i + 2)).toNat = 2 by omega] at d16
  rw [show (i + 3 + (x.length : Int) - (i + 3)).toNat = x.length by omega, List.take_of_length_le (by rw [List.length_drop]; omega)] at dpt
  have d8' : mDigits x 8 (i + 1 + 3) 0 (i + 1) = (numL 8 (octOf t), i + 1 + (octOf t).length) := d8
  have d16' : mDigits x 16 (i + 2 + 2) 0 (i + 2) = (numL 16 (hexOf t), i + 2 + (hexOf t).length) := d16
  have dpt' : mDigits x 16 (i + 3 + x.length) 0 (i + 3) = (numL 16 (ptOf t), i + 3 + (ptOf t).length) := dpt
  clear d8 d16 dpt
  have hu : L (Str.ofString "u") = [117] := by decide
  have hb : L (Str.ofString "}") = [125] := by decide
  have hc1 : L (Str.ofString "x") = [120] := by decide
  have hc2 : L (Str.ofString "X") = [88] := by decide
  have hc3 : L (Str.ofString "{") = [123] := by decide
  rw [g1]
  cases plainOf (S (t.take 1)) with
  | some y => rfl
  | none =>
    dsimp only
    have q1 : ((S (t.take 1) != Str.ofString "") = true ∧ (S (t.take 1) == q) = true) = (t.take 1 ≠ [] ∧ t.take 1 = L q) := by
      rw [bne, str_eqL, str_eqL, S_e, L_S, L_S, beq_iff_eq, Bool.not_eq_true', beq_eq_false_iff_ne]
    have q2 : (mDigit (S (t.take 1)) < 8) = (octOf t ≠ []) := take1_ne (n := 2) (by decide) oct_p hm
    have q3 : (mDigit (S ((t.drop 1).take 1)) < 16) = (hexOf t ≠ []) := take1_ne (n := 1) (by decide) hex_p (fun c hc => hm c (List.mem_of_mem_drop hc))
    have q4 : (([Str.ofString "x", Str.ofString "X"].any fun y => y == S (t.take 1)) = true) = (t.take 1 = [120] ∨ t.take 1 = [88]) := by
      simp only [List.any_cons, List.any_nil, Bool.or_false, Bool.or_eq_true, str_eqL, hc1, hc2, L_S, beq_iff_eq]
      rw [eq_comm (a := [120]), eq_comm (a := [88])]
    have q5 : ((S (t.take 1) == Str.ofString "u") = true ∧ (S ((t.drop 1).take 1) == Str.ofString "{") = true) = (t.take 2 = [117, 123]) := by
      simp only [str_eqL, hu, hc3, L_S, beq_iff_eq]
      exact take2_iff t 117 123
    have q6 : ((S (t.take 1) == Str.ofString "{") = true) = (t.take 1 = [123]) := by rw [str_eqL, hc3, L_S, beq_iff_eq]
    have q7 : (i + 3 + ((ptOf t).length : Int) = i + 3) = (ptOf t = []) := by
      rw [← List.length_eq_zero_iff]; apply propext; omega
    have q8 : ((mSignAt x (i + 3 + ((ptOf t).length : Int)) != Str.ofString "}") = true) = (((t.drop 2).drop (ptOf t).length).take 1 ≠ [125]) := by
      rw [g3, bne, str_eqL, hb, L_S, Bool.not_eq_true', beq_eq_false_iff_ne]
    simp only [gt_iff_lt, g2, d8', d16', dpt', q1, q2, q3, q4, q5, q6, q7, q8]
    by_cases c1 : t.take 1 ≠ [] ∧ t.take 1 = L q
    · rw [if_pos c1, if_pos c1]; rfl
    rw [if_neg c1, if_neg c1]
    by_cases c2 : octOf t ≠ []
    · rw [if_pos c2, if_pos c2, bitAnd_m8, ← Int.fmod_eq_emod_of_nonneg _ (by decide : (0 : Int) ≤ 256)]; exact pr2 (by omega)
    rw [if_neg c2, if_neg c2]
    by_cases c3 : (t.take 1 = [120] ∨ t.take 1 = [88]) ∧ hexOf t ≠ []
    · rw [if_pos c3, if_pos c3]; exact pr2 (by omega)
    rw [if_neg c3, if_neg c3]
    by_cases c4 : t.take 2 = [117, 123]
    · rw [if_pos c4, if_pos c4]
      by_cases c5 : ptOf t = []
      · rw [if_pos c5, if_pos (.inl c5)]
      rw [if_neg c5]
      by_cases c6 : ((t.drop 2).drop (ptOf t).length).take 1 ≠ [125]
      · rw [if_pos c6, if_pos (.inr c6)]
      rw [if_neg c6, if_neg (show ¬ (ptOf t = [] ∨ ((t.drop 2).drop (ptOf t).length).take 1 ≠ [125]) from fun h => h.elim c5 c6)]
      by_cases c7 : 1114111 < numL 16 (ptOf t)
      · rw [if_pos c7, if_pos c7]
      rw [if_neg c7, if_neg c7]; exact pr2 (by omega)
    rw [if_neg c4, if_neg c4]
    by_cases c5 : t.take 1 = [123]
    · rw [if_pos c5, if_pos c5]; rfl
    rw [if_neg c5, if_neg c5]; rfl
 k_extra "q"
theorem plain_tab : ∀ c < 256, ((plainOf ⟨#[c]⟩).all fun y => !(L y).isEmpty && (L y).all fun c => decide (c < 256)) = true := by decide +kernel
theorem hexv : ∀ c, isHex c = true → 0 ≤ hexVal c ∧ hexVal c ≤ 15 := fun c h => hex_table c (by have h2 : (Str.ofString "0123456789abcdefABCDEF").cps.contains c = true := h; simpa using h2)
theorem octv : ∀ c, isOct c = true → 0 ≤ hexVal c ∧ hexVal c ≤ 7 := fun c h => oct_table c (by have h2 : (Str.ofString "01234567").cps.contains c = true := h; simpa using h2)
theorem hexOf_le (t : List Nat) : 0 ≤ numL 16 (hexOf t) ∧ numL 16 (hexOf t) ≤ 255 := by
 k_with "w" =>
  unfold hexOf
  have hl : (((t.drop 1).take 2).takeWhile isHex).length ≤ 2 := Nat.le_trans (tw_le _ _) (by rw [List.length_take]; omega)
  have hv : ∀ c ∈ ((t.drop 1).take 2).takeWhile isHex, 0 ≤ hexVal c ∧ hexVal c ≤ 15 := fun c hc => hexv c (takeWhile_all _ c hc)
  refine ⟨numL_nn 16 (by decide) _ fun c hc => (hv c hc).1, ?_⟩
  generalize ((t.drop 1).take 2).takeWhile isHex = l at hl hv
  match l, hl, hv with
  | [], _, _ => decide
  | [a], _, hv => have := hv a (.head _); show 0 * 16 + hexVal a ≤ 255; omega
  | [a, b], _, hv => have := hv a (.head _); have := hv b (.tail _ (.head _)); show (0 * 16 + hexVal a) * 16 + hexVal b ≤ 255; omega
  | _ :: _ :: _ :: _, hl, _ => simp at hl
 k_extra "q"
theorem ptOf_nn (t : List Nat) : 0 ≤ numL 16 (ptOf t) := numL_nn 16 (by decide) _ fun c hc => (hexv c (takeWhile_all _ c hc)).1
theorem L_chr1 (n : Int) : L (chr1 n) = [n.toNat] := rfl
theorem oct_ok {n : Int} (h0 : 0 ≤ n) (h1 : n ≤ 1114111) : L (mOctets n) ≠ [] ∧ ∀ c ∈ L (mOctets n), c < 256 := by
  unfold mOctets
  split
  · rw [L_chr1]; simp; omega
  split
  · rw [L_app, L_chr1, L_chr1]; simp; omega
  split
  · rw [L_app, L_app, L_chr1, L_chr1, L_chr1]; simp; omega
  · rw [L_app, L_app, L_app, L_chr1, L_chr1, L_chr1, L_chr1]; simp; omega
theorem take1_len {t : List Nat} (h : t.take 1 ≠ []) : 1 ≤ t.length := by cases t with | nil => exact absurd rfl h | cons => simp
theorem escL_ok {t : List Nat} {q y : Str} {k : Nat} (h : escL t q = .ok (y, k)) (ht : ∀ c ∈ t, c < 256) : 0 < k ∧ k ≤ t.length + 1 ∧ L y ≠ [] ∧ ∀ c ∈ L y, c < 256 := by
 k_with "w" =>
  revert t q y k h ht
  (k_extra "n4"); generalize p4_1 T9 = t, p4_2 T9 = q, p4_3 T9 = y, p4_4 T9 = k; clear T9
  intro h ht
  unfold escL at h
  split at h
  · rename_i z hz
    cases h
    rcases take1_cases t with e | ⟨c, e, hc⟩
    · rw [e, plain_e] at hz; cases hz
    · have := plain_tab c (ht c hc)
      rw [e] at hz
      rw [show plainOf ⟨#[c]⟩ = some y from hz] at this
      simp only [Option.all_some, Bool.and_eq_true, Bool.not_eq_true', List.isEmpty_eq_false_iff, List.all_eq_true, decide_eq_true_eq] at this
      exact ⟨by omega, by have := take1_len (t := t) (by rw [e]; simp); omega, this⟩
  split at h
  · rename_i h1
    cases h
    exact ⟨by omega, by have := take1_len h1.1; omega, by rw [L_S]; exact h1.1, fun c hc => ht c (List.mem_of_mem_take hc)⟩
  split at h
  · rename_i h1
    cases h
    refine ⟨by omega, ?_, by rw [L_chr1]; simp, ?_⟩
    · have h2 := tw_le isOct (t.take 3)
      rw [List.length_take] at h2
      show 1 + ((t.take 3).takeWhile isOct).length ≤ _
      rw [Nat.add_comm]; exact Nat.succ_le_succ (Nat.le_trans h2 (Nat.min_le_right _ _))
    · rw [L_chr1]
      intro c hc
      rw [List.mem_singleton.mp hc]; exact mod_nat (by decide) rfl
  split at h
  · rename_i h1
    cases h
    have h3 := hexOf_le t
    refine ⟨by omega, ?_, by rw [L_chr1]; simp, ?_⟩
    · have h2 := tw_le isHex ((t.drop 1).take 2)
      rw [List.length_take, List.length_drop] at h2
      have h4 := take1_len (t := t) (by rcases h1.1 with e | e <;> rw [e] <;> simp)
      show 2 + (((t.drop 1).take 2).takeWhile isHex).length ≤ _
      exact Nat.le_trans (Nat.add_le_add_left (Nat.le_trans h2 (Nat.min_le_right _ _)) 2) (Nat.le_of_eq (two_pred h4))
    · rw [L_chr1]
      intro c hc
      rw [List.mem_singleton.mp hc]; omega
  split at h
  · split at h
    · cases h
    rename_i h1
    split at h
    · cases h
    cases h
    have h2 : ((t.drop 2).drop (ptOf t).length).take 1 = [125] := Classical.byContradiction fun q => h1 (.inr q)
    have h3 := take1_len (t := (t.drop 2).drop (ptOf t).length) (by rw [h2]; simp)
    rw [List.length_drop, List.length_drop] at h3
    exact ⟨by omega, by omega, oct_ok (ptOf_nn t) (by omega)⟩
  split at h
  · rename_i h1
    cases h
    refine ⟨by omega, by have := take1_len (t := t) (by rw [h1]; simp); omega, by decide, by decide⟩
  · cases h
    exact ⟨by omega, by omega, by decide, by decide⟩
 k_extra "q"
end
section
open PySem.Builtin.Str
noncomputable def nl (l : List Nat) : Int := PyProof.Rows.cnt 10 l
theorem lit_nl : Str.ofString "\n" = (⟨#[10]⟩ : Str) := by decide
theorem rows_L (x : Str) : mRows x = nl (L x) := by
  unfold mRows; rw [lit_nl, split_len]; show 1 + nl (L x) - 1 = _; omega
theorem count_L (x : Str) : Txt.count x (Str.ofString "\n") = nl (L x) := by rw [lit_nl, count_is]; rfl
theorem nl_app (a b : List Nat) : nl (a ++ b) = nl a + nl b := cnt_append 10 a b
theorem nl_take (l : List Nat) (i k : Nat) : nl (l.take (i + k)) = nl (l.take i) + nl ((l.drop i).take k) := by rw [List.take_add, nl_app]
theorem nl_none (l : List Nat) (h : ∀ c ∈ l, c ≠ 10) : nl l = 0 := cnt_none 10 l fun q => h 10 q rfl
theorem slice_sfx (x : Str) {i : Int} (h : 0 ≤ i) (k : Nat) : Txt.slice x (some i) (some (i + k)) = S ((sfx x i).take k) := by
  apply S_of; unfold sfx; rw [slice_ss x h (by omega)]; congr 1; omega
theorem item_sfx {x : Str} {i : Int} (h : 0 ≤ i) {c : Nat} {t : List Nat} (e : sfx x i = c :: t) : Txt.item x i = S [c] := by
  have hlt : i < x.length := by
    have := congrArg List.length e
    unfold sfx at this; rw [List.length_drop, List.length_cons, L_len] at this; exact tn_lt h (lt_of_sub this)
  rw [item_slice x h hlt]
  show mSignAt x i = _
  rw [sign_S h, e]; rfl
theorem sfx_cons {x : Str} {i : Nat} (h : i < x.length) : ∃ c t, sfx x i = c :: t ∧ c ∈ L x ∧ (L x)[i]? = some c := by
  unfold sfx
  rw [Int.toNat_natCast, List.drop_eq_getElem_cons (by rw [L_len]; exact h)]
  exact ⟨_, _, rfl, List.getElem_mem _, List.getElem?_eq_getElem _⟩
theorem lexEnd_at {x : Str} {p : Int} (h : 0 ≤ p) {u v : List Nat} (e : sfx x p = u ++ 125 :: v) (hu : 125 ∉ u) : mLexEnd x p = p + u.length + 1 := by
 k_with "w" =>
  have hat : ∀ k, (L x)[p.toNat + k]? = (u ++ 125 :: v)[k]? := by
    intro k; rw [← e]; unfold sfx; rw [List.getElem?_drop]
  unfold mLexEnd
  rw [show Str.ofString "}" = (⟨#[125]⟩ : Str) by decide]
  rcases find3_one x 125 h with ⟨e1, hn⟩ | ⟨k, e1, h1, h2, h3⟩
  · exfalso
    refine hn (p.toNat + u.length) (by omega) ?_
    rw [hat]; simp
  · rw [e1]
    have hle : ¬ p.toNat + u.length < k := fun q => h3 (p.toNat + u.length) (by omega) q (by rw [hat]; simp)
    have hge : ¬ k < p.toNat + u.length := fun q => by
      have := hat (k - p.toNat)
      rw [show p.toNat + (k - p.toNat) = k by omega, h2, List.getElem?_append_left (by omega)] at this
      exact hu (List.mem_of_getElem? this.symm)
    omega
 k_extra "q"
noncomputable def NT (ps : List Part) : Prop := ∀ z, ps.getLast? ≠ some (.text z)
noncomputable def gS (s : Str) : Prop := ∀ c ∈ L s, c < 256
noncomputable def gP : Part → Prop
  | .text y => gS y
  | .code y _ => gS y
noncomputable def GPs (ps : List Part) : Prop := ∀ p ∈ ps, gP p
noncomputable def GMs (ms : List Str) : Prop := ∀ s ∈ ms, L s ≠ [] ∧ gS s
theorem join_snoc (ms : List Str) (y : Str) : Txt.join (Str.ofString "") (ms ++ [y]) = Txt.join (Str.ofString "") ms ++ y := by
  apply L_inj; rw [L_app, join_L, join_L]; simp
theorem put_flush {ps : List Part} (h : NT ps) (ms : List Str) {y : Str} (hy : L y ≠ []) : mPut (flush ps ms) y = flush ps (ms ++ [y]) := by
 k_with "w" =>
  unfold flush
  rw [if_neg (show ¬ (ms ++ [y]).isEmpty = true by simp)]
  by_cases e : ms.isEmpty = true
  · have : ms = [] := List.isEmpty_iff.mp e
    subst this
    rw [if_pos e]
    unfold mPut
    have hne : (y != Str.ofString "") = true := by rw [bne_iff_ne, S_e]; exact fun q => hy (congrArg L q)
    rw [List.nil_append, join_one]
    split
    · rename_i z hz; exact absurd hz (h z)
    · rw [if_pos hne]
  · rw [if_neg e]
    unfold mPut
    simp only [List.getLast?_append, List.getLast?_singleton, Option.some_or]
    rw [List.dropLast_concat, join_snoc]
 k_extra "q"
theorem nt_code (ps : List Part) (y : Str) (n : Int) : NT (ps ++ [.code y n]) := by intro z; simp
theorem gflush {ps : List Part} {ms : List Str} (h : GPs ps) (hm : GMs ms) : GPs (flush ps ms) := by
  unfold flush
  split
  · exact h
  · intro p hp
    rcases List.mem_append.mp hp with hp | hp
    · exact h p hp
    · rw [List.mem_singleton.mp hp]
      intro c hc
      rw [join_L] at hc
      obtain ⟨l, hl, hc⟩ := List.mem_flatten.mp hc
      obtain ⟨s, hs, rfl⟩ := List.mem_map.mp hl
      exact (hm s hs).2 c hc
theorem gsnoc {ms : List Str} {y : Str} (h : GMs ms) (hy : L y ≠ []) (hg : gS y) : GMs (ms ++ [y]) := by
  intro s hs
  rcases List.mem_append.mp hs with hs | hs
  · exact h s hs
  · rw [List.mem_singleton.mp hs]; exact ⟨hy, hg⟩
structure Sim (x y q d : Str) (a e : Nat) (r : List Nat) (bf : Int → Option Bool) : Prop where
  hx : ∀ c ∈ L x, c < 256
  hL : ∃ A, A.length = a ∧ L x = A ++ (L y ++ r)
  he : e ≤ y.length
  hr : r = [] ∨ e < y.length
  hbf : ∀ i : Nat, i < e → (Txt.item y i != q) = true → bf (((a + i : Nat) : Int)) = some true
  hd : d = Str.ofString "" ∨ ∀ c ∈ (L y).take e, c ≠ 10
  hg : ∀ i : Nat, i < e → (sfx y i).take 2 = [123, 36] → (sfx y i).take 4 = [123, 36, 53, 125] ∧ i + 4 ≤ e
  hesc : ∀ i : Nat, i < e → (sfx y i).take 1 = [92] → escL (sfx x ((a + i + 1 : Nat) : Int)) q = escL (sfx y ((i + 1 : Nat) : Int)) q ∧ ∀ v k, escL (sfx y ((i + 1 : Nat) : Int)) q = .ok (v, k) → i + k ≤ e
theorem why_ok {t : List Nat} {q v : Str} (h : escL t q = .error v) : v = why1 ∨ v = why2 := by
  revert t q v h
  (k_extra "n3"); generalize p3_1 T9 = t, p3_2 T9 = q, p3_3 T9 = v; clear T9
  intro h
  unfold escL at h
  repeat' split at h
  all_goals first | (cases h; exact .inl rfl) | (cases h; exact .inr rfl) | cases h
section
variable {x y q d : Str} {a e : Nat} {r : List Nat} {bf : Int → Option Bool} {fin : Int → Int} {st : Int}
theorem Sim.sfx (C : Sim x y q d a e r bf) {i : Nat} (h : i ≤ y.length) : Mine.sfx x ((a + i : Nat) : Int) = Mine.sfx y i ++ r := by
  obtain ⟨A, hA, hL⟩ := C.hL
  unfold Mine.sfx
  rw [hL, Int.toNat_natCast, Int.toNat_natCast, ← hA, List.drop_append, List.drop_of_length_le (by omega), List.nil_append, show A.length + i - A.length = i by omega, List.drop_append_of_le_length (by rw [L_len]; exact h)]
theorem Sim.nlx (C : Sim x y q d a e r bf) {i k : Nat} (h : i + k ≤ y.length) : mRows (Txt.slice x (some ((a + i : Nat) : Int)) (some (((a + i : Nat) : Int) + k))) = nl (((L y).drop i).take k) := by
  rw [rows_L, slice_sfx x (by omega), L_S, C.sfx (by omega), List.take_append_of_le_length (by unfold Mine.sfx; rw [List.length_drop, L_len]; omega)]
  rfl
noncomputable def StepR (x y q d : Str) (a e : Nat) (bf : Int → Option Bool) (fin : Int → Int) (st n0 : Int) (f : List Part → List Part) (kM kR i : Nat) (n : Int) (ps : List Part) (ms : List Str) (ps' : List Part) : Prop :=
  (∃ v row, (v = why1 ∨ v = why2) ∧ mLoop bf fin x q d st kM ((a + i : Nat) : Int) n ps ms = some (.error (v, row)) ∧ mRead y q n0 kR i ps' = some (.error (v, row))) ∨
  ∃ j kM' kR' ps2 ms2 qs2, (i ≤ j ∧ kM + i ≤ kM' + j) ∧ j ≤ e ∧ (j = e ∨ Txt.item y (j : Int) = q) ∧ e - j < kM' ∧ y.length - j < kR' ∧ NT ps2 ∧ GPs ps2 ∧ GMs ms2 ∧ flush ps2 ms2 = f qs2 ∧
    mLoop bf fin x q d st kM ((a + i : Nat) : Int) n ps ms = mLoop bf fin x q d st kM' ((a + j : Nat) : Int) (n0 + nl ((L y).take j)) ps2 ms2 ∧ mRead y q n0 kR i ps' = mRead y q n0 kR' j qs2
theorem take4 {c : Nat} {t : List Nat} (h : List.take 4 (c :: t) = [123, 36, 53, 125]) : c = 123 ∧ ∃ r, t = 36 :: 53 :: 125 :: r := by
  have e := List.take_append_drop 4 (c :: t)
  rw [h] at e
  exact ⟨(List.cons.inj e).1.symm, _, (List.cons.inj e).2.symm⟩
theorem sim_run (C : Sim x y q d a e r bf) (n0 : Int) (f : List Part → List Part) (hf1 : ∀ ps v, f (mPut ps v) = mPut (f ps) v) (hf2 : ∀ ps v n, f (ps ++ [.code v n]) = f ps ++ [.code v n]) :
    ∀ (m i kM kR : Nat) (n : Int) (ps : List Part) (ms : List Str) (ps' : List Part), e - i ≤ m → i ≤ e → e - i < kM → y.length - i < kR → NT ps → GPs ps → GMs ms → flush ps ms = f ps' → n = n0 + nl ((L y).take i) →
    StepR x y q d a e bf fin st n0 f kM kR i n ps ms ps' := by
 k_with "w" =>
  revert x y q d a e r bf fin st C n0 f hf1 hf2
  (k_extra "n7"); generalize p7_1 T9 = x, p7_2 T9 = y, p7_3 T9 = q, p7_4 T9 = d, p7_5 T9 = a, p7_6 T9 = e, p7_7 T9 = r; clear T9
  (k_extra "n3"); generalize p3_1 T9 = bf, p3_2 T9 = fin, p3_3 T9 = st; clear T9
  intro C
  (k_extra "n2"); generalize p2_1 T9 = n0, p2_2 T9 = f; clear T9
  intro hf1 hf2
  intro m
  induction m with
  | zero =>
    intro i kM kR n ps ms ps' h1 h2 h3 h4 h5 h6 h7 h8 h9
    exact .inr ⟨i, kM, kR, ps, ms, ps', by omega, by omega, .inl (by omega), h3, h4, h5, h6, h7, h8, by rw [h9], rfl⟩
  | succ m ih =>
    revert m
    (k_extra "n1"); generalize c1 _ _ = m
    intro ih
    (k_extra "n7"); generalize p7_1 T9 = i, p7_2 T9 = kM, p7_3 T9 = kR, p7_4 T9 = n, p7_5 T9 = ps, p7_6 T9 = ms, p7_7 T9 = ps'; clear T9
    intro h1 h2 h3 h4 h5 h6 h7 h8 h9
    by_cases hstop : i = e ∨ Txt.item y (i : Int) = q
    · exact .inr ⟨i, kM, kR, ps, ms, ps', by omega, by omega, hstop, h3, h4, h5, h6, h7, h8, by rw [h9], rfl⟩
    have hie : i < e := by omega
    have hq : (Txt.item y (i : Int) != q) = true := bne_iff_ne.mpr fun z => hstop (.inr z)
    have hiy : i < y.length := Nat.lt_of_lt_of_le hie C.he
    refine exE ((sfx_cons hiy)) ?_; (try dsimp only); (k_extra "h1"); generalize c1 _ _ = c; intro hE9
    refine exE hE9 ?_; clear hE9; (try dsimp only); (k_extra "h1"); generalize c1 _ _ = t; intro hE9
    obtain ⟨hc, hcm, hci⟩ := hE9
    have hyx : ∀ z ∈ L y, z ∈ L x := fun z hz => by obtain ⟨A, _, hL⟩ := C.hL; rw [hL]; exact List.mem_append_right _ (List.mem_append_left _ hz)
    have hc256 : c < 256 := C.hx c (hyx c hcm)
    have hcx : sfx x ((a + i : Nat) : Int) = c :: (t ++ r) := by rw [C.sfx (by omega), hc]; rfl
    have hiteX := item_sfx (by omega) hcx
    have hiteY := item_sfx (by omega) hc
    refine exE (show ∃ k, kM = k + 1 from ⟨kM - 1, by omega⟩) ?_; (k_extra "h1"); generalize c1 _ _ = kM9; intro hE9; subst hE9
    refine exE (show ∃ k, kR = k + 1 from ⟨kR - 1, by omega⟩) ?_; (k_extra "h1"); generalize c1 _ _ = kR9; intro hE9; subst hE9
    have htl : t.length + i + 1 = y.length := by
      have := congrArg List.length hc
      unfold Mine.sfx at this; rw [List.length_drop, L_len, List.length_cons, Int.toNat_natCast] at this; omega
    have hbf := C.hbf i hie hq
    have hcount : n0 + (Txt.count (Txt.slice y none (some (i : Int))) (Str.ofString "\n") : Int) = n := by
      rw [count_L, slice_ns y (by omega), Int.toNat_natCast, h9]
    unfold StepR
    rw [mLoop_succ, mRead_succ, hbf]
    dsimp only
    rw [if_pos (show (i : Int) < y.length ∧ (Txt.item y (i : Int) != q) = true from ⟨by omega, hq⟩), hcount]
    rw [hiteX, hiteY]
    have e2 : Txt.slice y (some (i : Int)) (some ((i : Int) + 2)) = S ((c :: t).take 2) := by rw [← hc]; exact slice_sfx y (by omega) 2
    have hcode : (Txt.slice y (some (i : Int)) (some ((i : Int) + 2)) == Str.ofString "{$") = ((c :: t).take 2 == [123, 36]) := by
      rw [e2, show Str.ofString "{$" = S [123, 36] by decide, S_eq]
    have hsg : mSignAt x (((a + i : Nat) : Int) + 1) = S ((t ++ r).take 1) := by
      rw [sign_S (by omega), show ((a + i : Nat) : Int) + 1 = ((a + i : Nat) : Int) + (1 : Nat) from rfl, sfx_add (by omega), hcx]; rfl
    have htr : (t ++ r).take 1 = t.take 1 := by
      rcases C.hr with h | h
      · rw [h, List.append_nil]
      · exact List.take_append_of_le_length (by omega)
    have hcodeX : ((S [c] == Str.ofString "{") = true ∧ (mSignAt x (((a + i : Nat) : Int) + 1) == Str.ofString "$") = true) = ((c :: t).take 2 = [123, 36]) := by
      rw [hsg, htr, show Str.ofString "{" = S [123] by decide, show Str.ofString "$" = S [36] by decide, S_eq, S_eq, beq_iff_eq, beq_iff_eq]
      cases t <;> simp
    rw [hcode]
    by_cases c1 : (c :: t).take 2 = [123, 36]
    · have c1a : ((S [c] == Str.ofString "{") = true ∧ (mSignAt x (((a + i : Nat) : Int) + 1) == Str.ofString "$") = true) := by rw [hcodeX]; exact c1
      have c1b : (((c :: t).take 2 == [123, 36]) = true) := by rw [c1]; rfl
      rw [if_pos c1a, if_pos c1b]
      obtain ⟨g1, g2⟩ := C.hg i hie (by rw [hc]; exact c1)
      rw [hc] at g1
      have g9 := take4 g1
      refine exE g9.2 ?_; ((k_extra "h1"); generalize Mine.c1 _ _ = t4); intro hE9
      have g8 := g9.1
      clear g9 g1
      subst g8 hE9
      have sx1 : sfx x (((a + i : Nat) : Int) + 1) = [36, 53] ++ 125 :: (t4 ++ r) := by
        rw [show ((a + i : Nat) : Int) + 1 = ((a + i : Nat) : Int) + (1 : Nat) from rfl, sfx_add (by omega), hcx]; rfl
      have sy1 : sfx y ((i : Int) + 1) = [36, 53] ++ 125 :: t4 := by
        rw [show (i : Int) + 1 = (i : Int) + (1 : Nat) from rfl, sfx_add (by omega), hc]; rfl
      have sy0 : sfx y (i : Int) = [123, 36, 53] ++ 125 :: t4 := hc
      have lx := lexEnd_at (by omega) sx1 (by decide)
      have ly := lexEnd_at (by omega) sy0 (by decide)
      rw [show ((a + i : Nat) : Int) + 1 + (([36, 53] : List Nat).length : Int) + 1 = ((a + (i + 4) : Nat) : Int) by simp only [List.length_cons, List.length_nil]; omega] at lx
      rw [show (i : Int) + (([123, 36, 53] : List Nat).length : Int) + 1 = ((i + 4 : Nat) : Int) by simp only [List.length_cons, List.length_nil]; omega] at ly
      have tx : mLexTok x (((a + i : Nat) : Int) + 1) = S [36, 53, 125] := by
        unfold mLexTok; rw [lx, show ((a + (i + 4) : Nat) : Int) = ((a + i : Nat) : Int) + 1 + (3 : Nat) by omega, slice_sfx x (by omega), sx1]; rfl
      have ty : Txt.slice y (some ((i : Int) + 1)) (some ((i + 4 : Nat) : Int)) = S [36, 53, 125] := by
        rw [show ((i + 4 : Nat) : Int) = (i : Int) + 1 + (3 : Nat) by omega, slice_sfx y (by omega), sy1]; rfl
      rw [lx, ly, tx, ty]
      have hrw : mRows (Txt.slice x (some ((a + i : Nat) : Int)) (some ((a + (i + 4) : Nat) : Int))) = nl (((L y).drop i).take 4) := by
        have := C.he
        rw [← C.nlx (by omega), show ((a + (i + 4) : Nat) : Int) = ((a + i : Nat) : Int) + (4 : Nat) by omega]
      rw [hrw]
      rcases ih (i + 4) kM9 kR9 (n + nl (((L y).drop i).take 4)) (flush ps ms ++ [.code (S [36, 53, 125]) n]) [] (ps' ++ [.code (S [36, 53, 125]) n]) (by omega) (by omega) (by omega) (by omega) (nt_code _ _ _) (by
          intro p hp
          rcases List.mem_append.mp hp with hp | hp
          · exact gflush h6 h7 p hp
          · rw [List.mem_singleton.mp hp]; exact (show gS (S [36, 53, 125]) by unfold gS; rw [L_S]; decide)) (fun _ h => nomatch h) (by rw [hf2, ← h8]; rfl) (by rw [nl_take, h9]; omega) with h | ⟨j, kM', kR', ps2, ms2, qs2, j1, j2⟩
      · exact .inl h
      · exact .inr ⟨j, kM', kR', ps2, ms2, qs2, by omega, j2⟩
    have c1a : ¬ ((S [c] == Str.ofString "{") = true ∧ (mSignAt x (((a + i : Nat) : Int) + 1) == Str.ofString "$") = true) := by rw [hcodeX]; exact c1
    have c1b : ¬ (((c :: t).take 2 == [123, 36]) = true) := by rw [beq_iff_eq]; exact c1
    rw [if_neg c1a, if_neg c1b]
    clear c1a c1b hcodeX hcode
    by_cases c2 : c = 92
    · subst c2
      have c2a : (S [92] == Str.ofString "\\") = true := by decide
      rw [if_pos c2a, if_pos c2a]
      obtain ⟨k1, k2⟩ := C.hesc i hie (by rw [hc]; rfl)
      rw [mesc_L (by omega) C.hx, lesc_L (by omega) (fun c hc => C.hx c (hyx c hc))]
      rw [show ((a + i : Nat) : Int) + 1 = ((a + i + 1 : Nat) : Int) by omega, show (i : Int) + 1 = ((i + 1 : Nat) : Int) by omega, k1]
      cases hE : escL (sfx y ((i + 1 : Nat) : Int)) q with
      | error v =>
        exact .inl ⟨v, n, why_ok hE, rfl, rfl⟩
      | ok p =>
        obtain ⟨v, k⟩ := p
        obtain ⟨o1, o2, o3, o4⟩ := escL_ok hE (fun c hc => C.hx c (hyx c (List.mem_of_mem_drop hc)))
        have hk := k2 v k hE
        dsimp only
        rw [if_neg (show ¬ (i : Int) + (k : Int) < 0 by omega)]
        rw [C.nlx (by have := C.he; omega), show ((a + i : Nat) : Int) + (k : Int) = ((a + (i + k) : Nat) : Int) by omega, show (i : Int) + (k : Int) = ((i + k : Nat) : Int) by omega]
        rcases ih (i + k) kM9 kR9 (n + nl (((L y).drop i).take k)) ps (ms ++ [v]) (mPut ps' v) (by omega) (by omega) (by omega) (by have := C.he; omega) h5 h6 (gsnoc h7 o3 o4) (by rw [hf1, ← h8, put_flush h5 _ o3]) (by rw [nl_take, h9]; omega) with h | ⟨j, kM', kR', ps2, ms2, qs2, j1, j2⟩
        · exact .inl h
        · exact .inr ⟨j, kM', kR', ps2, ms2, qs2, by omega, j2⟩
    have hnb : ¬ (S [c] == Str.ofString "\\") = true := by
      rw [show Str.ofString "\\" = S [92] by decide, S_eq, beq_iff_eq]; intro z; injection z with z; exact c2 z
    rw [if_neg hnb, if_neg hnb]
    have hnn : ¬ ((S [c] == Str.ofString "\n") = true ∧ (d != Str.ofString "") = true) := by
      rintro ⟨z1, z2⟩
      rcases C.hd with h | h
      · rw [h] at z2; exact absurd z2 (by decide)
      · rw [show Str.ofString "\n" = S [10] by decide, S_eq, beq_iff_eq] at z1; injection z1 with z1
        refine h c ?_ z1
        exact List.mem_of_getElem? (i := i) (by rw [List.getElem?_take_of_lt hie]; exact hci)
    rw [if_neg hnn]
    have hrw := C.nlx (i := i) (k := 1) (by omega)
    rw [show ((a + i : Nat) : Int) + ((1 : Nat) : Int) = ((a + i : Nat) : Int) + 1 from rfl] at hrw
    rw [hrw, show ((a + i : Nat) : Int) + 1 = ((a + (i + 1) : Nat) : Int) by omega, show (i : Int) + 1 = ((i + 1 : Nat) : Int) by omega]
    have ho : L (S [c]) ≠ [] := by rw [L_S]; exact List.cons_ne_nil _ _
    rcases ih (i + 1) kM9 kR9 (n + nl (((L y).drop i).take 1)) ps (ms ++ [S [c]]) (mPut ps' (S [c])) (by omega) (by omega) (by omega) (by have := C.he; omega) h5 h6 (gsnoc h7 ho (by intro z hz; rw [L_S] at hz; rw [List.mem_singleton.mp hz]; exact hc256)) (by rw [hf1, ← h8, put_flush h5 _ ho]) (by rw [nl_take, h9]; omega) with h | ⟨j, kM', kR', ps2, ms2, qs2, j1, j2⟩
    · exact .inl h
    · exact .inr ⟨j, kM', kR', ps2, ms2, qs2, by omega, j2⟩
 k_extra "q"
end
end
section
open PySem.Builtin.Str
noncomputable def good : List Nat → Bool
  | [] => true
  | c :: r => (c != 36 || r.head? == some 53) && (!(c == 123 && r.head? == some 36) || (r.drop 1).take 2 == [53, 125]) && good r
theorem good_at : ∀ {l : List Nat} (i : Nat), good l = true → good (l.drop i) = true
  | l, 0, h => h
  | [], i + 1, h => rfl
  | c :: r, i + 1, h => by
    rw [good, Bool.and_eq_true] at h
    exact good_at i h.2
theorem good_code {t : List Nat} (h : good (123 :: 36 :: t) = true) : ∃ r, t = 53 :: 125 :: r := by
 k_with "w" =>
  simp only [good, Bool.and_eq_true, Bool.or_eq_true, beq_iff_eq, bne_iff_ne, ne_eq, Bool.not_eq_true', Bool.and_eq_false_iff, beq_eq_false_iff_ne, List.head?_cons, List.drop_succ_cons, List.drop_zero] at h
  obtain ⟨⟨_, h⟩, _⟩ := h
  rcases h with (h | h) | h
  · exact (h trivial).elim
  · exact (h trivial).elim
  · match t, h with
    | a :: b :: r, h => injection h with h1 h2; injection h2 with h2 _; subst h1 h2; exact ⟨r, rfl⟩
    | [], h => cases h
    | [_], h => cases h
 k_extra "q"
theorem good_dollar {t : List Nat} (h : good (36 :: t) = true) : t.head? = some 53 := by
  simp only [good, Bool.and_eq_true, Bool.or_eq_true, beq_iff_eq, bne_iff_ne] at h
  obtain ⟨⟨h, _⟩, _⟩ := h
  rcases h with h | h
  · exact absurd rfl h
  · exact h
noncomputable def piece (u : List Nat) : Bool := u.all (fun c => c != 36 && c != 123) || u == [123] || u == [123, 36, 53, 125] || u == [92, 36, 53] || u == [117, 123]
noncomputable def Gd (l : List Nat) : Prop := good l = true ∧ l.head? ≠ some 36
theorem gd_nil : Gd [] := ⟨rfl, by decide⟩
theorem gd_char {c : Nat} {l : List Nat} (h1 : c ≠ 36) (h2 : Gd l) : Gd (c :: l) := by
  refine ⟨?_, fun q => h1 (Option.some.inj q)⟩
  rw [good, h2.1, Bool.and_true, Bool.and_eq_true]
  refine ⟨?_, ?_⟩
  · rw [Bool.or_eq_true]; exact .inl (bne_iff_ne.mpr h1)
  · have : (l.head? == some 36) = false := beq_eq_false_iff_ne.mpr h2.2
    rw [this, Bool.and_false]; rfl
theorem gd_app : ∀ {u : List Nat} {l : List Nat}, (∀ c ∈ u, c ≠ 36) → Gd l → Gd (u ++ l)
  | [], l, _, h => h
  | c :: u, l, hu, h => gd_char (hu c List.mem_cons_self) (gd_app (fun d hd => hu d (List.mem_cons_of_mem _ hd)) h)
theorem gd_esc {l : List Nat} (h : Gd l) : Gd (92 :: 36 :: 53 :: l) := by
  have h5 : Gd (53 :: l) := gd_char (by decide) h
  refine ⟨?_, by simp⟩
  show good (92 :: 36 :: 53 :: l) = true
  simp [good, h.1]
theorem gd_code {l : List Nat} (h : Gd l) : Gd (123 :: 36 :: 53 :: 125 :: l) := by
  refine ⟨?_, by simp⟩
  simp [good, h.1]
noncomputable def okUnit (u : Str) : Bool := (L u).all (fun c => c != 36) || L u == [92, 36, 53] || L u == [123, 36, 53, 125]
theorem gd_unit {u : Str} {l : List Nat} (hu : okUnit u = true) (h : Gd l) : Gd (L u ++ l) := by
  unfold okUnit at hu
  rw [Bool.or_eq_true, Bool.or_eq_true, beq_iff_eq, beq_iff_eq, List.all_eq_true] at hu
  rcases hu with (hu | hu) | hu
  · exact gd_app (fun c hc => by have := hu c hc; simpa using this) h
  · rw [hu]; exact gd_esc h
  · rw [hu]; exact gd_code h
theorem units_ok : ∀ u ∈ mUnits, okUnit u = true ∧ (L u).all (fun c => decide (c < 256)) = true := by decide +kernel
theorem units_25 : ∀ u ∈ mUnits.take 25, (L u).all (fun c => c != 10 && c != 13 && c != 69) = true := by decide +kernel
theorem draws_mem (many : Int) (hm : 0 < many) : ∀ (ns : List Int) (p : Int), ∀ u ∈ mDraws many p ns, u ∈ mUnits.take many.toNat ∨ u = Str.ofString ""
  | [], _, u, h => nomatch h
  | n :: ns, p, u, h => by
    rw [mDraws] at h
    rcases List.mem_cons.mp h with rfl | h
    · have z1 : 0 ≤ mDraw many p n := Int.fmod_nonneg_of_pos _ hm
      have z2 : mDraw many p n < many := Int.fmod_lt_of_pos _ hm
      rw [List.getD_eq_getElem?_getD]
      cases e : mUnits[(mDraw many p n).toNat]? with
      | none => exact .inr rfl
      | some v =>
        left
        rw [Option.getD_some]
        exact List.mem_of_getElem? (i := (mDraw many p n).toNat) (by rw [List.getElem?_take_of_lt (by omega)]; exact e)
    · exact draws_mem many hm ns _ u h
theorem text_L (many p : Int) (ns : List Int) : L (mText many p ns) = ((mDraws many p ns).map L).flatten := join_L _
theorem gd_flat : ∀ {us : List Str} {l : List Nat}, (∀ u ∈ us, okUnit u = true) → Gd l → Gd ((us.map L).flatten ++ l)
  | [], l, _, h => h
  | u :: us, l, hu, h => by
    rw [List.map_cons, List.flatten_cons, List.append_assoc]
    exact gd_unit (hu u List.mem_cons_self) (gd_flat (fun v hv => hu v (List.mem_cons_of_mem _ hv)) h)
theorem okUnit_e : okUnit (Str.ofString "") = true := by decide
theorem text_gd {many : Int} (hm : 0 < many) (p : Int) (ns : List Int) {l : List Nat} (h : Gd l) : Gd (L (mText many p ns) ++ l) := by
  rw [text_L]
  refine gd_flat (fun u hu => ?_) h
  rcases draws_mem many hm ns p u hu with h | rfl
  · exact (units_ok u (List.mem_of_mem_take h)).1
  · exact okUnit_e
theorem text_256 {many : Int} (hm : 0 < many) (p : Int) (ns : List Int) : ∀ c ∈ L (mText many p ns), c < 256 := by
  intro c hc
  rw [text_L] at hc
  obtain ⟨l, hl, hc⟩ := List.mem_flatten.mp hc
  obtain ⟨u, hu, rfl⟩ := List.mem_map.mp hl
  rcases draws_mem many hm ns p u hu with h | rfl
  · have := List.all_eq_true.mp (units_ok u (List.mem_of_mem_take h)).2 c hc
    simpa using this
  · rw [L_nil] at hc; cases hc
theorem text_25 (p : Int) (ns : List Int) : ∀ c ∈ L (mText 25 p ns), c ≠ 10 ∧ c ≠ 13 ∧ c ≠ 69 := by
  intro c hc
  rw [text_L] at hc
  obtain ⟨l, hl, hc⟩ := List.mem_flatten.mp hc
  obtain ⟨u, hu, rfl⟩ := List.mem_map.mp hl
  rcases draws_mem 25 (by decide) ns p u hu with h | rfl
  · have := List.all_eq_true.mp (units_25 u h) c hc
    simpa [and_assoc] using this
  · rw [L_nil] at hc; cases hc
theorem dollars {x : Str} (hg : good (L x) = true) : ∀ j, 0 ≤ j → j < (x.length : Int) → (Txt.item x j == Str.ofString "$") = true → (mSignAt x (j + 1) == Str.ofString "{") = false ∧ mStart (mSignAt x (j + 1)) = false := by
 k_with "w" =>
  intro j h0 h1 h
  obtain ⟨i, rfl⟩ : ∃ i : Nat, j = i := ⟨j.toNat, by omega⟩
  obtain ⟨c, t, hc, _, _⟩ := sfx_cons (x := x) (i := i) (by omega)
  rw [item_sfx (by omega) hc, show Str.ofString "$" = S [36] by decide, S_eq, beq_iff_eq] at h
  injection h with h; subst h
  have hgt : good (36 :: t) = true := by rw [← hc]; exact good_at _ hg
  have h5 := good_dollar hgt
  have e : mSignAt x ((i : Int) + 1) = S [53] := by
    rw [sign_S (by omega), show (i : Int) + 1 = (i : Int) + (1 : Nat) from rfl, sfx_add (by omega), hc]
    cases t with
    | nil => cases h5
    | cons a t => injection h5 with h5; subst h5; rfl
  rw [e]; decide
 k_extra "q"
theorem flat_str {n : Nat} {y : Str} (h : gS y) : Flat n (.str y) := by
  refine .str y ?_
  unfold PyData.strOk
  rw [Array.all_eq_true]
  intro i hi
  have := h (y.cps[i]) (by show _ ∈ y.cps.toList; simp)
  exact decide_eq_true (by omega)
theorem flat_parts {n : Nat} {ps : List Part} (h : GPs ps) : Flat (n + 3) (.list (ps.map Part.dat)) := by
  refine .list _ fun d hd => ?_
  obtain ⟨p, hp, rfl⟩ := List.mem_map.mp hd
  have := h p hp
  cases p with
  | text y => exact .tuple _ ((fmc (.str _ (by decide +kernel)) ((fmc (flat_str this) (List.forall_mem_nil _)))))
  | code y k => exact .tuple _ ((fmc (.str _ (by decide +kernel)) ((fmc (.tuple _ ((fmc (flat_str this) ((fmc (.int _) (List.forall_mem_nil _)))))) (List.forall_mem_nil _)))))
theorem flat_refused {m : Nat} {y : Str} {n : Int} (h : gS y) : Flat (m + 1) (dRefused y n) := .tuple _ ((fmc (.str _ (by decide +kernel)) ((fmc (flat_str h) ((fmc (.int _) (List.forall_mem_nil _)))))))
theorem why_gS {v : Str} (h : v = why1 ∨ v = why2) : gS v := by rcases h with rfl | rfl <;> unfold gS <;> decide
theorem parts_ok {x : Str} (n : Int) (hx : ∀ c ∈ L x, c < 256) (hg : good (L x) = true) (hl : x.length ≤ 60000) : PartsOK x n := by
 k_with "w" =>
  revert x n hx hg hl
  (k_extra "n2"); generalize p2_1 T9 = x, p2_2 T9 = n; clear T9
  intro hx hg hl
  have hq : (Str.ofString "\"" != Str.ofString "") = true := by decide
  have C : Sim x x (Str.ofString "\"") (Str.ofString "") 0 x.length [] (bfS x (Str.ofString "\"")) := by
    refine ⟨hx, ⟨[], rfl, by simp⟩, Nat.le_refl _, .inl rfl, fun i hi h => ?_, .inl rfl, fun i hi h => ?_, fun i hi h => ⟨by rw [Nat.zero_add], fun v k hE => ?_⟩⟩
    · unfold bfS
      rw [if_neg (by omega), Nat.zero_add, h]
    · have hgi := good_at i hg
      have e : sfx x (i : Int) = (L x).drop i := rfl
      rw [← e] at hgi
      cases hs : sfx x (i : Int) with
      | nil => rw [hs] at h; cases h
      | cons a t =>
        rw [hs] at h hgi
        match t, h with
        | b :: t, h =>
          injection h with h1 h2; injection h2 with h2 _; subst h1 h2
          obtain ⟨r, rfl⟩ := good_code hgi
          refine ⟨rfl, ?_⟩
          have := congrArg List.length hs
          rw [e, List.length_drop, L_len] at this
          simp only [List.length_cons] at this; omega
    · obtain ⟨_, o2, _⟩ := escL_ok hE (fun c hc => hx c (List.mem_of_mem_drop hc))
      unfold sfx at o2
      rw [List.length_drop, L_len] at o2; omega
  have hd := dollars hg
  rcases sim_run (fin := fun i => i + 1) (st := 0) C n id (fun _ _ => rfl) (fun _ _ _ => rfl) x.length 0 (x.length + 1) (x.length + 1) n [] [] [] (by omega) (by omega) (by omega) (by omega) (by intro z; simp) (fun _ h => nomatch h) (fun _ h => nomatch h) rfl (by rw [List.take_zero]; show n = n + cnt 10 []; rw [cnt_nil]; omega) with ⟨v, row, hv, e1, e2⟩ | hrun
  · exact ⟨.error (v, row), _, _, e1, e2, by omega, by omega, flat_refused (why_gS hv), hd⟩
  · refine exE hrun ?_; clear hrun; (try dsimp only); (k_extra "h1"); generalize c1 _ _ = j; intro hE9
    refine exE hE9 ?_; clear hE9; (try dsimp only); (k_extra "h1"); generalize c1 _ _ = kM; intro hE9
    refine exE hE9 ?_; clear hE9; (try dsimp only); (k_extra "h1"); generalize c1 _ _ = kR; intro hE9
    refine exE hE9 ?_; clear hE9; (try dsimp only); (k_extra "h1"); generalize c1 _ _ = ps2; intro hE9
    refine exE hE9 ?_; clear hE9; (try dsimp only); (k_extra "h1"); generalize c1 _ _ = ms2; intro hE9
    refine exE hE9 ?_; clear hE9; (try dsimp only); (k_extra "h1"); generalize c1 _ _ = qs2; intro hE9
    obtain ⟨j1, j2, j3, j4, j5, j6, j7, j8, j9, e1, e2⟩ := hE9
    refine exE (show ∃ k, kM = k + 1 from ⟨kM - 1, by omega⟩) ?_; (k_extra "h1"); generalize c1 _ _ = kM9; intro hE9; subst hE9
    refine exE (show ∃ k, kR = k + 1 from ⟨kR - 1, by omega⟩) ?_; (k_extra "h1"); generalize c1 _ _ = kR9; intro hE9; subst hE9
    by_cases hjx : j = x.length
    · subst hjx
      refine ⟨.error (whyE, n + nl (L x)), x.length + 1, x.length + 1, ?_, ?_, by omega, by omega, flat_refused (by unfold gS; decide), hd⟩
      · refine e1.trans ?_
        rw [mLoop_succ]
        unfold bfS
        rw [if_pos (by omega), List.take_of_length_le (by rw [L_len]; omega)]
      · refine e2.trans ?_
        rw [mRead_succ, if_neg (by omega), if_pos ⟨hq, rfl⟩, count_L]
    · have hq2 : Txt.item x (j : Int) = Str.ofString "\"" := j3.resolve_left hjx
      refine ⟨.ok (flush ps2 ms2, (j : Int) + 1), x.length + 1, x.length + 1, ?_, ?_, by omega, by omega, ?_, hd⟩
      · refine e1.trans ?_
        rw [mLoop_succ]
        unfold bfS
        rw [Nat.zero_add, if_neg (by omega), hq2]; rfl
      · refine e2.trans ?_
        rw [mRead_succ, if_neg (by rw [hq2]; intro z; exact absurd z.2 (by decide)), if_neg (by omega), j9]; rfl
      · exact .tuple _ ((fmc (.str _ (by decide +kernel)) ((fmc (flat_parts (gflush j7 j8)) ((fmc (.int _) (List.forall_mem_nil _)))))))
 k_extra "q"
end
section
open PySem.Builtin.Str
theorem esc_ok {x : Str} (n : Int) (hx : ∀ c ∈ L x, c < 256) {j : Int} (h0 : 0 ≤ j) (q : Str) : dEsc n (mEscape x j q) = dLEsc n (mLEsc x j q) ∧ Flat 2 (dLEsc n (mLEsc x j q)) := by
 k_with "w" =>
  rw [mesc_L h0 hx, lesc_L h0 hx]
  cases hE : escL (sfx x (j + 1)) q with
  | error v =>
    refine ⟨rfl, ?_⟩
    show Flat 2 (if (-1 : Int) < 0 then dRefused v n else dTold [.str v, .int (-1)])
    rw [if_pos (by decide)]
    exact flat_refused (why_gS (why_ok hE))
  | ok p =>
    obtain ⟨y, k⟩ := p
    obtain ⟨_, _, _, o4⟩ := escL_ok hE (fun c hc => hx c (List.mem_of_mem_drop hc))
    dsimp only
    have e : dLEsc n (y, j + k) = dTold [.str y, .int (j + k)] := if_neg (show ¬ j + (k : Int) < 0 by omega)
    rw [e]
    exact ⟨rfl, .tuple _ ((fmc (.str _ (by decide +kernel)) ((fmc (flat_str o4) ((fmc (.int _) (List.forall_mem_nil _)))))))⟩
 k_extra "q"
theorem sing_run {x : Str} (hx : ∀ c ∈ L x, c < 256) : ∀ (m i : Nat) (l : List Str) (md : Str), x.length - i ≤ m → md = Txt.join (Str.ofString "") l → gS md →
    (mSingle x (i : Int) l = none ∧ mSing x (i : Int) md = none) ∨ ∃ l2 j, mSingle x (i : Int) l = some (l2, j) ∧ mSing x (i : Int) md = some (Txt.join (Str.ofString "") l2, j) ∧ gS (Txt.join (Str.ofString "") l2) := by
 k_with "w" =>
  revert x hx
  (k_extra "n1"); generalize c1 _ _ = x
  intro hx
  intro m
  induction m with
  | zero =>
    (k_extra "n3"); generalize p3_1 T9 = i, p3_2 T9 = l, p3_3 T9 = md; clear T9
    intro h1 h2 h3
    rw [mSingle_eq, mSing_eq, if_neg (show ¬ (i : Int) < x.length by omega), if_neg (show ¬ (i : Int) < x.length by omega)]
    exact .inl ⟨rfl, rfl⟩
  | succ m ih =>
    revert m
    (k_extra "n1"); generalize c1 _ _ = m
    intro ih
    (k_extra "n3"); generalize p3_1 T9 = i, p3_2 T9 = l, p3_3 T9 = md; clear T9
    intro h1 h2 h3
    by_cases hi : (i : Int) < x.length
    · refine exE ((sfx_cons (x := x) (i := i) (by omega))) ?_; (try dsimp only); (k_extra "h1"); generalize c1 _ _ = c; intro hE9
      refine exE hE9 ?_; clear hE9; (try dsimp only); (k_extra "h1"); generalize c1 _ _ = t; intro hE9
      obtain ⟨hc, hcm, _⟩ := hE9
      have hit := item_sfx (by omega) hc
      rw [mSingle_eq, mSing_eq, if_pos hi, if_pos hi, hit]
      have lq : Str.ofString "'" = S [39] := by decide
      have lb : Str.ofString "\\" = S [92] := by decide
      have l1 : Str.ofString "\\\\" = S [92, 92] := by decide
      have l2 : Str.ofString "\\'" = S [92, 39] := by decide
      rw [lq, lb, l1, l2]
      have push : ∀ (y : Str), gS y → md ++ y = Txt.join (Str.ofString "") (l ++ [y]) ∧ gS (md ++ y) := by
        intro y hy
        rw [join_snoc, h2]
        refine ⟨rfl, fun d hd => ?_⟩
        rw [L_app] at hd
        rcases List.mem_append.mp hd with hd | hd
        · exact h3 d (by rw [h2]; exact hd)
        · exact hy d hd
      have gc : gS (S [c]) := fun d hd => by rw [List.mem_singleton.mp hd]; exact hx c hcm
      by_cases c1 : c = 39
      · subst c1
        have a1 : (S [39] == S [39]) = true := beq_self_eq_true _
        have a2 : ¬ (S [39] != S [39]) = true := by simp
        rw [if_pos a1, if_neg a2]
        exact .inr ⟨l, _, rfl, by rw [h2], by rw [← h2]; exact h3⟩
      have a1 : ¬ (S [c] == S [39]) = true := by rw [S_eq, beq_iff_eq]; intro z; injection z with z; exact c1 z
      have a2 : (S [c] != S [39]) = true := by rw [bne, Bool.not_eq_true']; exact eq_false_of_ne_true a1
      rw [if_neg a1, if_pos a2]
      have es : mSignAt x ((i : Int) + 1) = S (t.take 1) := by
        rw [sign_S (by omega), show (i : Int) + 1 = (i : Int) + (1 : Nat) from rfl, sfx_add (by omega), hc]; rfl
      have e2 : Txt.slice x (some (i : Int)) (some ((i : Int) + 2)) = S ((c :: t).take 2) := by rw [← hc]; exact slice_sfx x (by omega) 2
      rw [es, e2]
      by_cases c2 : c = 92 ∧ ∃ d t2, t = d :: t2 ∧ (d = 92 ∨ d = 39)
      · obtain ⟨rfl, d, t2, rfl, hd⟩ := c2
        have hc2 : sfx x ((i + 1 : Nat) : Int) = d :: t2 := by
          rw [show ((i + 1 : Nat) : Int) = (i : Int) + (1 : Nat) by omega, sfx_add (by omega), hc]; rfl
        have hit2 : Txt.item x ((i : Int) + 1) = S [d] := item_sfx (by omega) hc2
        have hlt := congrArg List.length hc2
        have b1 : (S [92] == S [92]) = true := beq_self_eq_true _
        have b2 : ([S [92], S [39]].any fun y => y == S (List.take 1 (d :: t2))) = true := by
          show ([S [92], S [39]].any fun y => y == S [d]) = true
          simp only [List.any_cons, List.any_nil, Bool.or_false, Bool.or_eq_true, S_eq, beq_iff_eq, List.cons.injEq, and_true]
          rcases hd with rfl | rfl
          · exact .inl rfl
          · exact .inr rfl
        have b3 : ([S [92, 92], S [92, 39]].any fun y => y == S (List.take 2 (92 :: d :: t2))) = true := by
          show ([S [92, 92], S [92, 39]].any fun y => y == S [92, d]) = true
          simp only [List.any_cons, List.any_nil, Bool.or_false, Bool.or_eq_true, S_eq, beq_iff_eq, List.cons.injEq, and_true, true_and]
          rcases hd with rfl | rfl
          · exact .inl rfl
          · exact .inr rfl
        rw [if_pos b1, if_pos b2, if_pos b3, hit2]
        have gd : gS (S [d]) := fun e he => by rw [List.mem_singleton.mp he]; rcases hd with rfl | rfl <;> decide
        obtain ⟨p1, p2⟩ := push (S [d]) gd
        rw [show (i : Int) + 1 + 1 = ((i + 2 : Nat) : Int) by omega]
        exact ih (i + 2) _ _ (by omega) p1 p2
      · have b3 : ¬ ([S [92, 92], S [92, 39]].any fun y => y == S (List.take 2 (c :: t))) = true := by
          simp only [List.any_cons, List.any_nil, Bool.or_false, Bool.or_eq_true, S_eq, beq_iff_eq]
          intro z
          apply c2
          match t, z with
          | [], z => rcases z with z | z <;> cases z
          | d :: t2, z =>
            rcases z with z | z
            · injection z with z1 z2; injection z2 with z2 _; exact ⟨z1.symm, d, t2, rfl, .inl z2.symm⟩
            · injection z with z1 z2; injection z2 with z2 _; exact ⟨z1.symm, d, t2, rfl, .inr z2.symm⟩
        obtain ⟨p1, p2⟩ := push (S [c]) gc
        have e0 : Txt.item x ((i : Int) + 0) = S [c] := by rw [show (i : Int) + 0 = i by omega]; exact hit
        rw [if_neg b3, e0, show (i : Int) + 0 + 1 = ((i + 1 : Nat) : Int) by omega, show (i : Int) + 1 = ((i + 1 : Nat) : Int) by omega]
        by_cases c3 : c = 92
        · subst c3
          have b1 : (S [92] == S [92]) = true := beq_self_eq_true _
          have b2 : ¬ ([S [92], S [39]].any fun y => y == S (List.take 1 t)) = true := by
            simp only [List.any_cons, List.any_nil, Bool.or_false, Bool.or_eq_true, S_eq, beq_iff_eq]
            intro z
            apply c2
            match t, z with
            | [], z => rcases z with z | z <;> cases z
            | d :: t2, z =>
              rcases z with z | z
              · injection z with z1 _; exact ⟨rfl, d, t2, rfl, .inl z1.symm⟩
              · injection z with z1 _; exact ⟨rfl, d, t2, rfl, .inr z1.symm⟩
          rw [if_pos b1, if_neg b2]
          exact ih (i + 1) _ _ (by omega) p1 p2
        · have b1 : ¬ (S [c] == S [92]) = true := by rw [S_eq, beq_iff_eq]; intro z; injection z with z; exact c3 z
          rw [if_neg b1]
          exact ih (i + 1) _ _ (by omega) p1 p2
    · rw [mSingle_eq, mSing_eq, if_neg hi, if_neg hi]
      exact .inl ⟨rfl, rfl⟩
 k_extra "q"
theorem sing_ok {x : Str} (n : Int) (hx : ∀ c ∈ L x, c < 256) : SingOK x n := by
 k_with "w" =>
  unfold SingOK
  have e0 : (0 : Int) + 1 = ((1 : Nat) : Int) := rfl
  have e1 : (1 : Int) = ((1 : Nat) : Int) := rfl
  have hj : Str.ofString "" = Txt.join (Str.ofString "") [] := by apply L_inj; rw [join_nil]; decide
  rcases sing_run hx x.length 1 [] (Str.ofString "") (by omega) hj (by unfold gS; rw [L_nil]; exact fun _ h => nomatch h) with ⟨a, b⟩ | ⟨l2, j, a, b, g⟩
  · rw [e0, a, show mSing x 1 (Str.ofString "") = none from b]
    exact ⟨rfl, flat_refused (by unfold gS; decide)⟩
  · rw [e0, a, show mSing x 1 (Str.ofString "") = _ from b]
    exact ⟨rfl, .tuple _ ((fmc (.str _ (by decide +kernel)) ((fmc (flat_str g) ((fmc (.int _) (List.forall_mem_nil _)))))))⟩
 k_extra "q"
structure TextOK (x : Str) (n : Int) : Prop where
  len : x.length ≤ 60000
  esc : ∀ j q, 0 ≤ j → j < (x.length : Int) → (Txt.item x j == Str.ofString "\\") = true → q = Str.ofString "\"" ∨ q = Str.ofString "" → dEsc n (mEscape x j q) = dLEsc n (mLEsc x j q) ∧ Flat 2 (dLEsc n (mLEsc x j q))
  p1 : PartsOK (x ++ Str.ofString "\"z\"") n
  p2 : PartsOK (x ++ Str.ofString "") n
  s3 : SingOK (Str.ofString "'" ++ x ++ Str.ofString "'z'") n
  s4 : SingOK (Str.ofString "'" ++ x ++ Str.ofString "") n
theorem text_ok {x : Str} (n : Int) (hx : ∀ c ∈ L x, c < 256) (hg : ∀ l, Gd l → Gd (L x ++ l)) (hl : x.length ≤ 50000) : TextOK x n := by
 k_with "w" =>
  have q1 : L (Str.ofString "\"z\"") = [34, 122, 34] := by decide
  have q2 : L (Str.ofString "'z'") = [39, 122, 39] := by decide
  have q3 : L (Str.ofString "'") = [39] := by decide
  have app : ∀ (a b : Str), (∀ c ∈ L a, c < 256) → (∀ c ∈ L b, c < 256) → ∀ c ∈ L (a ++ b), c < 256 := fun a b ha hb c hc => by
    rw [L_app] at hc
    rcases List.mem_append.mp hc with h | h
    · exact ha c h
    · exact hb c h
  have b1 : ∀ c ∈ L (Str.ofString "\"z\""), c < 256 := by rw [q1]; decide
  have b2 : ∀ c ∈ L (Str.ofString "'z'"), c < 256 := by rw [q2]; decide
  have b3 : ∀ c ∈ L (Str.ofString "'"), c < 256 := by rw [q3]; decide
  have b4 : ∀ c ∈ L (Str.ofString ""), c < 256 := by rw [L_nil]; exact fun _ h => nomatch h
  refine ⟨by omega, fun j q h0 _ _ _ => esc_ok n hx h0 q, parts_ok n (app _ _ hx b1) ?_ ?_, parts_ok n (app _ _ hx b4) ?_ ?_, sing_ok n (app _ _ (app _ _ b3 hx) b2), sing_ok n (app _ _ (app _ _ b3 hx) b4)⟩
  · rw [L_app, q1]; exact (hg _ (gd_char (by decide) (gd_char (by decide) (gd_char (by decide) gd_nil)))).1
  · rw [Str.length_append]; have : (Str.ofString "\"z\"").length = 3 := by decide
    omega
  · rw [L_app, L_nil]; exact (hg _ gd_nil).1
  · rw [Str.length_append]; have : (Str.ofString "").length = 0 := by decide
    omega
 k_extra "q"
noncomputable def hexSigns : List Nat := [48, 49, 50, 51, 52, 53, 54, 55, 56, 57, 97, 66, 99, 68, 101, 70]
theorem hexSigns_ok : ∀ c ∈ hexSigns, c ≠ 36 ∧ c < 256 := by decide
theorem text1_ok (p : Int) (ns : List Int) (n : Int) (hn : ns.length ≤ 20) : TextOK (mText 27 p ns) n :=
  text_ok n (text_256 (by decide) p ns) (fun _ h => text_gd (by decide) p ns h) (Nat.le_trans (text_le 27 p ns) (by omega))
theorem text2_ok (p : Int) (ns : List Int) (n : Int) (hn : ns.length ≤ 20) (md : Str) (hm : ∀ c ∈ L md, c ∈ hexSigns) (hl : md.length ≤ 100) : TextOK (Str.ofString "\\u{" ++ md ++ Str.ofString "}" ++ mText 27 p ns) n := by
 k_with "w" =>
  have q1 : L (Str.ofString "\\u{") = [92, 117, 123] := by decide
  have q2 : L (Str.ofString "}") = [125] := by decide
  have e : L (Str.ofString "\\u{" ++ md ++ Str.ofString "}" ++ mText 27 p ns) = [92, 117, 123] ++ (L md ++ ([125] ++ L (mText 27 p ns))) := by
    rw [L_app, L_app, L_app, q1, q2]; simp
  refine text_ok n ?_ (fun l h => ?_) ?_
  · rw [e]
    intro c hc
    rcases List.mem_append.mp hc with hc | hc
    · exact (by decide : ∀ c ∈ [92, 117, 123], c < 256) c hc
    · rcases List.mem_append.mp hc with hc | hc
      · exact (hexSigns_ok c (hm c hc)).2
      · rcases List.mem_append.mp hc with hc | hc
        · exact (by decide : ∀ c ∈ [125], c < 256) c hc
        · exact text_256 (by decide) p ns c hc
  · rw [e, List.append_assoc, List.append_assoc, List.append_assoc]
    exact gd_app (by decide) (gd_app (fun c hc => (hexSigns_ok c (hm c hc)).1) (gd_app (by decide) (text_gd (by decide) p ns h)))
  · have h1 : (Str.ofString "\\u{").length = 3 := by decide
    have h2 : (Str.ofString "}").length = 1 := by decide
    have h3 := text_le 27 p ns
    rw [Str.length_append, Str.length_append, Str.length_append]; omega
 k_extra "q"
theorem text3_ok (p : Int) (ns : List Int) (n : Int) (hn : ns.length ≤ 20) : TextOK (mText 27 p ns ++ Str.ofString "\\") n := by
 k_with "w" =>
  have q1 : L (Str.ofString "\\") = [92] := by decide
  refine text_ok n ?_ (fun l h => ?_) ?_
  · rw [L_app, q1]
    intro c hc
    rcases List.mem_append.mp hc with hc | hc
    · exact text_256 (by decide) p ns c hc
    · rw [List.mem_singleton.mp hc]; decide
  · rw [L_app, q1, List.append_assoc]
    exact text_gd (by decide) p ns (gd_char (by decide) h)
  · have h1 : (Str.ofString "\\").length = 1 := by decide
    have h3 := text_le 27 p ns
    rw [Str.length_append]; omega
 k_extra "q"
structure HexInv (x : Str) (rest : Int) : Prop where
  sg : ∀ c ∈ L x, c ∈ hexSigns
  h0 : 0 ≤ rest
  h1 : rest * 16 ^ x.length < 1400000
  h2 : x.length ≤ 6
theorem hex_start {p : Int} (h0 : 0 ≤ p) (h1 : p < 1400000) : HexInv (Str.ofString "") p := by
  have e : (Str.ofString "").length = 0 := by decide
  refine ⟨by rw [L_nil]; exact (fun _ h => nomatch h), h0, ?_, by omega⟩
  rw [e]; simpa using h1
theorem hex_item : ∀ k : Nat, k < 16 → ∀ c ∈ L (Txt.item (Str.ofString "0123456789aBcDeF") (k : Int)), c ∈ hexSigns := by decide +kernel
theorem hex_step {md : Str} {rest : Int} (I : HexInv md rest) (h : 0 < rest ∨ md = Str.ofString "") : HexInv (Txt.item (Str.ofString "0123456789aBcDeF") (rest.fmod 16) ++ md) (rest.fdiv 16) := by
 k_with "w" =>
  have z0 := I.h0
  have z1 := Int.fmod_nonneg_of_pos rest (by decide : (0 : Int) < 16)
  have z2 := Int.fmod_lt_of_pos rest (by decide : (0 : Int) < 16)
  have hl : (Txt.item (Str.ofString "0123456789aBcDeF") (rest.fmod 16) ++ md).length = 1 + md.length := by rw [Str.length_append]; rfl
  have hd : rest.fdiv 16 = rest / 16 := Int.fdiv_eq_ediv_of_nonneg _ (by decide)
  have hle : rest / 16 * 16 ≤ rest := by omega
  have hpos : (0 : Int) ≤ 16 ^ md.length := Int.pow_nonneg (by decide)
  refine ⟨fun c hc => ?_, by rw [hd]; omega, ?_, ?_⟩
  · rw [L_app] at hc
    rcases List.mem_append.mp hc with hc | hc
    · rw [show rest.fmod 16 = (((rest.fmod 16).toNat : Nat) : Int) by omega] at hc
      exact hex_item _ (by omega) c hc
    · exact I.sg c hc
  · rw [hl, hd, Nat.add_comm, Int.pow_succ, Int.mul_comm (16 ^ md.length) 16, ← Int.mul_assoc]
    exact Int.lt_of_le_of_lt (Int.mul_le_mul_of_nonneg_right hle hpos) I.h1
  · rw [hl]
    rcases h with h | h
    · refine Nat.le_of_not_lt fun q => ?_
      have h6 : md.length = 6 := by have := I.h2; omega
      have := I.h1
      rw [h6] at this
      omega
    · subst h; decide
 k_extra "q"
end
section
open PySem.Builtin.Str
theorem sfx_nil {x : Str} {i : Int} (h : (x.length : Int) ≤ i) : sfx x i = [] := by
  unfold sfx; exact List.drop_of_length_le (by rw [L_len]; omega)
theorem sfx_len (x : Str) (i : Nat) : (sfx x (i : Int)).length = x.length - i := by
  unfold sfx; rw [List.length_drop, L_len, Int.toNat_natCast]
theorem sfx_at {x : Str} {i : Nat} {u v : List Nat} (e : sfx x (i : Int) = u ++ v) : sfx x ((i + u.length : Nat) : Int) = v := by
  rw [show ((i + u.length : Nat) : Int) = (i : Int) + (u.length : Nat) by omega, sfx_add (by omega), e, List.drop_left]
theorem slice_at {x : Str} {i : Nat} {u v : List Nat} (e : sfx x (i : Int) = u ++ v) : Txt.slice x (some (i : Int)) (some ((i : Int) + u.length)) = S u := by
  rw [slice_sfx x (by omega), e, List.take_left]
theorem scan_L (x : Str) (p : Str → Bool) : ∀ (m i : Nat), x.length - i ≤ m → scan x.length (fun j => p (Txt.item x j)) (i : Int) = ((i + ((sfx x (i : Int)).takeWhile fun c => p (S [c])).length : Nat) : Int)
  | 0, i, h => by
    rw [scan_stop (fun q => by omega), sfx_nil (by omega)]; rfl
  | m + 1, i, h => by
    by_cases hi : i < x.length
    · obtain ⟨c, t, hc, _, _⟩ := sfx_cons hi
      have hit := item_sfx (by omega) hc
      by_cases hp : p (S [c]) = true
      · have ht : sfx x ((i + 1 : Nat) : Int) = t := sfx_at (u := [c]) hc
        rw [scan_step (by omega) (by rw [hit]; exact hp), show (i : Int) + 1 = ((i + 1 : Nat) : Int) from rfl, scan_L x p m (i + 1) (by omega), ht, hc, List.takeWhile_cons, if_pos hp, List.length_cons]; omega
      · rw [scan_stop (fun _ => by rw [hit]; exact Bool.eq_false_iff.mpr hp), hc, List.takeWhile_cons, if_neg hp]; rfl
    · rw [scan_stop (fun q => by omega), sfx_nil (by omega)]; rfl
noncomputable def bl (c : Nat) : Bool := c == 32 || c == 9
noncomputable def nm (c : Nat) : Bool := mSign (S [c])
theorem lit_sp : Str.ofString " " = S [32] := by decide
theorem lit_tb : Str.ofString "\t" = S [9] := by decide
theorem blank_S (c : Nat) : mBlank (S [c]) = bl c := by
  unfold mBlank bl
  rw [lit_sp, lit_tb]
  simp only [List.any_cons, List.any_nil, Bool.or_false, S_eq]
  rw [Bool.eq_iff_iff]
  simp only [Bool.or_eq_true, beq_iff_eq, List.cons.injEq, and_true]
  constructor <;> (intro h; rcases h with h | h) <;> simp [h]
theorem blanks_L (x : Str) (i : Nat) : mBlanks x (i : Int) = ((i + ((sfx x (i : Int)).takeWhile bl).length : Nat) : Int) := by
  have := scan_L x mBlank x.length i (by omega)
  rw [show (fun c => mBlank (S [c])) = bl from funext blank_S] at this
  exact this
theorem name_L (x : Str) (i : Nat) : mReadName x (i : Int) = ((i + ((sfx x (i : Int)).takeWhile nm).length : Nat) : Int) := scan_L x mSign x.length i (by omega)
theorem tw_all {p : Nat → Bool} : ∀ {u : List Nat} {v : List Nat}, (∀ c ∈ u, p c = true) → (∀ c, v.head? = some c → p c = false) → (u ++ v).takeWhile p = u
  | [], [], _, _ => rfl
  | [], c :: v, _, h => by rw [List.nil_append, List.takeWhile_cons, h c rfl]; rfl
  | c :: u, v, hu, h => by
    rw [List.cons_append, List.takeWhile_cons, if_pos (hu c List.mem_cons_self), tw_all (fun d hd => hu d (List.mem_cons_of_mem _ hd)) h]
theorem drop_tw (p : Nat → Bool) : ∀ l : List Nat, l.drop (l.takeWhile p).length = l.dropWhile p
  | [] => rfl
  | c :: l => by
    rw [List.takeWhile_cons, List.dropWhile_cons]
    split
    · rw [List.length_cons, List.drop_succ_cons, drop_tw p l]
    · rfl
theorem dw_all {p : Nat → Bool} : ∀ {u : List Nat} {v : List Nat}, (∀ c ∈ u, p c = true) → (u ++ v).dropWhile p = v.dropWhile p
  | [], v, _ => rfl
  | c :: u, v, hu => by
    rw [List.cons_append, List.dropWhile_cons, if_pos (hu c List.mem_cons_self), dw_all (fun d hd => hu d (List.mem_cons_of_mem _ hd))]
theorem blanks_at {x : Str} {i : Nat} {u v : List Nat} (e : sfx x (i : Int) = u ++ v) (hu : ∀ c ∈ u, bl c = true) (hv : ∀ c, v.head? = some c → bl c = false) : mBlanks x (i : Int) = ((i + u.length : Nat) : Int) := by
  rw [blanks_L, e, tw_all hu hv]
theorem name_at {x : Str} {i : Nat} {u v : List Nat} (e : sfx x (i : Int) = u ++ v) (hu : ∀ c ∈ u, nm c = true) (hv : ∀ c, v.head? = some c → nm c = false) : mReadName x (i : Int) = ((i + u.length : Nat) : Int) := by
  rw [name_L, e, tw_all hu hv]
theorem sign_at' {x : Str} {i : Nat} {l : List Nat} (e : sfx x (i : Int) = l) : mSignAt x (i : Int) = S (l.take 1) := by rw [sign_S (by omega), e]
theorem nl_at {x : Str} {i : Nat} {l : List Nat} (e : sfx x (i : Int) = l) : mNl x (i : Int) = if l.take 2 = [13, 10] then (i : Int) + 2 else if l.take 1 = [10] then (i : Int) + 1 else i := by
 k_with "w" =>
  unfold mNl
  have e1 : Txt.slice x (some (i : Int)) (some ((i : Int) + 2)) = S (l.take 2) := by rw [← e]; exact slice_sfx x (by omega) 2
  have l1 : Str.ofString "\r\n" = S [13, 10] := by decide
  have l2 : Str.ofString "\n" = S [10] := by decide
  rw [e1, sign_at' e, l1, l2]
  have q1 : (S (l.take 2) = S [13, 10]) = (l.take 2 = [13, 10]) := propext ⟨S_inj, fun h => by rw [h]⟩
  have q2 : (S (l.take 1) = S [10]) = (l.take 1 = [10]) := propext ⟨S_inj, fun h => by rw [h]⟩
  simp only [q1, q2]
 k_extra "q"
noncomputable def isNl (l : List Nat) : Prop := l = [10] ∨ l = [13, 10]
theorem nl_is {x : Str} {i : Nat} {u v : List Nat} (hu : isNl u) (e : sfx x (i : Int) = u ++ v) : mNl x (i : Int) = ((i + u.length : Nat) : Int) := by
  rw [nl_at e]
  rcases hu with rfl | rfl
  · rw [if_neg (by cases v <;> simp), if_pos (show List.take 1 ([10] ++ v) = [10] from rfl)]; rfl
  · rw [if_pos (show List.take 2 ([13, 10] ++ v) = [13, 10] from rfl)]; rfl
theorem lit_eot : Str.ofString "EOT" = S [69, 79, 84] := by decide
theorem lit_lt : Str.ofString "<<<" = S [60, 60, 60] := by decide
theorem nm_eot : ∀ c ∈ [69, 79, 84], nm c = true := by decide
theorem mark_S (l : List Nat) : mMark (S l) = (l == [39] || l == [34]) := by
  unfold mMark
  rw [show Str.ofString "'" = S [39] by decide, show Str.ofString "\"" = S [34] by decide]
  simp only [List.any_cons, List.any_nil, Bool.or_false, S_eq]
  rw [Bool.eq_iff_iff]
  simp only [Bool.or_eq_true, beq_iff_eq]
  constructor <;> (intro h; rcases h with h | h) <;> simp [h]
theorem head_pre {x : Str} {i : Nat} {l : List Nat} (e : sfx x (i : Int) = [60, 60, 60] ++ l) : ¬ (Txt.slice x (some (i : Int)) (some ((i : Int) + 3)) != Str.ofString "<<<") = true := by
  rw [lit_lt, show (i : Int) + 3 = (i : Int) + (([60, 60, 60] : List Nat).length : Int) from rfl, slice_at e]; simp
theorem head_plain {x : Str} {i : Nat} {bs n r : List Nat} (hb : ∀ c ∈ bs, bl c = true) (hn : isNl n) (e : sfx x (i : Int) = [60, 60, 60] ++ (bs ++ ([69, 79, 84] ++ (n ++ r)))) :
    mHead x (i : Int) = some (Str.ofString "EOT", false, ((i + 3 + bs.length + 3 + n.length : Nat) : Int)) := by
 k_with "w" =>
  revert x i bs n r hb hn e
  (k_extra "n5"); generalize p5_1 T9 = x, p5_2 T9 = i, p5_3 T9 = bs, p5_4 T9 = n, p5_5 T9 = r; clear T9
  intro hb hn e
  have e1 : sfx x ((i + 3 : Nat) : Int) = bs ++ ([69, 79, 84] ++ (n ++ r)) := sfx_at e
  have e2 : sfx x ((i + 3 + bs.length : Nat) : Int) = [69, 79, 84] ++ (n ++ r) := sfx_at e1
  have e3 : sfx x ((i + 3 + bs.length + 3 : Nat) : Int) = n ++ r := sfx_at e2
  have b1 : mBlanks x ((i : Int) + 3) = ((i + 3 + bs.length : Nat) : Int) := blanks_at e1 hb (fun c h => by cases h; decide)
  have n1 : mReadName x ((i + 3 + bs.length : Nat) : Int) = ((i + 3 + bs.length + 3 : Nat) : Int) := name_at e2 nm_eot (fun c h => by rcases hn with rfl | rfl <;> (cases h; decide))
  have s1 : mSignAt x ((i + 3 + bs.length : Nat) : Int) = S [69] := sign_at' e2
  have nl1 := nl_is hn e3
  have sl := slice_at e2
  rw [show (((i + 3 + bs.length : Nat) : Int) + (([69, 79, 84] : List Nat).length : Int)) = ((i + 3 + bs.length + 3 : Nat) : Int) from rfl] at sl
  have hln : 0 < n.length := by rcases hn with rfl | rfl <;> decide
  unfold mHead
  rw [if_neg (head_pre e), b1, s1, mark_S, if_neg (by decide), n1]
  unfold mHeadFin
  rw [s1, if_pos (by decide), nl1, if_neg (by omega), sl, lit_eot]
  rfl
 k_extra "q"
theorem head_marked {x : Str} {i m : Nat} {n r : List Nat} (hm : m = 39 ∨ m = 34) (hn : isNl n) (e : sfx x (i : Int) = [60, 60, 60] ++ ([m] ++ ([69, 79, 84] ++ ([m] ++ (n ++ r))))) :
    mHead x (i : Int) = some (Str.ofString "EOT", m == 39, ((i + 8 + n.length : Nat) : Int)) := by
 k_with "w" =>
  revert x i m n r hm hn e
  (k_extra "n5"); generalize p5_1 T9 = x, p5_2 T9 = i, p5_3 T9 = m, p5_4 T9 = n, p5_5 T9 = r; clear T9
  intro hm hn e
  have e1 : sfx x ((i + 3 : Nat) : Int) = [] ++ ([m] ++ ([69, 79, 84] ++ ([m] ++ (n ++ r)))) := sfx_at e
  have e2 : sfx x ((i + 4 : Nat) : Int) = [69, 79, 84] ++ ([m] ++ (n ++ r)) := sfx_at (u := [m]) e1
  have e3 : sfx x ((i + 7 : Nat) : Int) = [m] ++ (n ++ r) := sfx_at e2
  have e4 : sfx x ((i + 8 : Nat) : Int) = n ++ r := sfx_at (u := [m]) e3
  have b1 : mBlanks x ((i : Int) + 3) = ((i + 3 : Nat) : Int) := blanks_at e1 (fun _ h => nomatch h) (fun c h => by cases h; rcases hm with rfl | rfl <;> decide)
  have n1 : mReadName x ((i + 4 : Nat) : Int) = ((i + 7 : Nat) : Int) := name_at e2 nm_eot (fun c h => by cases h; rcases hm with rfl | rfl <;> decide)
  have s0 : mSignAt x ((i + 3 : Nat) : Int) = S [m] := sign_at' e1
  have s1 : mSignAt x ((i + 4 : Nat) : Int) = S [69] := sign_at' e2
  have s2 : mSignAt x ((i + 7 : Nat) : Int) = S [m] := sign_at' e3
  have nl1 := nl_is hn e4
  have sl := slice_at e2
  rw [show (((i + 4 : Nat) : Int) + (([69, 79, 84] : List Nat).length : Int)) = ((i + 7 : Nat) : Int) from rfl] at sl
  have hln : 0 < n.length := by rcases hn with rfl | rfl <;> decide
  unfold mHead
  rw [if_neg (head_pre e), b1, s0, mark_S, if_pos (by rcases hm with rfl | rfl <;> decide), show ((i + 3 : Nat) : Int) + 1 = ((i + 4 : Nat) : Int) from rfl, n1, s2, if_neg (by simp)]
  unfold mHeadFin
  rw [s1, if_pos (by decide), show ((i + 7 : Nat) : Int) + 1 = ((i + 8 : Nat) : Int) from rfl, nl1, if_neg (by omega), sl, lit_eot]
  rcases hm with rfl | rfl <;> rfl
 k_extra "q"
theorem head_four {k : Nat} (hk : k < 4) {h : Str} {b : Bool} {j : Int} (e : mHeads[k]? = some (h, some (Str.ofString "EOT", b, j))) :
    j = h.length ∧ h.length ≤ 12 ∧ (∀ c ∈ L h, c < 256 ∧ c ≠ 36) ∧ ∀ {x : Str} {i : Nat} {r : List Nat}, sfx x (i : Int) = L h ++ r → mHead x (i : Int) = some (Str.ofString "EOT", b, (i : Int) + h.length) := by
 k_with "w" =>
  match k, hk, e with
  | 0, _, e =>
    cases e
    refine ⟨by decide, by decide, by decide, fun {x i r} e => ?_⟩
    have := head_plain (bs := []) (n := [10]) (fun _ h => nomatch h) (.inl rfl) (e.trans (by rfl))
    exact this
  | 1, _, e =>
    cases e
    refine ⟨by decide, by decide, by decide, fun {x i r} e => ?_⟩
    have := head_plain (bs := [32, 9]) (n := [10]) (by decide) (.inl rfl) (e.trans (by rfl))
    exact this
  | 2, _, e =>
    cases e
    refine ⟨by decide, by decide, by decide, fun {x i r} e => ?_⟩
    have := head_marked (m := 34) (n := [13, 10]) (.inr rfl) (.inr rfl) (e.trans (by rfl))
    exact this
  | 3, _, e =>
    cases e
    refine ⟨by decide, by decide, by decide, fun {x i r} e => ?_⟩
    have := head_marked (m := 39) (n := [10]) (.inl rfl) (.inl rfl) (e.trans (by rfl))
    exact this
 k_extra "q"
theorem find_at {x : Str} {p c : Nat} {u v : List Nat} (e : sfx x (p : Int) = u ++ c :: v) (hu : c ∉ u) : Txt.find3 x ⟨#[c]⟩ (p : Int) = ((p + u.length : Nat) : Int) := by
 k_with "w" =>
  have hat : ∀ k, (L x)[p + k]? = (u ++ c :: v)[k]? := by
    intro k; rw [← e]; unfold sfx; rw [List.getElem?_drop, Int.toNat_natCast]
  rcases find3_one x c (i := (p : Int)) (by omega) with ⟨e1, hn⟩ | ⟨k, e1, h1, h2, h3⟩
  · exfalso
    refine hn (p + u.length) (by omega) ?_
    rw [hat]; simp
  · rw [e1]
    rw [Int.toNat_natCast] at h1 h3
    have hle : ¬ p + u.length < k := fun q => h3 (p + u.length) (by omega) q (by rw [hat]; simp)
    have hge : ¬ k < p + u.length := fun q => by
      have := hat (k - p)
      rw [show p + (k - p) = k by omega, h2, List.getElem?_append_left (by omega)] at this
      exact hu (List.mem_of_getElem? this.symm)
    omega
 k_extra "q"
theorem find_no {x : Str} {p c : Nat} (hu : c ∉ sfx x (p : Int)) : Txt.find3 x ⟨#[c]⟩ (p : Int) = -1 := by
  rcases find3_one x c (i := (p : Int)) (by omega) with ⟨e1, hn⟩ | ⟨k, e1, h1, h2, h3⟩
  · exact e1
  · exfalso
    apply hu
    rw [Int.toNat_natCast] at h1
    refine List.mem_of_getElem? (i := k - p) ?_
    unfold sfx
    rw [List.getElem?_drop, Int.toNat_natCast, show p + (k - p) = k by omega]; exact h2
noncomputable def EndFine (l : List Nat) : Prop := (l.dropWhile bl).take 3 = [69, 79, 84] → mSign (S (((l.dropWhile bl).drop 3).take 1)) = true
theorem eot_len3 : (Str.ofString "EOT").length = 3 := by decide
theorem end_test {x : Str} {r : Nat} (hr : r ≤ x.length) : ((Txt.slice x (some (mBlanks x (r : Int))) (some (mBlanks x (r : Int) + (Str.ofString "EOT").length)) == Str.ofString "EOT") = true ∧ mSign (mSignAt x (mBlanks x (r : Int) + (Str.ofString "EOT").length)) = false) = ¬ EndFine (sfx x (r : Int)) := by
 k_with "w" =>
  have hs : sfx x ((r + ((sfx x (r : Int)).takeWhile bl).length : Nat) : Int) = (sfx x (r : Int)).dropWhile bl := by
    rw [show ((r + ((sfx x (r : Int)).takeWhile bl).length : Nat) : Int) = (r : Int) + (((sfx x (r : Int)).takeWhile bl).length : Nat) by omega, sfx_add (by omega), drop_tw]
  rw [blanks_L, eot_len3, slice_sfx x (by omega), sign_S (by omega), sfx_add (by omega), hs, lit_eot, S_eq, beq_iff_eq]
  unfold EndFine
  apply propext
  constructor
  · rintro ⟨h1, h2⟩ h3
    rw [h3 h1] at h2; cases h2
  · intro h
    by_cases h1 : ((sfx x (r : Int)).dropWhile bl).take 3 = [69, 79, 84]
    · exact ⟨h1, Bool.eq_false_iff.mpr fun q => h fun _ => q⟩
    · exact absurd (fun q => absurd q h1) h
 k_extra "q"
theorem end_skip {x : Str} {i : Int} {r k : Nat} {u v : List Nat} (hs : sfx x (r : Int) = u ++ 10 :: v) (hu : 10 ∉ u) (hf : EndFine (u ++ 10 :: v)) :
    mEnd x (Str.ofString "EOT") i (k + 1) (r : Int) = mEnd x (Str.ofString "EOT") i k ((r + u.length + 1 : Nat) : Int) := by
  have hl := congrArg List.length hs
  rw [sfx_len, List.length_append, List.length_cons] at hl
  rw [mEnd, if_pos (by omega), if_neg (by rw [end_test (by omega), hs]; exact not_not_intro hf), lit_nl, find_at hs hu, if_pos (by omega)]; rfl
theorem end_none {x : Str} {i : Int} {r k : Nat} (hr : r ≤ x.length) (hu : 10 ∉ sfx x (r : Int)) (hf : EndFine (sfx x (r : Int))) :
    mEnd x (Str.ofString "EOT") i (k + 2) (r : Int) = some (.error whyE) := by
  rw [mEnd, if_pos (by omega), if_neg (by rw [end_test hr]; exact not_not_intro hf), lit_nl, find_no hu, if_neg (by decide), mEnd, if_neg (by omega)]
theorem end_here {x : Str} {i : Int} {r k : Nat} {d : Str} {t : List Nat} (hs : sfx x (r : Int) = L d ++ ([69, 79, 84] ++ t)) (hd : ∀ c ∈ L d, bl c = true) (ht : mSign (S (t.take 1)) = false)
    (hocc : ¬ ((occurrences d (Str.ofString " ") 0 d.length 1).isEmpty = false ∧ (occurrences d (Str.ofString "\t") 0 d.length 1).isEmpty = false)) :
    mEnd x (Str.ofString "EOT") i (k + 1) (r : Int) = some (.ok (if (r : Int) = i then i else mEndAt x i r, d, ((r + d.length + 3 : Nat) : Int))) := by
 k_with "w" =>
  revert x i r k d t hs hd ht hocc
  (k_extra "n6"); generalize p6_1 T9 = x, p6_2 T9 = i, p6_3 T9 = r, p6_4 T9 = k, p6_5 T9 = d, p6_6 T9 = t; clear T9
  intro hs hd ht hocc
  have hl := congrArg List.length hs
  rw [sfx_len, List.length_append, List.length_append, L_len, List.length_cons, List.length_cons, List.length_cons] at hl
  have hb := blanks_at hs hd (fun c h => by cases h; decide)
  have hsl := slice_at hs
  rw [L_len] at hb
  rw [L_len, S_L, show (r : Int) + (d.length : Int) = ((r + d.length : Nat) : Int) by omega] at hsl
  have hn : ¬ EndFine (sfx x (r : Int)) := by
    unfold EndFine
    rw [hs, dw_all hd]
    intro q
    have := q rfl
    rw [show (List.drop 3 (List.dropWhile bl ([69, 79, 84] ++ t))) = t from rfl, ht] at this
    cases this
  rw [mEnd, if_pos (by omega), if_pos (by rw [end_test (by omega)]; exact hn), hb, hsl, if_neg hocc, eot_len3]
  split <;> rfl
 k_extra "q"
end
section
open PySem.Builtin.Str
noncomputable def rowsL (rs : List (Str × Str × Str)) : List Nat := (rs.map fun q => L q.2.1 ++ [10]).flatten
noncomputable def rowsT (rs : List (Str × Str × Str)) : List Nat := (rs.map fun q => L q.1 ++ [10]).flatten
theorem rowsL_cons (q : Str × Str × Str) (rs : List (Str × Str × Str)) : rowsL (q :: rs) = L q.2.1 ++ 10 :: rowsL rs := by unfold rowsL; simp
theorem rowsT_cons (q : Str × Str × Str) (rs : List (Str × Str × Str)) : rowsT (q :: rs) = L q.1 ++ 10 :: rowsT rs := by unfold rowsT; simp
theorem hereB_L : ∀ rs : List (Str × Str × Str), L (hereB rs) ++ (if rs.isEmpty = true then [] else [10]) = rowsL rs
  | [] => by unfold hereB; rw [List.map_nil, join_nil]; rfl
  | [r] => by
    unfold hereB
    rw [List.map_cons, List.map_nil, join_one, rowsL_cons]; rfl
  | r :: r2 :: rs => by
    have ih := hereB_L (r2 :: rs)
    have e : hereB (r :: r2 :: rs) = r.2.1 ++ Str.ofString "\n" ++ hereB (r2 :: rs) := join_cons _ _ _ _
    rw [e, L_app, L_app, rowsL_cons, ← ih, lit_nl]
    simp [L]
theorem hereT_L (x d : Str) (rs : List (Str × Str × Str)) : L (hereT x d rs) = L x ++ (rowsL rs ++ (L d ++ [69, 79, 84])) := by
  unfold hereT
  have e : L (if rs.isEmpty = true then Str.ofString "" else Str.ofString "\n") = (if rs.isEmpty = true then [] else [10]) := by
    split
    · exact L_nil
    · rw [lit_nl]; rfl
  rw [L_app, L_app, L_app, L_app, e, lit_eot, L_S, ← hereB_L]
  simp
theorem hereB_len (rs : List (Str × Str × Str)) (h : rs ≠ []) : (hereB rs).length + 1 = (rowsL rs).length := by
  have := congrArg List.length (hereB_L rs)
  rw [List.length_append, L_len, if_neg (by simpa using h)] at this
  exact this
theorem hereB_nil : (hereB []).length = 0 := by
  rw [← L_len]
  unfold hereB
  rw [List.map_nil, join_nil]; rfl
structure RowAt (d : Str) (c0 : Nat) (q : Str × Str × Str) (s : List Nat) : Prop where
  w : L q.2.1 = s ++ L q.1
  bl : ∀ c ∈ s, c = 32 ∨ c = 9
  le : s.length ≤ d.length
  ch : ∀ c ∈ L q.1, c < 256 ∧ c ≠ 10 ∧ c ≠ 13 ∧ c ≠ 9
  gd : ∀ l, Gd l → Gd (L q.1 ++ l)
  ends : (∀ c ∈ L q.1, c ≠ 69) ∨ ∃ t, L q.1 = [69, 79, 84, 122] ++ t
  way : (q.2.2 = Str.ofString "" ∧ (∀ c ∈ s, c = c0) ∧ (s.length = d.length ∨ L q.1 = [])) ∨ (q.2.2 = whyL d ∧ (∀ c ∈ s, c = c0) ∧ s.length + 1 = d.length ∧ ∃ c t, L q.1 = c :: t ∧ c ≠ 32) ∨ (q.2.2 = whyM ∧ ∃ o s', s = o :: s' ∧ o ≠ c0 ∧ s.length = d.length ∧ L q.1 ≠ [])
noncomputable def dOK (d : Str) (c0 : Nat) : Prop := L d = List.replicate d.length c0 ∧ (c0 = 32 ∨ c0 = 9)
theorem dOK_mem {d : Str} {c0 : Nat} (h : dOK d c0) : ∀ c ∈ L d, c = c0 := fun c hc => by rw [h.1] at hc; exact List.eq_of_mem_replicate hc
theorem whyL_ne (d : Str) : (whyL d != Str.ofString "") = true := by
  rw [ne_L]
  intro h
  have := congrArg List.length h
  unfold whyL at this
  rw [L_app, List.length_append, L_len, L_len, show (Str.ofString ")").length = 1 by decide, List.length_nil] at this
  omega
theorem whyM_ne : (whyM != Str.ofString "") = true := by decide
theorem nil_of {y : Str} (h : (y == Str.ofString "") = true) : L y = [] := by rw [beq_iff_eq] at h; rw [h, L_nil]
theorem ne_of {y : Str} (h : ¬ (y == Str.ofString "") = true) : L y ≠ [] := fun q => h (by rw [beq_iff_eq]; apply L_inj; rw [q, L_nil])
theorem cons_of {l : List Nat} (h : l ≠ []) : ∃ c t, l = c :: t := by
  cases l with
  | nil => exact absurd rfl h
  | cons c t => exact ⟨c, t, rfl⟩
theorem item0 {y : Str} {c : Nat} {t : List Nat} (h : L y = c :: t) : Txt.item y 0 = S [c] := item_sfx (i := 0) (by decide) (by unfold sfx; exact h)
theorem rowAt_of {d : Str} {c0 : Nat} (hd : dOK d c0) {y : Str} {q : Int} (h0 : 0 ≤ q) (ch : ∀ c ∈ L y, c < 256 ∧ c ≠ 10 ∧ c ≠ 13 ∧ c ≠ 9) (gd : ∀ l, Gd l → Gd (L y ++ l)) (ends : (∀ c ∈ L y, c ≠ 69) ∨ ∃ t, L y = [69, 79, 84, 122] ++ t) :
    ∃ s, RowAt d c0 (mRowOf d y q) s := by
 k_with "w" =>
  revert d c0 hd y q h0 ch gd ends
  (k_extra "n2"); generalize p2_1 T9 = d, p2_2 T9 = c0; clear T9
  intro hd
  (k_extra "n2"); generalize p2_1 T9 = y, p2_2 T9 = q; clear T9
  intro h0 ch gd ends
  have hb : ∀ c ∈ L d, c = 32 ∨ c = 9 := fun c hc => by rw [dOK_mem hd c hc]; exact hd.2
  by_cases h1 : (y == Str.ofString "") = true
  · rw [rowOf1 h1]
    refine ⟨(L d).take q.toNat, ?_, fun c hc => hb c (List.mem_of_mem_take hc), ?_, ch, gd, ends, .inl ⟨rfl, fun c hc => dOK_mem hd c (List.mem_of_mem_take hc), .inr (nil_of h1)⟩⟩
    · dsimp only; rw [slice_ns d h0, nil_of h1, List.append_nil]
    · rw [List.length_take, L_len]; omega
  have hy := ne_of h1
  have dn : (d != Str.ofString "") = true → ∃ t, L d = c0 :: t ∧ t.length + 1 = d.length := fun z => by
    have hne := (ne_L d).mp z
    obtain ⟨c, t, e⟩ := cons_of hne
    have := dOK_mem hd c (by rw [e]; exact List.mem_cons_self)
    subst this
    exact ⟨t, e, by rw [← L_len, e, List.length_cons]⟩
  have dr : L (Txt.slice d (some 1) none) = (L d).drop 1 := slice_sn d (by decide)
  by_cases h2 : q = 7 ∧ (d != Str.ofString "") = true ∧ (Txt.item y 0 != Str.ofString " ") = true
  · rw [rowOf2 h1 h2]
    obtain ⟨t, ht, hl⟩ := dn h2.2.1
    obtain ⟨c, ty, hc⟩ := cons_of hy
    refine ⟨t, ?_, fun c hc => hb c (by rw [ht]; exact List.mem_cons_of_mem _ hc), by omega, ch, gd, ends, .inr (.inl ⟨rfl, fun c hc => dOK_mem hd c (by rw [ht]; exact List.mem_cons_of_mem _ hc), hl, c, ty, hc, ?_⟩)⟩
    · dsimp only; rw [L_app, dr, ht]; rfl
    · intro q
      have := h2.2.2
      rw [item0 hc, q, lit_sp] at this
      simp at this
  by_cases h3 : q = 8 ∧ (d != Str.ofString "") = true
  · rw [rowOf3 h1 h2 h3 rfl]
    obtain ⟨t, ht, hl⟩ := dn h3.2
    have hi : (Txt.item d 0 == Str.ofString " ") = (c0 == 32) := by
      rw [item0 ht, lit_sp, S_eq, Bool.eq_iff_iff]; simp
    rw [hi]
    have ht' : L (Txt.slice d (some 1) none) = t := by rw [dr, ht]; rfl
    refine ⟨(if c0 = 32 then 9 else 32) :: t, ?_, (fmc (by split <;> simp) (fun c hc => hb c (by rw [ht]; exact List.mem_cons_of_mem _ hc))), by rw [List.length_cons]; omega, ch, gd, ends, .inr (.inr ⟨rfl, _, t, rfl, ?_, by rw [List.length_cons]; omega, hy⟩)⟩
    · dsimp only
      rw [L_app, L_app, ht']
      by_cases z : c0 = 32
      · rw [if_pos z, if_pos (by simpa using z), lit_tb]; rfl
      · rw [if_neg z, if_neg (by simpa using z), lit_sp]; rfl
    · split <;> omega
  · rw [rowOf4 h1 h2 h3]
    exact ⟨L d, by dsimp only; rw [L_app], hb, by rw [L_len]; omega, ch, gd, ends, .inl ⟨rfl, dOK_mem hd, .inl (L_len d)⟩⟩
 k_extra "q"
theorem units_9 : ∀ u ∈ mUnits, (L u).all (fun c => c != 9) = true := by decide +kernel
theorem text_9 {many : Int} (hm : 0 < many) (p : Int) (ns : List Int) : ∀ c ∈ L (mText many p ns), c ≠ 9 := by
  intro c hc
  rw [text_L] at hc
  obtain ⟨l, hl, hc⟩ := List.mem_flatten.mp hc
  obtain ⟨u, hu, rfl⟩ := List.mem_map.mp hl
  rcases draws_mem many hm ns p u hu with h | rfl
  · have := List.all_eq_true.mp (units_9 u (List.mem_of_mem_take h)) c hc
    simpa using this
  · rw [L_nil] at hc; cases hc
theorem lit_eotz : L (Str.ofString "EOTz") = [69, 79, 84, 122] := by decide
theorem mRow_at {d : Str} {c0 : Nat} (hd : dOK d c0) (p : Int) (ns : List Int) : ∃ s, RowAt d c0 (mRow p ns d) s := by
 k_with "w" =>
  have hq : 0 ≤ mRowSort p ns := Int.fmod_nonneg_of_pos _ (by decide)
  have c1 : ∀ c ∈ L (mText 25 p ns), c < 256 ∧ c ≠ 10 ∧ c ≠ 13 ∧ c ≠ 9 := fun c hc => ⟨text_256 (by decide) p ns c hc, (text_25 p ns c hc).1, (text_25 p ns c hc).2.1, text_9 (by decide) p ns c hc⟩
  unfold mRow rowTx
  split
  · refine rowAt_of hd hq ?_ ?_ (.inr ⟨L (mText 25 p ns), by rw [L_app, lit_eotz]⟩)
    · intro c hc
      rw [L_app, lit_eotz] at hc
      rcases List.mem_append.mp hc with hc | hc
      · exact (by decide : ∀ c ∈ [69, 79, 84, 122], c < 256 ∧ c ≠ 10 ∧ c ≠ 13 ∧ c ≠ 9) c hc
      · exact c1 c hc
    · intro l h
      rw [L_app, lit_eotz, List.append_assoc]
      exact gd_app (by decide) (text_gd (by decide) p ns h)
  · exact rowAt_of hd hq c1 (fun l h => text_gd (by decide) p ns h) (.inl fun c hc => (text_25 p ns c hc).2.2)
 k_extra "q"
theorem mRowL_at {d : Str} {c0 : Nat} (hd : dOK d c0) : ∀ (l : List (List Int)) (p : Int), ∀ q ∈ mRowL d p l, ∃ s, RowAt d c0 q s
  | [], _, q, hq => by cases hq
  | ns :: r, p, q, hq => by
    rw [mRowL] at hq
    rcases List.mem_cons.mp hq with rfl | hq
    · exact mRow_at hd p ns
    · exact mRowL_at hd r _ q hq
theorem ind_dOK {d : Str} : ∀ {k : Nat}, indents[k]? = some d → ∃ c0, dOK d c0 ∧ ¬ ((occurrences d (Str.ofString " ") 0 d.length 1).isEmpty = false ∧ (occurrences d (Str.ofString "\t") 0 d.length 1).isEmpty = false)
  | 0, h => by cases h; exact ⟨32, ⟨by decide, .inl rfl⟩, by decide +kernel⟩
  | 1, h => by cases h; exact ⟨32, ⟨by decide, .inl rfl⟩, by decide +kernel⟩
  | 2, h => by cases h; exact ⟨9, ⟨by decide, .inr rfl⟩, by decide +kernel⟩
  | 3, h => by cases h; exact ⟨32, ⟨by decide, .inl rfl⟩, by decide +kernel⟩
  | k + 4, h => by cases h
section
variable {d : Str} {c0 : Nat} {q : Str × Str × Str} {s : List Nat} (R : RowAt d c0 q s)
include R
theorem RowAt.no10 : 10 ∉ L q.2.1 := by
  rw [R.w]
  intro h
  rcases List.mem_append.mp h with h | h
  · rcases R.bl _ h with h | h <;> cases h
  · exact (R.ch _ h).2.1 rfl
theorem RowAt.no13 : 13 ∉ L q.2.1 := by
  rw [R.w]
  intro h
  rcases List.mem_append.mp h with h | h
  · rcases R.bl _ h with h | h <;> cases h
  · exact (R.ch _ h).2.2.1 rfl
theorem RowAt.sbl : ∀ c ∈ s, Mine.bl c = true := fun c hc => by rcases R.bl c hc with rfl | rfl <;> rfl
theorem RowAt.fine (v : List Nat) : EndFine (L q.2.1 ++ 10 :: v) := by
 k_with "w" =>
  unfold EndFine
  rw [R.w, List.append_assoc, dw_all R.sbl]
  rcases R.ends with h | ⟨t, h⟩
  · intro e
    exfalso
    have key : ∀ (l : List Nat), (∀ c ∈ l, c ≠ 69) → ((l ++ 10 :: v).dropWhile Mine.bl).take 3 ≠ [69, 79, 84] := by
      intro l
      induction l with
      | nil => intro _; simp [List.dropWhile_cons, Mine.bl]
      | cons c l ih =>
        intro hl
        rw [List.cons_append, List.dropWhile_cons]
        split
        · exact ih fun d hd => hl d (List.mem_cons_of_mem _ hd)
        · intro z; injection z with z _; exact hl c List.mem_cons_self z
    exact key _ h e
  · rw [h]
    intro _
    rfl
 k_extra "q"
theorem RowAt.wgd (l : List Nat) (h : Gd l) : Gd (L q.2.1 ++ l) := by
  rw [R.w, List.append_assoc]
  exact gd_app (fun c hc => by rcases R.bl c hc with rfl | rfl <;> decide) (R.gd l h)
theorem RowAt.w256 : ∀ c ∈ L q.2.1, c < 256 := fun c hc => by
  rw [R.w] at hc
  rcases List.mem_append.mp hc with hc | hc
  · rcases R.bl c hc with rfl | rfl <;> decide
  · exact (R.ch c hc).1
end
theorem rowsL_256 {d : Str} {c0 : Nat} : ∀ (rs : List (Str × Str × Str)), (∀ q ∈ rs, ∃ s, RowAt d c0 q s) → (∀ c ∈ rowsL rs, c < 256 ∧ c ≠ 13) ∧ ∀ l, Gd l → Gd (rowsL rs ++ l)
  | [], _ => ⟨(fun _ h => nomatch h), fun _ h => h⟩
  | q :: rs, h => by
    obtain ⟨s, R⟩ := h q List.mem_cons_self
    obtain ⟨i1, i2⟩ := rowsL_256 rs fun p hp => h p (List.mem_cons_of_mem _ hp)
    rw [rowsL_cons]
    refine ⟨fun c hc => ?_, fun l hl => ?_⟩
    · rcases List.mem_append.mp hc with hc | hc
      · exact ⟨R.w256 c hc, fun z => R.no13 (by rw [← z]; exact hc)⟩
      · rcases List.mem_cons.mp hc with rfl | hc
        · decide
        · exact i1 c hc
    · rw [List.append_assoc]
      exact R.wgd _ (gd_char (by decide) (i2 l hl))
theorem end_rows {d : Str} {c0 : Nat} {x : Str} {i : Int} {v : List Nat} : ∀ (rs : List (Str × Str × Str)) (r k : Nat), (∀ q ∈ rs, ∃ s, RowAt d c0 q s) → sfx x (r : Int) = rowsL rs ++ v →
    mEnd x (Str.ofString "EOT") i (k + rs.length) (r : Int) = mEnd x (Str.ofString "EOT") i k ((r + (rowsL rs).length : Nat) : Int)
  | [], r, k, _, _ => rfl
  | q :: rs, r, k, h, e => by
    obtain ⟨s, R⟩ := h q List.mem_cons_self
    rw [rowsL_cons, List.append_assoc, List.cons_append] at e
    have e2 : sfx x ((r + (L q.2.1).length + 1 : Nat) : Int) = rowsL rs ++ v := by
      rw [← List.singleton_append, ← List.append_assoc] at e
      have := sfx_at e
      rw [List.length_append, List.length_singleton] at this
      exact this
    rw [List.length_cons, show k + (rs.length + 1) = (k + rs.length) + 1 by omega, end_skip e R.no10 (R.fine _), end_rows rs _ k (fun p hp => h p (List.mem_cons_of_mem _ hp)) e2, rowsL_cons, List.length_append, List.length_cons]
    congr 2; omega
theorem pass_stop {x d : Str} {st i : Int} (k : Nat) (h : st ≤ i) : mPass x d st k i = .ok i := by
  cases k with
  | zero => rfl
  | succ k => rw [mPass, if_pos (.inl h)]
theorem pass_nl {x d : Str} {st : Int} {i : Nat} {t : List Nat} (k : Nat) (e : sfx x (i : Int) = 10 :: t) : mPass x d st k (i : Int) = .ok (i : Int) := by
  cases k with
  | zero => rfl
  | succ k => rw [mPass, if_pos (.inr (by rw [nl_is (u := [10]) (.inl rfl) e]; show (i : Int) < ((i + 1 : Nat) : Int); omega))]
theorem pass_sign {x d : Str} {st : Int} {i c : Nat} {t : List Nat} (k : Nat) (e : sfx x (i : Int) = c :: t) (h1 : c ≠ 10) (h2 : c ≠ 13) (hi : (i : Int) < st) :
    mPass x d st (k + 1) (i : Int) = if bl c = false then .error (whyL d) else if (S [c] != Txt.item d 0) = true then .error whyM else mPass x d st k ((i + 1 : Nat) : Int) := by
  have hn : mNl x (i : Int) = i := by
    rw [nl_at e, if_neg (by intro z; injection z with z _; exact h2 z), if_neg (by intro z; injection z with z _; exact h1 z)]
  have hit := item_sfx (by omega) e
  have hb : ([Str.ofString " ", Str.ofString "\t"].any fun y => y == Txt.item x (i : Int)) = bl c := by rw [hit]; exact blank_S c
  rw [mPass, if_neg (by rw [hn]; omega), hb, hit]; rfl
theorem pass_run {x d : Str} {c0 : Nat} {st : Int} (hd : dOK d c0) : ∀ (u : List Nat) (i k : Nat) (v : List Nat), sfx x (i : Int) = u ++ v → (∀ c ∈ u, c = c0) → (i : Int) + u.length ≤ st → (u ≠ [] → 0 < d.length) →
    mPass x d st (k + u.length) (i : Int) = mPass x d st k ((i + u.length : Nat) : Int)
  | [], i, k, v, _, _, _, _ => rfl
  | c :: u, i, k, v, e, hu, hi, hn => by
    have hc := hu c List.mem_cons_self
    subst hc
    have hb : bl c = true := by rcases hd.2 with h | h <;> rw [h] <;> rfl
    have hl := hn (by simp)
    have hd0 : Txt.item d 0 = S [c] := by
      obtain ⟨n, hn⟩ : ∃ n, d.length = n + 1 := ⟨d.length - 1, by omega⟩
      exact item0 (t := List.replicate n c) (by rw [hd.1, hn]; rfl)
    rw [List.length_cons] at hi
    rw [List.length_cons, show k + (u.length + 1) = (k + u.length) + 1 by omega, pass_sign _ (show sfx x (i : Int) = c :: (u ++ v) from e) (by rcases hd.2 with h | h <;> rw [h] <;> decide) (by rcases hd.2 with h | h <;> rw [h] <;> decide) (by omega), hb, if_neg (by decide), hd0, if_neg (by simp),
      pass_run hd u (i + 1) k v (sfx_at (u := [c]) e) (fun d hd => hu d (List.mem_cons_of_mem _ hd)) (by omega) (fun _ => hl)]
    congr 2; omega
theorem pass_row {x d : Str} {c0 : Nat} {st : Int} {q : Str × Str × Str} {s v : List Nat} {i : Nat} (hd : dOK d c0) (R : RowAt d c0 q s) (e : sfx x (i : Int) = L q.2.1 ++ 10 :: v) (hst : (i : Int) + (L q.2.1).length ≤ st) :
    mPass x d st d.length (i : Int) = if (q.2.2 != Str.ofString "") = true then .error q.2.2 else .ok ((i + s.length : Nat) : Int) := by
 k_with "w" =>
  revert x d c0 st q s v i hd R e hst
  (k_extra "n8"); generalize p8_1 T9 = x, p8_2 T9 = d, p8_3 T9 = c0, p8_4 T9 = st, p8_5 T9 = q, p8_6 T9 = s, p8_7 T9 = v, p8_8 T9 = i; clear T9
  intro hd R e hst
  rw [R.w, List.append_assoc] at e
  rw [R.w, List.length_append] at hst
  have hle := R.le
  rcases R.way with ⟨h1, h2, h3⟩ | ⟨h1, h2, h3, c, t, h4, h5⟩ | ⟨h1, o, s', h2, h3, h4, h5⟩
  · rw [h1, if_neg (by simp), show d.length = (d.length - s.length) + s.length by omega, pass_run hd s i _ _ e h2 (by omega) (fun z => by have := List.length_pos_iff.mpr z; omega)]
    rcases h3 with h3 | h3
    · rw [h3, Nat.sub_self]; rfl
    · rw [h3, List.nil_append] at e
      exact pass_nl _ (sfx_at e)
  · rw [h1, if_pos (whyL_ne d), show d.length = 1 + s.length by omega, pass_run hd s i _ _ e h2 (by omega) (fun z => by omega)]
    rw [h4] at hst e
    have hc := R.ch c (by rw [h4]; exact List.mem_cons_self)
    rw [List.length_cons] at hst
    rw [pass_sign 0 (show sfx x ((i + s.length : Nat) : Int) = c :: (t ++ 10 :: v) from sfx_at e) hc.2.1 hc.2.2.1 (by omega), if_pos]
    unfold bl; simp [h5, hc.2.2.2]
  · have hp : 0 < (L q.1).length := List.length_pos_iff.mpr h5
    subst h2
    rw [List.length_cons] at h4 hst
    have ho := R.bl o List.mem_cons_self
    have hb : bl o = true := by rcases ho with h | h <;> rw [h] <;> rfl
    have hd0 : Txt.item d 0 = S [c0] := by
      obtain ⟨n, hn⟩ : ∃ n, d.length = n + 1 := ⟨d.length - 1, by omega⟩
      exact item0 (t := List.replicate n c0) (by rw [hd.1, hn]; rfl)
    rw [h1, if_pos whyM_ne, show d.length = s'.length + 1 by omega, pass_sign _ (show sfx x (i : Int) = o :: (s' ++ (L q.1 ++ 10 :: v)) from e) (by rcases ho with h | h <;> rw [h] <;> decide) (by rcases ho with h | h <;> rw [h] <;> decide) (by omega), hb, if_neg (by decide), hd0, if_pos]
    rw [bne, S_eq, Bool.not_eq_true', beq_eq_false_iff_ne]
    intro z; injection z with z _; exact h3 z
 k_extra "q"
end
section
open PySem.Builtin.Str
noncomputable def txOf (l : List Nat) : List Part := if l = [] then [] else [.text (S l)]
theorem S_app (a b : List Nat) : S a ++ S b = S (a ++ b) := by apply L_inj; rw [L_app]; rfl
theorem put_tx (z l : List Nat) : mPut (txOf z) (S (l ++ [10])) = txOf (z ++ l ++ [10]) := by
  have hne : (S (l ++ [10]) != Str.ofString "") = true := by rw [ne_L, L_S]; simp
  unfold txOf
  rw [if_neg (show ¬ (z ++ l ++ [10] = []) by simp)]
  split
  · rename_i h; subst h; rw [mPut_nil, if_pos hne]; rfl
  · rw [show [Part.text (S z)] = [] ++ [Part.text (S z)] from rfl, mPut_text, S_app]; simp
theorem raw_run {x d : Str} {c0 : Nat} {st : Int} {v : List Nat} (hd : dOK d c0) : ∀ (rs : List (Str × Str × Str)) (i k : Nat) (n : Int) (ms : List Str) (zl : List Nat), rs ≠ [] → (∀ q ∈ rs, ∃ s, RowAt d c0 q s) → sfx x (i : Int) = rowsL rs ++ v → (i : Int) + (rowsL rs).length = st + 1 →
    L (Txt.join (Str.ofString "") ms) = zl → rs.length < k →
    ∃ R2 R, mRaw x d st k (i : Int) n ms = some R2 ∧ mDue true 2000 rs n (txOf zl) = some R ∧ ((∃ y m, (y = whyL d ∨ y = whyM) ∧ R2 = .error (y, m) ∧ R = .error (y, m)) ∨ ∃ ms' t, R2 = .ok ms' ∧ R = .ok (txOf (zl ++ t ++ [10])) ∧ L (Txt.join (Str.ofString "") ms') = zl ++ t ∧ (∀ c ∈ t, c < 256) ∧ t.length ≤ (rowsL rs).length) := by
 k_with "w" =>
  revert x d c0 st v hd
  (k_extra "n5"); generalize p5_1 T9 = x, p5_2 T9 = d, p5_3 T9 = c0, p5_4 T9 = st, p5_5 T9 = v; clear T9
  intro hd
  intro rs
  induction rs with
  | nil => intro i k n ms zl h; exact absurd rfl h
  | cons q rs ih =>
    revert q rs
    (k_extra "n2"); generalize p2_1 T9 = q, p2_2 T9 = rs; clear T9
    intro ih
    (k_extra "n5"); generalize p5_1 T9 = i, p5_2 T9 = k, p5_3 T9 = n, p5_4 T9 = ms, p5_5 T9 = zl; clear T9
    intro hne9 h e hst hz hk
    refine exE ((h q List.mem_cons_self)) ?_; (try dsimp only); (k_extra "h1"); generalize c1 _ _ = s; intro hE9
    have R := hE9; clear hE9
    refine exE (show ∃ k', k = k' + 1 from ⟨k - 1, by omega⟩) ?_; (k_extra "h1"); generalize c1 _ _ = k9; intro hE9; subst hE9
    rw [List.length_cons] at hk
    rw [rowsL_cons, List.append_assoc, List.cons_append] at e
    have hle := R.le
    rw [rowsL_cons, List.length_append, List.length_cons] at hst
    have hwl : (L q.2.1).length = s.length + (L q.1).length := by rw [R.w, List.length_append]
    have hxl := congrArg List.length e
    rw [sfx_len, List.length_append, List.length_cons, List.length_append] at hxl
    have hput := put_tx zl (L q.1)
    have hq1 : q.1 ++ Str.ofString "\n" = S (L q.1 ++ [10]) := by apply L_inj; rw [L_app, lit_nl]; rfl
    have hmd : mDue true 2000 (q :: rs) n (txOf zl) = if (q.2.2 != Str.ofString "") = true then some (.error (q.2.2, n)) else mDue true 2000 rs (n + 1) (txOf (zl ++ L q.1 ++ [10])) := by
      obtain ⟨a, b, c⟩ := q
      rw [mDue_cons, if_pos (rfl : true = true), hq1, hput]
    have hp := pass_row hd R e (st := st) (by omega)
    by_cases hlt : (i : Int) < st
    · rw [mRaw, if_pos hlt, hp, hmd]
      by_cases hw : (q.2.2 != Str.ofString "") = true
      · rw [if_pos hw, if_pos hw]
        refine ⟨_, _, rfl, rfl, .inl ⟨_, _, ?_, rfl, rfl⟩⟩
        rcases R.way with ⟨h1, _⟩ | ⟨h1, _⟩ | ⟨h1, _⟩
        · rw [h1] at hw; simp at hw
        · exact .inl h1
        · exact .inr h1
      · rw [if_neg hw, if_neg hw]
        dsimp only
        have e2 : sfx x ((i + s.length : Nat) : Int) = L q.1 ++ 10 :: (rowsL rs ++ v) := by
          rw [R.w, List.append_assoc] at e; exact sfx_at e
        have hf := find_at e2 (fun z => (R.ch _ z).2.1 rfl)
        have hn10 : Txt.find3 x (Str.ofString "\n") ((i + s.length : Nat) : Int) = ((i + s.length + (L q.1).length : Nat) : Int) := by rw [lit_nl]; exact hf
        unfold mRawEnd
        rw [hn10]
        cases rs with
        | nil =>
          rw [show (rowsL []).length = 0 from rfl] at hst
          rw [if_neg (by omega), show st = ((i + s.length : Nat) : Int) + ((L q.1).length : Int) by omega, slice_at e2]
          obtain ⟨k9, rfl⟩ : ∃ k', k9 = k' + 1 := ⟨k9 - 1, by omega⟩
          rw [mRaw, if_neg (by omega), mDue_nil]
          refine ⟨_, _, rfl, rfl, .inr ⟨_, L q.1, rfl, rfl, ?_, fun c hc => (R.ch c hc).1, ?_⟩⟩
          · rw [join_snoc, L_app, hz]; rfl
          · rw [rowsL_cons, List.length_append]; omega
        | cons q2 rs =>
          have hpos : 0 < (rowsL (q2 :: rs)).length := by rw [rowsL_cons, List.length_append, List.length_cons]; omega
          have e3 : sfx x ((i + s.length : Nat) : Int) = (L q.1 ++ [10]) ++ (rowsL (q2 :: rs) ++ v) := by rw [e2]; simp
          have hsl := slice_at e3
          have e4 := sfx_at e3
          rw [List.length_append, List.length_singleton] at hsl e4
          rw [if_pos (by omega), show ((i + s.length + (L q.1).length : Nat) : Int) + 1 = ((i + s.length : Nat) : Int) + (((L q.1).length + 1 : Nat) : Int) by omega, hsl]
          rw [show ((i + s.length : Nat) : Int) + (((L q.1).length + 1 : Nat) : Int) = ((i + s.length + ((L q.1).length + 1) : Nat) : Int) by omega]
          obtain ⟨R2, R1, a1, a2, a3⟩ := ih (i + s.length + ((L q.1).length + 1)) k9 (n + 1) (ms ++ [S (L q.1 ++ [10])]) (zl ++ L q.1 ++ [10]) (by simp) (fun p hp => h p (List.mem_cons_of_mem _ hp)) e4 (by omega) (by rw [join_snoc, L_app, hz, L_S, List.append_assoc]) (by omega)
          refine ⟨R2, R1, a1, a2, ?_⟩
          rcases a3 with a3 | ⟨ms', t, b1, b2, b3, b4, b5⟩
          · exact .inl a3
          · refine .inr ⟨ms', L q.1 ++ [10] ++ t, b1, by rw [b2]; simp, by rw [b3]; simp, ?_, ?_⟩
            · intro c hc
              rcases List.mem_append.mp hc with hc | hc
              · rcases List.mem_append.mp hc with hc | hc
                · exact (R.ch c hc).1
                · rw [List.mem_singleton.mp hc]; decide
              · exact b4 c hc
            · rw [rowsL_cons]; simp only [List.length_append, List.length_cons, List.length_nil]; omega
    · have hr : rs = [] := by
        cases rs with
        | nil => rfl
        | cons q2 rs =>
          rw [rowsL_cons, List.length_append, List.length_cons] at hst
          omega
      subst hr
      rw [show (rowsL []).length = 0 from rfl] at hst
      have hq0 : L q.1 = [] := List.eq_nil_of_length_eq_zero (by omega)
      have hw : ¬ (q.2.2 != Str.ofString "") = true := by
        rcases R.way with ⟨h1, _⟩ | ⟨_, _, _, c, t, h4, _⟩ | ⟨_, _, _, _, _, _, h5⟩
        · rw [h1]; simp
        · rw [hq0] at h4; cases h4
        · exact absurd hq0 h5
      rw [mRaw, if_neg hlt, hmd, if_neg hw, mDue_nil]
      refine ⟨_, _, rfl, rfl, .inr ⟨_, [], rfl, by rw [hq0], by rw [hz]; simp, (fun _ h => nomatch h), Nat.zero_le _⟩⟩
 k_extra "q"
theorem mFin_tx (t : List Nat) : mFin (txOf (t ++ [10])) = txOf t := by
 k_with "w" =>
  have e : Txt.slice (S (t ++ [10])) none (some (-1)) = S t := by
    have hlen : (S (t ++ [10])).length = t.length + 1 := by rw [← L_len, L_S, List.length_append]; rfl
    apply L_inj
    rw [slice_neg _ (by decide) (by rw [hlen]; omega), hlen, L_S, L_S]
    rw [show t.length + 1 - (1 : Int).toNat = t.length from rfl, List.take_left]
  have h1 : txOf (t ++ [10]) = [] ++ [Part.text (S (t ++ [10]))] := by unfold txOf; rw [if_neg (by simp)]; rfl
  rw [h1, mFin_text, e]
  unfold txOf
  by_cases h : t = []
  · subst h; rfl
  · rw [if_neg h, if_pos (by rw [ne_L, L_S]; exact h)]; rfl
 k_extra "q"
theorem tx_join (t : List Nat) : Txt.join (Str.ofString "") ((txOf t).map Part.tx) = S t := by
  unfold txOf
  split
  · rename_i h; subst h; apply L_inj; rw [List.map_nil, join_nil]; rfl
  · rw [List.map_cons, List.map_nil, join_one]; rfl
theorem whyL_g {d : Str} : ∀ {k : Nat}, indents[k]? = some d → gS (whyL d)
  | 0, h => by cases h; unfold gS; decide +kernel
  | 1, h => by cases h; unfold gS; decide +kernel
  | 2, h => by cases h; unfold gS; decide +kernel
  | 3, h => by cases h; unfold gS; decide +kernel
  | k + 4, h => by cases h
theorem whyM_g : gS whyM := by unfold gS; decide +kernel
theorem whyE_g : gS whyE := by unfold gS; decide +kernel
theorem raw_all {x d : Str} {c0 j : Nat} {v : List Nat} (hj : indents[j]? = some d) (hd : dOK d c0) (rs : List (Str × Str × Str)) (i : Nat) (n : Int) (h : ∀ q ∈ rs, ∃ s, RowAt d c0 q s) (hr : rs.length ≤ 4) (hl : (hereB rs).length ≤ 1300) (e : sfx x (i : Int) = rowsL rs ++ v) :
    ∃ R, mDue true 2000 rs n [] = some R ∧ (∀ ps, R = .ok ps → ps = [] ∨ ∃ qs y, ps = qs ++ [.text y]) ∧
      ∃ K R2, K ≤ 8 ∧ mRaw x d ((i : Int) + (hereB rs).length) K i n [] = some R2 ∧ dRaw ((i : Int) + (hereB rs).length) R2 = dRawDue ((i : Int) + (hereB rs).length) R ∧ Flat 3 (dRawDue ((i : Int) + (hereB rs).length) R) ∧ ∀ ps, R = .ok ps → (∀ q ∈ mFin ps, ∃ y, q = .text y) ∧ ((mFin ps).map fun q => q.tx.length).sum ≤ 65536 ∧ (mFin ps).length ≤ 65536 := by
 k_with "w" =>
  revert x d c0 j v hj hd rs i n h hr hl e
  (k_extra "n5"); generalize p5_1 T9 = x, p5_2 T9 = d, p5_3 T9 = c0, p5_4 T9 = j, p5_5 T9 = v; clear T9
  intro hj hd
  (k_extra "n3"); generalize p3_1 T9 = rs, p3_2 T9 = i, p3_3 T9 = n; clear T9
  intro h hr hl e
  by_cases hne : rs = []
  · subst hne
    refine ⟨.ok [], mDue_nil _ _ _ _, fun ps hp => .inl (by cases hp; rfl), 1, .ok [], by decide, ?_, ?_, ?_, fun ps hp => ?_⟩
    · rw [mRaw, if_neg (by rw [hereB_nil]; omega)]
    · rfl
    · exact .tuple _ ((fmc (.str _ (by decide +kernel)) ((fmc (.str _ (by decide +kernel)) ((fmc (.int _) (List.forall_mem_nil _)))))))
    · cases hp; exact ⟨(fun _ h => nomatch h), by decide, by decide⟩
  · have hb := hereB_len rs hne
    obtain ⟨R2, R, a1, a2, a3⟩ := raw_run (st := (i : Int) + (hereB rs).length) hd rs i (rs.length + 1) n [] [] hne h e (by omega) (join_nil _) (by omega)
    refine ⟨R, a2, ?_, rs.length + 1, R2, by omega, a1, ?_⟩
    · intro ps hp
      rcases a3 with ⟨y, m, _, _, q⟩ | ⟨ms', t, _, q, _⟩
      · rw [q] at hp; cases hp
      · rw [q] at hp; cases hp
        right
        unfold txOf
        rw [if_neg (by simp)]
        exact ⟨[], _, rfl⟩
    · rcases a3 with ⟨y, m, hy, q1, q2⟩ | ⟨ms', t, q1, q2, q3, q4, q5⟩
      · subst q1 q2
        refine ⟨rfl, flat_refused ?_, fun ps hp => nomatch hp⟩
        rcases hy with rfl | rfl
        · exact whyL_g hj
        · exact whyM_g
      · subst q1 q2
        rw [List.nil_append] at q3
        have e1 : Txt.join (Str.ofString "") ms' = S t := S_of q3
        have e2 : dRawDue ((i : Int) + (hereB rs).length) (.ok (txOf ([] ++ t ++ [10]))) = dTold [.str (S t), .int ((i : Int) + (hereB rs).length)] := by
          show dTold [.str (Txt.join (Str.ofString "") ((mFin (txOf ([] ++ t ++ [10]))).map Part.tx)), .int _] = _
          rw [List.nil_append, mFin_tx, tx_join]
        rw [e2]
        refine ⟨?_, .tuple _ ((fmc (.str _ (by decide +kernel)) ((fmc (flat_str (fun c hc => q4 c hc)) ((fmc (.int _) (List.forall_mem_nil _))))))), fun ps hp => ?_⟩
        · show dTold [.str (Txt.join (Str.ofString "") ms'), .int _] = _
          rw [e1]
        · cases hp
          rw [List.nil_append, mFin_tx]
          unfold txOf
          split
          · exact ⟨(fun _ h => nomatch h), by decide, by decide⟩
          · refine ⟨fun q hq => ⟨_, List.mem_singleton.mp hq⟩, ?_, (by decide : 1 ≤ 65536)⟩
            have : (S t).length = t.length := rfl
            simp only [List.map_cons, List.map_nil, List.sum_cons, List.sum_nil, Part.tx]
            omega
 k_extra "q"
end
section
open PySem.Builtin.Str
theorem tw_stop {p : Nat → Bool} {c : Nat} (hc : p c = false) : ∀ (u r : List Nat), (u ++ c :: r).takeWhile p = u.takeWhile p
  | [], r => by rw [List.nil_append, List.takeWhile_cons, hc]; rfl
  | a :: u, r => by
    rw [List.cons_append, List.takeWhile_cons, List.takeWhile_cons]
    split
    · rw [tw_stop hc u r]
    · rfl
theorem take_stop {p : Nat → Bool} {c : Nat} (hc : p c = false) : ∀ (n : Nat) (u r : List Nat), ((u ++ c :: r).take n).takeWhile p = (u.take n).takeWhile p
  | 0, u, r => rfl
  | n + 1, [], r => by rw [List.nil_append, List.take_succ_cons, List.takeWhile_cons, hc, List.take_nil]; rfl
  | n + 1, a :: u, r => by
    rw [List.cons_append, List.take_succ_cons, List.take_succ_cons, List.takeWhile_cons, List.takeWhile_cons]
    split
    · rw [take_stop hc n u r]
    · rfl
theorem oct10 : isOct 10 = false := by decide +kernel
theorem hex10 : isHex 10 = false := by decide +kernel
theorem plain10 : plainOf (S [10]) = none := by decide
theorem escL_stop (u r : List Nat) : escL (u ++ 10 :: r) (Str.ofString "") = escL u (Str.ofString "") := by
 k_with "w" =>
  revert u r
  (k_extra "n2"); generalize p2_1 T9 = u, p2_2 T9 = r; clear T9
  have h8 : octOf (u ++ 10 :: r) = octOf u := take_stop oct10 3 u r
  match u, h8 with
  | [], h8 =>
    unfold escL
    rw [h8]
    have e1 : ([] ++ 10 :: r : List Nat).take 1 = [10] := rfl
    have e2 : ([] : List Nat).take 1 = [] := rfl
    have e3 : octOf [] = [] := rfl
    rw [e1, e2, plain10, plain_e, e3]
    dsimp only
    rw [if_neg (by rw [L_nil]; simp), if_neg (by simp), if_neg (by simp), if_neg (by simp), if_neg (by simp), if_neg (by simp), if_neg (by simp), if_neg (by simp), if_neg (by decide), if_neg (by decide)]
  | c :: u, h8 =>
    have e1 : (c :: u ++ 10 :: r).take 1 = (c :: u).take 1 := rfl
    have e2 : hexOf (c :: u ++ 10 :: r) = hexOf (c :: u) := take_stop hex10 2 u r
    have e3 : ((c :: u ++ 10 :: r).take 2 = [117, 123]) = ((c :: u).take 2 = [117, 123]) := by
      cases u with
      | nil => apply propext; simp
      | cons b u => rfl
    have e4 : (c :: u).take 2 = [117, 123] → ptOf (c :: u ++ 10 :: r) = ptOf (c :: u) ∧ ((((c :: u ++ 10 :: r).drop 2).drop (ptOf (c :: u)).length).take 1 = [125]) = ((((c :: u).drop 2).drop (ptOf (c :: u)).length).take 1 = [125]) := by
      intro h
      match u, h with
      | b :: u, _ =>
        refine ⟨tw_stop hex10 u r, ?_⟩
        show ((((u ++ 10 :: r).drop (u.takeWhile isHex).length).take 1) = [125]) = (((u.drop (u.takeWhile isHex).length).take 1) = [125])
        rw [List.drop_append_of_le_length (tw_le _ _)]
        cases u.drop (u.takeWhile isHex).length with
        | nil => apply propext; simp
        | cons a w => rfl
    unfold escL
    rw [h8, e1, e2]
    simp only [e3]
    by_cases h : (c :: u).take 2 = [117, 123]
    · obtain ⟨a1, a2⟩ := e4 h
      simp only [a1, a2, ne_eq]
    · simp only [if_neg h]
 k_extra "q"
theorem mPut_mPut (A : List Part) (z v : Str) : mPut (mPut A z) v = mPut A (z ++ v) := by
 k_with "w" =>
  revert A z v
  (k_extra "n3"); generalize p3_1 T9 = A, p3_2 T9 = z, p3_3 T9 = v; clear T9
  have se : ∀ z : Str, (z != Str.ofString "") = true ∨ z = Str.ofString "" := fun z => by
    by_cases h : z = Str.ofString ""
    · exact .inr h
    · exact .inl (bne_iff_ne.mpr h)
  have ea : ∀ v : Str, Str.ofString "" ++ v = v := fun v => by apply L_inj; rw [L_app, L_nil, List.nil_append]
  have ne2 : ∀ z v : Str, (z != Str.ofString "") = true → (z ++ v != Str.ofString "") = true := fun z v h => by
    rw [ne_L] at h ⊢; rw [L_app]; intro q; exact h (List.append_eq_nil_iff.mp q).1
  have assoc : ∀ a b c : Str, a ++ b ++ c = a ++ (b ++ c) := fun a b c => by apply L_inj; rw [L_app, L_app, L_app, L_app, List.append_assoc]
  rcases List.eq_nil_or_concat A with rfl | ⟨B, p, rfl⟩
  · rw [mPut_nil, mPut_nil]
    rcases se z with h | h
    · rw [if_pos h, if_pos (ne2 z v h), show [Part.text z] = [] ++ [Part.text z] from rfl, mPut_text]; rfl
    · rw [h, if_neg (by simp), ea, mPut_nil]
  · rw [List.concat_eq_append]
    cases p with
    | text w => rw [mPut_text, mPut_text, mPut_text, assoc]
    | code w m =>
      rw [mPut_code, mPut_code]
      rcases se z with h | h
      · rw [if_pos h, if_pos (ne2 z v h), mPut_text]
      · rw [h, if_neg (by simp), ea, mPut_code]
 k_extra "q"
theorem mPut_e (A : List Part) : mPut A (Str.ofString "") = A := by
  have ea : ∀ v : Str, v ++ Str.ofString "" = v := fun v => by apply L_inj; rw [L_app, L_nil, List.append_nil]
  rcases List.eq_nil_or_concat A with rfl | ⟨B, p, rfl⟩
  · rfl
  · rw [List.concat_eq_append]
    cases p with
    | text w => rw [mPut_text, ea]
    | code w m => rw [mPut_code, if_neg (by simp)]
theorem fold_put (P : List Part) (ps : List Part) (v : Str) : (mPut ps v).foldl mAdd P = mPut (ps.foldl mAdd P) v := by
 k_with "w" =>
  have base : ∀ B : List Part, (if (v != Str.ofString "") = true then B ++ [Part.text v] else B).foldl mAdd P = mPut (B.foldl mAdd P) v := by
    intro B
    by_cases h : (v != Str.ofString "") = true
    · rw [if_pos h, List.foldl_append]; rfl
    · rw [if_neg h]
      have : v = Str.ofString "" := Classical.byContradiction fun q => h (bne_iff_ne.mpr q)
      rw [this, mPut_e]
  rcases List.eq_nil_or_concat ps with rfl | ⟨B, p, rfl⟩
  · rw [mPut_nil]; exact base []
  · rw [List.concat_eq_append]
    cases p with
    | text w =>
      rw [mPut_text, List.foldl_append, List.foldl_append]
      show mPut _ _ = mPut (mPut _ _) _
      rw [mPut_mPut]
    | code w m => rw [mPut_code]; exact base _
 k_extra "q"
theorem fold_code (P : List Part) (ps : List Part) (v : Str) (n : Int) : (ps ++ [Part.code v n]).foldl mAdd P = ps.foldl mAdd P ++ [Part.code v n] := by rw [List.foldl_append]; rfl
noncomputable def passOr (x d : Str) (st : Int) (i : Int) : Except Str Int := if (d != Str.ofString "") = true then mPass x d st d.length i else .ok i
theorem passOr_eq (x d : Str) (st i : Int) : passOr x d st i = mPass x d st d.length i := by
  unfold passOr
  by_cases h : (d != Str.ofString "") = true
  · rw [if_pos h]
  · rw [if_neg h]
    have : d = Str.ofString "" := Classical.byContradiction fun q => h (bne_iff_ne.mpr q)
    subst this; rfl
noncomputable def loopFrom (x d : Str) (st : Int) (k : Nat) (n : Int) (ps : List Part) (ms : List Str) : Except Str Int → Option (Except (Str × Int) (List Part × Int))
  | .error y => some (.error (y, n))
  | .ok i => mLoop (bfI st) (fun i => i) x (Str.ofString "") d st k i n ps ms
theorem bfI_lt {st i : Int} (h : i < st) : bfI st i = some true := by unfold bfI; rw [if_neg (by omega), decide_eq_true h]
theorem bfI_eq {st i : Int} (h : i = st) : bfI st i = some false := by unfold bfI; rw [if_neg (by omega), decide_eq_false (by omega)]
section
variable {d : Str} {c0 : Nat} {q : Str × Str × Str} {s : List Nat} (R : RowAt d c0 q s)
include R
theorem RowAt.good : good (L q.1 ++ [10]) = true := (R.gd _ (gd_char (by decide) gd_nil)).1
end
theorem row_sim {x d : Str} {c0 : Nat} {st : Int} {q : Str × Str × Str} {s v : List Nat} {a : Nat} (R : RowAt d c0 q s) (hx : ∀ c ∈ L x, c < 256) (e : sfx x (a : Int) = L q.1 ++ 10 :: v) (hst : (a : Int) + q.1.length ≤ st) (ha : a ≤ x.length) :
    Sim x (q.1 ++ Str.ofString "\n") (Str.ofString "") d a q.1.length v (bfI st) := by
 k_with "w" =>
  revert x d c0 st q s v a R hx e hst ha
  (k_extra "n8"); generalize p8_1 T9 = x, p8_2 T9 = d, p8_3 T9 = c0, p8_4 T9 = st, p8_5 T9 = q, p8_6 T9 = s, p8_7 T9 = v, p8_8 T9 = a; clear T9
  intro R hx e hst ha
  have hy : L (q.1 ++ Str.ofString "\n") = L q.1 ++ [10] := by rw [L_app, lit_nl]; rfl
  have hyl : (q.1 ++ Str.ofString "\n").length = q.1.length + 1 := by rw [← L_len, hy, List.length_append, L_len]; rfl
  have hsy : ∀ i : Nat, i ≤ q.1.length → sfx (q.1 ++ Str.ofString "\n") (i : Int) = (L q.1).drop i ++ [10] := fun i hi => by
    unfold sfx
    rw [hy, Int.toNat_natCast, List.drop_append_of_le_length (by rw [L_len]; exact hi)]
  have hsx : ∀ i : Nat, i ≤ q.1.length → sfx x ((a + i : Nat) : Int) = (L q.1).drop i ++ 10 :: v := fun i hi => by
    rw [show ((a + i : Nat) : Int) = (a : Int) + (i : Nat) by omega, sfx_add (by omega), e, List.drop_append_of_le_length (by rw [L_len]; exact hi)]
  refine ⟨hx, ⟨(L x).take a, by rw [List.length_take, L_len]; omega, ?_⟩, by omega, .inr (by omega), fun i hi _ => bfI_lt (by omega), .inr ?_, fun i hi h => ?_, fun i hi h => ⟨?_, fun y k hE => ?_⟩⟩
  · rw [hy]
    conv => lhs; rw [← List.take_append_drop a (L x)]
    rw [show (L x).drop a = sfx x (a : Int) from rfl, e]; simp
  · intro c hc
    rw [hy, List.take_append_of_le_length (by rw [L_len]; omega)] at hc
    exact (R.ch c (List.mem_of_mem_take hc)).2.1
  · have hg := good_at i R.good
    rw [List.drop_append_of_le_length (by rw [L_len]; omega)] at hg
    rw [hsy i (by omega)] at h ⊢
    have hl : ((L q.1).drop i).length = q.1.length - i := by rw [List.length_drop, L_len]
    have hno : ∀ c ∈ (L q.1).drop i, c ≠ 10 := fun c hc => (R.ch c (List.mem_of_mem_drop hc)).2.1
    generalize (L q.1).drop i = w at *
    match w, h, hg, hl, hno with
    | [], h, _, _, _ => cases h
    | [b], h, _, _, _ => injection h with _ h; injection h with h _; cases h
    | b :: c :: w, h, hg, hl, hno =>
      injection h with h1 h2; injection h2 with h2 _; subst h1 h2
      obtain ⟨r, hr⟩ := good_code hg
      match w, hr, hl with
      | [], hr, _ => injection hr with hr _; cases hr
      | [b], hr, _ => injection hr with _ hr; injection hr with hr _; cases hr
      | b :: c :: w, hr, hl =>
        injection hr with h1 h2; injection h2 with h2 _; subst h1 h2
        refine ⟨rfl, ?_⟩
        simp only [List.length_cons] at hl; omega
  · rw [show a + i + 1 = a + (i + 1) by omega, hsx (i + 1) (by omega), hsy (i + 1) (by omega), escL_stop, escL_stop]
  · rw [hsy (i + 1) (by omega), escL_stop] at hE
    obtain ⟨_, o2, _⟩ := escL_ok hE (fun c hc => (R.ch c (List.mem_of_mem_drop hc)).1)
    rw [List.length_drop, L_len] at o2; omega
 k_extra "q"
theorem gms_join {ms : List Str} (h : GMs ms) (hne : ms ≠ []) : L (Txt.join (Str.ofString "") ms) ≠ [] := by
  obtain ⟨m, r, rfl⟩ : ∃ m r, ms = m :: r := by cases ms with | nil => exact absurd rfl hne | cons m r => exact ⟨m, r, rfl⟩
  rw [join_L, List.map_cons, List.flatten_cons]
  intro q
  exact (h m List.mem_cons_self).1 (List.append_eq_nil_iff.mp q).1
theorem fin_flush {ps : List Part} {ms : List Str} (hg : GMs ms) : mFin (flush ps (ms ++ [S [10]])) = flush ps ms ∧ ∃ y, flush ps (ms ++ [S [10]]) = ps ++ [.text y] := by
 k_with "w" =>
  have e1 : flush ps (ms ++ [S [10]]) = ps ++ [.text (Txt.join (Str.ofString "") (ms ++ [S [10]]))] := by unfold flush; rw [if_neg (by simp)]
  have e2 : Txt.slice (Txt.join (Str.ofString "") (ms ++ [S [10]])) none (some (-1)) = Txt.join (Str.ofString "") ms := by
    have hL : L (Txt.join (Str.ofString "") (ms ++ [S [10]])) = L (Txt.join (Str.ofString "") ms) ++ [10] := by rw [join_snoc, L_app]; rfl
    have hlen : (Txt.join (Str.ofString "") (ms ++ [S [10]])).length = (Txt.join (Str.ofString "") ms).length + 1 := by rw [← L_len, hL, List.length_append, L_len]; rfl
    apply L_inj
    rw [slice_neg _ (by decide) (by rw [hlen]; omega), hlen, hL, show (Txt.join (Str.ofString "") ms).length + 1 - (1 : Int).toNat = (L (Txt.join (Str.ofString "") ms)).length by rw [L_len]; rfl, List.take_left]
  refine ⟨?_, _, e1⟩
  rw [e1, mFin_text, e2]
  unfold flush
  by_cases h : ms = []
  · subst h
    rw [if_neg (by rw [ne_L, join_nil]; simp)]; rfl
  · rw [if_pos (by rw [ne_L]; exact gms_join hg h), if_neg (by simpa using h)]
 k_extra "q"
theorem parts_run {x d : Str} {c0 : Nat} {st : Int} {v : List Nat} (hd : dOK d c0) (hgl : gS (whyL d)) (hx : ∀ c ∈ L x, c < 256) : ∀ (rs : List (Str × Str × Str)) (i k : Nat) (n : Int) (ps : List Part) (ms : List Str), rs ≠ [] → (∀ q ∈ rs, (∃ s, RowAt d c0 q s) ∧ q.1.length ≤ 1000) → sfx x (i : Int) = rowsL rs ++ v → (i : Int) + (rowsL rs).length = st + 1 →
    NT ps → GPs ps → GMs ms → st - i < k →
    ∃ R, loopFrom x d st k n ps ms (passOr x d st i) = some (dueAt st R) ∧ mDue false 2000 rs n (flush ps ms) = some R ∧ (∀ qs, R = .ok qs → GPs (mFin qs) ∧ ∃ ts y, qs = ts ++ [.text y]) ∧ (∀ y m, R = .error (y, m) → gS y) := by
 k_with "w" =>
  revert x d c0 st v hd hgl hx
  (k_extra "n5"); generalize p5_1 T9 = x, p5_2 T9 = d, p5_3 T9 = c0, p5_4 T9 = st, p5_5 T9 = v; clear T9
  intro hd hgl hx
  intro rs
  induction rs with
  | nil => intro i k n ps ms h; exact absurd rfl h
  | cons q rs ih =>
    revert q rs
    (k_extra "n2"); generalize p2_1 T9 = q, p2_2 T9 = rs; clear T9
    intro ih
    (k_extra "n5"); generalize p5_1 T9 = i, p5_2 T9 = k, p5_3 T9 = n, p5_4 T9 = ps, p5_5 T9 = ms; clear T9
    intro hne9 h e hst h1 h2 h3 hk
    obtain ⟨hE8, hq1000⟩ := h q List.mem_cons_self
    refine exE hE8 ?_; clear hE8; (try dsimp only); (k_extra "h1"); generalize c1 _ _ = s; intro hE9
    have R := hE9; clear hE9
    rw [rowsL_cons, List.append_assoc, List.cons_append] at e
    have hle := R.le
    rw [rowsL_cons, List.length_append, List.length_cons] at hst
    have hwl : (L q.2.1).length = s.length + (L q.1).length := by rw [R.w, List.length_append]
    have hql := L_len q.1
    have hxl := congrArg List.length e
    rw [sfx_len, List.length_append, List.length_cons, List.length_append] at hxl
    have hp := pass_row hd R e (st := st) (by omega)
    have hmd : mDue false 2000 (q :: rs) n (flush ps ms) = if (q.2.2 != Str.ofString "") = true then some (.error (q.2.2, n)) else match mRead (q.1 ++ Str.ofString "\n") (Str.ofString "") n 2000 0 [] with
      | none => none
      | some (.error e) => some (.error e)
      | some (.ok (qs, _)) => mDue false 2000 rs (n + 1) (qs.foldl mAdd (flush ps ms)) := by
      obtain ⟨a, b, c⟩ := q
      rw [mDue_cons, if_neg (show ¬ (false = true) by decide)]; try rfl
    rw [passOr_eq, hp, hmd]
    by_cases hw : (q.2.2 != Str.ofString "") = true
    · rw [if_pos hw, if_pos hw]
      refine ⟨.error (q.2.2, n), rfl, rfl, (fun _ z => nomatch z), fun y m z => ?_⟩
      cases z
      rcases R.way with ⟨w1, _⟩ | ⟨w1, _⟩ | ⟨w1, _⟩
      · rw [w1] at hw; simp at hw
      · rw [w1]; exact hgl
      · rw [w1]; exact whyM_g
    rw [if_neg hw, if_neg hw]
    have ha : sfx x ((i + s.length : Nat) : Int) = L q.1 ++ 10 :: (rowsL rs ++ v) := by
      rw [R.w, List.append_assoc] at e; exact sfx_at e
    show ∃ R, mLoop (bfI st) (fun i => i) x (Str.ofString "") d st k ((i + s.length : Nat) : Int) n ps ms = _ ∧ _
    have C := row_sim R hx ha (st := st) (by omega) (by omega)
    have hyl : (q.1 ++ Str.ofString "\n").length = q.1.length + 1 := by rw [Str.length_append, show (Str.ofString "\n").length = 1 by decide]
    have hy : L (q.1 ++ Str.ofString "\n") = L q.1 ++ [10] := by rw [L_app, lit_nl]; rfl
    have hrun := sim_run C (fin := fun i => i) (st := st) n (fun qs => qs.foldl mAdd (flush ps ms)) (fun ps v => fold_put _ ps v) (fun ps v n => fold_code _ ps v n) q.1.length 0 k 2000 n ps ms [] (by omega) (by omega) (by omega) (by omega) h1 h2 h3 rfl (by rw [List.take_zero]; show n = n + cnt 10 []; rw [cnt_nil]; omega)
    as_aux_lemma =>
    rcases hrun with ⟨y, row, hy2, e1, e2⟩ | hrun
    · rw [show ((i + s.length + 0 : Nat) : Int) = ((i + s.length : Nat) : Int) from rfl] at e1
      rw [show ((0 : Nat) : Int) = 0 from rfl] at e2
      rw [e1, e2]
      exact ⟨.error (y, row), rfl, rfl, (fun _ z => nomatch z), fun y' m z => by cases z; exact why_gS hy2⟩
    · refine exE hrun ?_; clear hrun; (try dsimp only); (k_extra "h1"); generalize c1 _ _ = j; intro hE9
      refine exE hE9 ?_; clear hE9; (try dsimp only); (k_extra "h1"); generalize c1 _ _ = kM; intro hE9
      refine exE hE9 ?_; clear hE9; (try dsimp only); (k_extra "h1"); generalize c1 _ _ = kR; intro hE9
      refine exE hE9 ?_; clear hE9; (try dsimp only); (k_extra "h1"); generalize c1 _ _ = ps2; intro hE9
      refine exE hE9 ?_; clear hE9; (try dsimp only); (k_extra "h1"); generalize c1 _ _ = ms2; intro hE9
      refine exE hE9 ?_; clear hE9; (try dsimp only); (k_extra "h1"); generalize c1 _ _ = qs2; intro hE9
      obtain ⟨⟨j1, j1'⟩, j2, j3, j4, j5, j6, j7, j8, j9, e1, e2⟩ := hE9
      replace j9 : flush ps2 ms2 = qs2.foldl mAdd (flush ps ms) := j9
      as_aux_lemma =>
      have hj : j = q.1.length := by
        rcases j3 with h | h
        · exact h
        · exfalso
          obtain ⟨c, t, hc, _, _⟩ := sfx_cons (x := q.1 ++ Str.ofString "\n") (i := j) (by omega)
          rw [item_sfx (by omega) hc, S_e] at h
          cases S_inj h
      subst hj
      rw [show ((i + s.length + 0 : Nat) : Int) = ((i + s.length : Nat) : Int) from rfl] at e1
      rw [show ((0 : Nat) : Int) = 0 from rfl] at e2
      have hn0 : n + nl ((L (q.1 ++ Str.ofString "\n")).take q.1.length) = n := by
        rw [hy, ← hql, List.take_left, nl_none _ fun c hc => (R.ch c hc).2.1]; omega
      rw [hn0] at e1
      refine exE (show ∃ k, kM = k + 1 from ⟨kM - 1, by omega⟩) ?_; (k_extra "h1"); generalize c1 _ _ = kM9; intro hE9; subst hE9
      refine exE (show ∃ k, kR = k + 2 from ⟨kR - 2, by omega⟩) ?_; (k_extra "h1"); generalize c1 _ _ = kR9; intro hE9; subst hE9
      as_aux_lemma =>
      have sy : sfx (q.1 ++ Str.ofString "\n") (q.1.length : Int) = [10] := by
        unfold sfx; rw [hy, Int.toNat_natCast, ← hql, List.drop_left]
      have hitY := item_sfx (by omega) sy
      have esl : Txt.slice (q.1 ++ Str.ofString "\n") (some (q.1.length : Int)) (some ((q.1.length : Int) + 2)) = S [10] := by
        rw [show (q.1.length : Int) + 2 = (q.1.length : Int) + (2 : Nat) from rfl, slice_sfx _ (by omega), sy]; rfl
      have hR : mRead (q.1 ++ Str.ofString "\n") (Str.ofString "") n 2000 0 [] = some (.ok (mPut qs2 (S [10]), (q.1.length : Int) + 1 + 1)) := by
        rw [e2, mRead_succ, if_pos ⟨by omega, by rw [hitY]; decide⟩, esl, if_neg (by decide), hitY, if_neg (by decide), mRead_succ, if_neg (by omega), if_neg (by simp)]
      rw [hR]
      dsimp only
      rw [fold_put, ← j9, put_flush j6 _ (by rw [L_S]; simp)]
      have hms : GMs (ms2 ++ [S [10]]) := gsnoc j8 (by rw [L_S]; simp) (by intro z hz; rw [L_S] at hz; rw [List.mem_singleton.mp hz]; decide)
      have sx : sfx x ((i + s.length + q.1.length : Nat) : Int) = 10 :: (rowsL rs ++ v) := by rw [← hql]; exact sfx_at ha
      rw [e1]
      cases hrs : rs with
      | nil =>
        rw [hrs, show (rowsL []).length = 0 from rfl] at hst
        rw [mLoop_succ, bfI_eq (by omega), mDue_nil]
        obtain ⟨f1, y, f2⟩ := fin_flush (ps := ps2) j8
        refine ⟨_, ?_, rfl, fun qs z => ?_, fun _ _ z => nomatch z⟩
        · show some (Except.ok (flush ps2 ms2, ((i + s.length + q.1.length : Nat) : Int)) : Except (Str × Int) (List Part × Int)) = some (Except.ok (mFin (flush ps2 (ms2 ++ [S [10]])), st))
          rw [f1, show ((i + s.length + q.1.length : Nat) : Int) = st by omega]
        · cases z
          rw [f1]
          exact ⟨gflush j7 j8, _, _, f2⟩
      | cons q2 rs2 =>
        rw [← hrs]
        have hne : rs ≠ [] := by rw [hrs]; simp
        have hpos : 0 < (rowsL rs).length := by rw [hrs, rowsL_cons, List.length_append, List.length_cons]; omega
        have hitX := item_sfx (by omega) sx
        have sx1 : sfx x ((i + s.length + q.1.length + 1 : Nat) : Int) = rowsL rs ++ v := sfx_at (u := [10]) sx
        have hstep : mLoop (bfI st) (fun i => i) x (Str.ofString "") d st (kM9 + 1) ((i + s.length + q.1.length : Nat) : Int) n ps2 ms2 = loopFrom x d st kM9 (n + 1) ps2 (ms2 ++ [S [10]]) (passOr x d st ((i + s.length + q.1.length + 1 : Nat) : Int)) := by
          rw [mLoop_succ, bfI_lt (by omega)]
          dsimp only
          rw [hitX, if_neg (by rintro ⟨z, _⟩; exact absurd z (by decide)), if_neg (by decide)]
          rw [show ((i + s.length + q.1.length : Nat) : Int) + 1 = ((i + s.length + q.1.length + 1 : Nat) : Int) from rfl]
          have hrows : ∀ (u w : List Nat), (∀ c ∈ u, c ≠ 10) → sfx x ((i + s.length + q.1.length : Nat) : Int) = ([10] ++ u) ++ w → mRows (Txt.slice x (some ((i + s.length + q.1.length : Nat) : Int)) (some ((i + s.length + q.1.length + 1 + u.length : Nat) : Int))) = 1 := by
            intro u w hu hh
            have := slice_at hh
            rw [List.length_append, List.length_singleton] at this
            rw [show ((i + s.length + q.1.length + 1 + u.length : Nat) : Int) = ((i + s.length + q.1.length : Nat) : Int) + ((1 + u.length : Nat) : Int) by omega, this, rows_L, L_S, nl_app, nl_none u hu]; decide
          by_cases hd0 : (d != Str.ofString "") = true
          · have hnl1 : (S [10] == Str.ofString "\n") = true := by decide
            rw [if_pos ⟨hnl1, hd0⟩, passOr_eq]
            obtain ⟨s2, R2⟩ := (h q2 (by rw [hrs]; simp)).1
            have e2' : sfx x ((i + s.length + q.1.length + 1 : Nat) : Int) = L q2.2.1 ++ 10 :: (rowsL rs2 ++ v) := by
              rw [sx1, hrs, rowsL_cons, List.append_assoc, List.cons_append]
            rw [hrs, rowsL_cons, List.length_append, List.length_cons] at hst
            have hp2 := pass_row hd R2 e2' (st := st) (by omega)
            rw [hp2]
            by_cases hw2 : (q2.2.2 != Str.ofString "") = true
            · rw [if_pos hw2]; rfl
            · rw [if_neg hw2]
              dsimp only [loopFrom]
              rw [hrows s2 (L q2.1 ++ 10 :: (rowsL rs2 ++ v)) (fun c hc z => by subst z; rcases R2.bl _ hc with z | z <;> cases z) (by
                rw [sx, hrs, rowsL_cons, R2.w]; simp)]
          · rw [if_neg (fun z => hd0 z.2)]
            have e0 : passOr x d st ((i + s.length + q.1.length + 1 : Nat) : Int) = .ok ((i + s.length + q.1.length + 1 : Nat) : Int) := by unfold passOr; rw [if_neg hd0]
            rw [e0]
            have := hrows [] (rowsL rs ++ v) (fun _ h => nomatch h) (by rw [sx]; rfl)
            rw [show ((i + s.length + q.1.length + 1 + ([] : List Nat).length : Nat) : Int) = ((i + s.length + q.1.length + 1 : Nat) : Int) from rfl] at this
            rw [this]; rfl
        rw [hstep]
        exact ih _ kM9 (n + 1) ps2 (ms2 ++ [S [10]]) hne (fun p hp => h p (List.mem_cons_of_mem _ hp)) sx1 (by omega) j6 j7 hms (by omega)
 k_extra "q"
end
section
open PySem.Builtin.Str
theorem sfx_of {x : Str} {u v : List Nat} (h : L x = u ++ v) : sfx x ((u.length : Nat) : Int) = v := by
  unfold sfx; rw [Int.toNat_natCast, h, List.drop_left]
theorem here_end {x d : Str} {c0 : Nat} {rs : List (Str × Str × Str)} (hd : dOK d c0) (hocc : ¬ ((occurrences d (Str.ofString " ") 0 d.length 1).isEmpty = false ∧ (occurrences d (Str.ofString "\t") 0 d.length 1).isEmpty = false)) (hrow : ∀ q ∈ rs, ∃ s, RowAt d c0 q s) :
    ∃ K, mEnd (hereT x d rs ++ Str.ofString ";\nEOT\n") (Str.ofString "EOT") x.length K x.length = some (.ok ((x.length : Int) + (hereB rs).length, d, (hereT x d rs).length)) := by
 k_with "w" =>
  revert x d c0 rs hd hocc hrow
  (k_extra "n4"); generalize p4_1 T9 = x, p4_2 T9 = d, p4_3 T9 = c0, p4_4 T9 = rs; clear T9
  intro hd hocc hrow
  have hT := hereT_L x d rs
  have hX : L (hereT x d rs ++ Str.ofString ";\nEOT\n") = L x ++ (rowsL rs ++ (L d ++ ([69, 79, 84] ++ [59, 10, 69, 79, 84, 10]))) := by
    rw [L_app, hT, show L (Str.ofString ";\nEOT\n") = [59, 10, 69, 79, 84, 10] by decide]; simp
  have hTl : (hereT x d rs).length = x.length + (rowsL rs).length + d.length + 3 := by
    rw [← L_len, hT]; simp only [List.length_append, L_len, List.length_cons, List.length_nil]; omega
  generalize hereT x d rs ++ Str.ofString ";\nEOT\n" = X at hX
  have e0 := sfx_of hX
  rw [L_len] at e0
  have e1 := sfx_at e0
  refine ⟨1 + rs.length, ?_⟩
  rw [end_rows rs x.length 1 hrow e0, end_here e1 (fun c hc => by rw [dOK_mem hd c hc]; rcases hd.2 with h | h <;> rw [h] <;> rfl) (by decide) hocc, hTl]
  by_cases hne : rs = []
  · subst hne
    rw [show (rowsL []).length = 0 from rfl, hereB_nil, if_pos (show ((x.length + 0 : Nat) : Int) = (x.length : Int) from rfl)]
    rw [show (x.length : Int) + ((0 : Nat) : Int) = (x.length : Int) by omega]
  · have hb := hereB_len rs hne
    have he : mEndAt X x.length ((x.length + (rowsL rs).length : Nat) : Int) = (x.length : Int) + (hereB rs).length := by
      unfold mEndAt
      rw [if_neg, ← hb]
      · omega
      · rintro ⟨z1, z2⟩
        obtain ⟨m, hm⟩ : ∃ m, (rowsL rs).length = m + 2 := ⟨(rowsL rs).length - 2, by omega⟩
        have hlt : m < (rowsL rs).length := by omega
        have e2 : sfx X ((x.length + m : Nat) : Int) = (rowsL rs)[m] :: ((rowsL rs).drop (m + 1) ++ (L d ++ ([69, 79, 84] ++ [59, 10, 69, 79, 84, 10]))) := by
          rw [show ((x.length + m : Nat) : Int) = (x.length : Int) + (m : Nat) by omega, sfx_add (by omega), e0, List.drop_append_of_le_length (by omega), List.drop_eq_getElem_cons hlt]; rfl
        rw [show ((x.length + (rowsL rs).length : Nat) : Int) - 2 = ((x.length + m : Nat) : Int) by omega, item_sfx (by omega) e2, show Str.ofString "\r" = S [13] by decide, S_eq, beq_iff_eq] at z2
        injection z2 with z2 _
        exact ((rowsL_256 rs hrow).1 _ (List.getElem_mem hlt)).2 z2
    rw [if_neg (by omega), he]
 k_extra "q"
theorem here_none {x d : Str} {c0 : Nat} {rs : List (Str × Str × Str)} (hd : dOK d c0) (hrow : ∀ q ∈ rs, ∃ s, RowAt d c0 q s) :
    ∃ K, mEnd (Txt.slice (hereT x d rs) none (some (-1)) ++ Str.ofString "Tz") (Str.ofString "EOT") x.length K x.length = some (.error whyE) := by
 k_with "w" =>
  revert x d c0 rs hd hrow
  (k_extra "n4"); generalize p4_1 T9 = x, p4_2 T9 = d, p4_3 T9 = c0, p4_4 T9 = rs; clear T9
  intro hd hrow
  have hT := hereT_L x d rs
  have hTl : (hereT x d rs).length = x.length + (rowsL rs).length + d.length + 3 := by
    rw [← L_len, hT]; simp only [List.length_append, L_len, List.length_cons, List.length_nil]; omega
  have hX : L (Txt.slice (hereT x d rs) none (some (-1)) ++ Str.ofString "Tz") = L x ++ (rowsL rs ++ (L d ++ [69, 79, 84, 122])) := by
    have e : L x ++ (rowsL rs ++ (L d ++ [69, 79, 84])) = (L x ++ (rowsL rs ++ (L d ++ [69, 79]))) ++ [84] := by simp
    rw [L_app, slice_neg _ (by decide) (by rw [hTl]; omega), hT, e, show (hereT x d rs).length - (1 : Int).toNat = (L x ++ (rowsL rs ++ (L d ++ [69, 79]))).length by
      rw [hTl]; simp only [List.length_append, L_len, List.length_cons, List.length_nil]; have : (1 : Int).toNat = 1 := rfl; omega, List.take_left, show L (Str.ofString "Tz") = [84, 122] by decide]
    simp
  generalize Txt.slice (hereT x d rs) none (some (-1)) ++ Str.ofString "Tz" = X at hX
  have hXl := congrArg List.length hX
  simp only [List.length_append, L_len, List.length_cons, List.length_nil] at hXl
  have e0 := sfx_of hX
  rw [L_len] at e0
  have e1 := sfx_at e0
  refine ⟨2 + rs.length, ?_⟩
  rw [end_rows rs x.length 2 hrow e0]
  have hbl : ∀ c ∈ L d, bl c = true := fun c hc => by rw [dOK_mem hd c hc]; rcases hd.2 with h | h <;> rw [h] <;> rfl
  refine end_none (k := 0) (by omega) ?_ ?_
  · rw [e1]
    intro h
    rcases List.mem_append.mp h with h | h
    · exact absurd (hbl _ h) (by decide)
    · exact absurd h (by decide)
  · rw [e1]
    unfold EndFine
    rw [dw_all hbl]
    intro _; rfl
 k_extra "q"
theorem here_ok (p n : Int) : HereOK p n := by
 k_with "w" =>
  revert p n
  (k_extra "n2"); generalize p2_1 T9 = p, p2_2 T9 = n; clear T9
  unfold HereOK
  (k_extra "n4"); generalize p4_1 T9 = x, p4_2 T9 = b, p4_3 T9 = i, p4_4 T9 = d; clear T9
  intro hh hi
  obtain ⟨c0, hd, hocc⟩ := ind_dOK hi
  have z1 := Int.fmod_nonneg_of_pos (0 + p.fmod 4) (by decide : (0 : Int) < 4)
  have z2 := Int.fmod_lt_of_pos (0 + p.fmod 4) (by decide : (0 : Int) < 4)
  obtain ⟨hie, hxl, hxc, hhead⟩ := head_four (k := (((0 : Int) + p.fmod 4).fmod 4).toNat) (by omega) hh
  subst hie
  have hrow := mRowL_at hd (toldL.take (((4 : Int) + ((p.fdiv 4).fdiv 4).fmod 5).fmod 5 - 0).toNat) (((p.fdiv 4).fdiv 4).fdiv 5)
  have hbd := mRowL_bd hi (toldL.take (((4 : Int) + ((p.fdiv 4).fdiv 4).fmod 5).fmod 5 - 0).toNat) (((p.fdiv 4).fdiv 4).fdiv 5) (fun ns h => toldL_bd ns (List.mem_of_mem_take h))
  have hlen := mRowL_len d (toldL.take (((4 : Int) + ((p.fdiv 4).fdiv 4).fmod 5).fmod 5 - 0).toNat) (((p.fdiv 4).fdiv 4).fdiv 5)
  rw [List.length_take] at hlen
  generalize mRowL d (((p.fdiv 4).fdiv 4).fdiv 5) (toldL.take (((4 : Int) + ((p.fdiv 4).fdiv 4).fmod 5).fmod 5 - 0).toNat) = rs at *
  revert rs hrow hbd hlen
  (k_extra "n1"); generalize c1 _ _ = rs
  intro hrow hbd hlen
  have hl4 : rs.length ≤ 4 := by rw [hlen]; exact Nat.le_trans (Nat.min_le_right _ _) (by decide)
  have hB := hereB_le rs hl4 hbd
  have hT := hereT_L x d rs
  have hTl : (hereT x d rs).length = x.length + (rowsL rs).length + d.length + 3 := by
    rw [← L_len, hT]; simp only [List.length_append, L_len, List.length_cons, List.length_nil]; omega
  have hbl : ∀ c ∈ L d, c = 32 ∨ c = 9 := fun c hc => by rw [dOK_mem hd c hc]; exact hd.2
  obtain ⟨r256, rgd⟩ := rowsL_256 rs hrow
  have g1 : mHead (Str.ofString "x" ++ hereT x d rs) 1 = some (Str.ofString "EOT", b, (x.length : Int) + 1) := by
    have e : sfx (Str.ofString "x" ++ hereT x d rs) ((1 : Nat) : Int) = L x ++ (rowsL rs ++ (L d ++ [69, 79, 84])) := by
      unfold sfx; rw [L_app, hT, show L (Str.ofString "x") = [120] by decide]; rfl
    have := hhead e
    rw [show ((1 : Nat) : Int) + (x.length : Int) = (x.length : Int) + 1 by omega] at this
    exact this
  have g2 : mHead (hereT x d rs) 0 = some (Str.ofString "EOT", b, (x.length : Int)) := by
    have e : sfx (hereT x d rs) ((0 : Nat) : Int) = L x ++ (rowsL rs ++ (L d ++ [69, 79, 84])) := by unfold sfx; rw [hT]; rfl
    have := hhead e
    rw [show ((0 : Nat) : Int) + (x.length : Int) = (x.length : Int) by omega] at this
    exact this
  have g3 := here_end (x := x) hd hocc hrow
  have g4 := here_none (x := x) hd hrow
  have hX : L (hereT x d rs ++ Str.ofString ";") = L x ++ (rowsL rs ++ (L d ++ [69, 79, 84, 59])) := by
    rw [L_app, hT, show L (Str.ofString ";") = [59] by decide]; simp
  have e0 := sfx_of hX
  rw [L_len] at e0
  cases b with
  | true =>
    obtain ⟨R, a1, a2, a3⟩ := raw_all hi hd rs x.length (n + 1) hrow hl4 hB e0
    exact ⟨2000, R, ⟨g1, g2, g3, g4, a1, by decide, a2, fun _ => a3, (fun h => nomatch h)⟩⟩
  | false =>
    have h256 : ∀ c ∈ L (hereT x d rs ++ Str.ofString ";"), c < 256 := by
      rw [hX]
      intro c hc
      rcases List.mem_append.mp hc with hc | hc
      · exact (hxc c hc).1
      · rcases List.mem_append.mp hc with hc | hc
        · exact (r256 c hc).1
        · rcases List.mem_append.mp hc with hc | hc
          · rcases hbl c hc with rfl | rfl <;> decide
          · exact (by decide : ∀ c ∈ [69, 79, 84, 59], c < 256) c hc
    have hg : good (L (hereT x d rs ++ Str.ofString ";")) = true := by
      rw [hX]
      exact (gd_app (fun c hc => (hxc c hc).2) (rgd _ (gd_app (fun c hc => by rcases hbl c hc with rfl | rfl <;> decide) (gd_app (u := [69, 79, 84, 59]) (l := []) (by decide) gd_nil)))).1
    have hdol := dollars hg
    have fin : ∀ R K, K ≤ 65536 → loopFrom (hereT x d rs ++ Str.ofString ";") d ((x.length : Int) + (hereB rs).length) K (n + 1) [] [] (passOr (hereT x d rs ++ Str.ofString ";") d ((x.length : Int) + (hereB rs).length) x.length) = some (dueAt ((x.length : Int) + (hereB rs).length) R) → mDue false 2000 rs (n + 1) [] = some R →
        (∀ qs, R = .ok qs → GPs (mFin qs) ∧ (qs = [] ∨ ∃ ts y, qs = ts ++ [.text y])) → (∀ y m, R = .error (y, m) → gS y) → ∃ K R, HereAt x d false x.length rs n K R := by
      intro R K hK b1 b2 b3 b4
      refine ⟨2000, R, ⟨g1, g2, g3, g4, b2, by decide, fun ps h => (b3 ps h).2, (fun h => nomatch h), fun _ => ⟨K, hK, ?_, ?_, hdol⟩⟩⟩
      · rw [← b1]
        unfold passOr loopFrom
        rfl
      · cases hR : R with
        | error e =>
          obtain ⟨y, m⟩ := e
          exact flat_refused (b4 y m hR)
        | ok qs =>
          exact .tuple _ ((fmc (.str _ (by decide +kernel)) ((fmc (flat_parts (n := 0) (b3 qs hR).1) ((fmc (.int _) (List.forall_mem_nil _)))))))
    by_cases hne : rs = []
    · subst hne
      refine fin (.ok []) 1 (by decide) ?_ (mDue_nil _ _ _ _) (fun qs h => by cases h; exact ⟨(fun _ h => nomatch h), .inl rfl⟩) (fun _ _ h => nomatch h)
      rw [passOr_eq, pass_stop _ (by rw [hereB_nil]; omega), hereB_nil]
      dsimp only [loopFrom]
      rw [mLoop_succ, bfI_eq (by omega)]
      show some (Except.ok (([] : List Part), (x.length : Int)) : Except (Str × Int) (List Part × Int)) = some (Except.ok (([] : List Part), (x.length : Int) + ((0 : Nat) : Int)))
      rw [show (x.length : Int) + ((0 : Nat) : Int) = (x.length : Int) by omega]
    · have hb := hereB_len rs hne
      obtain ⟨R, a1, a2, a3, a4⟩ := parts_run (st := (x.length : Int) + (hereB rs).length) hd (whyL_g hi) h256 rs x.length 2000 (n + 1) [] [] hne (fun q hq => ⟨hrow q hq, Nat.le_trans (hbd q hq).1 (by decide)⟩) e0 (by omega) (by intro z; simp) (fun _ h => nomatch h) (fun _ h => nomatch h) (by omega)
      exact fin R 2000 (by decide) a1 a2 (fun qs h => ⟨(a3 qs h).1, .inr (a3 qs h).2⟩) a4
 k_extra "q"
end
section
open PySem.Builtin.Str
theorem heads_ok : ∀ q ∈ mHeads, mHead q.1 0 = q.2 := by decide +kernel
theorem heads_len : ∀ q ∈ mHeads, q.1.length ≤ 65536 := by decide +kernel
theorem heads_eot : ∀ q ∈ mHeads, (match q.2 with | none => true | some (l, _, _) => l == Str.ofString "EOT") = true := by decide +kernel
theorem heads_flat : ∀ q ∈ mHeads, Flat 2 (dHead q.2) := by
  intro q hq
  have := heads_eot q hq
  obtain ⟨x, y⟩ := q
  cases y with
  | none => exact .none
  | some p =>
    obtain ⟨l, b, i⟩ := p
    have e : l = Str.ofString "EOT" := eq_of_beq this
    subst e
    exact flat_head b i
theorem mix_end : mEnd (Str.ofString "a\n \tEOT") (Str.ofString "EOT") 0 2 0 = some (.error whyM) := by
 k_with "w" =>
  have hs : sfx (Str.ofString "a\n \tEOT") ((0 : Nat) : Int) = [97] ++ 10 :: [32, 9, 69, 79, 84] := by decide +kernel
  have h1 := end_skip (i := 0) (k := 1) hs (by decide) (by unfold EndFine; intro h; exact absurd h (by decide))
  have h2 : mEnd (Str.ofString "a\n \tEOT") (Str.ofString "EOT") 0 2 0 = _ := h1
  rw [h2]
  have e : ((0 + [97].length + 1 : Nat) : Int) = 2 := rfl
  rw [e, mEnd, if_pos (by decide +kernel), if_pos (by decide +kernel), if_pos (by decide +kernel)]
 k_extra "q"
end
theorem turn_nil {h₀ g h : Heap} {L : Addr} {m : Str → Option Value} {nw : List (Addr × Obj)} (T : KtsTurn [] h₀ g) (F : Fr g L h m) (N : News g L h nw) : Fr h₀ L h m ∧ News h₀ L h nw := by
  refine ⟨⟨F.ns, fun b o e => F.keep b o (T.other b o e (fun q => nomatch q)), by rw [← T.size]; exact F.above⟩, fun p hp => ⟨(N p hp).1, (N p hp).2.1, ?_⟩⟩
  cases e : h₀.get? p.1 with
  | none => rfl
  | some o =>
    have := (N p hp).2.2
    rw [T.other _ _ e (fun q => nomatch q)] at this; cases this
section
variable {prog : Program} {w : World} {A : Around} {E : Value → Shared → Prop} {s : Shared} {h₀ : Heap} {L l : Addr} {m : Str → Option Value} {news : List (Addr × Obj)} {value slice : PySem.Expr} {vs ops : List Value} {n : Nat} {Q : Value → Shared → Prop}
theorem slice_odd {H : Heap} {tk : Nat} {t1 t2 : Tok} (F : Fr h₀ L H m) (N : News h₀ L H news) (hl : (l, W.listOf vs.toArray n) ∈ news)
    (h : ∀ D h', Fr h₀ L h' m → News h₀ L h' ((D, W.listOf (slicePick vs.toArray (some 1) none (some 2)) 0) :: news) → Q (.ref D) { s with heap := h', toks := tk })
    (hs : subscripted slice false (.ref l) (.ref H.objs.size) = operate ops (getItem (.ref l) (.ref H.objs.size))) (ht : ∀ r, letTemporaryGo value (.ref l) r = pure ()) (hz : vs.length ≤ 1048576) :
    wpAny (model prog w) A (subscriptTail value slice (.ref l) (.ref H.objs.size)) Q E { s with heap := H.push { cls := .type "slice", data := .fields #[.int 1 t1, .none, .int 2 t2] }, toks := tk } :=
  slice_list3 (s := { s with heap := H, toks := tk }) F N (News.isList N hl) (.int _ _) .none (.int _ _) (by decide) (fun h' F' N' => h _ h' F' N') hs ht (by rw [List.size_toArray, sizeLine_eq]; omega)
end
theorem listE {α : Type} (l : List α) : l = [] ∨ ∃ a r, l = a :: r := by
  match l with
  | [] => exact .inl rfl
  | a :: r => exact .inr ⟨a, r, rfl⟩
theorem post_wp {α : Type} {M : Model} {A : Around} {c : Sem α} {Q R : α → Shared → Prop} {E : Value → Shared → Prop} {s : Shared} (p : Post Q R) (h : wpAny M A c Q E s) : wpAny M A c R E s := wpAny_mono h p.go fun _ _ x => x
theorem hex_less {md : Str} {rest : Int} (h : 0 < rest ∨ 0 ≤ rest ∧ md = Str.ofString "") : (rest.fdiv 16).toNat + (if (Txt.item (Str.ofString "0123456789aBcDeF") (rest.fmod 16) ++ md).length = 0 then 1 else 0) < rest.toNat + (if md.length = 0 then 1 else 0) := by
  have hl : (Txt.item (Str.ofString "0123456789aBcDeF") (rest.fmod 16) ++ md).length = 1 + md.length := by rw [Str.length_append]; rfl
  have hd : rest.fdiv 16 = rest / 16 := Int.fdiv_eq_ediv_of_nonneg _ (by decide)
  rw [hl, hd, if_neg (by omega)]
  rcases h with h | ⟨h, rfl⟩
  · split <;> omega
  · rw [if_pos (show (Str.ofString "").length = 0 by decide)]; omega
theorem law_holds : PySem.Challenge.rw_pq0846_01.Holds := hd (by
  k_go0
  all_goals try (k_extra "kf")
  repeat' (first | (k_extra "ka") | (k_extra "kb") | ((fail_if_success k_end); (k_extra "z16"); (k_extra "kc")))
  expose_names
  change Below callerA s₁.heap [] s₁.heap at K0
  revert w s₀ s₁ mg mb G Y fa o pm doc kV ho hg KX X V GL T B TE TW w_1 w_2 M w_3 w_4 hcd w_5 hs hlay0 hL hr hl2 w_6 w_7 w_8 w_9 w_10 hL_1 ra w1 r0 hI hr_1 hcond' hcond'_1 hD h₁ D' ws' h' hI' hC' hL' l1 h'_1 F' N' tk K0
  with_reducible refine no_implicit_lambda% (all1 ne_w ?_); generalize c1 _ _ = w
  with_reducible refine no_implicit_lambda% (all1 ne_s ?_); generalize c1 _ _ = s₀
  with_reducible refine no_implicit_lambda% (all1 ne_s ?_); generalize c1 _ _ = s₁
  (k_extra "n2"); generalize p2_1 T9 = mg, p2_2 T9 = mb; clear T9
  intro G Y
  (k_extra "n5"); generalize p5_1 T9 = fa, p5_2 T9 = o, p5_3 T9 = pm, p5_4 T9 = doc, p5_5 T9 = kV; clear T9
  intro ho hg KX X V GL T B TE TW
  (k_extra "n2"); generalize p2_1 T9 = w_1, p2_2 T9 = w_2; clear T9
  intro M
  (k_extra "n2"); generalize p2_1 T9 = w_3, p2_2 T9 = w_4; clear T9
  intro hcd
  (k_extra "n1"); generalize c1 _ _ = w_5
  intro hs hlay0 hL hr hl2
  (k_extra "n5"); generalize p5_1 T9 = w_6, p5_2 T9 = w_7, p5_3 T9 = w_8, p5_4 T9 = w_9, p5_5 T9 = w_10; clear T9
  intro hL_1 ra w1 r0 hI hr_1 hcond' hcond'_1 hD
  (k_extra "n4"); generalize p4_1 T9 = h₁, p4_2 T9 = D', p4_3 T9 = ws', p4_4 T9 = h'; clear T9
  intro hI' hC' hL' l1
  (k_extra "n1"); generalize c1 _ _ = h'_1
  intro F' N'
  (k_extra "n1"); generalize c1 _ _ = tk
  intro K0
  (with_reducible rename IntsAre _ (List.take 63 _) => hI1)
  refine LSm.sum_ints (by k_asm) (by k_asm) rfl ⟨_, (N' _ List.mem_cons_self).1, rfl, _, rfl⟩ hI1 ?_
  (first | ((try dsimp only); (k_extra "h3"); generalize p3_1 T9 = h1, p3_2 T9 = tk1, p3_3 T9 = t1; clear T9; intro F1 N1) | intro h1 tk1 t1 F1 N1)
  clear F' N'
  repeat' (first | (k_extra "ka") | (k_extra "kb") | ((fail_if_success k_end); (k_extra "z16"); (k_extra "kc")))
  have hI2 := hI1.pick none none (some 2)
  (with_reducible rename Fr _ _ _ _ => F2)
  (with_reducible rename News _ _ _ (_ :: _) => N2)
  refine LSm.sum_ints (by k_asm) (by k_asm) rfl ⟨_, (N2 _ List.mem_cons_self).1, rfl, _, rfl⟩ hI2 ?_
  (first | ((try dsimp only); (k_extra "h3"); generalize p3_1 T9 = h2, p3_2 T9 = tk2, p3_3 T9 = t2; clear T9; intro F3 N3) | intro h2 tk2 t2 F3 N3)
  clear F2 N2
  generalize (pickNums (List.take 63 w_5) none none (some 2)).sum = P at *
  generalize hnn : (1 + (List.take 63 w_5).sum.fmod 9) = nn at *
  repeat' (first | (k_extra "ka") | (k_extra "kb") | ((fail_if_success k_end); (k_extra "z11"); (k_extra "kc")))
  (with_reducible rename News _ _ _ (_ :: _) => N4)
  (with_reducible rename Fr _ _ _ _ => F4)
  have N5 := cb_drop (news := (_, W.listOf #[Value.int P t2] 0) :: (_, W.listOf #[_, _, _, _, _, _, _, _, _, _, _, _, _, _, _] 0) :: [(_, W.listOf ws'.toArray 0)]) N4 (by (k_extra "wh mem"))
  clear N4
  expose_names
  refine drawn_c (by k_asm) (by k_asm) (by k_asm) N5 (by k_asm) (by first | exact rfl | assumption) (by decide) (by decide) ((fmc (Nat.ne_of_gt (by first | exact l1_2.1 | assumption)) ((fmc (Nat.ne_of_lt (by first | exact l1_1.2 | assumption)) (List.forall_mem_nil _))))) (by omega) ?_
  (first | ((try dsimp only); (k_extra "h4"); generalize p4_1 T9 = q1, p4_2 T9 = kp1, p4_3 T9 = h1, p4_4 T9 = tk1; clear T9; intro F1 N1) | intro q1 kp1 h1 tk1 F1 N1)
  (try k_unfold)
  (try dsimp only)
  (try (k_extra "kf"))
  repeat' (first | (k_extra "ka") | (k_extra "kb") | ((fail_if_success k_end); (fail_if_success (with_reducible show wpAny _ _ (call (Value.ref 336) _) _ _ _)); (k_extra "kc")))
  (with_reducible rename News _ _ _ (_ :: _) => N6)
  (with_reducible rename IntsAre _ (List.take _ [_, _, _, _, _, _, _, _, _, _, _, _, _, _, _]) => hI3)
  (with_reducible rename @LT.lt Nat _ l' _ ∧ _ => l1_3)
  rename_i D7 w7 h7 F7 hC7 hL7
  clear hC7 hL7
  revert D7 w7 h7 F7 N6 hI3 l1_3
  (k_extra "n3"); generalize p3_1 T9 = D7, p3_2 T9 = w7, p3_3 T9 = h7; clear T9
  intro F7 N6 hI3 l1_3
  have N7 := cb_drop (news := (_, W.listOf #[Value.int (P.fdiv 16) kp1] 0) :: (_, W.listOf _ 0) :: [(_, W.listOf ws'.toArray 0)]) N6 ((fmc (List.mem_cons_of_mem _ List.mem_cons_self) ((fmc (List.mem_cons_self) ((fmc (List.mem_cons_of_mem _ (List.mem_cons_of_mem _ (List.mem_cons_of_mem _ List.mem_cons_self))) (List.forall_mem_nil _)))))))
  clear N6
  generalize hd15 : (15 - (0 + P.fmod 16).fmod 16) = d15 at *
  refine text_c (by k_asm) (by k_asm) (by k_asm) N7 (by k_asm) (by first | exact rfl | assumption) (by decide) (by decide) (Nat.ne_of_gt l1_3.1) ((fmc (Nat.ne_of_lt l1_1.2) (List.forall_mem_nil _))) (by omega) hI3 (by rw [List.length_take]; exact Nat.le_trans (Nat.min_le_right _ _) (by decide)) ?_
  (first | ((try dsimp only); (k_extra "h4"); generalize p4_1 T9 = tt, p4_2 T9 = kp2, p4_3 T9 = h4, p4_4 T9 = tk4; clear T9; intro F7 N8) | intro tt kp2 h4 tk4 F7 N8)
  (try k_unfold)
  (try dsimp only)
  (try (k_extra "kf"))
  clear N7
  repeat' (first | (k_extra "ka") | (k_extra "kb") | ((fail_if_success k_end); (k_extra "z7"); (k_extra "kc")))
  (with_reducible rename News _ _ _ (_ :: _) => N9)
  (with_reducible rename Fr _ _ _ _ => F9)
  expose_names
  rw [show [P].getD (Int.toNat 0) 0 = P from rfl] at F9
  have z1 := Int.fmod_nonneg_of_pos (2048 + P) (by decide : (0 : Int) < 1400000)
  have z2 := Int.fmod_lt_of_pos (2048 + P) (by decide : (0 : Int) < 1400000)
  generalize (2048 + P).fmod 1400000 = point at *
  have hTXl : (mText 27 (P.fdiv 16) (List.take d15.toNat [1, 2, 21, 6, 15, 1, 9, 8, 1, 12, 17, 26, 1, 16, 17])).length ≤ 180 := Nat.le_trans (text_le _ _ _) (by rw [List.length_take]; exact Nat.le_trans (Nat.mul_le_mul_left 9 (Nat.min_le_right _ _)) (by decide))
  have hOK1 := text1_ok (P.fdiv 16) (List.take d15.toNat [1, 2, 21, 6, 15, 1, 9, 8, 1, 12, 17, 26, 1, 16, 17]) nn (by rw [List.length_take]; exact Nat.le_trans (Nat.min_le_right _ _) (by decide))
  have hOK2 := fun md h1 h2 => text2_ok (P.fdiv 16) (List.take d15.toNat [1, 2, 21, 6, 15, 1, 9, 8, 1, 12, 17, 26, 1, 16, 17]) nn (by rw [List.length_take]; exact Nat.le_trans (Nat.min_le_right _ _) (by decide)) md h1 h2
  have hOK3 := text3_ok (P.fdiv 16) (List.take d15.toNat [1, 2, 21, 6, 15, 1, 9, 8, 1, 12, 17, 26, 1, 16, 17]) nn (by rw [List.length_take]; exact Nat.le_trans (Nat.min_le_right _ _) (by decide))
  generalize htx : mText 27 (P.fdiv 16) (List.take d15.toNat [1, 2, 21, 6, 15, 1, 9, 8, 1, 12, 17, 26, 1, 16, 17]) = TX at *
  have N10 := cb_drop (news := [(D', W.listOf ws'.toArray 0)]) N9 (by (k_extra "wh mem"))
  clear N9
  have hk0 : IntsAre ws' (List.take 63 w_5) := hI1
  clear hI3
  refine ksw_while (fun c : (Str × Tok) × (Int × Tok) => [(D', W.listOf ws'.toArray 0)]) (fun c => [(Str.ofString "made", .str c.1.1 c.1.2), (Str.ofString "rest", .int c.2.1 c.2.2)]) (fun _ => True) [] (fun c => HexInv c.1.1 c.2.1) (fun c => (c.2.1.toNat + (if c.1.1.length = 0 then 1 else 0))) ((_, _), (point, _)) (by k_asm) N10 trivial (by (k_extra "wh keep")) (hex_start z1 z2) ?_
  clear F9 N10
  (try dsimp only); with_reducible refine (all_oxxcxx inferInstance ?_); generalize c4 _ _ = T9; generalize p4_1 T9 = md, p4_2 T9 = tmd, p4_3 T9 = rest, p4_4 T9 = trest; clear T9; (k_extra "h3"); generalize p3_1 T9 = u', p3_2 T9 = h', p3_3 T9 = tk'; clear T9; intro _ I' F' N'; (try dsimp only at I' F' N' ⊢)
  have hr0 := I'.h0
  have hr1 := I'.h2
  repeat' (first | (k_extra "ka") | (k_extra "kb") | ((fail_if_success k_end); (k_extra "sA"); (k_extra "sF"); (k_extra "kc")))
  · repeat' (first | (k_extra "ka") | (k_extra "kb") | ((fail_if_success k_end); (k_extra "kc")))
    refine ksw_end ((_, _), (_, _)) (by k_asm) (by k_asm) (by (k_extra "wh mem")) trivial (by (try dsimp only); (k_extra "wh keep")) (by (k_extra "wh same")) ?_ ?_
    · exact hex_step I' (.inl (by assumption))
    · exact hex_less (.inl (by assumption))
  · have hmd := eq_of_beq (by assumption : (md == Str.ofString "") = true)
    repeat' (first | (k_extra "ka") | (k_extra "kb") | ((fail_if_success k_end); (k_extra "kc")))
    refine ksw_end ((_, _), (_, _)) (by k_asm) (by k_asm) (by (k_extra "wh mem")) trivial (by (try dsimp only); (k_extra "wh keep")) (by (k_extra "wh same")) ?_ ?_
    · exact hex_step I' (.inr hmd)
    · exact hex_less (.inr ⟨hr0, hmd⟩)
  replace hOK2 := hOK2 md I'.sg (by omega)
  have hl3 : (Str.ofString "\\u{").length = 3 := by decide
  have hl1 : (Str.ofString "}").length = 1 := by decide
  have hl2 : (Str.ofString "\\").length = 1 := by decide
  expose_names
  as_aux_lemma =>
  clear M hcd hs hlay0 hL hr hl2_1 hL_1 ra w1 r0 hI hr_1 hcond' hcond'_1 hI1 hL' l1 hI2 hnn l1_1 l1_2 hqk l1_3 hd15 hqk_1 l1_4 z1 z2 htx h I' hr0 h_1 h_2
  revert hl2; revert hl1; revert hl3; revert hOK2; revert hr1; revert N'; revert F'; revert hk0; revert hOK3; revert hOK1; revert hTXl; revert K0; revert hC'; revert hD; revert TW; revert TE; revert B; revert T; revert GL; revert V; revert X; revert KX; revert hg; revert ho; revert Y; revert G
  revert tk; revert h'; revert u'; revert trest; revert rest; revert tmd; revert md; revert TX; revert point; revert tk_6; revert tt; revert l'_1; revert tk_3; revert l'; revert nn; revert tk1_1; revert ws'; revert D'; revert w_8; revert w_5; revert w_3; revert kV; revert o; revert fa; revert mb; revert mg; revert s₁; revert s₀; revert w
  with_reducible refine no_implicit_lambda% (all1 ne_w ?_); generalize c1 _ _ = w
  with_reducible refine no_implicit_lambda% (all1 ne_s ?_); generalize c1 _ _ = s₀
  with_reducible refine no_implicit_lambda% (all1 ne_s ?_); generalize c1 _ _ = s₁
  (k_extra "n11"); generalize p11_1 T9 = mg, p11_2 T9 = mb, p11_3 T9 = fa, p11_4 T9 = o, p11_5 T9 = kV, p11_6 T9 = w_3, p11_7 T9 = w_5, p11_8 T9 = w_8, p11_9 T9 = D', p11_10 T9 = ws', p11_11 T9 = tk1_1; clear T9
  (k_extra "n11"); generalize p11_1 T9 = nn, p11_2 T9 = l', p11_3 T9 = tk_3, p11_4 T9 = l'_1, p11_5 T9 = tt, p11_6 T9 = tk_6, p11_7 T9 = point, p11_8 T9 = TX, p11_9 T9 = md, p11_10 T9 = tmd, p11_11 T9 = rest; clear T9
  (k_extra "n4"); generalize p4_1 T9 = trest, p4_2 T9 = u', p4_3 T9 = h', p4_4 T9 = tk; clear T9
  intro G Y ho hg KX X V GL T B TE TW hD hC' K0 hTXl hOK1 hOK3 hk0 F' N' hr1 hOK2 hl3 hl1 hl2
  have hDD : KtsDicts (([] : List Env).filterMap (·.frame)) s₁.heap := fun _ h => nomatch h
  repeat' (first | (k_extra "ka") | (k_extra "kb") | ((fail_if_success k_end); (k_extra "z17"); (k_extra "kc")))
  refine escright_c (by k_asm) (by k_asm) (by k_asm) (by k_asm) (by k_asm) (by first | exact rfl | assumption) (by k_extra "a") (by k_extra "a") hDD (by decide) (by decide) (Nat.le_trans hOK1.len (by decide)) hOK1.esc ?_
  (first | ((try dsimp only); (k_extra "h3"); generalize p3_1 T9 = g1e, p3_2 T9 = h1e, p3_3 T9 = tk1e; clear T9; intro T1e B1e X1e P1e D1e F1e N1e) | intro g1e h1e tk1e T1e B1e X1e P1e D1e F1e N1e)
  obtain ⟨FF1e, NN1e⟩ := turn_nil T1e F1e N1e
  clear F1e N1e T1e B1e X1e P1e D1e
  (try k_unfold)
  (try dsimp only)
  (try (k_extra "kf"))
  repeat' (first | (k_extra "ka") | (k_extra "kb") | ((fail_if_success k_end); (k_extra "z18"); (k_extra "kc")))
  refine quotright_c (by k_asm) (by k_asm) (by k_asm) (by k_asm) (by k_asm) (by first | exact rfl | assumption) (by k_extra "a") (by k_extra "a") hDD (by decide) (by decide) hOK1.len hOK1.p1 hOK1.p2 hOK1.s3 hOK1.s4 ?_
  (first | ((try dsimp only); (k_extra "h3"); generalize p3_1 T9 = g1q, p3_2 T9 = h1q, p3_3 T9 = tk1q; clear T9; intro T1q B1q X1q P1q D1q F1q N1q) | intro g1q h1q tk1q T1q B1q X1q P1q D1q F1q N1q)
  obtain ⟨FF1q, NN1q⟩ := turn_nil T1q F1q N1q
  clear F1q N1q T1q B1q X1q P1q D1q
  (try k_unfold)
  (try dsimp only)
  (try (k_extra "kf"))
  repeat' (first | (k_extra "ka") | (k_extra "kb") | ((fail_if_success k_end); (k_extra "z17"); (k_extra "kc")))
  refine escright_c (by k_asm) (by k_asm) (by k_asm) (by k_asm) (by k_asm) (by first | exact rfl | assumption) (by k_extra "a") (by k_extra "a") hDD (by decide) (by decide) (Nat.le_trans hOK2.len (by decide)) hOK2.esc ?_
  (first | ((try dsimp only); (k_extra "h3"); generalize p3_1 T9 = g2e, p3_2 T9 = h2e, p3_3 T9 = tk2e; clear T9; intro T2e B2e X2e P2e D2e F2e N2e) | intro g2e h2e tk2e T2e B2e X2e P2e D2e F2e N2e)
  obtain ⟨FF2e, NN2e⟩ := turn_nil T2e F2e N2e
  clear F2e N2e T2e B2e X2e P2e D2e
  (try k_unfold)
  (try dsimp only)
  (try (k_extra "kf"))
  repeat' (first | (k_extra "ka") | (k_extra "kb") | ((fail_if_success k_end); (k_extra "z18"); (k_extra "kc")))
  refine quotright_c (by k_asm) (by k_asm) (by k_asm) (by k_asm) (by k_asm) (by first | exact rfl | assumption) (by k_extra "a") (by k_extra "a") hDD (by decide) (by decide) hOK2.len hOK2.p1 hOK2.p2 hOK2.s3 hOK2.s4 ?_
  (first | ((try dsimp only); (k_extra "h3"); generalize p3_1 T9 = g2q, p3_2 T9 = h2q, p3_3 T9 = tk2q; clear T9; intro T2q B2q X2q P2q D2q F2q N2q) | intro g2q h2q tk2q T2q B2q X2q P2q D2q F2q N2q)
  obtain ⟨FF2q, NN2q⟩ := turn_nil T2q F2q N2q
  clear F2q N2q T2q B2q X2q P2q D2q
  (try k_unfold)
  (try dsimp only)
  (try (k_extra "kf"))
  repeat' (first | (k_extra "ka") | (k_extra "kb") | ((fail_if_success k_end); (k_extra "z17"); (k_extra "kc")))
  refine escright_c (by k_asm) (by k_asm) (by k_asm) (by k_asm) (by k_asm) (by first | exact rfl | assumption) (by k_extra "a") (by k_extra "a") hDD (by decide) (by decide) (Nat.le_trans hOK3.len (by decide)) hOK3.esc ?_
  (first | ((try dsimp only); (k_extra "h3"); generalize p3_1 T9 = g3e, p3_2 T9 = h3e, p3_3 T9 = tk3e; clear T9; intro T3e B3e X3e P3e D3e F3e N3e) | intro g3e h3e tk3e T3e B3e X3e P3e D3e F3e N3e)
  obtain ⟨FF3e, NN3e⟩ := turn_nil T3e F3e N3e
  clear F3e N3e T3e B3e X3e P3e D3e
  (try k_unfold)
  (try dsimp only)
  (try (k_extra "kf"))
  repeat' (first | (k_extra "ka") | (k_extra "kb") | ((fail_if_success k_end); (k_extra "z18"); (k_extra "kc")))
  refine quotright_c (by k_asm) (by k_asm) (by k_asm) (by k_asm) (by k_asm) (by first | exact rfl | assumption) (by k_extra "a") (by k_extra "a") hDD (by decide) (by decide) hOK3.len hOK3.p1 hOK3.p2 hOK3.s3 hOK3.s4 ?_
  (first | ((try dsimp only); (k_extra "h3"); generalize p3_1 T9 = g3q, p3_2 T9 = h3q, p3_3 T9 = tk3q; clear T9; intro T3q B3q X3q P3q D3q F3q N3q) | intro g3q h3q tk3q T3q B3q X3q P3q D3q F3q N3q)
  obtain ⟨FF3q, NN3q⟩ := turn_nil T3q F3q N3q
  clear F3q N3q T3q B3q X3q P3q D3q
  (try k_unfold)
  (try dsimp only)
  (try (k_extra "kf"))
  repeat' (first | (k_extra "ka") | (k_extra "kb") | ((fail_if_success k_end); (k_extra "sF"); (k_extra "kc")))
  (with_reducible rename News _ _ _ (_ :: _) => N30)
  have N31 := cb_drop (news := [(D', W.listOf ws'.toArray 0)]) N30 (by (k_extra "wh mem"))
  clear N30
  refine For_turns (by k_asm) ?_
  repeat' (first | (k_extra "ka") | (k_extra "kb") | ((fail_if_success k_end); (fail_if_success (with_reducible show wpAny _ _ (callWith _ _ _ _ _) _ _ _)); (k_extra "kc")))
  k_dflt (refine' callWith_K0 ?q1 ?q2 ?_; (case q1 => exact Frag.In.keeps KX (Fr.keep (by k_asm))); (case q2 => k_is); k_whole)
  repeat' (first | (k_extra "ka") | (k_extra "kb") | ((fail_if_success k_end); (fail_if_success (with_reducible show wpAny _ _ (call (Value.ref 420) _) _ _ _)); (k_extra "kc")))
  refine heads_c (by k_asm) (by k_asm) (by k_asm) N31 (by k_asm) (by first | exact rfl | assumption) (by decide) (by decide) ?_
  (first | ((try dsimp only); (k_extra "h4"); generalize p4_1 T9 = v20, p4_2 T9 = new20, p4_3 T9 = h20, p4_4 T9 = tk20; clear T9; intro D20 O20 F20 N20) | intro v20 new20 h20 tk20 D20 O20 F20 N20)
  clear N31
  refine exE ((datIn_list D20)) ?_; (try dsimp only); ((k_extra "h1"); generalize c1 _ _ = ha); intro hE9; refine exE hE9 ?_; clear hE9; (try dsimp only); ((k_extra "h1"); generalize c1 _ _ = hvs); intro hE9; refine exE hE9 ?_; clear hE9; (try dsimp only); ((k_extra "h1"); generalize c1 _ _ = hn20); intro hE9; obtain ⟨rfl, hmH, hAll⟩ := hE9
  (try k_unfold)
  (try dsimp only)
  (try (k_extra "kf"))
  repeat' (first | (k_extra "ka") | (k_extra "kb") | ((fail_if_success k_end); (k_extra "sP"); (k_extra "kc")))
  refine exE ((fr_map F20)) ?_; (try dsimp only); ((k_extra "h1"); generalize c1 _ _ = m0); intro hE9; obtain ⟨hm0, F21⟩ := hE9
  clear F20
  refine post_wp (by k_extra "a") ?_
  refine iter_listTurns rfl F21 N20 (List.mem_append_left _ hmH) rfl rfl ?_
  (k_extra "h1"); (try generalize c1 _ _ = I); intro hI
  refine items_ind (fun _ : Str → Option Value => new20 ++ [(D', W.listOf ws'.toArray 0)]) (fun c => c) (fun r c => ∃ qs : List (Str × Option (Str × Bool × Int)), DatAll new20 r (qs.map dHeadRow) ∧ (∀ q ∈ qs, q ∈ mHeads) ∧ ∀ z, z ≠ Str.ofString "head" → z ≠ Str.ofString "due" → c z = m0 z) ?step ?stop hvs m0 ⟨mHeads, hAll, fun _ h => h, fun _ _ _ => rfl⟩
  case step =>
    (try dsimp only); (k_extra "h3"); generalize p3_1 T9 = v, p3_2 T9 = r, p3_3 T9 = c; clear T9; intro hJ; (try dsimp only); (k_extra "h2"); generalize p2_1 T9 = h6, p2_2 T9 = tk6; clear T9; intro F6
    refine AllObj.cons ?_; (try dsimp only); (k_extra "h1"); (generalize c1 _ _ = o6); intro ho6; refine AllObj.nil ?_; intro N6
    (try dsimp only at hJ F6 N6 ⊢)
    refine exE hJ ?_; clear hJ; (try dsimp only); ((k_extra "h1"); generalize c1 _ _ = qs1); intro hE9; obtain ⟨J1, J2, J3⟩ := hE9
    have F7 : Fr s₁.heap s₁.heap.objs.size h6 (fun y => if y = Str.ofString "head" then c y else if y = Str.ofString "due" then c y else m0 y) := by rw [canon2 J3]; exact F6
    clear F6 F21 N20
    rcases listE qs1 with hqs | hqs
    · rw [hqs] at J1; cases J1
    · refine exE hqs ?_; clear hqs; (try dsimp only); ((k_extra "h1"); generalize c1 _ _ = q); intro hE9; refine exE hE9 ?_; clear hE9; (try dsimp only); ((k_extra "h1"); generalize c1 _ _ = qs1); intro hE9; obtain rfl := hE9
      cases J1 with
      | cons hv hr =>
        have hq := J2 q List.mem_cons_self
        have hqx := heads_len q hq
        have hqe := heads_ok q hq
        refine exE ((datIn_codeT hv)) ?_; (try dsimp only); ((k_extra "h1"); generalize c1 _ _ = a6); intro hE9; refine exE hE9 ?_; clear hE9; (try dsimp only); ((k_extra "h1"); generalize c1 _ _ = q1); intro hE9; refine exE hE9 ?_; clear hE9; (try dsimp only); ((k_extra "h1"); generalize c1 _ _ = v2); intro hE9; refine exE hE9 ?_; clear hE9; (try dsimp only); ((k_extra "h1"); generalize c1 _ _ = n7); intro hE9; obtain ⟨rfl, hm6, hv2⟩ := hE9
        have N7 := cb_drop (news := (I, o6) :: (a6, tupN [Value.str q.1 q1, v2] n7) :: (new20 ++ [(D', W.listOf ws'.toArray 0)])) N6 ((fmc (List.mem_cons_self) ((fmc (by simp [hm6]) (by (k_extra "wh mem"))))))
        clear N6
        repeat' (first | (k_extra "ka") | (k_extra "kb") | ((fail_if_success k_end); (k_extra "z15"); (k_extra "kc")))
        refine head_c (by k_asm) (by k_asm) (by k_asm) (by k_asm) (by k_asm) (by first | exact rfl | assumption) (by decide) (by decide) hqx (by decide) ?_ ?_
        · (first | ((try dsimp only); (k_extra "h2"); generalize p2_1 T9 = h9, p2_2 T9 = tk9; clear T9; intro e9 F9 N9) | intro h9 tk9 e9 F9 N9)
          rw [hqe] at e9
          (try k_unfold)
          (try dsimp only)
          (try (k_extra "kf"))
          repeat' (first | (k_extra "ka") | (k_extra "kb") | ((fail_if_success k_end); (k_extra "z5"); (k_extra "kc")))
          refine dat_ne (n₁ := []) (d := dHead (none)) (e := dHead q.2) (by k_asm) (DatIn.none) (by (k_extra "wh mem")) hv2 (by (k_extra "wh mem")) (by rw [e9]) (by rw [← e9]; exact heads_flat q hq) (by decide) (by dsimp only [Around.deeper, callerA]; decide) ?_
          repeat' (first | (k_extra "ka") | (k_end; (k_extra "z0"); (k_extra "z1"); (k_extra "z2"); (k_extra "z3"); (k_extra "z4"); first | wrow_close | walk1 | (dsimp only; walk1) | (leave1; (try dsimp only))) | ((fail_if_success k_end); (k_extra "z4"); (k_extra "kc")))
          refine unr_end (new20 ++ [(D', W.listOf ws'.toArray 0)]) (by k_asm) (cb_drop (by k_asm) (by (k_extra "wh mem"))) (fun p hp q hq => by rw [List.mem_singleton.mp hq]; exact Nat.ne_of_lt (hI p hp)) ⟨And.intro (List.mem_append_left _ hmH) trivial, _, rfl, rfl, qs1, hr, fun q h => J2 q (List.mem_cons_of_mem _ h), ?_⟩
          intro z h1 h2
          show (if z = Str.ofString "due" then _ else if z = Str.ofString "head" then _ else if z = Str.ofString "head" then _ else if z = Str.ofString "due" then _ else _) = _
          rw [if_neg h2, if_neg h1, if_neg h1, if_neg h2]
        · (first | ((try dsimp only); (k_extra "h8"); generalize p8_1 T9 = y9, p8_2 T9 = b9, p8_3 T9 = j9, p8_4 T9 = r9, p8_5 T9 = k91, p8_6 T9 = k92, p8_7 T9 = h9, p8_8 T9 = tk9; clear T9; intro e9 F9 N9 o9) | intro y9 b9 j9 r9 k91 k92 h9 tk9 e9 F9 N9 o9)
          rw [hqe] at e9
          (try k_unfold)
          (try dsimp only)
          (try (k_extra "kf"))
          repeat' (first | (k_extra "ka") | (k_extra "kb") | ((fail_if_success k_end); (k_extra "z5"); (k_extra "kc")))
          refine dat_ne (n₁ := [(r9, tupObj [_, _, _])]) (d := dHead (some (y9, b9, j9))) (e := dHead q.2) (by k_asm) (DatIn.tuple List.mem_cons_self (DatAll.cons (DatIn.str _ _) (DatAll.cons (DatIn.bool _) (DatAll.cons (DatIn.int _ _) .nil)))) (by (k_extra "wh mem")) hv2 (by (k_extra "wh mem")) (by rw [e9]) (by rw [← e9]; exact heads_flat q hq) (by decide) (by dsimp only [Around.deeper, callerA]; decide) ?_
          repeat' (first | (k_extra "ka") | (k_end; (k_extra "z0"); (k_extra "z1"); (k_extra "z2"); (k_extra "z3"); (k_extra "z4"); first | wrow_close | walk1 | (dsimp only; walk1) | (leave1; (try dsimp only))) | ((fail_if_success k_end); (k_extra "z4"); (k_extra "kc")))
          refine unr_end (new20 ++ [(D', W.listOf ws'.toArray 0)]) (by k_asm) (cb_drop (by k_asm) (by (k_extra "wh mem"))) (fun p hp q hq => by rw [List.mem_singleton.mp hq]; exact Nat.ne_of_lt (hI p hp)) ⟨And.intro (List.mem_append_left _ hmH) trivial, _, rfl, rfl, qs1, hr, fun q h => J2 q (List.mem_cons_of_mem _ h), ?_⟩
          intro z h1 h2
          show (if z = Str.ofString "due" then _ else if z = Str.ofString "head" then _ else if z = Str.ofString "head" then _ else if z = Str.ofString "due" then _ else _) = _
          rw [if_neg h2, if_neg h1, if_neg h1, if_neg h2]
  case stop =>
    (try dsimp only); (k_extra "h1"); (generalize c1 _ _ = c); intro hJ; (try dsimp only); (k_extra "h2"); generalize p2_1 T9 = h6, p2_2 T9 = tk6; clear T9; intro F6 N6
    (try dsimp only at hJ F6 N6 ⊢)
    refine exE hJ ?_; clear hJ; (try dsimp only); ((k_extra "h1"); generalize c1 _ _ = qs1); intro hE9; obtain ⟨J1, J2, J3⟩ := hE9
    have F7 : Fr s₁.heap s₁.heap.objs.size h6 (fun y => if y = Str.ofString "head" then c y else if y = Str.ofString "due" then c y else m0 y) := by rw [canon2 J3]; exact F6
    have N7 := cb_drop (news := [(D', W.listOf ws'.toArray 0)]) N6 (by (k_extra "wh mem"))
    clear F6 F21 N20 N6 D20 O20 hAll J1
    subst hm0
    repeat' (first | (k_extra "ka") | (k_extra "kb") | ((fail_if_success k_end); (k_extra "z6"); (k_extra "kc")))
    refine told_end_c (by k_asm) (by k_asm) (by k_asm) (by k_asm) (by k_asm) (by first | exact rfl | assumption) (by k_extra "a") (by k_extra "a") hDD 2 (by decide) (by decide) (by decide) (Int.le_refl 0) mix_end ?_
    (first | ((try dsimp only); (k_extra "h5"); generalize p5_1 T9 = v24, p5_2 T9 = new24, p5_3 T9 = g24, p5_4 T9 = h24, p5_5 T9 = tk24; clear T9; intro D24 O24 T24 B24 X24 P24 Q24 F24 N24) | intro v24 new24 g24 h24 tk24 D24 O24 T24 B24 X24 P24 Q24 F24 N24)
    obtain ⟨FF24, NN24⟩ := turn_nil T24 F24 N24
    clear F24 N24 T24 B24 X24 P24 Q24
    (try k_unfold)
    (try dsimp only)
    (try (k_extra "kf"))
    repeat' (first | (k_extra "ka") | (k_extra "kb") | ((fail_if_success k_end); (k_extra "z5"); (k_extra "kc")))
    refine dat_ne (n₁ := new24) (n₂ := [(_, tupObj [Value.str (Str.ofString "refused") _, Value.str (Str.ofString "Invalid indentation - tabs and spaces cannot be mixed") _, _])]) (d := dEnd nn (.error whyM)) (e := dEnd nn (.error whyM)) (by k_asm) D24 (by (k_extra "wh mem")) (DatIn.tuple List.mem_cons_self (DatAll.cons (DatIn.str _ _) (DatAll.cons (DatIn.str _ _) (DatAll.cons (DatIn.int _ _) .nil)))) (by (k_extra "wh mem")) rfl (flat_refused (m := 1) whyM_g) (by decide) (by dsimp only [Around.deeper, callerA]; decide) ?_
    have N40 := cb_drop (news := [(D', W.listOf ws'.toArray 0)]) NN24 (by (k_extra "wh mem"))
    clear D24 O24 NN24
    repeat' (first | (k_extra "ka") | (k_extra "kb") | ((fail_if_success k_end); (k_extra "z12"); (k_extra "kc")))
    have hI4 := hk0.pick (some 1) none (some 2)
    have hws : ws'.length ≤ 63 := by rw [hk0.length, hC']; exact Nat.min_le_left _ _
    k_dflt (refine' slice_odd ?F ?N ?l ?_ ?s ?t ?z; (case F => k_asm); (case N => exact N40); (case l => (k_extra "wh mid")); (case s => with_unfolding_all rfl); (case t => kmk_pure); (case z => omega))
    (try dsimp only); (k_extra "h2"); generalize p2_1 T9 = D41, p2_2 T9 = h41; clear T9; intro F41 N41
    (try k_unfold)
    (try dsimp only)
    (try (k_extra "kf"))
    repeat' (first | (k_extra "ka") | (k_extra "kb") | ((fail_if_success k_end); (k_extra "z16"); (k_extra "kc")))
    clear N40
    refine LSm.sum_ints (by k_asm) N41 rfl ⟨_, (N41 _ List.mem_cons_self).1, rfl, _, rfl⟩ hI4 ?_
    (first | ((try dsimp only); (k_extra "h3"); generalize p3_1 T9 = h42, p3_2 T9 = tk42, p3_3 T9 = t42; clear T9; intro F42 N42) | intro h42 tk42 t42 F42 N42)
    clear N41
    generalize (pickNums (List.take 63 w_5) (some 1) none (some 2)).sum = P2 at *
    have N43 := cb_drop (news := [(D', W.listOf ws'.toArray 0)]) N42 (by (k_extra "wh mem"))
    clear N42
    repeat' (first | (k_extra "ka") | (k_extra "kb") | ((fail_if_success k_end); (fail_if_success (with_reducible show wpAny _ _ (call (Value.ref 439) _) _ _ _)); (k_extra "kc")))
    (with_reducible rename News _ _ _ (_ :: _) => N44)
    refine hereright_c (by k_asm) (by k_asm) (by k_asm) N44 (by k_asm) (by first | exact rfl | assumption) (by k_extra "a") (by k_extra "a") hDD (by decide) (by decide) ((fmc (Nat.ne_of_lt (by (k_extra "wh lt"))) (List.forall_mem_nil _))) (here_ok _ _) ?_
    (first | ((try dsimp only); (k_extra "h3"); generalize p3_1 T9 = g45, p3_2 T9 = h45, p3_3 T9 = tk45; clear T9; intro T45 B45 X45 P45 D45 F45 N45) | intro g45 h45 tk45 T45 B45 X45 P45 D45 F45 N45)
    obtain ⟨F46, N46⟩ := turn_nil T45 F45 N45
    clear F45 N45 T45 B45 X45 P45 D45
    (try k_unfold)
    (try dsimp only)
    (try (k_extra "kf"))
    refine goodW_bool F46 hg (raisesW_false ?_) ?_
    · wrow_none_raised
    · kc_post)
end Mine
theorem PySem.Challenge.cw_pq0846_01_holds : PySem.Challenge.rw_pq0846_01.Holds := by
  exact Mine.law_holds
