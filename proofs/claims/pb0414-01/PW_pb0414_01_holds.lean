import PyProof.Rows.All
import Wide.All
import OpenK.AllK
import Wide.FinOn
import PySem.Challenge.RW_pb0414_01
open PySem PySem.W PyProof.Rows
set_option Elab.async false
set_option linter.unusedVariables false
set_option linter.unusedSectionVars false
set_option maxRecDepth 100000
namespace Mine
noncomputable def vw : Program := view PySem.Challenge.pw_pb0414_01 [0,2,3,5,6,7,8,9,10,11,13,14,15,16,17,18,19,20,21,22]
abbrev rwo : OpenRow := PySem.Challenge.rw_pb0414_01.row
theorem said_ok : PySem.Challenge.rw_pb0414_01.wellSaid = true := by rw [PySem.W.Fast.te9446332074065402090]; decide +kernel
theorem head_ok (H : Hook) {d : DefRec} {kwd : List (Str × Expr)} (left : LeftO rwo.prog vw [] (fun s => xlAt vw [] s && recOk (RowW.records rwo.toRowW) s) H.obs H.val 2978)
    (hdef : defOf vw rwo.name = some (d, kwd)) (hp : rwo.prog.theDef rwo.name = some (d.params, d.body, d.scope)) (hk : kwWritten? d.params.kwonlyargs d.params.kw_defaults = some kwd)
    (k1 : rwo.wellSaid = true) (hw : rwo.toRowW.promised) (call : WalkO vw [] (XL vw []) H.says rwo.toRowW d kwd fun f vs => PySem.call f vs) : rwo.Holds :=
  holds_open left H.of H.keeps (fun s e => xl_of s (Bool.and_eq_true_iff.mp e).1) XL.keeps hdef hp hk (fun s e => recFacts_of (Bool.and_eq_true_iff.mp e).2) (by rfl) k1 (by decide +kernel) ⟨rfl, rfl, rfl, rfl, rfl, by decide +kernel⟩ hw call
local macro_rules
  | `(tactic| o_law) => `(tactic| refine holds_law said_ok fun _ => ?_)
local macro_rules
  | `(tactic| o_head $H) => `(tactic| (
    refine head_ok $H ?hl (by rfl) (by rfl) (by rfl) (by assumption) ?hw ?hc
    (case hl =>
      intro w
      unfold openEnds fencedOpening topFrom
      rw [PySem.W.Fast.te14082659384304107361, PySem.W.Fast.te10274390034422433532, PySem.W.Fast.te14289696077712309145, PySem.W.Fast.te1435165496053646825, PySem.W.Fast.te14364793385576792824, PySem.W.Fast.te4187177175401517315]
      kernel_rfl)))
set_option maxRecDepth 100000 in
set_option maxHeartbeats 8000000 in
open_top hd for PySem.Challenge.rw_pb0414_01
end Mine
open PySem.Calls PySem.Spec
namespace Mine
-- O0
open PySem PyProof.Rows
/-! small steps among numbers -/
section
variable {a b c d j k l n m : Nat}
theorem o1 (h : a ≤ b) (e : Nat.ble b c = true) : a ≤ c := Nat.le_trans h (Nat.le_of_ble_eq_true e)
theorem o2 (h : a ≤ b) (e : Nat.ble (b + 1) c = true) : a < c := Nat.lt_of_le_of_lt h (Nat.le_of_ble_eq_true e)
theorem o1' (h : a < b) (e : Nat.ble b (c + 1) = true) : a ≤ c := Nat.le_of_lt_succ (Nat.lt_of_lt_of_le h (Nat.le_of_ble_eq_true e))
theorem o3 (h : a ≤ b) (e : Nat.ble (b + k) c = true) : a + k ≤ c := o1 (Nat.add_le_add_right h k) e
theorem o4 (h : a ≤ b) (e : Nat.ble (b + k + 1) c = true) : a + k < c := o2 (Nat.add_le_add_right h k) e
theorem o5 (h : a ≤ b) (e : Nat.ble (b + j + k + 1) c = true) : a + j + k < c := o4 (Nat.add_le_add_right h j) e
theorem o6 (h : a ≤ b) (e : Nat.ble (b + l + j + k + 1) c = true) : a + l + j + k < c := o5 (Nat.add_le_add_right h l) e
theorem o7 (h : a = d) (h2 : d ≤ b) (e : Nat.ble b c = true) : a ≤ c := h ▸ o1 h2 e
theorem o9 (h : j < k + 1) (e : ¬ j = k) : j < k := Nat.lt_of_le_of_ne (Nat.le_of_lt_succ h) e
theorem o10 (h : j < k) (e : a = k) : j < a := e ▸ h
theorem o10' (h : j < k) (e : k = a) : j < a := e ▸ h
theorem o11 (h : b ≤ c) : min a b ≤ c := Nat.le_trans (Nat.min_le_right _ _) h
theorem o12 (h : a ≤ c) : min a b ≤ c := Nat.le_trans (Nat.min_le_left _ _) h
theorem o13 : (-1000000 : Int) ≤ (n : Int) := by omega
theorem o14 (h : n ≤ 1000000) : (n : Int) ≤ 1000000 := Int.ofNat_le.mpr h
theorem o15 : (0 : Int) ≤ 0 + (n : Int) := by omega
theorem o15' : (0 : Int) ≤ (n : Int) := Int.natCast_nonneg n
theorem o16 : (0 : Int) ≤ 0 + (n : Int) * 2 := by omega
theorem o17 : (0 : Int) ≤ 0 + (n : Int) * 2 + 1 := by omega
theorem o20 (h : n ≤ 1000000) : 0 + (n : Int) * 2 < 2 ^ 63 := by omega
theorem o21 (h : n ≤ 1000000) : 0 + (n : Int) * 2 + 1 < 2 ^ 63 := by omega
theorem o22 (h : n = m) : (n : Int) - 0 = (m : Int) := by omega
theorem o23 : ((n : Int)).toNat = n := rfl
theorem o24 : (0 + (n : Int)).toNat = n := by omega
theorem o26 {z : Int} {k n : Nat} (h : Nat.ble 1 k = true) (e : k = n) : (z.fmod (k : Int)).toNat < n := by
  subst e
  have h := Nat.le_of_ble_eq_true h
  have h1 : 0 ≤ z.fmod (k : Int) := Int.fmod_nonneg_of_pos z (by omega)
  have h2 := Int.fmod_lt_of_pos z (b := (k : Int)) (by omega)
  omega
theorem o28 (h : j < k) : j < k + 1 := Nat.lt_succ_of_lt h
theorem o42 (h : a ≤ b) (h2 : b ≤ k) (e : Nat.ble k c = true) : a ≤ c := o1 (Nat.le_trans h h2) e
theorem o42' (h : a ≤ b) (h2 : b ≤ k) (e : Nat.ble (k + 1) c = true) : a < c := o2 (Nat.le_trans h h2) e
theorem o43 (h : a ≤ b + 1) (h2 : b ≤ c) : a ≤ c + 1 := Nat.le_trans h (Nat.succ_le_succ h2)
theorem o44 (e : a = b) (h : b < c) : a < c := e ▸ h
end
local macro_rules | `(tactic| walk_at "oo") => `(tactic| with_reducible first
  | assumption
  | exact Nat.le_refl _
  | decide
  | exact Nat.lt_succ_self _
  | (apply o1; assumption; decide)
  | (apply o2; assumption; decide)
  | (apply o1'; assumption; decide)
  | (apply o3; assumption; decide)
  | (apply o4; assumption; decide)
  | (apply o5; assumption; decide)
  | (apply o6; assumption; decide)
  | (apply o7; assumption; assumption; decide)
  | (apply o9; assumption; assumption)
  | (apply Nat.le_of_lt; assumption)
  | (apply Nat.lt_of_le_of_lt; assumption; assumption)
  | (apply o10; assumption; assumption)
  | (apply o10'; assumption; assumption)
  | (apply o11; walk_at "oo")
  | (apply o12; walk_at "oo")
  | exact o13
  | (apply o14; walk_at "oo")
  | exact o15
  | exact o15'
  | exact o16
  | exact o17
  | (apply o20; walk_at "oo")
  | (apply o21; walk_at "oo")
  | (apply o22; assumption)
  | exact o23
  | exact o24
  | (apply o28; assumption)
  | (apply Nat.le_trans; assumption; assumption)
  | (apply o42; assumption; assumption; decide)
  | (apply o42'; assumption; assumption; decide)
  | (apply o43; assumption; assumption)
  | (apply o44; assumption; assumption))
local macro_rules | `(tactic| walk_at "o") => `(tactic| first | walk_at "oo" | exact o26 (by decide) rfl | exact Nat.succ_le_succ (by assumption) | exact Nat.le_succ_of_le (by assumption) | omega)
-- A1
abbrev Led := List (Addr × Obj)
abbrev Loc := Str → Option Value
noncomputable abbrev Kf (w : World) : Frag := Mine.hd.heap_1 w.params
abbrev Sub (φ φ' : Led) : Prop := ∀ p ∈ φ, p ∈ φ'

/-- the state: the frame L with its locals m, the ledger of what may still change, the ledger of what stays -/
structure St (h₀ : Heap) (L : Addr) (h : Heap) (m : Loc) (μ φ : Led) : Prop where
  F : Fr h₀ L h m
  N : News h₀ L h (μ ++ φ)
  D : ∀ p ∈ μ, ∀ q ∈ φ, p.1 ≠ q.1
  U : (μ.map (·.1)).Nodup

def H (M : Model) (A : Around) (h₀ : Heap) (L : Addr) {α : Type} (t : Sem α) (m : Loc) (μ φ : Led) (Q : α → Loc → Led → Led → Prop) : Prop :=
  ∀ (R : Led) (E : Value → Shared → Prop) (s : Shared), St h₀ L s.heap m (μ ++ R) φ →
    wpAny M A t (fun v s' => ∃ h' tk m' μ' φ', s' = { s with heap := h', toks := tk } ∧ St h₀ L h' m' (μ' ++ R) φ' ∧ Sub φ φ' ∧ Q v m' μ' φ') E s

section
variable {M : Model} {A : Around} {h₀ : Heap} {L : Addr} {α β : Type} {m : Loc} {μ φ : Led}

theorem H_pure {a : α} {Q : α → Loc → Led → Led → Prop} (h : Q a m μ φ) : H M A h₀ L (pure a) m μ φ Q :=
  fun _ _ s S => wpAny_pure ⟨s.heap, s.toks, m, μ, φ, rfl, S, fun _ x => x, h⟩

theorem H_mono {t : Sem α} {Q Q' : α → Loc → Led → Led → Prop} (h : H M A h₀ L t m μ φ Q) (k : ∀ v m' μ' φ', Sub φ φ' → Q v m' μ' φ' → Q' v m' μ' φ') : H M A h₀ L t m μ φ Q' :=
  fun R E s S => wpAny_mono (h R E s S) (fun v s' ⟨h', tk, m', μ', φ', e, S', b, q⟩ => ⟨h', tk, m', μ', φ', e, S', b, k v m' μ' φ' b q⟩) fun _ _ x => x

/-- from one tree to the next -/
theorem H_seq {t : Sem α} {T : Sem β} {g : α → Sem β} {Q : β → Loc → Led → Led → Prop} (h : H M A h₀ L t m μ φ (fun a m' μ' φ' => H M A h₀ L (g a) m' μ' φ' Q))
    (rule : ∀ (Q' : β → Shared → Prop) (E : Value → Shared → Prop) (s : Shared), wpAny M A t (fun a s' => wpAny M A (g a) Q' E s') E s → wpAny M A T Q' E s) : H M A h₀ L T m μ φ Q := by
  intro R E s S
  refine rule _ E s (wpAny_mono (h R E s S) (fun a s' hs => ?_) fun _ _ x => x)
  obtain ⟨h', tk, m', μ', φ', rfl, S', b, q⟩ := hs
  refine wpAny_mono (q R E _ S') (fun v s'' hs => ?_) fun _ _ x => x
  obtain ⟨h'', tk', m'', μ'', φ'', rfl, S'', b', q'⟩ := hs
  exact ⟨h'', tk', m'', μ'', φ'', rfl, S'', fun p hp => b' p (b p hp), q'⟩

/-- the tree's answer handed on -/
theorem H_then {t : Sem α} {T : Sem β} {g : α → β} {Q : β → Loc → Led → Led → Prop} (h : H M A h₀ L t m μ φ (fun a m' μ' φ' => Q (g a) m' μ' φ'))
    (rule : ∀ (Q' : β → Shared → Prop) (E : Value → Shared → Prop) (s : Shared), wpAny M A t (fun a s' => Q' (g a) s') E s → wpAny M A T Q' E s) : H M A h₀ L T m μ φ Q := by
  intro R E s S
  refine rule _ E s (wpAny_mono (h R E s S) (fun a s' hs => ?_) fun _ _ x => x)
  obtain ⟨h', tk, m', μ', φ', rfl, S', b, q⟩ := hs
  exact ⟨h', tk, m', μ', φ', rfl, S', b, q⟩

/-- a tree that is another -/
theorem H_as {t T : Sem α} {Q : α → Loc → Led → Led → Prop} (h : H M A h₀ L t m μ φ Q)
    (rule : ∀ (Q' : α → Shared → Prop) (E : Value → Shared → Prop) (s : Shared), wpAny M A t Q' E s → wpAny M A T Q' E s) : H M A h₀ L T m μ φ Q :=
  fun R E s S => rule _ E s (h R E s S)

theorem H_frame {t : Sem α} {μ₁ μ₂ : Led} {Q₁ Q : α → Loc → Led → Led → Prop} (h : H M A h₀ L t m μ₁ φ Q₁) (k : ∀ v m' μ' φ', Sub φ φ' → Q₁ v m' μ' φ' → Q v m' (μ' ++ μ₂) φ') : H M A h₀ L t m (μ₁ ++ μ₂) φ Q := by
  intro R E s S
  rw [List.append_assoc] at S
  refine wpAny_mono (h (μ₂ ++ R) E s S) (fun v s' hs => ?_) fun _ _ x => x
  obtain ⟨h', tk, m', μ', φ', rfl, S', b, q⟩ := hs
  exact ⟨h', tk, m', μ' ++ μ₂, φ', rfl, by rw [List.append_assoc]; exact S', b, k v m' μ' φ' b q⟩

theorem St.sub {h : Heap} {μ' : Led} (S : St h₀ L h m μ φ) (hs : μ'.Sublist μ) : St h₀ L h m μ' φ :=
  ⟨S.F, fun p hp => S.N p ((List.mem_append.mp hp).elim (fun q => List.mem_append_left _ (hs.subset q)) fun q => List.mem_append_right _ q), fun p hp => S.D p (hs.subset hp), S.U.sublist (hs.map _)⟩

theorem H_forget {t : Sem α} {μ' : Led} {Q : α → Loc → Led → Led → Prop} (hs : μ'.Sublist μ) (h : H M A h₀ L t m μ' φ Q) : H M A h₀ L t m μ φ Q :=
  fun R E s S => h R E s (S.sub (hs.append_right R))

theorem St.perm {h : Heap} {μ' : Led} (S : St h₀ L h m μ φ) (hs : μ.Perm μ') : St h₀ L h m μ' φ :=
  ⟨S.F, fun p hp => S.N p ((List.mem_append.mp hp).elim (fun q => List.mem_append_left _ (hs.mem_iff.mpr q)) fun q => List.mem_append_right _ q), fun p hp => S.D p (hs.mem_iff.mpr hp), (hs.map _).nodup_iff.mp S.U⟩
theorem H_perm {t : Sem α} {μ' : Led} {Q : α → Loc → Led → Led → Prop} (hs : μ.Perm μ') (h : H M A h₀ L t m μ' φ Q) : H M A h₀ L t m μ φ Q :=
  fun R E s S => h R E s (S.perm (hs.append_right R))

/-- the head of what may change stays from now on -/
theorem St.freeze {h : Heap} {p : Addr × Obj} (S : St h₀ L h m (p :: μ) φ) : St h₀ L h m μ (p :: φ) := by
  refine ⟨S.F, fun q hq => S.N q ?_, fun q hq r hr => ?_, (List.nodup_cons.mp S.U).2⟩
  · rcases List.mem_append.mp hq with x | x
    · exact List.mem_append_left _ (.tail _ x)
    · rcases List.mem_cons.mp x with rfl | x
      · exact List.mem_append_left _ (.head _)
      · exact List.mem_append_right _ x
  · rcases List.mem_cons.mp hr with rfl | hr
    · exact fun e => (List.nodup_cons.mp S.U).1 (List.mem_map.mpr ⟨q, hq, e⟩)
    · exact S.D q (.tail _ hq) r hr
theorem H_freeze {t : Sem α} {p : Addr × Obj} {Q : α → Loc → Led → Led → Prop} (h : H M A h₀ L t m μ (p :: φ) Q) : H M A h₀ L t m (p :: μ) φ Q := by
  intro R E s S
  refine wpAny_mono (h R E s (St.freeze S)) (fun v s' hs => ?_) fun _ _ x => x
  obtain ⟨h', tk, m', μ', φ', rfl, S', b, q⟩ := hs
  exact ⟨h', tk, m', μ', φ', rfl, S', fun x hx => b x (.tail _ hx), q⟩
/-- what the end says may stay, stays -/
theorem H_end_freeze {t : Sem α} {Q : α → Loc → Led → Led → Prop} (h : H M A h₀ L t m μ φ (fun v m' μ' φ' => ∃ p μ'', μ' = p :: μ'' ∧ Q v m' μ'' (p :: φ'))) : H M A h₀ L t m μ φ Q := by
  intro R E s S
  refine wpAny_mono (h R E s S) (fun v s' hs => ?_) fun _ _ x => x
  obtain ⟨h', tk, m', μ', φ', rfl, S', b, p, μ'', rfl, q⟩ := hs
  exact ⟨h', tk, m', μ'', p :: φ', rfl, St.freeze S', fun x hx => .tail _ (b x hx), q⟩
theorem St.freezeAll {h : Heap} : ∀ {ν μ φ : Led}, St h₀ L h m (ν ++ μ) φ → St h₀ L h m μ (ν.reverse ++ φ)
  | [], _, _, S => S
  | p :: ν, μ, φ, S => by
    have := St.freezeAll (ν := ν) (φ := p :: φ) (St.freeze S)
    rw [List.reverse_cons, List.append_assoc]
    exact this
theorem H_end_freezeAll {t : Sem α} {Q : α → Loc → Led → Led → Prop} (h : H M A h₀ L t m μ φ (fun v m' μ' φ' => ∃ ν μ'', μ' = ν ++ μ'' ∧ Q v m' μ'' (ν.reverse ++ φ'))) : H M A h₀ L t m μ φ Q := by
  intro R E s S
  refine wpAny_mono (h R E s S) (fun v s' hs => ?_) fun _ _ x => x
  obtain ⟨h', tk, m', μ', φ', rfl, S', b, ν, μ'', rfl, q⟩ := hs
  rw [List.append_assoc] at S'
  exact ⟨h', tk, m', μ'', _, rfl, St.freezeAll S', fun x hx => List.mem_append_right _ (b x hx), q⟩

/-- what may change when it is told anew -/
inductive Up (a : Addr) (o o' : Obj) : Led → Led → Prop
  | head {r : Led} : Up a o o' ((a, o) :: r) ((a, o') :: r)
  | tail {p : Addr × Obj} {r r' : Led} : Up a o o' r r' → Up a o o' (p :: r) (p :: r')
theorem Up.tails {a : Addr} {o : Obj} {p : Addr × Obj} {r : Led} {g : Obj → Led} (h : ∀ o', Up a o o' r (g o')) (o' : Obj) : Up a o o' (p :: r) (p :: g o') := .tail (h o')
theorem Up.left {a : Addr} {o o' : Obj} {r r' : Led} (h : Up a o o' r r') : ∀ ν : Led, Up a o o' (ν ++ r) (ν ++ r')
  | [] => h
  | _ :: ν => .tail (h.left ν)
theorem Up.right {a : Addr} {o o' : Obj} {r r' : Led} (h : Up a o o' r r') (ν : Led) : Up a o o' (r ++ ν) (r' ++ ν) := by
  induction h with
  | head => exact .head
  | tail _ ih => exact .tail ih
theorem Up.mem {a : Addr} {o o' : Obj} {r r' : Led} (h : Up a o o' r r') : (a, o) ∈ r := by
  induction h with
  | head => exact .head _
  | tail _ ih => exact .tail _ ih
theorem Up.split {a : Addr} {o o' : Obj} {r r' : Led} (h : Up a o o' r r') : ∃ pre post, r = pre ++ (a, o) :: post ∧ r' = pre ++ (a, o') :: post := by
  induction h with
  | head => exact ⟨[], _, rfl, rfl⟩
  | @tail p _ _ _ ih => obtain ⟨pre, post, rfl, rfl⟩ := ih; exact ⟨p :: pre, post, rfl, rfl⟩

theorem St.up {h h' : Heap} {a : Addr} {o o' : Obj} {μ' : Led} (S : St h₀ L h m μ φ) (U : Up a o o' μ μ') (hs : Heap.SameBut a h h') (ho : h'.get? a = some o') : St h₀ L h' m μ' φ := by
  obtain ⟨pre, post, rfl, rfl⟩ := U.split
  have hm := S.N (a, o) (List.mem_append_left _ (List.mem_append_right _ (.head _)))
  have hU := S.U
  rw [List.map_append, List.map_cons, List.nodup_append] at hU
  have h1 : ∀ p ∈ pre, p.1 ≠ a := fun p hp => hU.2.2 p.1 (List.mem_map_of_mem hp) a (.head _)
  have h2 : ∀ p ∈ post, p.1 ≠ a := fun p hp e => (List.nodup_cons.mp hU.2.1).1 (List.mem_map.mpr ⟨p, hp, e⟩)
  have h3 : ∀ q ∈ φ, q.1 ≠ a := fun q hq e => S.D (a, o) (List.mem_append_right _ (.head _)) q hq e.symm
  refine ⟨⟨S.F.ns.sameBut hs (Ne.symm hm.2.1), fun b ob e => (hs.2 b fun q => ?_).trans (S.F.keep b ob e), S.F.above⟩, fun p hp => ?_, fun p hp q hq => ?_, ?_⟩
  · have := hm.2.2; rw [← q, e] at this; cases this
  · have other : p ∈ (pre ++ (a, o) :: post) ++ φ → p.1 ≠ a → h'.get? p.1 = some p.2 ∧ p.1 ≠ L ∧ h₀.get? p.1 = none := fun hp ne => ⟨(hs.2 p.1 ne).trans (S.N p hp).1, (S.N p hp).2⟩
    rcases List.mem_append.mp hp with hp | hp
    · rcases List.mem_append.mp hp with hp | hp
      · exact other (List.mem_append_left _ (List.mem_append_left _ hp)) (h1 p hp)
      · rcases List.mem_cons.mp hp with rfl | hp
        · exact ⟨ho, hm.2⟩
        · exact other (List.mem_append_left _ (List.mem_append_right _ (.tail _ hp))) (h2 p hp)
    · exact other (List.mem_append_right _ hp) (h3 p hp)
  · rcases List.mem_append.mp hp with hp | hp
    · exact S.D p (List.mem_append_left _ hp) q hq
    · rcases List.mem_cons.mp hp with rfl | hp
      · exact Ne.symm (h3 q hq)
      · exact S.D p (List.mem_append_right _ (.tail _ hp)) q hq
  · have e : (pre ++ (a, o') :: post).map (·.1) = (pre ++ (a, o) :: post).map (·.1) := by simp
    rw [e]; exact S.U

theorem St.get {h : Heap} {a : Addr} {o : Obj} (S : St h₀ L h m μ φ) (hm : (a, o) ∈ μ ++ φ) : h.get? a = some o := (S.N _ hm).1
theorem St.push {h : Heap} (S : St h₀ L h m μ φ) (o : Obj) (hf : o.isFreed = false := by rfl) : St h₀ L (h.push o) m μ ((h.objs.size, o) :: φ) := by
  have N' := News.push S.F S.N o hf
  refine ⟨S.F.push o, fun p hp => N' p ?_, fun p hp q hq => ?_, S.U⟩
  · rcases List.mem_append.mp hp with hp | hp
    · exact .tail _ (List.mem_append_left _ hp)
    · rcases List.mem_cons.mp hp with rfl | hp
      · exact .head _
      · exact .tail _ (List.mem_append_right _ hp)
  · rcases List.mem_cons.mp hq with rfl | hq
    · exact Nat.ne_of_lt (Heap.lt_size (S.N p (List.mem_append_left _ hp)).1)
    · exact S.D p hp q hq
theorem St.pushM {h : Heap} (S : St h₀ L h m μ φ) (o : Obj) (hf : o.isFreed = false := by rfl) : St h₀ L (h.push o) m ((h.objs.size, o) :: μ) φ := by
  have N' := News.push S.F S.N o hf
  refine ⟨S.F.push o, N', fun p hp q hq => ?_, List.nodup_cons.mpr ⟨fun hm => ?_, S.U⟩⟩
  · rcases List.mem_cons.mp hp with rfl | hp
    · exact Nat.ne_of_gt (Heap.lt_size (S.N q (List.mem_append_right _ hq)).1)
    · exact S.D p hp q hq
  · obtain ⟨p, hp, e⟩ := List.mem_map.mp hm
    exact absurd (Heap.lt_size (S.N p (List.mem_append_left _ hp)).1) (by rw [e]; exact Nat.lt_irrefl _)
theorem St.keeps {h h' : Heap} (S : St h₀ L h m μ φ) (k : ∀ b o, h.get? b = some o → h'.get? b = some o) : St h₀ L h' m μ φ :=
  ⟨S.F.keeps k, fun p hp => ⟨k _ _ (S.N p hp).1, (S.N p hp).2⟩, S.D, S.U⟩
end
-- A2
section
variable {M : Model} {A : Around} {h₀ : Heap} {L : Addr} {α β γ δ : Type} {m : Loc} {μ φ : Led} {env : Env}

theorem H_run {t : Sem α} {Q : α → Loc → Led → Led → Prop} {R : Led} {E : Value → Shared → Prop} {s : Shared} {Q' : α → Shared → Prop} (h : H M A h₀ L t m μ φ Q) (S : St h₀ L s.heap m (μ ++ R) φ)
    (k : ∀ v h' tk m' μ' φ', St h₀ L h' m' (μ' ++ R) φ' → Sub φ φ' → Q v m' μ' φ' → Q' v { s with heap := h', toks := tk }) : wpAny M A t Q' E s :=
  wpAny_mono (h R E s S) (fun v s' ⟨h', tk, m', μ', φ', e, S', b, q⟩ => e ▸ k v h' tk m' μ' φ' S' b q) fun _ _ x => x

theorem H_seq2 {t : Sem α} {g : α → Sem β} {f : α → β → Sem γ} {T : Sem γ} {Q : γ → Loc → Led → Led → Prop}
    (h : H M A h₀ L t m μ φ (fun a m μ φ => H M A h₀ L (g a) m μ φ (fun b m μ φ => H M A h₀ L (f a b) m μ φ Q)))
    (rule : ∀ (Q' : γ → Shared → Prop) (E : Value → Shared → Prop) (s : Shared), wpAny M A t (fun a s₁ => wpAny M A (g a) (fun b s₂ => wpAny M A (f a b) Q' E s₂) E s₁) E s → wpAny M A T Q' E s) : H M A h₀ L T m μ φ Q := by
  intro R E s S
  refine rule _ E s (H_run h S fun a h1 t1 m1 μ1 φ1 S1 b1 q1 => H_run q1 S1 fun b h2 t2 m2 μ2 φ2 S2 b2 q2 => H_run q2 S2 fun c h3 t3 m3 μ3 φ3 S3 b3 q3 => ?_)
  exact ⟨h3, t3, m3, μ3, φ3, rfl, S3, fun p hp => b3 p (b2 p (b1 p hp)), q3⟩
theorem H_seq3 {t : Sem α} {g : α → Sem β} {f : α → β → Sem γ} {k : α → β → γ → Sem δ} {T : Sem δ} {Q : δ → Loc → Led → Led → Prop}
    (h : H M A h₀ L t m μ φ (fun a m μ φ => H M A h₀ L (g a) m μ φ (fun b m μ φ => H M A h₀ L (f a b) m μ φ (fun c m μ φ => H M A h₀ L (k a b c) m μ φ Q))))
    (rule : ∀ (Q' : δ → Shared → Prop) (E : Value → Shared → Prop) (s : Shared), wpAny M A t (fun a s₁ => wpAny M A (g a) (fun b s₂ => wpAny M A (f a b) (fun c s₃ => wpAny M A (k a b c) Q' E s₃) E s₂) E s₁) E s → wpAny M A T Q' E s) : H M A h₀ L T m μ φ Q := by
  intro R E s S
  refine rule _ E s (H_run h S fun a h1 t1 m1 μ1 φ1 S1 b1 q1 => H_run q1 S1 fun b h2 t2 m2 μ2 φ2 S2 b2 q2 => H_run q2 S2 fun c h3 t3 m3 μ3 φ3 S3 b3 q3 => H_run q3 S3 fun c h4 t4 m4 μ4 φ4 S4 b4 q4 => ?_)
  exact ⟨h4, t4, m4, μ4, φ4, rfl, S4, fun p hp => b4 p (b3 p (b2 p (b1 p hp))), q4⟩

/-- from the answer b of t on by one of two trees -/
theorem H_cond {t : Sem Bool} {T : Sem α} {x y : Sem α} {Q : α → Loc → Led → Led → Prop}
    (h : H M A h₀ L t m μ φ (fun b m μ φ => if b = true then H M A h₀ L x m μ φ Q else H M A h₀ L y m μ φ Q))
    (rule : ∀ (Q' : α → Shared → Prop) (E : Value → Shared → Prop) (s : Shared), wpAny M A t (fun b s₁ => if b = true then wpAny M A x Q' E s₁ else wpAny M A y Q' E s₁) E s → wpAny M A T Q' E s) : H M A h₀ L T m μ φ Q := by
  intro R E s S
  refine rule _ E s (H_run h S fun b h1 t1 m1 μ1 φ1 S1 b1 q1 => ?_)
  cases b with
  | true => exact H_run q1 S1 fun c h2 t2 m2 μ2 φ2 S2 b2 q2 => ⟨h2, t2, m2, μ2, φ2, rfl, S2, fun p hp => b2 p (b1 p hp), q2⟩
  | false => exact H_run q1 S1 fun c h2 t2 m2 μ2 φ2 S2 b2 q2 => ⟨h2, t2, m2, μ2, φ2, rfl, S2, fun p hp => b2 p (b1 p hp), q2⟩

/-- ends at once at one answer -/
theorem H_cut {t : Sem Bool} {T : Sem α} {y : Sem α} {v : α} {Q : α → Loc → Led → Led → Prop} {c : Bool}
    (h : H M A h₀ L t m μ φ (fun b m μ φ => if b = c then H M A h₀ L y m μ φ Q else Q v m μ φ))
    (rule : ∀ (Q' : α → Shared → Prop) (E : Value → Shared → Prop) (s : Shared), wpAny M A t (fun b s₁ => if b = c then wpAny M A y Q' E s₁ else Q' v s₁) E s → wpAny M A T Q' E s) : H M A h₀ L T m μ φ Q := by
  intro R E s S
  refine rule _ E s (H_run h S fun b h1 t1 m1 μ1 φ1 S1 b1 q1 => ?_)
  by_cases hb : b = c
  · rw [if_pos hb] at q1 ⊢
    exact H_run q1 S1 fun c h2 t2 m2 μ2 φ2 S2 b2 q2 => ⟨h2, t2, m2, μ2, φ2, rfl, S2, fun p hp => b2 p (b1 p hp), q2⟩
  · rw [if_neg hb] at q1 ⊢
    exact ⟨h1, t1, m1, μ1, φ1, rfl, S1, b1, q1⟩

/-! statements -/
theorem H_execs_nil {Q : Flow → Loc → Led → Led → Prop} (h : Q .next m μ φ) : H M A h₀ L (execs [] env) m μ φ Q := H_pure h
/-- what comes behind a statement -/
def After (M : Model) (A : Around) (h₀ : Heap) (L : Addr) (env : Env) (rest : List Stmt) (Q : Flow → Loc → Led → Led → Prop) : Flow → Loc → Led → Led → Prop
  | .next, m, μ, φ => H M A h₀ L (execs rest env) m μ φ Q
  | f, m, μ, φ => Q f m μ φ
theorem H_execs_cons {st : Stmt} {rest : List Stmt} {Q : Flow → Loc → Led → Led → Prop} (h : H M A h₀ L (exec st env) m μ φ (After M A h₀ L env rest Q)) : H M A h₀ L (execs (st :: rest) env) m μ φ Q := by
  intro R E s S
  refine wpAny_execs_cons (H_run h S fun f h1 t1 m1 μ1 φ1 S1 b1 q1 => ?_)
  cases f with
  | next => exact H_run (q1 : H M A h₀ L (execs rest env) m1 μ1 φ1 Q) S1 fun c h2 t2 m2 μ2 φ2 S2 b2 q2 => ⟨h2, t2, m2, μ2, φ2, rfl, S2, fun p hp => b2 p (b1 p hp), q2⟩
  | brk => exact ⟨h1, t1, m1, μ1, φ1, rfl, S1, b1, q1⟩
  | cont => exact ⟨h1, t1, m1, μ1, φ1, rfl, S1, b1, q1⟩
  | ret v => exact ⟨h1, t1, m1, μ1, φ1, rfl, S1, b1, q1⟩
theorem After.next {rest : List Stmt} {Q : Flow → Loc → Led → Led → Prop} (h : H M A h₀ L (execs rest env) m μ φ Q) : After M A h₀ L env rest Q .next m μ φ := h
theorem After.ret {rest : List Stmt} {Q : Flow → Loc → Led → Led → Prop} {v : Value} (h : Q (.ret v) m μ φ) : After M A h₀ L env rest Q (.ret v) m μ φ := h

theorem H_Return_some {e : Expr} {pos : Pos} {Q : Flow → Loc → Led → Led → Prop} (h : H M A h₀ L (eval e env) m μ φ (fun v => Q (.ret v))) : H M A h₀ L (exec (.Return (some e) pos) env) m μ φ Q :=
  H_then (g := Flow.ret) h fun _ _ _ x => wpAny_Return_some x
theorem H_If {test : Expr} {body orelse : List Stmt} {pos : Pos} {Q : Flow → Loc → Led → Led → Prop}
    (h : H M A h₀ L (isTrue test env (eval test env)) m μ φ (fun b m μ φ => if b = true then H M A h₀ L (execs body env) m μ φ Q else H M A h₀ L (execs orelse env) m μ φ Q)) :
    H M A h₀ L (exec (.If test body orelse pos) env) m μ φ Q := H_cond h fun _ _ _ x => wpAny_If x
theorem H_Assign_Name {x : Str} {pos' pos : Pos} {value : Expr} {Q : Flow → Loc → Led → Led → Prop}
    (h : H M A h₀ L (eval value env) m μ φ (fun v m μ φ => H M A h₀ L (storeName env x v) m μ φ (fun _ => Q .next)))
    (hs : swapsWith value (some (.Name x pos')) pos.line env = pure false := by rfl) : H M A h₀ L (exec (.Assign [.Name x pos'] value pos) env) m μ φ Q := by
  intro R E s S
  exact wpAny_Assign_Name (H_run h S fun a h1 t1 m1 μ1 φ1 S1 b1 q1 => H_run q1 S1 fun b h2 t2 m2 μ2 φ2 S2 b2 q2 => ⟨h2, t2, m2, μ2, φ2, rfl, S2, fun p hp => b2 p (b1 p hp), q2⟩) hs
theorem H_Assign_Attribute {o : Expr} {attr : Str} {pos' pos : Pos} {value : Expr} {Q : Flow → Loc → Led → Led → Prop}
    (h : H M A h₀ L (eval value env) m μ φ (fun v m μ φ => H M A h₀ L (eval o env) m μ φ (fun ov m μ φ => H M A h₀ L (setAttr ov attr v) m μ φ (fun _ => Q .next))))
    (hs : swapsWith value (some (.Attribute o attr pos')) pos.line env = pure false := by rfl) : H M A h₀ L (exec (.Assign [.Attribute o attr pos'] value pos) env) m μ φ Q := by
  intro R E s S
  exact plainObj_wpAny_Assign_Attribute (H_run h S fun a h1 t1 m1 μ1 φ1 S1 b1 q1 => H_run q1 S1 fun b h2 t2 m2 μ2 φ2 S2 b2 q2 => H_run q2 S2 fun b h3 t3 m3 μ3 φ3 S3 b3 q3 =>
    ⟨h3, t3, m3, μ3, φ3, rfl, S3, fun p hp => b3 p (b2 p (b1 p hp)), q3⟩) hs
theorem H_Assign_Subscript {o i : Expr} {pos' pos : Pos} {value : Expr} {Q : Flow → Loc → Led → Led → Prop}
    (h : H M A h₀ L (eval value env) m μ φ (fun v m μ φ => H M A h₀ L (eval o env) m μ φ (fun ov m μ φ => H M A h₀ L (eval i env) m μ φ (fun iv m μ φ => H M A h₀ L (setItem ov iv v) m μ φ (fun _ => Q .next)))))
    (hs : swapsWith value (some (.Subscript o i pos')) pos.line env = pure false := by rfl) : H M A h₀ L (exec (.Assign [.Subscript o i pos'] value pos) env) m μ φ Q := by
  intro R E s S
  exact wpAny_Assign_Subscript (H_run h S fun a h1 t1 m1 μ1 φ1 S1 b1 q1 => H_run q1 S1 fun b h2 t2 m2 μ2 φ2 S2 b2 q2 => H_run q2 S2 fun b h3 t3 m3 μ3 φ3 S3 b3 q3 => H_run q3 S3 fun b h4 t4 m4 μ4 φ4 S4 b4 q4 =>
    ⟨h4, t4, m4, μ4, φ4, rfl, S4, fun p hp => b4 p (b3 p (b2 p (b1 p hp))), q4⟩) hs

/-! expressions -/
theorem H_int {i : Int} {k : Nat} {pos : Pos} {Q : Value → Loc → Led → Led → Prop} (h : ∀ t, Q (.int i t) m μ φ) : H M A h₀ L (eval (.Constant (.int i) k pos) env) m μ φ Q :=
  fun R E s S => wpAny_Constant_int ⟨s.heap, _, m, μ, φ, rfl, S, fun _ x => x, h _⟩
theorem H_str {x : Str} {k : Nat} {pos : Pos} {Q : Value → Loc → Led → Led → Prop} (h : ∀ t, Q (.str x t) m μ φ) : H M A h₀ L (eval (.Constant (.str x) k pos) env) m μ φ Q :=
  fun R E s S => wpAny_Constant_str ⟨s.heap, _, m, μ, φ, rfl, S, fun _ x => x, h _⟩
theorem H_bool {b : Bool} {k : Nat} {pos : Pos} {Q : Value → Loc → Led → Led → Prop} (h : Q (.bool b) m μ φ) : H M A h₀ L (eval (.Constant (.bool b) k pos) env) m μ φ Q :=
  fun R E s S => wpAny_Constant_bool ⟨s.heap, _, m, μ, φ, rfl, S, fun _ x => x, h⟩
theorem H_BinOp {l r : Expr} {op : Operator} {pos : Pos} {Q : Value → Loc → Led → Led → Prop}
    (h : H M A h₀ L (eval l env) m μ φ (fun a m μ φ => H M A h₀ L (eval r env) m μ φ (fun b m μ φ => H M A h₀ L (binaryOp op a b) m μ φ Q))) : H M A h₀ L (eval (.BinOp l op r pos) env) m μ φ Q :=
  H_seq2 h fun _ _ _ x => wpAny_BinOp x
theorem H_Compare {l r : Expr} {op : CmpOp} {pos : Pos} {Q : Value → Loc → Led → Led → Prop}
    (h : H M A h₀ L (eval l env) m μ φ (fun a m μ φ => H M A h₀ L (eval r env) m μ φ (fun b m μ φ => H M A h₀ L (compareOp op a b) m μ φ Q)))
    (hm : behindInMarks op r = false := by with_unfolding_all rfl) : H M A h₀ L (eval (.Compare l [op] [r] pos) env) m μ φ Q :=
  H_seq2 h fun _ _ _ x => wpAny_Compare1 x hm
theorem H_isTrue_Compare {l r : Expr} {op : CmpOp} {pos : Pos} {whole : Sem Value} {Q : Bool → Loc → Led → Led → Prop}
    (h : H M A h₀ L (eval l env) m μ φ (fun a m μ φ => H M A h₀ L (eval r env) m μ φ (fun b m μ φ => H M A h₀ L (compareOp op a b) m μ φ (fun c m μ φ => H M A h₀ L (truthy c) m μ φ Q))))
    (hm : behindInMarks op r = false := by with_unfolding_all rfl) : H M A h₀ L (isTrue (.Compare l [op] [r] pos) env whole) m μ φ Q :=
  H_seq3 h fun _ _ _ x => wpAny_isTrue_Compare1 x hm
theorem H_UnaryOp {x : Expr} {op : UnaryOp} {pos : Pos} {Q : Value → Loc → Led → Led → Prop} (h : H M A h₀ L (eval x env) m μ φ (fun a m μ φ => H M A h₀ L (unaryOp op a) m μ φ Q)) : H M A h₀ L (eval (.UnaryOp op x pos) env) m μ φ Q :=
  H_seq h fun _ _ _ x => UnaryOp_ x
theorem H_IfExp {test body orelse : Expr} {pos : Pos} {Q : Value → Loc → Led → Led → Prop}
    (h : H M A h₀ L (isTrue test env (eval test env)) m μ φ (fun b m μ φ => if b = true then H M A h₀ L (eval body env) m μ φ Q else H M A h₀ L (eval orelse env) m μ φ Q)) :
    H M A h₀ L (eval (.IfExp test body orelse pos) env) m μ φ Q := H_cond h fun _ _ _ x => IfExp_ x
theorem H_Bool_one {op : BoolOp} {e : Expr} {pos : Pos} {Q : Value → Loc → Led → Led → Prop} (h : H M A h₀ L (eval e env) m μ φ Q) : H M A h₀ L (eval (.BoolOp op [e] pos) env) m μ φ Q := h
theorem H_And {e₁ e₂ : Expr} {rest : List Expr} {pos : Pos} {Q : Value → Loc → Led → Led → Prop}
    (h : H M A h₀ L (eval e₁ env) m μ φ (fun v m μ φ => H M A h₀ L (truthy v) m μ φ (fun c m μ φ => if c = true then H M A h₀ L (eval (.BoolOp .And (e₂ :: rest) pos) env) m μ φ Q else Q v m μ φ))) :
    H M A h₀ L (eval (.BoolOp .And (e₁ :: e₂ :: rest) pos) env) m μ φ Q := by
  intro R E s S
  refine BoolOp_and (H_run h S fun v h1 t1 m1 μ1 φ1 S1 b1 q1 => H_run q1 S1 fun c h2 t2 m2 μ2 φ2 S2 b2 q2 => ?_)
  cases c with
  | true => exact H_run q2 S2 fun c h3 t3 m3 μ3 φ3 S3 b3 q3 => ⟨h3, t3, m3, μ3, φ3, rfl, S3, fun p hp => b3 p (b2 p (b1 p hp)), q3⟩
  | false => exact ⟨h2, t2, m2, μ2, φ2, rfl, S2, fun p hp => b2 p (b1 p hp), q2⟩
theorem H_Or {e₁ e₂ : Expr} {rest : List Expr} {pos : Pos} {Q : Value → Loc → Led → Led → Prop}
    (h : H M A h₀ L (eval e₁ env) m μ φ (fun v m μ φ => H M A h₀ L (truthy v) m μ φ (fun c m μ φ => if c = true then Q v m μ φ else H M A h₀ L (eval (.BoolOp .Or (e₂ :: rest) pos) env) m μ φ Q))) :
    H M A h₀ L (eval (.BoolOp .Or (e₁ :: e₂ :: rest) pos) env) m μ φ Q := by
  intro R E s S
  refine BoolOp_or (H_run h S fun v h1 t1 m1 μ1 φ1 S1 b1 q1 => H_run q1 S1 fun c h2 t2 m2 μ2 φ2 S2 b2 q2 => ?_)
  cases c with
  | false => exact H_run q2 S2 fun c h3 t3 m3 μ3 φ3 S3 b3 q3 => ⟨h3, t3, m3, μ3, φ3, rfl, S3, fun p hp => b3 p (b2 p (b1 p hp)), q3⟩
  | true => exact ⟨h2, t2, m2, μ2, φ2, rfl, S2, fun p hp => b2 p (b1 p hp), q2⟩

/-! truth of tests -/
theorem H_isTrue_not {x : Expr} {pos : Pos} {whole : Sem Value} {Q : Bool → Loc → Led → Led → Prop} (h : H M A h₀ L (isTrue x env (eval x env)) m μ φ (fun c => Q (!c))) : H M A h₀ L (isTrue (.UnaryOp .Not x pos) env whole) m μ φ Q :=
  H_then (g := fun c => !c) h fun _ _ _ x => isTrue_not x
theorem H_isTrue_and_nil {pos : Pos} {whole : Sem Value} {Q : Bool → Loc → Led → Led → Prop} (h : Q true m μ φ) : H M A h₀ L (isTrue (.BoolOp .And [] pos) env whole) m μ φ Q := H_pure (a := true) h
theorem H_isTrue_or_nil {pos : Pos} {whole : Sem Value} {Q : Bool → Loc → Led → Led → Prop} (h : Q false m μ φ) : H M A h₀ L (isTrue (.BoolOp .Or [] pos) env whole) m μ φ Q := H_pure (a := false) h
theorem H_isTrue_and {x : Expr} {rest : List Expr} {pos : Pos} {whole : Sem Value} {Q : Bool → Loc → Led → Led → Prop}
    (h : H M A h₀ L (isTrue x env (eval x env)) m μ φ (fun c m μ φ => if c = true then H M A h₀ L (isTrue (.BoolOp .And rest pos) env whole) m μ φ Q else Q false m μ φ)) : H M A h₀ L (isTrue (.BoolOp .And (x :: rest) pos) env whole) m μ φ Q :=
  H_cut h fun _ _ _ x => isTrue_and x
theorem H_isTrue_or {x : Expr} {rest : List Expr} {pos : Pos} {whole : Sem Value} {Q : Bool → Loc → Led → Led → Prop}
    (h : H M A h₀ L (isTrue x env (eval x env)) m μ φ (fun c m μ φ => if c = true then Q true m μ φ else H M A h₀ L (isTrue (.BoolOp .Or rest pos) env whole) m μ φ Q)) : H M A h₀ L (isTrue (.BoolOp .Or (x :: rest) pos) env whole) m μ φ Q := by
  intro R E s S
  refine isTrue_or (H_run h S fun c h2 t2 m2 μ2 φ2 S2 b2 q2 => ?_)
  cases c with
  | false => exact H_run q2 S2 fun c h3 t3 m3 μ3 φ3 S3 b3 q3 => ⟨h3, t3, m3, μ3, φ3, rfl, S3, fun p hp => b3 p (b2 p hp), q3⟩
  | true => exact ⟨h2, t2, m2, μ2, φ2, rfl, S2, b2, q2⟩
theorem H_isTrue_plain {e : Expr} {whole : Sem Value} {Q : Bool → Loc → Led → Led → Prop} (h : H M A h₀ L whole m μ φ (fun v m μ φ => H M A h₀ L (truthy v) m μ φ Q))
    (he : isTrue e env whole = (do let v ← whole; standAt e.pos; holding [v] (truthy v)) := by rfl) : H M A h₀ L (isTrue e env whole) m μ φ Q := H_seq h fun _ _ _ x => isTrue_plain x he
theorem H_truthy_bool {b : Bool} {Q : Bool → Loc → Led → Led → Prop} (h : Q b m μ φ) : H M A h₀ L (truthy (.bool b)) m μ φ Q :=
  fun R E s S => wpAny_truthy_bool ⟨s.heap, s.toks, m, μ, φ, rfl, S, fun _ x => x, h⟩

/-! displays and arguments -/
theorem H_items_nil {pos : Pos} {Q : List Value → Loc → Led → Led → Prop} (h : Q [] m μ φ) : H M A h₀ L (spliced (backTo pos (starEach [] env))) m μ φ Q := H_pure h
theorem H_items_cons {pos : Pos} {e : Expr} {rest : List Expr} {Q : List Value → Loc → Led → Led → Prop}
    (h : H M A h₀ L (eval e env) m μ φ (fun v m μ φ => H M A h₀ L (spliced (backTo pos (starEach rest env))) m μ φ (fun vs => Q (v :: vs))))
    (he : starEach (e :: rest) env = (false, eval e env) :: starEach rest env := by rfl) : H M A h₀ L (spliced (backTo pos (starEach (e :: rest) env))) m μ φ Q := by
  intro R E s S
  exact wpAny_items_cons (H_run h S fun v h1 t1 m1 μ1 φ1 S1 b1 q1 => H_run q1 S1 fun c h2 t2 m2 μ2 φ2 S2 b2 q2 => ⟨h2, t2, m2, μ2, φ2, rfl, S2, fun p hp => b2 p (b1 p hp), q2⟩) he
theorem H_Tuple {elts : List Expr} {k : Nat} {pos : Pos} {Q : Value → Loc → Led → Led → Prop} (h : H M A h₀ L (spliced (backTo pos (starEach elts env))) m μ φ (fun vs m μ φ => H M A h₀ L (newTuple vs) m μ φ Q)) :
    H M A h₀ L (eval (.Tuple elts k pos) env) m μ φ Q := H_seq h fun _ _ _ x => Tuple_ x
theorem H_List {elts : List Expr} {pos : Pos} {Q : Value → Loc → Led → Led → Prop} (h : H M A h₀ L (spliced (backTo pos (starEach elts env))) m μ φ (fun vs m μ φ => H M A h₀ L (newList vs) m μ φ Q)) :
    H M A h₀ L (eval (.List elts pos) env) m μ φ Q := H_seq h fun _ _ _ x => List_ x
abbrev tupO (vs : List Value) : Obj := { cls := .type "tuple", data := .seq vs.toArray }
abbrev lstO (vs : List Value) (n : Nat) : Obj := { cls := .type "list", data := .seq vs.toArray n }
theorem H_newTuple {vs : List Value} {Q : Value → Loc → Led → Led → Prop} (h : ∀ a, Q (.ref a) m μ ((a, tupO vs) :: φ)) (hsz : vs.length ≤ sizeLine := by size_fits) : H M A h₀ L (newTuple vs) m μ φ Q :=
  fun R E s S => wpAny_newObj_type (T := "tuple") (data := .seq vs.toArray) (dict := none) ⟨_, _, m, μ, _, rfl, S.push _, fun _ x => .tail _ x, h _⟩ (by show vs.toArray.size ≤ sizeLine; rw [List.size_toArray]; exact hsz)
theorem H_newList {vs : List Value} {Q : Value → Loc → Led → Led → Prop} (h : ∀ a, Q (.ref a) m ((a, lstO vs 0) :: μ) φ) (hsz : vs.length ≤ sizeLine := by size_fits) : H M A h₀ L (newList vs) m μ φ Q :=
  fun R E s S => wpAny_newObj_type (T := "list") (data := .seq vs.toArray) (dict := none) ⟨_, _, m, _ :: μ, _, rfl, S.pushM _, fun _ x => x, h _⟩ (by show vs.toArray.size ≤ sizeLine; rw [List.size_toArray]; exact hsz)
/-- a list that never changes -/
theorem H_newListF {vs : List Value} {Q : Value → Loc → Led → Led → Prop} (h : ∀ a, Q (.ref a) m μ ((a, lstO vs 0) :: φ)) (hsz : vs.length ≤ sizeLine := by size_fits) : H M A h₀ L (newList vs) m μ φ Q :=
  fun R E s S => wpAny_newObj_type (T := "list") (data := .seq vs.toArray) (dict := none) ⟨_, _, m, μ, _, rfl, S.push _, fun _ x => .tail _ x, h _⟩ (by show vs.toArray.size ≤ sizeLine; rw [List.size_toArray]; exact hsz)
end

section
variable {prog : Program} {w : World} {A : Around} {h₀ : Heap} {L : Addr} {α : Type} {m : Loc} {μ φ : Led} {env : Env}
theorem H_Expr {e : Expr} {pos : Pos} {Q : Flow → Loc → Led → Led → Prop} (h : H (model prog w) A h₀ L (eval e env) m μ φ (fun _ => Q .next)) (hi : interactive env = false := by rfl) (hs : swapsWith e none pos.line env = pure false := by rfl) :
    H (model prog w) A h₀ L (exec (.Expr e pos) env) m μ φ Q := H_then (g := fun _ => Flow.next) h fun _ _ _ x => wpAny_Expr_any x hi hs
theorem H_Attribute {value : Expr} {attr : Str} {pos : Pos} {Q : Value → Loc → Led → Led → Prop} (h : H (model prog w) A h₀ L (eval value env) m μ φ (fun o m μ φ => H (model prog w) A h₀ L (getAttr o attr true) m μ φ Q))
    (he : eval (.Attribute value attr pos) env = (do
      let o ← eval value env
      standAt pos.atName
      let r ← holding [o] (getAttr o attr true)
      letTemporaryGo value o r
      pure r) := by with_unfolding_all rfl) : H (model prog w) A h₀ L (eval (.Attribute value attr pos) env) m μ φ Q := H_seq h fun _ _ _ x => Attribute_any_ x he
theorem H_Subscript {value slice : Expr} {pos : Pos} {Q : Value → Loc → Led → Led → Prop}
    (h : H (model prog w) A h₀ L (eval value env) m μ φ (fun o m μ φ => H (model prog w) A h₀ L (eval slice env) m μ φ (fun i m μ φ => H (model prog w) A h₀ L (subscriptTail value slice o i) m μ φ Q))) :
    H (model prog w) A h₀ L (eval (.Subscript value slice pos) env) m μ φ Q := H_seq2 h fun _ _ _ x => Subscript_ x
theorem H_MethodCall {o : Expr} {name : Str} {apos pos : Pos} {args : List Expr} {pl : Sem Bool} {Q : Value → Loc → Led → Led → Prop}
    (h : H (model prog w) A h₀ L (eval o env) m μ φ (fun ov m μ φ => H (model prog w) A h₀ L (getMethod ov name pl) m μ φ (fun fx m μ φ => H (model prog w) A h₀ L (callWith pos fx.1 fx.2 (backTo pos (starEach args env)) []) m μ φ Q)))
    (he : eval (.Call (.Attribute o name apos) args [] pos) env = (do
      let ov ← eval o env
      standAt apos.atName
      let (f, first) ← holding [ov] (getMethod ov name pl)
      callWith pos f first (backTo pos (starEach args env)) []) := by rfl) :
    H (model prog w) A h₀ L (eval (.Call (.Attribute o name apos) args [] pos) env) m μ φ Q := by
  intro R E s S
  exact MethodCall_ (pl := pl) (H_run h S fun a h1 t1 m1 μ1 φ1 S1 b1 q1 => H_run q1 S1 fun b h2 t2 m2 μ2 φ2 S2 b2 q2 => H_run q2 S2 fun b h3 t3 m3 μ3 φ3 S3 b3 q3 =>
    ⟨h3, t3, m3, μ3, φ3, rfl, S3, fun p hp => b3 p (b2 p (b1 p hp)), q3⟩) he
theorem H_CallName {x : Str} {p pos : Pos} {args : List Expr} {Q : Value → Loc → Led → Led → Prop}
    (h : H (model prog w) A h₀ L (eval (.Name x p) env) m μ φ (fun f m μ φ => H (model prog w) A h₀ L (callWith pos f [] (backTo pos (starEach args env)) []) m μ φ Q)) :
    H (model prog w) A h₀ L (eval (.Call (.Name x p) args [] pos) env) m μ φ Q := H_seq h fun _ _ _ x => Call_Name rfl x
end
-- A3
/-- where a tree stands: the written part, the frame, the room below -/
structure Cx (K : Frag) (A : Around) (h₀ : Heap) (L : Addr) (d u : Nat) : Prop where
  X : K.In h₀
  hd : A.depth ≤ d
  hu : A.units ≤ u
  hh : A.handled = none
  ctx : ∃ (A₀ : Around) (base : Heap) (outer : List Env) (env : Env) (p : Program) (loose : List Str) (mean : ExcName → Option Value) (mg mb : Str → Option Value),
    Below A₀ base outer h₀ ∧ Top p loose mean mg mb h₀ ∧ A.frames = some (env :: outer) ∧ env.frame = some L ∧ env.scope.kind = .function

abbrev upd (m : Loc) (x : Str) (v : Value) : Loc := fun y => if y = x then some v else m y

section
variable {prog : Program} {w : World} {A : Around} {h₀ : Heap} {L : Addr} {α : Type} {m : Loc} {μ φ : Led} {env : Env} {K : Frag} {d u : Nat}

theorem H_local {x : Str} {v : Value} {pos : Pos} {Q : Value → Loc → Led → Led → Prop} (hL : env.locals = L) (hk : env.scope.kind = .function) (hl : env.kindOf x = some .local) (hv : m x = some v) (h : Q v m μ φ)
    (hd : (x == ("__debug__" : Str)) = false := by decide) : H (model prog w) A h₀ L (eval (.Name x pos) env) m μ φ Q :=
  fun R E s S => wpAny_Name (wpAny_loadName_local hk hl (hL ▸ S.F.ns) hv ⟨s.heap, s.toks, m, μ, φ, rfl, S, fun _ x => x, h⟩) hd
theorem H_global {x : Str} {v : Value} {pos : Pos} {Q : Value → Loc → Led → Led → Prop} (C : Cx K A h₀ L d u) (hg : env.globals = mainGlobals) (hk : env.scope.kind = .function) (hx : env.kindOf x = some .globalImplicit)
    (e : nsIn K mainGlobals x = some (some v)) (h : Q v m μ φ) (hd : (x == ("__debug__" : Str)) = false := by decide) : H (model prog w) A h₀ L (eval (.Name x pos) env) m μ φ Q := by
  intro R E s S
  obtain ⟨_, _, _, _, _, _, _, mg, mb, _, T, _⟩ := C.ctx
  exact Name_function_global hk hx (loadGlobal_global (by rw [hg]; exact T.g.keeps S.F.keep) (mg_of C.X T.g e) ⟨s.heap, s.toks, m, μ, φ, rfl, S, fun _ x => x, h⟩) hd
theorem H_builtin {x : Str} {v : Value} {pos : Pos} {Q : Value → Loc → Led → Led → Prop} (C : Cx K A h₀ L d u) (hg : env.globals = mainGlobals) (hb : env.builtins = builtinsNs) (hk : env.scope.kind = .function) (hx : env.kindOf x = some .globalImplicit)
    (e : nsIn K mainGlobals x = some none) (hv : bootBuiltins x = some v) (hn : x ≠ "__name__") (h : Q v m μ φ) (hd : (x == ("__debug__" : Str)) = false := by decide) : H (model prog w) A h₀ L (eval (.Name x pos) env) m μ φ Q := by
  intro R E s S
  obtain ⟨_, _, _, _, _, _, _, mg, mb, _, T, _⟩ := C.ctx
  exact Name_function_global hk hx (loadGlobal_builtin (by rw [hg]; exact T.g.keeps S.F.keep) (mg_none_of C.X T.g e) (by rw [hb]; exact T.b.keeps S.F.keep) ((T.builtins x hn).trans hv) ⟨s.heap, s.toks, m, μ, φ, rfl, S, fun _ x => x, h⟩) hd
theorem H_cell {x : Str} {v : Value} {pos : Pos} {c : Addr} {o : Obj} {Q : Value → Loc → Led → Led → Prop} (hk : env.scope.kind = .function) (hl : env.kindOf x = some .cell) (hc : env.cells.lookup x = some c)
    (hm : (c, o) ∈ μ ++ φ) (ho : o.data = .cell (some v)) (h : Q v m μ φ) (hd : (x == ("__debug__" : Str)) = false := by decide) : H (model prog w) A h₀ L (eval (.Name x pos) env) m μ φ Q := by
  intro R E s S
  refine wpAny_Name (wpAny_loadName_cell hk hl hc ⟨o, S.get ?_, ho⟩ ⟨s.heap, s.toks, m, μ, φ, rfl, S, fun _ x => x, h⟩) hd
  rcases List.mem_append.mp hm with q | q
  · exact List.mem_append_left _ (List.mem_append_left _ q)
  · exact List.mem_append_right _ q

/-- a name of a comprehension's own -/
theorem H_own {x : Str} {v : Value} {pos : Pos} {c : Addr} {o : Obj} {m₂ : Loc} {Q : Value → Loc → Led → Led → Prop} (hL : env.locals = c) (hk : env.scope.kind = .function) (hl : env.kindOf x = some .local)
    (hm : (c, o) ∈ μ ++ φ) (ho : LCg.NsObj o m₂) (hv : m₂ x = some v) (h : Q v m μ φ) (hd : (x == ("__debug__" : Str)) = false := by decide) : H (model prog w) A h₀ L (eval (.Name x pos) env) m μ φ Q := by
  intro R E s S
  have hg : s.heap.get? c = some o := S.get (by
    rcases List.mem_append.mp hm with q | q
    · exact List.mem_append_left _ (List.mem_append_left _ q)
    · exact List.mem_append_right _ q)
  exact wpAny_Name (wpAny_loadName_local hk hl (hL ▸ ho.ns hg) hv ⟨s.heap, s.toks, m, μ, φ, rfl, S, fun _ x => x, h⟩) hd

theorem H_store {x : Str} {v : Value} {Q : Unit → Loc → Led → Led → Prop} (hL : env.locals = L) (hk : env.scope.kind = .function) (hl : env.kindOf x = some .local) (h : Q () (upd m x v) μ φ) :
    H (model prog w) A h₀ L (storeName env x v) m μ φ Q := by
  intro R E s S
  refine wpAny_storeName_local hl (hL ▸ S.F.ns) (fun h' hn hs => ⟨h', _, _, μ, φ, rfl, ⟨S.F.set (hL ▸ hn) (hL ▸ hs), S.N.set (hL ▸ hs), S.D, S.U⟩, fun _ x => x, h⟩) ?_
  show (env.scope.kind == .class || (env.scope.kind == .module && env.locals != env.globals)) = false
  rw [hk]; rfl
theorem H_storeCell {x : Str} {v : Value} {c : Addr} {o : Obj} {v₀ : Option Value} {g : Obj → Led} {Q : Unit → Loc → Led → Led → Prop} (hk : env.scope.kind = .function) (hl : env.kindOf x = some .cell) (hc : env.cells.lookup x = some c)
    (U : ∀ o', Up c o o' μ (g o')) (ho : o.data = .cell v₀) (h : ∀ o', o'.data = .cell (some v) → Q () m (g o') φ) : H (model prog w) A h₀ L (storeName env x v) m μ φ Q := by
  intro R E s S
  refine wpAny_storeName_cell hk hl hc ⟨o, S.get (List.mem_append_left _ (List.mem_append_left _ (U o).mem)), ho⟩ fun h' hv hs => ?_
  obtain ⟨o', ho', hd'⟩ := hv
  exact ⟨h', _, m, g o', φ, rfl, S.up ((U o').right R) hs ho', fun _ x => x, h o' hd'⟩

/-! the text's own defs -/
abbrev retOf : Flow → Value
  | .ret v => v
  | _ => .none
theorem Cx.deeper {env' : Env} {A₀ : Around} {base : Heap} {outer : List Env} {p : Program} {loose : List Str} {mean : ExcName → Option Value} {mg mb : Str → Option Value} (hX : K.In h₀) (hd : A.depth ≤ d) (hu : A.units ≤ u) (hh : A.handled = none)
    (B : Below A₀ base outer h₀) (T : Top p loose mean mg mb h₀) (hA : A.frames = some outer) (hf : env'.frame = some L) (hk : env'.scope.kind = .function) : Cx K (A.deeper env') h₀ L (d + 1) (u + 3) :=
  ⟨hX, by show A.depth + 1 ≤ _; omega, by show A.units + 3 ≤ _; omega, hh, A₀, base, outer, env', p, loose, mean, mg, mb, B, T, by show A.frames.map _ = _; rw [hA]; rfl, hf, hk⟩

theorem code_in {R : Result → Shared → Prop} {s : Shared} {name qual : Str} {params : Arguments} {body : List Stmt} {scope : Scope} {dV kV doc pm cdv ct oc : Value} {an od : Option Addr} {osl : Array (Option Value)} {f : Addr} {args : Args} {binds : List (Str × Value)} {R' : Led}
    {Q : Value → Led → Led → Prop}
    (C : Cx K A h₀ L d u) (S : St h₀ L s.heap m (μ ++ R') φ)
    (ho : K.lookup f = some ⟨oc, od, .func (fnOf name qual params body scope dV kV doc pm an cdv ct), osl⟩) (hcd : codeIn K cdv qual = true) (hroom : d < recursionLimit)
    (hbind : ∀ s : Shared, K.In s.heap → BindsTo s (fnOf name qual params body scope dV kV doc pm an cdv ct) args binds) (hloc : ∀ y ∈ binds, scope.names.lookup y.1 = some .local)
    (h : ∀ g L', Cx K (A.deeper (envOf qual scope L' f cdv)) g L' (d + 1) (u + 3) →
      H (model prog w) (A.deeper (envOf qual scope L' f cdv)) g L' (execs body (envOf qual scope L' f cdv)) (fun y => binds.reverse.lookup y) μ φ (fun fl _ μ' φ' => Q (retOf fl) μ' φ'))
    (hR : ∀ v h' tk μ' φ', St h₀ L h' m (μ' ++ R') φ' → Sub φ φ' → Q v μ' φ' → R (.ok (.ret v)) { s with heap := h', toks := tk })
    (hco : scope.isCoroutine = false) (hgen : scope.isGenerator = false) (hk : scope.kind = .function) (hcell : ∀ x ∈ scope.names, x.2 ≠ .cell) :
    codeAny (model prog w) A (.call (.ref f) args) R s := by
  obtain ⟨A₀, base, outer, env, p, loose, mean, mg, mb, B, T, hA, hf, hke⟩ := C.ctx
  refine code_def B S.F C.X S.N T hA hf hke ho hcd (Nat.lt_of_le_of_lt C.hd hroom) (hbind s (C.X.keeps S.F.keep)) hloc (fun g L' h₁ FG F' N' B' X' T' => ?_) hco hgen hk hcell
  have C' : Cx K (A.deeper (envOf qual scope L' f cdv)) g L' (d + 1) (u + 3) := Cx.deeper X' C.hd C.hu C.hh B' T' hA rfl hk
  refine H_run (h g L' C') (s := { s with heap := h₁, toks := s.toks + binds.length }) (R := R') ⟨F', N', S.D, S.U⟩ fun fl h2 t2 m2 μ2 φ2 S2 b2 q2 => ?_
  have key : ∀ v, retOf fl = v → LeaveK h₀ L m g R v { s with heap := h2, toks := t2 } := fun v e => ⟨L', m2, (μ2 ++ R') ++ φ2, S2.F, S2.N, fun F3 N3 => hR _ h2 t2 μ2 φ2 ⟨F3, N3, S2.D, S2.U⟩ b2 (e ▸ q2)⟩
  cases fl <;> exact key _ rfl

theorem H_call {name qual : Str} {params : Arguments} {body : List Stmt} {scope : Scope} {dV kV doc pm cdv ct oc : Value} {an od : Option Addr} {osl : Array (Option Value)} {f : Addr} {vals : List Value} {kw : List (Str × Value)} {binds : List (Str × Value)}
    {Q : Value → Loc → Led → Led → Prop}
    (C : Cx K A h₀ L d u)
    (ho : K.lookup f = some ⟨oc, od, .func (fnOf name qual params body scope dV kV doc pm an cdv ct), osl⟩) (hcd : codeIn K cdv qual = true) (hroom : d < recursionLimit)
    (hbind : ∀ s : Shared, K.In s.heap → BindsTo s (fnOf name qual params body scope dV kV doc pm an cdv ct) ⟨vals, kw⟩ binds) (hloc : ∀ y ∈ binds, scope.names.lookup y.1 = some .local)
    (h : ∀ g L', Cx K (A.deeper (envOf qual scope L' f cdv)) g L' (d + 1) (u + 3) →
      H (model prog w) (A.deeper (envOf qual scope L' f cdv)) g L' (execs body (envOf qual scope L' f cdv)) (fun y => binds.reverse.lookup y) μ φ (fun fl _ μ' φ' => Q (retOf fl) m μ' φ'))
    (hco : scope.isCoroutine = false) (hgen : scope.isGenerator = false) (hk : scope.kind = .function) (hcell : ∀ x ∈ scope.names, x.2 ≠ .cell) :
    H (model prog w) A h₀ L (call (.ref f) vals kw) m μ φ Q := by
  intro R E s S
  exact wpAny_call (code_in (Q := fun v μ' φ' => Q v m μ' φ') C S ho hcd hroom hbind hloc h (fun v h' tk μ' φ' S' b q => ⟨h', tk, m, μ', φ', rfl, S', b, q⟩) hco hgen hk hcell)

theorem cellsFrom_addrs : ∀ (names : List (Str × NameKind)) (n : Nat) (acc : List (Str × Addr)), ∃ k, (cellsFrom n names acc).map (·.2) = (List.range' n k).reverse ++ acc.map (·.2)
  | [], n, acc => ⟨0, by simp [cellsFrom]⟩
  | (x, kd) :: r, n, acc => by
    unfold cellsFrom
    split
    · obtain ⟨k, e⟩ := cellsFrom_addrs r (n + 1) ((x, n) :: acc)
      refine ⟨k + 1, ?_⟩
      rw [e, List.range'_succ]
      simp
    · exact cellsFrom_addrs r n acc
theorem CellsAre.addrs {cm : Loc} : ∀ {cs : List (Str × Addr)} {cells : Led}, CellsAre cm cs cells → cells.map (·.1) = cs.map (·.2)
  | _, _, .nil => rfl
  | _, _, .cons _ r => by simp [CellsAre.addrs r]

theorem code_inC {R : Result → Shared → Prop} {s : Shared} {R' : Led} {name qual : Str} {params : Arguments} {body : List Stmt} {scope : Scope} {dV kV doc pm cdv ct oc : Value} {an od : Option Addr} {osl : Array (Option Value)} {f : Addr} {args : Args} {binds : List (Str × Value)}
    {Q : Value → Led → Led → Prop}
    (C : Cx K A h₀ L d u) (S : St h₀ L s.heap m (μ ++ R') φ)
    (ho : K.lookup f = some ⟨oc, od, .func (fnOf name qual params body scope dV kV doc pm an cdv ct), osl⟩) (hcd : codeIn K cdv qual = true) (hroom : d < recursionLimit)
    (hbind : ∀ s : Shared, K.In s.heap → BindsTo s (fnOf name qual params body scope dV kV doc pm an cdv ct) args binds)
    (hkind : (binds.all fun y => scope.names.lookup y.1 == some .local || scope.names.lookup y.1 == some .cell) = true) (hnd : ((cellsFrom 0 scope.names []).map (·.1)).Nodup)
    (h : ∀ g L' cells, Cx K (A.deeper (envOfC qual scope L' f cdv)) g L' (d + 1) (u + 3) → CellsAre (bindC (envOfC qual scope L' f cdv).kindOf binds fun _ => none) (cellsFrom (L' + 1) scope.names []) cells →
      H (model prog w) (A.deeper (envOfC qual scope L' f cdv)) g L' (execs body (envOfC qual scope L' f cdv)) (bindL (envOfC qual scope L' f cdv).kindOf binds fun _ => none) (cells ++ μ) φ
        (fun fl _ μ' φ' => ∃ μ'', μ''.Sublist μ' ∧ Q (retOf fl) μ'' φ'))
    (hR : ∀ v h' tk μ' φ', St h₀ L h' m (μ' ++ R') φ' → Sub φ φ' → Q v μ' φ' → R (.ok (.ret v)) { s with heap := h', toks := tk })
    (hco : scope.isCoroutine = false) (hgen : scope.isGenerator = false) (hk : scope.kind = .function) :
    codeAny (model prog w) A (.call (.ref f) args) R s := by
  obtain ⟨A₀, base, outer, env, p, loose, mean, mg, mb, B, T, hA, hf, hke⟩ := C.ctx
  refine code_defC B S.F C.X S.N T hA hf hke ho hcd (Nat.lt_of_le_of_lt C.hd hroom) (hbind s (C.X.keeps S.F.keep)) hkind hnd (fun g L' h₁ tk cells FG F' N' Y B' X' T' hlt => ?_) hco hgen hk
  have C' : Cx K (A.deeper (envOfC qual scope L' f cdv)) g L' (d + 1) (u + 3) := Cx.deeper X' C.hd C.hu C.hh B' T' hA rfl hk
  obtain ⟨k, ek⟩ := cellsFrom_addrs scope.names (L' + 1) []
  have ea : cells.map (·.1) = (List.range' (L' + 1) k).reverse := by rw [CellsAre.addrs Y, ek]; simp
  have hgt : ∀ p ∈ cells, @LT.lt Nat _ L' p.1 := fun p hp => by
    have : p.1 ∈ cells.map (·.1) := List.mem_map_of_mem hp
    rw [ea, List.mem_reverse, List.mem_range'] at this
    obtain ⟨i, _, e⟩ := this
    rw [e]; omega
  have S' : St g L' h₁ (bindL (envOfC qual scope L' f cdv).kindOf binds fun _ => none) ((cells ++ μ) ++ R') φ := by
    refine ⟨F', fun p hp => N' p ?_, fun p hp q hq => ?_, ?_⟩
    · simp only [List.mem_append] at hp ⊢
      rcases hp with ((x | x) | x) | x
      · exact .inl x
      · exact .inr (.inl (.inl x))
      · exact .inr (.inl (.inr x))
      · exact .inr (.inr x)
    · rw [List.append_assoc] at hp
      rcases List.mem_append.mp hp with x | x
      · exact Nat.ne_of_gt (Nat.lt_trans (hlt q (List.mem_append_right _ hq)) (hgt p x))
      · exact S.D p x q hq
    · rw [List.append_assoc, List.map_append, List.nodup_append]
      refine ⟨?_, S.U, ?_⟩
      · rw [ea]; exact List.pairwise_reverse.mpr (List.Pairwise.imp (fun h => Ne.symm h) List.nodup_range')
      · intro a ha b hb
        obtain ⟨p, hp, rfl⟩ := List.mem_map.mp ha
        obtain ⟨q, hq, rfl⟩ := List.mem_map.mp hb
        exact Nat.ne_of_gt (Nat.lt_trans (hlt q (List.mem_append_left _ hq)) (hgt p hp))
  refine H_run (h g L' cells C' Y) (s := { s with heap := h₁, toks := tk }) (R := R') S' fun fl h2 t2 m2 μ2 φ2 S2 b2 q2 => ?_
  obtain ⟨μ'', hsub, q2⟩ := q2
  have S3 := S2.sub (hsub.append_right R')
  have key : ∀ v, retOf fl = v → LeaveK h₀ L m g R v { s with heap := h2, toks := t2 } := fun v e => ⟨L', m2, (μ'' ++ R') ++ φ2, S3.F, S3.N, fun F3 N3 => hR _ h2 t2 μ'' φ2 ⟨F3, N3, S3.D, S3.U⟩ b2 (e ▸ q2)⟩
  cases fl <;> exact key _ rfl

theorem H_callC {name qual : Str} {params : Arguments} {body : List Stmt} {scope : Scope} {dV kV doc pm cdv ct oc : Value} {an od : Option Addr} {osl : Array (Option Value)} {f : Addr} {vals : List Value} {kw : List (Str × Value)} {binds : List (Str × Value)}
    {Q : Value → Loc → Led → Led → Prop}
    (C : Cx K A h₀ L d u)
    (ho : K.lookup f = some ⟨oc, od, .func (fnOf name qual params body scope dV kV doc pm an cdv ct), osl⟩) (hcd : codeIn K cdv qual = true) (hroom : d < recursionLimit)
    (hbind : ∀ s : Shared, K.In s.heap → BindsTo s (fnOf name qual params body scope dV kV doc pm an cdv ct) ⟨vals, kw⟩ binds)
    (hkind : (binds.all fun y => scope.names.lookup y.1 == some .local || scope.names.lookup y.1 == some .cell) = true) (hnd : ((cellsFrom 0 scope.names []).map (·.1)).Nodup)
    (h : ∀ g L' cells, Cx K (A.deeper (envOfC qual scope L' f cdv)) g L' (d + 1) (u + 3) → CellsAre (bindC (envOfC qual scope L' f cdv).kindOf binds fun _ => none) (cellsFrom (L' + 1) scope.names []) cells →
      H (model prog w) (A.deeper (envOfC qual scope L' f cdv)) g L' (execs body (envOfC qual scope L' f cdv)) (bindL (envOfC qual scope L' f cdv).kindOf binds fun _ => none) (cells ++ μ) φ
        (fun fl _ μ' φ' => ∃ μ'', μ''.Sublist μ' ∧ Q (retOf fl) m μ'' φ'))
    (hco : scope.isCoroutine = false) (hgen : scope.isGenerator = false) (hk : scope.kind = .function) :
    H (model prog w) A h₀ L (call (.ref f) vals kw) m μ φ Q := by
  intro R E s S
  exact wpAny_call (code_inC (Q := fun v μ' φ' => Q v m μ' φ') C S ho hcd hroom hbind hkind hnd h (fun v h' tk μ' φ' S' b q => ⟨h', tk, m, μ', φ', rfl, S', b, q⟩) hco hgen hk)

/-! own classes -/
theorem under_make_frames (A : Around) (pos : List Value) (kw : List (Str × Value)) (a : Value) : (A.under (.builtin "type.__call__" ⟨a :: pos, kw⟩)).frames = A.frames := by
  rfl
end
-- A4
def fnd (x : Str) (es : List DictEntry) : Option Value := (es.find? (·.key.isStr x)).map (·.val)
theorem isStr_other {v : Value} {a b : Str} (h : v.isStr a = true) : v.isStr b = (decide (b = a)) := by
  cases v <;> simp [Value.isStr] at h ⊢
  subst h
  rename_i s _
  by_cases e : b = s
  · subst e; simp
  · simp [e, Ne.symm e]
theorem fnd_putL (name x : Str) (hsh : Int) (t : Tok) (v : Value) : ∀ es : List DictEntry, fnd x (putL name hsh (.str name t) v es) = if x = name then some v else fnd x es
  | [] => by
    by_cases h : x = name
    · subst h; simp [putL, fnd, Value.isStr]
    · simp [putL, fnd, Value.isStr, h, Ne.symm h]
  | e :: r => by
    have ih := fnd_putL name x hsh t v r
    unfold putL
    cases hk : e.key.isStr name with
    | true =>
      rw [if_pos rfl]
      have e1 := isStr_other (b := x) hk
      by_cases h : x = name
      · subst h; simp [fnd, hk]
      · simp only [fnd, List.find?_cons, e1, h, decide_false, if_false]
    | false =>
      rw [if_neg (by simp)]
      unfold fnd at ih ⊢
      simp only [List.find?_cons]
      cases hx : e.key.isStr x with
      | true =>
        by_cases h : x = name
        · subst h; rw [hk] at hx; cases hx
        · simp [h]
      | false => exact ih
theorem any_putL (name : Str) (hsh : Int) (t : Tok) (v : Value) : ∀ es : List DictEntry, es.any (·.refKey) = false → (putL name hsh (.str name t) v es).any (·.refKey) = false
  | [], _ => rfl
  | e :: r, h => by
    rw [List.any_cons, Bool.or_eq_false_iff] at h
    unfold putL
    split
    · rw [List.any_cons, Bool.or_eq_false_iff]; exact ⟨h.1, h.2⟩
    · rw [List.any_cons, Bool.or_eq_false_iff]; exact ⟨h.1, any_putL name hsh t v r h.2⟩
theorem len_putL (name : Str) (hsh : Int) (t : Tok) (v : Value) : ∀ es : List DictEntry, (putL name hsh (.str name t) v es).length ≤ es.length + 1
  | [] => Nat.le_refl _
  | e :: r => by
    unfold putL
    split
    · simp
    · have := len_putL name hsh t v r
      simp only [List.length_cons]; omega

/-- the dict of an object of an own class -/
structure Attrs (o : Obj) (f : Loc) (k : Nat) : Prop where
  ex : ∃ es n, o = dictOf es n ∧ es.length ≤ k ∧ es.any (·.refKey) = false ∧ ∀ x, fnd x es = f x
theorem Attrs.empty : Attrs emptyDict (fun _ => none) 0 := ⟨[], 0, rfl, Nat.le_refl _, rfl, fun _ => rfl⟩
theorem getL_of {es : List DictEntry} {x : Str} (h : es.any (·.refKey) = false) : getL x es = some (fnd x es) := by
  unfold getL fnd
  cases es.find? (·.key.isStr x) with
  | some e => rfl
  | none => simp only [h]; rfl

section
variable {prog : Program} {w : World} {A : Around} {h₀ : Heap} {L : Addr} {α : Type} {m : Loc} {μ φ R : Led} {env : Env} {K : Frag} {d u : Nat}
theorem mem_in {p : Addr × Obj} (h : p ∈ μ ++ φ) : p ∈ (μ ++ R) ++ φ := (List.mem_append.mp h).elim (fun q => List.mem_append_left _ (List.mem_append_left _ q)) fun q => List.mem_append_right _ q

theorem upd_of_split {a : Addr} {o o' : Obj} : ∀ {pre post : Led}, (∀ p ∈ pre, p.1 ≠ a) → (∀ p ∈ post, p.1 ≠ a) → Upd a o o' (pre ++ (a, o) :: post) (pre ++ (a, o') :: post)
  | [], _, _, h2 => .head h2
  | p :: pre, _, h1, h2 => .tail (h1 p (.head _)) (upd_of_split (fun q hq => h1 q (.tail _ hq)) h2)
theorem St.toUpd {h : Heap} {a : Addr} {o o' : Obj} {μ' : Led} (S : St h₀ L h m μ φ) (U : Up a o o' μ μ') : Upd a o o' (μ ++ φ) (μ' ++ φ) := by
  obtain ⟨pre, post, rfl, rfl⟩ := U.split
  have hU := S.U
  rw [List.map_append, List.map_cons, List.nodup_append] at hU
  rw [List.append_assoc, List.append_assoc]
  refine upd_of_split (fun p hp => hU.2.2 p.1 (List.mem_map_of_mem hp) a (.head _)) fun p hp => ?_
  rcases List.mem_append.mp hp with hp | hp
  · exact fun e => (List.nodup_cons.mp hU.2.1).1 (List.mem_map.mpr ⟨p, hp, e⟩)
  · exact fun e => S.D (a, o) (List.mem_append_right _ (.head _)) p hp e.symm
theorem St.ofUp {h h' : Heap} {m' : Loc} {a : Addr} {o o' : Obj} {μ' : Led} (S : St h₀ L h m μ φ) (U : Up a o o' μ μ') (F : Fr h₀ L h' m') (N : News h₀ L h' (μ' ++ φ)) : St h₀ L h' m' μ' φ := by
  obtain ⟨pre, post, rfl, rfl⟩ := U.split
  refine ⟨F, N, fun p hp q hq => ?_, ?_⟩
  · rcases List.mem_append.mp hp with hp | hp
    · exact S.D p (List.mem_append_left _ hp) q hq
    · rcases List.mem_cons.mp hp with rfl | hp
      · exact S.D (a, o) (List.mem_append_right _ (.head _)) q hq
      · exact S.D p (List.mem_append_right _ (.tail _ hp)) q hq
  · have e : (pre ++ (a, o') :: post).map (·.1) = (pre ++ (a, o) :: post).map (·.1) := by simp
    rw [e]; exact S.U

theorem H_getAttr {x Cl dx : Addr} {od : Obj} {f : Loc} {k : Nat} {name : Str} {expr : Bool} {attr : Option Value} {v : Value} {Q : Value → Loc → Led → Led → Prop} (C : Cx K A h₀ L d u)
    (h1 : (x, instObj Cl dx) ∈ μ ++ φ) (h2 : (dx, od) ∈ μ ++ φ) (ha : Attrs od f k) (hg : plainGet K Cl name = true) (hh : hasDictIn K Cl = true) (hfi : findIn K (.ref Cl) name = some attr) (hn : noGet K attr = true)
    (hv : f name = some v) (hhd : handedIn v = true) (h : Q v m μ φ) : H (model prog w) A h₀ L (getAttr (.ref x) name expr) m μ φ Q := by
  intro R E s S
  obtain ⟨es, n, rfl, _, hr, hf⟩ := ha.ex
  exact get_own S.F C.X (InstAt.of_news S.N (mem_in h1) (mem_in h2)) hg hh hfi hn (by rw [getL_of hr, hf, hv]) hhd ⟨s.heap, s.toks + 1, m, μ, φ, rfl, S, fun _ x => x, h⟩
theorem H_getMethod {x Cl dx : Addr} {od : Obj} {f : Loc} {k : Nat} {name : Str} {pl : Sem Bool} {fn : Addr} {Q : Value × List Value → Loc → Led → Led → Prop} (C : Cx K A h₀ L d u)
    (h1 : (x, instObj Cl dx) ∈ μ ++ φ) (h2 : (dx, od) ∈ μ ++ φ) (ha : Attrs od f k) (hg : plainGet K Cl name = true) (hfi : findIn K (.ref Cl) name = some (some (.ref fn))) (ht : isFn K (.ref fn) = true)
    (hv : f name = none) (h : Q (.ref fn, [.ref x]) m μ φ) : H (model prog w) A h₀ L (getMethod (.ref x) name pl) m μ φ Q := by
  intro R E s S
  obtain ⟨es, n, rfl, _, hr, hf⟩ := ha.ex
  exact method_inst S.F C.X (InstAt.of_news S.N (mem_in h1) (mem_in h2)) hg hfi ht (by rw [getL_of hr, hf, hv]) ⟨s.heap, s.toks, m, μ, φ, rfl, S, fun _ x => x, h⟩
theorem H_setAttr {x Cl dx : Addr} {od : Obj} {f : Loc} {k : Nat} {name : Str} {v : Value} {g : Obj → Led} {Q : Unit → Loc → Led → Led → Prop} (C : Cx K A h₀ L d u)
    (h1 : (x, instObj Cl dx) ∈ μ ++ φ) (U : ∀ o', Up dx od o' μ (g o')) (ha : Attrs od f k) (hs : findIn K (.ref Cl) "__setattr__" = some (some (.builtin "object.__setattr__"))) (hp : plainOver K Cl = true)
    (ht : takerIn K Cl name = some none) (hh : hasDictIn K Cl = true) (hk : k < 1000) (h : ∀ od', Attrs od' (upd f name v) (k + 1) → Q () m (g od') φ) : H (model prog w) A h₀ L (setAttr (.ref x) name v) m μ φ Q := by
  intro R E s S
  obtain ⟨es, n, rfl, hl, hr, hf⟩ := ha.ex
  have UR := (U (dictOf (putL name (PyData.keyHash w.params name) (.str name (s.toks + 1)) v es) (putN name es n))).right R
  have hlen := len_putL name (PyData.keyHash w.params name) (s.toks + 1) v es
  refine set_dict S.F C.X S.N (InstAt.of_news S.N (mem_in h1) (List.mem_append_left _ UR.mem)) rfl hs hp ht hh (by rw [getL_of hr]; rfl) rfl (S.toUpd UR) (by omega) fun h' F' N' => ?_
  refine ⟨h', _, m, _, φ, rfl, S.ofUp UR F' N', fun _ x => x, h _ ⟨_, _, rfl, by omega, any_putL _ _ _ _ _ hr, fun y => ?_⟩⟩
  rw [fnd_putL, hf]

/-! calls with their arguments -/
theorem H_with_K {f : Value} {first : List Value} {e : Expr} {rest : List Expr} {pos : Pos} {Q : Value → Loc → Led → Led → Prop} (C : Cx K A h₀ L d u) (hk : keepIn K f = true)
    (h : H (model prog w) A h₀ L (spliced (backTo pos (starEach (e :: rest) env))) m μ φ (fun vs m μ φ => H (model prog w) A h₀ L (call f (first ++ vs)) m μ φ Q))
    (he : starEach (e :: rest) env = (false, eval e env) :: starEach rest env := by rfl) (hplain : (backTo pos (starEach rest env)).any (·.1) = false := by rfl) :
    H (model prog w) A h₀ L (callWith pos f first (backTo pos (starEach (e :: rest) env)) []) m μ φ Q := by
  intro R E s S
  exact callWith_K C.X hk (H_run h S fun a h1 t1 m1 μ1 φ1 S1 b1 q1 => ⟨C.X.keeps S1.F.keep, H_run q1 S1 fun b h2 t2 m2 μ2 φ2 S2 b2 q2 => ⟨h2, t2, m2, μ2, φ2, rfl, S2, fun p hp => b2 p (b1 p hp), q2⟩⟩) he hplain
theorem H_with_K0 {f : Value} {first : List Value} {pos : Pos} {Q : Value → Loc → Led → Led → Prop} (C : Cx K A h₀ L d u) (hk : keepIn K f = true)
    (h : H (model prog w) A h₀ L (call f (first ++ [])) m μ φ Q) : H (model prog w) A h₀ L (callWith pos f first (backTo pos (starEach [] env)) []) m μ φ Q := by
  intro R E s S
  exact callWith_K0 (C.X.keeps S.F.keep) hk (h R E s S)
theorem H_with_b {id : String} {first : List Value} {e : Expr} {rest : List Expr} {pos : Pos} {Q : Value → Loc → Led → Led → Prop}
    (h : H (model prog w) A h₀ L (spliced (backTo pos (starEach (e :: rest) env))) m μ φ (fun vs m μ φ => H (model prog w) A h₀ L (call (.builtin id) (first ++ vs)) m μ φ Q))
    (he : starEach (e :: rest) env = (false, eval e env) :: starEach rest env := by rfl) (hplain : (backTo pos (starEach rest env)).any (·.1) = false := by rfl) :
    H (model prog w) A h₀ L (callWith pos (.builtin id) first (backTo pos (starEach (e :: rest) env)) []) m μ φ Q := H_seq h fun _ _ _ x => callWith_method1 x he hplain
theorem H_with_b0 {id : String} {first : List Value} {pos : Pos} {Q : Value → Loc → Led → Led → Prop} (h : H (model prog w) A h₀ L (call (.builtin id) first) m μ φ Q) :
    H (model prog w) A h₀ L (callWith pos (.builtin id) first (backTo pos (starEach [] env)) []) m μ φ Q := H_as h fun _ _ _ x => callWith_method0 x
theorem H_with_t {T : String} {e : Expr} {rest : List Expr} {pos : Pos} {Q : Value → Loc → Led → Led → Prop}
    (h : H (model prog w) A h₀ L (spliced (backTo pos (starEach (e :: rest) env))) m μ φ (fun vs m μ φ => H (model prog w) A h₀ L (call (.type T) vs) m μ φ Q))
    (he : starEach (e :: rest) env = (false, eval e env) :: starEach rest env := by rfl) (hplain : (backTo pos (starEach rest env)).any (·.1) = false := by rfl) :
    H (model prog w) A h₀ L (callWith pos (.type T) [] (backTo pos (starEach (e :: rest) env)) []) m μ φ Q := H_seq h fun _ _ _ x => callWith_type1 x he hplain

/-! an object of an own class is made -/
theorem H_make {name qual : Str} {params : Arguments} {body : List Stmt} {scope : Scope} {dV kV doc pm cdv ct oc : Value} {an od : Option Addr} {osl : Array (Option Value)} {Cl fI : Addr} {vals : List Value} {binds : Addr → List (Str × Value)}
    {Q : Value → Loc → Led → Led → Prop}
    (C : Cx K A h₀ L d u) (hm : makesIn K Cl = true) (hi : findIn K (.ref Cl) "__init__" = some (some (.ref fI))) (hf : isFn K (.ref fI) = true)
    (ho : K.lookup fI = some ⟨oc, od, .func (fnOf name qual params body scope dV kV doc pm an cdv ct), osl⟩) (hcd : codeIn K cdv qual = true) (hroom : d + 1 < recursionLimit)
    (hbind : ∀ x, ∀ s : Shared, K.In s.heap → BindsTo s (fnOf name qual params body scope dV kV doc pm an cdv ct) ⟨.ref x :: vals, []⟩ (binds x)) (hloc : ∀ x, ∀ y ∈ binds x, scope.names.lookup y.1 = some .local)
    (h : ∀ x dx A' g L', Cx K A' g L' (d + 2) (u + 4) →
      H (model prog w) A' g L' (execs body (envOf qual scope L' fI cdv)) (fun y => (binds x).reverse.lookup y) ((dx, emptyDict) :: μ) ((x, instObj Cl dx) :: φ) (fun fl _ μ' φ' => retOf fl = .none ∧ Q (.ref x) m μ' φ'))
    (hco : scope.isCoroutine = false) (hgen : scope.isGenerator = false) (hk : scope.kind = .function) (hcell : ∀ x ∈ scope.names, x.2 ≠ .cell) :
    H (model prog w) A h₀ L (call (.ref Cl) vals []) m μ φ Q := by
  intro R E s S
  refine wpAny_call (make_K S.F S.N (C.X.keeps S.F.keep) hm hi (beq_iff_eq.mp hf) fun x dx h' F' N' l1 l2 => ?_)
  have C' : Cx K (A.under (.builtin "type.__call__" ⟨.ref Cl :: vals, []⟩)) h₀ L (d + 1) (u + 1) := by
    obtain ⟨A₀, base, outer, env, p, loose, mean, mg, mb, B, T, hA, hf, hke⟩ := C.ctx
    exact ⟨C.X, by rw [depth_under_make]; exact Nat.succ_le_succ C.hd, by rw [units_under_make]; exact Nat.succ_le_succ C.hu, C.hh, A₀, base, outer, env, p, loose, mean, mg, mb, B, T, (under_make_frames ..).trans hA, hf, hke⟩
  have S' : St h₀ L h' m (((dx, emptyDict) :: μ) ++ R) ((x, instObj Cl dx) :: φ) := by
    refine ⟨F', fun p hp => N' p ?_, fun p hp q hq => ?_, List.nodup_cons.mpr ⟨fun hm => ?_, S.U⟩⟩
    · simp only [List.cons_append, List.mem_cons, List.mem_append] at hp ⊢
      rcases hp with x | (x | x) | x | x
      · exact .inr (.inl x)
      · exact .inr (.inr (.inl (.inl x)))
      · exact .inr (.inr (.inl (.inr x)))
      · exact .inl x
      · exact .inr (.inr (.inr x))
    · rcases List.mem_cons.mp hp with rfl | hp
      · rcases List.mem_cons.mp hq with rfl | hq
        · exact Nat.ne_of_lt l2
        · exact Nat.ne_of_gt (l1 q (List.mem_append_right _ hq))
      · rcases List.mem_cons.mp hq with rfl | hq
        · exact Nat.ne_of_lt (Nat.lt_trans (l1 p (List.mem_append_left _ hp)) l2)
        · exact S.D p hp q hq
    · obtain ⟨p, hp, e⟩ := List.mem_map.mp hm
      exact absurd (l1 p (List.mem_append_left _ hp)) (by rw [e]; exact Nat.lt_irrefl _)
  refine code_in (s := { s with heap := h' }) (Q := fun v μ' φ' => v = .none ∧ Q (.ref x) m μ' φ') C' S' ho hcd hroom (hbind x) (hloc x) (fun g L' Cg => h x dx _ g L' Cg) (fun v h2 tk μ' φ' S2 b q => ?_) hco hgen hk hcell
  exact ⟨q.1, h2, tk, m, μ', φ', rfl, S2, fun p hp => b p (.tail _ hp), q.2⟩
end
-- A5
/-- all of h but the object at a stands in h' -/
abbrev KeepBut (a : Addr) (h h' : Heap) : Prop := ∀ b o, b ≠ a → h.get? b = some o → h'.get? b = some o

section
variable {h₀ : Heap} {L : Addr} {m : Loc} {μ φ R : Led}
theorem St.upX {h h' : Heap} {a : Addr} {o o' : Obj} {μ' : Led} (S : St h₀ L h m μ φ) (U : Up a o o' μ μ') (hs : KeepBut a h h') (ho : h'.get? a = some o') : St h₀ L h' m μ' φ := by
  obtain ⟨pre, post, rfl, rfl⟩ := U.split
  have hm := S.N (a, o) (List.mem_append_left _ (List.mem_append_right _ (.head _)))
  have hU := S.U
  rw [List.map_append, List.map_cons, List.nodup_append] at hU
  have h1 : ∀ p ∈ pre, p.1 ≠ a := fun p hp => hU.2.2 p.1 (List.mem_map_of_mem hp) a (.head _)
  have h2 : ∀ p ∈ post, p.1 ≠ a := fun p hp e => (List.nodup_cons.mp hU.2.1).1 (List.mem_map.mpr ⟨p, hp, e⟩)
  have h3 : ∀ q ∈ φ, q.1 ≠ a := fun q hq e => S.D (a, o) (List.mem_append_right _ (.head _)) q hq e.symm
  have other : ∀ p ∈ (pre ++ (a, o) :: post) ++ φ, p.1 ≠ a → h'.get? p.1 = some p.2 ∧ p.1 ≠ L ∧ h₀.get? p.1 = none := fun p hp ne => ⟨hs _ _ ne (S.N p hp).1, (S.N p hp).2⟩
  refine St.ofUp S U ⟨S.F.ns.at' fun ob e => hs _ _ (Ne.symm hm.2.1) e, fun b ob e => hs b ob (fun q => ?_) (S.F.keep b ob e), S.F.above⟩ fun p hp => ?_
  · have := hm.2.2; rw [← q, e] at this; cases this
  · rcases List.mem_append.mp hp with hp | hp
    · rcases List.mem_append.mp hp with hp | hp
      · exact other p (List.mem_append_left _ (List.mem_append_left _ hp)) (h1 p hp)
      · rcases List.mem_cons.mp hp with rfl | hp
        · exact ⟨ho, hm.2⟩
        · exact other p (List.mem_append_left _ (List.mem_append_right _ (.tail _ hp))) (h2 p hp)
    · exact other p (List.mem_append_right _ hp) (h3 p hp)
/-- the object at a is let go -/
theorem St.lose {h h' : Heap} {a : Addr} {o : Obj} (S : St h₀ L h m ((a, o) :: μ) φ) (hs : KeepBut a h h') : St h₀ L h' m μ φ := by
  have hm := S.N (a, o) (List.mem_append_left _ (.head _))
  have h2 : ∀ p ∈ μ, p.1 ≠ a := fun p hp e => (List.nodup_cons.mp S.U).1 (List.mem_map.mpr ⟨p, hp, e⟩)
  have h3 : ∀ q ∈ φ, q.1 ≠ a := fun q hq e => S.D (a, o) (.head _) q hq e.symm
  refine ⟨⟨S.F.ns.at' fun ob e => hs _ _ (Ne.symm hm.2.1) e, fun b ob e => hs b ob (fun q => ?_) (S.F.keep b ob e), S.F.above⟩, fun p hp => ?_, fun p hp => S.D p (.tail _ hp), (List.nodup_cons.mp S.U).2⟩
  · have := hm.2.2; rw [← q, e] at this; cases this
  · rcases List.mem_append.mp hp with hp | hp
    · exact ⟨hs _ _ (h2 p hp) (S.N p (List.mem_append_left _ (.tail _ hp))).1, (S.N p (List.mem_append_left _ (.tail _ hp))).2⟩
    · exact ⟨hs _ _ (h3 p hp) (S.N p (List.mem_append_right _ hp)).1, (S.N p (List.mem_append_right _ hp)).2⟩
end

def nonOwners : List String := ["enumerate", "zip", "dict_itemiterator", "dict_reverseitemiterator", "odict_iterator", "itertools.zip_longest", "itertools.pairwise"]

/-- what can be gone through: n items, the i-th as P says; all that it rests on stays -/
structure Src (prog : Program) (w : World) (A : Around) (φ : Led) (v : Value) (n : Nat) (P : Nat → Value → Prop) : Prop where
  iter : ∀ (s : Shared) (Q : Value → Shared → Prop) (E : Value → Shared → Prop), (∀ p ∈ φ, s.heap.get? p.1 = some p.2) →
    (∀ oI fp Stt, Obj.isFreed oI = false → Walks prog w A s.heap.objs.size fp [s.heap.objs.size] n P Stt → (∀ b ∈ fp, b = s.heap.objs.size ∨ ∃ o, (b, o) ∈ φ) → Stt 0 (s.heap.push oI) →
      (∀ i h, Stt i h → ∃ o T, h.get? s.heap.objs.size = some o ∧ o.cls = .type T ∧ nonOwners.contains T = false) → Q (.ref s.heap.objs.size) { s with heap := s.heap.push oI }) → wpAny (model prog w) A (pyIter v) Q E s

theorem Src.list {prog : Program} {w : World} {A : Around} {φ : Led} {a : Addr} {o : Obj} {its : Array Value} {k : Nat} (hh : A.handled = none) (hm : (a, o) ∈ φ) (hc : o.cls = .type "list") (hd : o.data = .seq its k) :
    Src prog w A φ (.ref a) its.size (fun i v => its[i]? = some v) := by
  refine ⟨fun s Q E hφ K => ?_⟩
  have hl : s.heap.IsList a its := ⟨o, hφ _ hm, hc, k, hd⟩
  have hlt : a < s.heap.objs.size := Heap.lt_size (hφ _ hm)
  refine wpAny_pyIter_list hl (K _ _ _ rfl (Walks.list hh s.heap.objs.size a (Nat.ne_of_lt hlt) its) (fun b hb => ?_) ⟨⟨_, Heap.get?_push_size _ rfl, rfl, rfl⟩, hl.at fun o e => Heap.get?_push_of_some _ e⟩ fun i h st => ?_)
  · rcases List.mem_cons.mp hb with rfl | hb
    · exact .inl rfl
    · rw [List.mem_singleton.mp hb]; exact .inr ⟨o, hm⟩
  · obtain ⟨oi, h1, h2, _⟩ := st.1
    exact ⟨oi, _, h1, h2, by decide⟩
theorem Src.tuple {prog : Program} {w : World} {A : Around} {φ : Led} {a : Addr} {o : Obj} {its : Array Value} {k : Nat} (hh : A.handled = none) (hm : (a, o) ∈ φ) (hc : o.cls = .type "tuple") (hd : o.data = .seq its k) :
    Src prog w A φ (.ref a) its.size (fun i v => its[i]? = some v) := by
  refine ⟨fun s Q E hφ K => ?_⟩
  have hl : s.heap.IsTuple a its := ⟨o, hφ _ hm, hc, k, hd⟩
  have hlt : a < s.heap.objs.size := Heap.lt_size (hφ _ hm)
  refine wpAny_pyIter_tuple hl (K _ _ _ rfl (Walks.tuple hh s.heap.objs.size a (Nat.ne_of_lt hlt) its) (fun b hb => ?_) ⟨⟨_, Heap.get?_push_size _ rfl, rfl, rfl⟩, hl.at fun o e => Heap.get?_push_of_some _ e⟩ fun i h st => ?_)
  · rcases List.mem_cons.mp hb with rfl | hb
    · exact .inl rfl
    · rw [List.mem_singleton.mp hb]; exact .inr ⟨o, hm⟩
  · obtain ⟨oi, h1, h2, _⟩ := st.1
    exact ⟨oi, _, h1, h2, by decide⟩
abbrev rngO (a b : Int) (t u v : Tok) : Obj := { cls := .type "range", dict := none, data := .fields #[.int a t, .int b u, .int 1 v], slots := #[] }
theorem Src.range {prog : Program} {w : World} {A : Around} {φ : Led} {r : Addr} {a b : Int} {t u v : Tok} {n : Nat} (hh : A.handled = none) (hm : (r, rngO a b t u v) ∈ φ) (hsm : Builtin.Range.small a b 1 = true) (hn : Builtin.Range.rangeSize a b 1 = (n : Int)) :
    Src prog w A φ (.ref r) n (fun i v => ∃ t, v = .int (a + (i : Int)) t) := by
  refine ⟨fun s Q E hφ K => ?_⟩
  refine wpAny_pyIter_range (hφ _ hm) hsm (K _ [_] (fun i h => IsRangeIter h s.heap.objs.size (a + (i : Nat) * 1) ((n : Int) - (i : Nat)) 1) rfl ?_ (fun b hb => .inl (List.mem_singleton.mp hb)) ?_ fun i h st => ⟨_, _, st, rfl, by decide⟩)
  · have W := Walks.range (prog := prog) (w := w) (A := A) hh s.heap.objs.size a 1 n
    exact { sub := W.sub, frame := W.frame, done := W.done, self := W.self, item := fun i s Q E hi st hQ => W.item i s Q E hi st fun v h' tk hP => hQ v h' tk (by obtain ⟨t, rfl⟩ := hP; exact ⟨t, by rw [Int.mul_one]⟩) }
  · show IsRangeIter _ _ _ _ _
    rw [hn]
    simpa using Heap.get?_push_size s.heap (o := { cls := .type "range_iterator", data := .fields #[rawInt a, rawInt n, rawInt 1] }) rfl

theorem letGo_none {prog : Program} {w : World} {A : Around} {E : Value → Shared → Prop} {s : Shared} {target : Expr} {I : Addr} {v : Value} {o : Obj} {T : String} {Q : Unit → Shared → Prop}
    (ho : s.heap.get? I = some o) (hc : o.cls = .type T) (hT : nonOwners.contains T = false) (h : Q () s) : wpAny (model prog w) A (letOwnedTupleGo target (.ref I) v) Q E s := by
  have key : wpAny (model prog w) A (do
      let (.ref r, .ref a) := (Value.ref I, v) | return
      let o ← load r
      match o.cls, o.data with
      | .type n, .fields vs =>
        if ["enumerate", "zip", "dict_itemiterator", "dict_reverseitemiterator", "odict_iterator", "itertools.zip_longest", "itertools.pairwise"].contains n && vs[0]? == some (rawInt a) then
          rule "for.unpacks-the-owned-tuple"
          updateField r 0 .none
      | _, _ => pure ()) Q E s := by
    cases v <;> try exact wpAny_pure h
    refine wpAny_bind (wpAny_load ho ?_)
    rw [hc]
    cases o.data <;> try exact wpAny_pure h
    dsimp only
    unfold nonOwners at hT
    rw [hT, Bool.false_and, if_neg Bool.false_ne_true]
    exact wpAny_pure h
  cases target <;> first | exact wpAny_pure h | exact key

section
variable {prog : Program} {w : World} {A : Around} {h₀ : Heap} {L : Addr} {m : Loc} {μ φ R : Led} {env : Env}

/-- what a turn says of the next one -/
def TurnEnds (I : Nat → Loc → Led → Led → Prop) (i : Nat) (Q : Flow → Loc → Led → Led → Prop) : Flow → Loc → Led → Led → Prop
  | .next, m, μ, φ => I (i + 1) m μ φ
  | .cont, m, μ, φ => I (i + 1) m μ φ
  | .brk, m, μ, φ => Q .next m μ φ
  | .ret v, m, μ, φ => Q (.ret v) m μ φ

structure LoopFor (prog : Program) (w : World) (A : Around) (h₀ : Heap) (L : Addr) (env : Env) (target : Expr) (body : List Stmt) (Q : Flow → Loc → Led → Led → Prop) (xv : Value) (m : Loc) (μ φ : Led) : Prop where
  ex : ∃ (n : Nat) (P : Nat → Value → Prop) (I : Nat → Loc → Led → Led → Prop), Src prog w A φ xv n P ∧ I 0 m μ φ ∧
    (∀ i v m μ φ', Sub φ φ' → i < n → P i v → I i m μ φ' → H (model prog w) A h₀ L (assign target env v) m μ φ' (fun _ m μ φ'' => H (model prog w) A h₀ L (execs body env) m μ φ'' (TurnEnds I i Q))) ∧
    (∀ m μ φ', Sub φ φ' → I n m μ φ' → Q .next m μ φ')

theorem H_For {target iter : Expr} {body : List Stmt} {pos : Pos} {Q : Flow → Loc → Led → Led → Prop}
    (h : H (model prog w) A h₀ L (eval iter env) m μ φ (LoopFor prog w A h₀ L env target body Q))
    (hs : ∀ x, foldedSetIterable iter env x = pure x := by intro _; rfl) : H (model prog w) A h₀ L (exec (.For target iter body [] pos) env) m μ φ Q := by
  intro R E s S
  refine wpAny_For (H_run h S fun xv h1 t1 m1 μ1 φ1 S1 b1 q1 => ?_) hs
  obtain ⟨n, P, I, X, hI0, turn, fin⟩ := q1.ex
  refine X.iter _ _ _ (fun p hp => (S1.N p (List.mem_append_right _ hp)).1) fun oI fp Stt hfr W hfp hst hIo => ?_
  dsimp only at W hfp hst hIo ⊢
  have S2 : St h₀ L (h1.push oI) m1 ((h1.objs.size, oI) :: (μ1 ++ R)) φ1 := S1.pushM oI hfr
  generalize h1.objs.size = J at W hfp hIo S2 ⊢
  refine codeAny_forLoop_any (fun k s' => ∃ h' tk i m' μ' φ' o', s' = { s with heap := h', toks := tk } ∧ i ≤ n ∧ k = n + 1 - i ∧ Stt i h' ∧ St h₀ L h' m' ((J, o') :: (μ' ++ R)) φ' ∧ Sub φ1 φ' ∧ I i m' μ' φ') ?_ (n + 1)
    ⟨_, _, 0, m1, μ1, φ1, oI, rfl, Nat.zero_le _, rfl, hst, S2, fun _ x => x, hI0⟩
  rintro k s' ⟨h', tk, i, m', μ', φ', o', rfl, hi, rfl, hst', S', b', hI'⟩
  by_cases hlt : i < n
  · refine W.item i _ _ _ hlt hst' fun v h2 t2 hP hst2 hk2 => ?_
    obtain ⟨o2, T, ho2, hc2, hT2⟩ := hIo _ _ hst2
    have S2 : St h₀ L h2 m' ((J, o2) :: (μ' ++ R)) φ' := S'.upX (.head) (fun b o ne e => hk2 b o (by simpa using ne) e) ho2
    refine letGo_none ho2 hc2 hT2 ?_
    have Sp : St h₀ L h2 m' (μ' ++ (J, o2) :: R) φ' := S2.perm List.perm_middle.symm
    refine H_run (turn i v m' μ' φ' b' hlt hP hI') (s := { s with heap := h2, toks := t2 }) (R := (J, o2) :: R) Sp fun _ h3 t3 m3 μ3 φ3 S3 b3 q3 => ?_
    refine H_run q3 (s := { s with heap := h3, toks := t3 }) S3 fun fl h4 t4 m4 μ4 φ4 S4 b4 q4 => ?_
    have hst4 : Stt (i + 1) h4 := W.frame _ _ _ hst2 fun b hb o e => by
      rcases hfp b hb with rfl | ⟨ob, hob⟩
      · rw [ho2] at e; cases e
        exact S4.get (List.mem_append_left _ (List.mem_append_right _ (.head _)))
      · have e1 := S2.get (List.mem_append_right _ (b' _ hob))
        rw [e1] at e; cases e
        exact S4.get (List.mem_append_right _ (b4 _ (b3 _ (b' _ hob))))
    have S4' : St h₀ L h4 m4 ((J, o2) :: (μ4 ++ R)) φ4 := S4.perm List.perm_middle
    have bb : Sub φ1 φ4 := fun p hp => b4 p (b3 p (b' p hp))
    cases fl with
    | next => exact ⟨n + 1 - (i + 1), by omega, h4, t4, i + 1, m4, μ4, φ4, o2, rfl, hlt, rfl, hst4, S4', bb, q4⟩
    | cont => exact ⟨n + 1 - (i + 1), by omega, h4, t4, i + 1, m4, μ4, φ4, o2, rfl, hlt, rfl, hst4, S4', bb, q4⟩
    | brk => exact ⟨h4, t4, m4, μ4, φ4, rfl, S4'.sub (List.sublist_cons_self ..), fun p hp => bb p (b1 p hp), q4⟩
    | ret v => exact ⟨h4, t4, m4, μ4, φ4, rfl, S4'.sub (List.sublist_cons_self ..), fun p hp => bb p (b1 p hp), q4⟩
  · obtain rfl : i = n := Nat.le_antisymm hi (Nat.not_lt.mp hlt)
    refine W.done _ _ _ hst' fun h2 t2 hk2 => ?_
    refine wpAny_execs_nil ?_
    exact ⟨h2, t2, m', μ', φ', rfl, S'.lose fun b o ne e => hk2 b o (by simpa using ne) e, fun p hp => b' p (b1 p hp), fin m' μ' φ' b' hI'⟩

theorem H_assign_Name {x : Str} {pos : Pos} {v : Value} {Q : Unit → Loc → Led → Led → Prop} (h : H (model prog w) A h₀ L (storeName env x v) m μ φ Q) : H (model prog w) A h₀ L (assign (.Name x pos) env v) m μ φ Q :=
  H_as h fun _ _ _ x => wpAny_assign_Name x
end
-- A6
section
variable {prog : Program} {w : World} {A : Around} {h₀ : Heap} {L : Addr} {m : Loc} {μ φ R : Led} {env : Env}

abbrev testsOf (ifs : List Expr) (env : Env) : Sem Bool := forIn ifs true fun c r => if r = true then do let ok ← isTrue c env (eval c env); pure (ForInStep.yield ok) else pure (ForInStep.yield r)

/-- one turn of a comprehension -/
def CompTurn (prog : Program) (w : World) (A : Around) (h₀ : Heap) (L : Addr) (cenv : Env) (ifs : List Expr) (elt : Expr) (Iv : Nat → List Value → Led → Led → Prop) (i : Nat) (ys : List Value) (c : Addr × Obj) (m : Loc) (μ φ : Led) : Prop :=
  H (model prog w) A h₀ L (testsOf ifs cenv) m (c :: μ) φ (fun ok m' μ' φ' =>
    if ok = true then H (model prog w) A h₀ L (eval elt cenv) m' μ' φ' (fun y m'' μ'' φ'' => m'' = m ∧ ∃ μ₂, μ'' = c :: μ₂ ∧ Iv (i + 1) (ys ++ [y]) μ₂ φ'')
    else m' = m ∧ ∃ μ₂, μ' = c :: μ₂ ∧ Iv (i + 1) ys μ₂ φ')

theorem comp_block {elt iter : Expr} {x : Str} {px : Pos} {ifs : List Expr} {scope : Scope} {cl : List (Str × Addr)} {pos : Pos} {s₂ : Shared} {J : Addr} {oI : Obj} {fp : List Addr} {n : Nat} {P : Nat → Value → Prop} {Stt : Nat → Heap → Prop}
    {E : Value → Shared → Prop} {RR : Value → Addr → Result → Shared → Prop} (Iv : Nat → List Value → Led → Led → Prop)
    (W : Walks prog w A J fp [J] n P Stt) (hsz : n ≤ sizeLine) (hfp : ∀ b ∈ fp, b = J ∨ ∃ o, (b, o) ∈ φ) (hIo : ∀ i h, Stt i h → ∃ o T, h.get? J = some o ∧ o.cls = .type T ∧ nonOwners.contains T = false)
    (hcell : ∀ y ∈ scope.names, y.2 ≠ .cell) (hkind : scope.kind = .function) (hx : scope.names.lookup x = some .local) (hst : Stt 0 s₂.heap)
    (S : St h₀ L s₂.heap m ((J, oI) :: (μ ++ R)) φ) (hI0 : Iv 0 [] μ φ)
    (turn : ∀ i ys v c oC m₂ μ' φ', Sub φ φ' → i < n → P i v → Iv i ys μ' φ' → LCg.NsObj oC m₂ → m₂ x = some v → CompTurn prog w A h₀ L (compEnvC scope cl c env) ifs elt Iv i ys (c, oC) m μ' φ')
    (hRR : ∀ D C oC h tk m' ys μ' φ', St h₀ L h m ((C, oC) :: (D, LCg.lst ys) :: (μ' ++ R)) φ' → LCg.NsObj oC m' → Sub φ φ' → Iv n ys μ' φ' → RR (.ref D) C (.ok .next) { s₂ with heap := h, toks := tk }) :
    wpAny (model prog w) A (newList []) (fun acc s₃ => wpAny (model prog w) A (newFunctionEnv scope env.globals cl [] env.qual none .none (some env)) (fun cenv s₄ =>
      codeAny (model prog w) A (.compStart (.ListComp elt [⟨.Name x px, iter, ifs, 0⟩] scope pos) 0 (.ref J) acc { cenv with scope := relabel scope env }) (RR acc cenv.locals) s₄) E s₃) E s₂ := by
  refine wpAny_newObj_type (T := "list") (data := .seq ([] : List Value).toArray) (dict := none) (wpAny_newFunctionEnv hcell (by intro y hy; simp at hy) (fun h₁ hns₁ hsb₁ => ?_) hkind)
  have SD : St h₀ L (s₂.heap.push (LCg.lst [])) m ((s₂.heap.objs.size, LCg.lst []) :: ((J, oI) :: (μ ++ R))) φ := S.pushM _ rfl
  have SC := SD.pushM { cls := .type (if (some env).isSome then "dict" else "frame"), data := .dict #[] } rfl
  obtain ⟨oC, hoC, hNs⟩ := LCg.ns_obj hns₁
  have S₁ := SC.upX .head (fun b o ne e => hsb₁.extBut b o ne e) hoC
  have hst₁ : Stt 0 h₁ := W.frame _ _ _ hst fun b hb o e => by
    rcases hfp b hb with rfl | ⟨ob, hob⟩
    · have e1 := S.get (List.mem_append_left _ (.head _)); rw [e1] at e; cases e
      exact S₁.get (List.mem_append_left _ (.tail _ (.tail _ (.head _))))
    · have e1 := S.get (List.mem_append_right _ hob); rw [e1] at e; cases e
      exact S₁.get (List.mem_append_right _ hob)
  dsimp only at hns₁ hsb₁ hoC hNs S₁ ⊢
  generalize s₂.heap.objs.size = D at *
  generalize hCg : (s₂.heap.push { cls := .type "list", dict := none, data := .seq ([] : List Value).toArray }).objs.size = C at *
  have S₁' : St h₀ L h₁ m ((C, oC) :: (D, LCg.lst []) :: (J, oI) :: (μ ++ R)) φ := S₁
  clear S₁ SC SD
  have loop : ∀ s₃ : Shared, s₃ = { s₂ with heap := h₁, toks := s₂.toks + ([] : List (Str × Value)).length } →
      codeAny (model prog w) A (.compLoop (.ListComp elt [⟨.Name x px, iter, ifs, 0⟩] scope pos) 0 (.ref J) (.ref D) (compEnvC scope cl C env)) (RR (.ref D) C) s₃ := by
    rintro s₃ rfl
    refine codeAny_compLoop_tests (fun k s' => ∃ h' tk i ys m' μ' φ' oI oC, s' = { s₂ with heap := h', toks := tk } ∧ i ≤ n ∧ k = n + 1 - i ∧ ys.length ≤ i ∧ Stt i h' ∧ LCg.NsObj oC m' ∧
      St h₀ L h' m ((C, oC) :: (D, LCg.lst ys) :: (J, oI) :: (μ' ++ R)) φ' ∧ Sub φ φ' ∧ Iv i ys μ' φ') ?_ (n + 1)
      ⟨h₁, _, 0, [], _, μ, φ, oI, oC, rfl, Nat.zero_le _, rfl, Nat.le_refl _, hst₁, hNs, S₁', fun _ x => x, hI0⟩
    rintro k s' ⟨h', tk, i, ys, m', μ', φ', oI', oC', rfl, hi, rfl, hyl, hst', hN', S', b', hI'⟩
    by_cases hlt : i < n
    · refine W.item i _ _ _ hlt hst' fun v h2 t2 hP hst2 hk2 => ?_
      obtain ⟨o2, T, ho2, _, _⟩ := hIo _ _ hst2
      have S2 : St h₀ L h2 m ((C, oC') :: (D, LCg.lst ys) :: (J, o2) :: (μ' ++ R)) φ' := S'.upX (.tail (.tail .head)) (fun b o ne e => hk2 b o (by simpa using ne) e) ho2
      have hnsC : h2.Ns C m' := hN'.ns (S2.get (List.mem_append_left _ (.head _)))
      refine wpAny_assign_Name (wpAny_storeName_local (lookup_relabel_local hx) hnsC (fun h3 hn3 hs3 => ?_) (by simp [compEnvC, relabel, hkind]))
      obtain ⟨oC3, hoC3, hN3⟩ := LCg.ns_obj hn3
      have S3 : St h₀ L h3 m ((C, oC3) :: (D, LCg.lst ys) :: (J, o2) :: (μ' ++ R)) φ' := S2.upX .head (fun b o ne e => hs3.extBut b o ne e) hoC3
      have hst3 : Stt (i + 1) h3 := W.frame _ _ _ hst2 fun b hb o e => by
        rcases hfp b hb with rfl | ⟨ob, hob⟩
        · rw [ho2] at e; cases e
          exact S3.get (List.mem_append_left _ (.tail _ (.tail _ (.head _))))
        · have e1 := S2.get (List.mem_append_right _ (b' _ hob)); rw [e1] at e; cases e
          exact S3.get (List.mem_append_right _ (b' _ hob))
      have pm : ∀ ν : Led, List.Perm ((C, oC3) :: (D, LCg.lst ys) :: (J, o2) :: (ν ++ R)) (((C, oC3) :: ν) ++ ((D, LCg.lst ys) :: (J, o2) :: R)) := fun ν => by
        refine List.Perm.cons _ ?_
        have : List.Perm ((D, LCg.lst ys) :: (J, o2) :: (ν ++ R)) (ν ++ ((D, LCg.lst ys) :: (J, o2) :: R)) := by
          refine (List.perm_middle.trans ?_).symm
          refine List.Perm.cons _ ?_
          exact List.perm_middle
        exact this
      have Sp := S3.perm (pm μ')
      refine H_run (turn i ys v C oC3 _ μ' φ' b' hlt hP hI' hN3 (by simp)) (s := { s₂ with heap := h3, toks := t2 + 1 }) (R := (D, LCg.lst ys) :: (J, o2) :: R) Sp fun ok h4 t4 m4 μ4 φ4 S4 b4 q4 => ?_
      have up : ∀ {h5 : Heap} {m5 : Loc} {μ5 φ5 : Led}, St h₀ L h5 m5 (((C, oC3) :: μ5) ++ ((D, LCg.lst ys) :: (J, o2) :: R)) φ5 → Sub φ' φ5 → Stt (i + 1) h5 := fun S5 b5 => W.frame _ _ _ hst3 fun b hb o e => by
        rcases hfp b hb with rfl | ⟨ob, hob⟩
        · have e1 := S3.get (List.mem_append_left _ (.tail _ (.tail _ (.head _)))); rw [e1] at e; cases e
          exact S5.get (List.mem_append_left _ (List.mem_append_right _ (.tail _ (.head _))))
        · have e1 := S3.get (List.mem_append_right _ (b' _ hob)); rw [e1] at e; cases e
          exact S5.get (List.mem_append_right _ (b5 _ (b' _ hob)))
      cases ok with
      | false =>
        simp only [Bool.false_eq_true, if_false] at q4 ⊢
        obtain ⟨rfl, μ₂, rfl, hI4⟩ := q4
        exact ⟨n + 1 - (i + 1), by omega, h4, t4, i + 1, ys, _, μ₂, φ4, o2, oC3, rfl, hlt, rfl, by omega, up S4 b4, hN3, S4.perm (pm μ₂).symm, fun p hp => b4 p (b' p hp), hI4⟩
      | true =>
        simp only [if_true] at q4 ⊢
        refine H_run q4 (s := { s₂ with heap := h4, toks := t4 }) S4 fun y h5 t5 m5 μ5 φ5 S5 b5 q5 => ?_
        obtain ⟨rfl, μ₂, rfl, hI5⟩ := q5
        have S5' := S5.perm (pm μ₂).symm
        have hst5 := up S5 fun p hp => b5 p (b4 p hp)
        refine append_at (hsz := by show ys.toArray.size ≤ sizeLine; rw [List.size_toArray]; omega) (S5'.get (List.mem_append_left _ (.tail _ (.head _)))) fun h6 hs6 hD6 => ?_
        have S6 : St h₀ L h6 m5 ((C, oC3) :: (D, LCg.lst (ys ++ [y])) :: (J, o2) :: (μ₂ ++ R)) φ5 := S5'.upX (.tail .head) (fun b o ne e => hs6.extBut b o ne e) (hD6.trans (congrArg some (LCg.lst_snoc ys y)))
        have hst6 : Stt (i + 1) h6 := W.frame _ _ _ hst5 fun b hb o e => by
          rcases hfp b hb with rfl | ⟨ob, hob⟩
          · have e1 := S5'.get (List.mem_append_left _ (.tail _ (.tail _ (.head _)))); rw [e1] at e; cases e
            exact S6.get (List.mem_append_left _ (.tail _ (.tail _ (.head _))))
          · have e1 := S5'.get (List.mem_append_right _ (b5 _ (b4 _ (b' _ hob)))); rw [e1] at e; cases e
            exact S6.get (List.mem_append_right _ (b5 _ (b4 _ (b' _ hob))))
        exact ⟨n + 1 - (i + 1), by omega, h6, t5, i + 1, ys ++ [y], _, μ₂, φ5, o2, oC3, rfl, hlt, rfl, by rw [List.length_append, List.length_singleton]; omega, hst6, hN3, S6, fun p hp => b5 p (b4 p (b' p hp)), hI5⟩
    · obtain rfl : i = n := Nat.le_antisymm hi (Nat.not_lt.mp hlt)
      refine W.done _ _ _ hst' fun h2 t2 hk2 => ?_
      have Sj : St h₀ L h2 m ((C, oC') :: (D, LCg.lst ys) :: (μ' ++ R)) φ' := by
        have Sp := S'.perm (show List.Perm ((C, oC') :: (D, LCg.lst ys) :: (J, oI') :: (μ' ++ R)) ((J, oI') :: (C, oC') :: (D, LCg.lst ys) :: (μ' ++ R)) from
          ((List.Perm.cons _ (List.Perm.swap _ _ _)).trans (List.Perm.swap _ _ _)))
        exact Sp.lose fun b o ne e => hk2 b o (by simpa using ne) e
      exact hRR D C oC' h2 t2 m' ys μ' φ' Sj hN' b' hI'
  exact codeAny_compStart_list (loop _ rfl) (W.self 0 _ _ _ hst₁ (loop _ rfl))
end
-- A7
section
variable {prog : Program} {w : World} {A : Around} {h₀ : Heap} {L : Addr} {m : Loc} {μ φ R : Led} {env : Env}

/-- what a comprehension goes through, and what it says of it -/
structure CompOver (prog : Program) (w : World) (A : Around) (h₀ : Heap) (L : Addr) (env : Env) (scope : Scope) (cl : List (Str × Addr)) (x : Str) (ifs : List Expr) (elt : Expr) (fin : Addr → List Value → Loc → Led → Led → Prop) (xv : Value) (m : Loc) (μ φ : Led) : Prop where
  ex : ∃ (n : Nat) (P : Nat → Value → Prop) (Iv : Nat → List Value → Led → Led → Prop), Src prog w A φ xv n P ∧ n ≤ sizeLine ∧ Iv 0 [] μ φ ∧
    (∀ i ys v c oC m₂ μ' φ', Sub φ φ' → i < n → P i v → Iv i ys μ' φ' → LCg.NsObj oC m₂ → m₂ x = some v → CompTurn prog w A h₀ L (compEnvC scope cl c env) ifs elt Iv i ys (c, oC) m μ' φ') ∧
    (∀ D ys μ' φ', Sub φ φ' → Iv n ys μ' φ' → fin D ys m μ' φ')

theorem H_ListComp {elt iter : Expr} {x : Str} {px : Pos} {ifs : List Expr} {scope : Scope} {cl : List (Str × Addr)} {pos : Pos} {Q : Value → Loc → Led → Led → Prop}
    (hclos : closureFor scope env = pure cl) (hcell : ∀ y ∈ scope.names, y.2 ≠ .cell) (hkind : scope.kind = .function)
    (hnames : ∀ y ∈ scope.names, y.2 = .local → scope.names.lookup y.1 = some .local) (hx : scope.names.lookup x = some .local)
    (h : H (model prog w) A h₀ L (eval iter env) m μ φ (CompOver prog w A h₀ L env scope cl x ifs elt (fun D ys m μ φ => Q (.ref D) m ((D, LCg.lst ys) :: μ) φ)))
    (hs : ∀ x, foldedSetIterable iter env x = pure x := by intro _; rfl) :
    H (model prog w) A h₀ L (eval (.ListComp elt [⟨.Name x px, iter, ifs, 0⟩] scope pos) env) m μ φ Q := by
  intro R E s S
  rw [eval_ListComp]
  refine wpAny_comprehension_free (use := none) rfl hs hclos hkind hnames (H_run h S fun xv h1 t1 m1 μ1 φ1 S1 b1 q1 => ?_)
  obtain ⟨n, P, Iv, X, hsz, hI0, turn, fin⟩ := q1.ex
  refine X.iter _ _ _ (fun p hp => (S1.N p (List.mem_append_right _ hp)).1) fun oI fp Stt hfr W hfp hst hIo => ?_
  dsimp only at W hfp hst hIo ⊢
  have S2 : St h₀ L (h1.push oI) m1 ((h1.objs.size, oI) :: (μ1 ++ R)) φ1 := S1.pushM oI hfr
  generalize h1.objs.size = J at W hfp hIo S2 ⊢
  refine comp_block (s₂ := { s with heap := h1.push oI, toks := t1 }) (RR := fun acc C => compPost (model prog w) A E none _ acc C) Iv W hsz hfp hIo hcell hkind hx hst S2 hI0 turn ?_
  intro D C oC h tk m' ys μ' φ' S' hN' b' hI'
  refine ⟨m', hN'.ns (S'.get (List.mem_append_left _ (.head _))), fun h'' hs'' => ?_⟩
  exact ⟨h'', tk, m1, _ :: μ', φ', rfl, S'.lose fun b o ne e => hs''.extBut b o ne e, fun p hp => b' p (b1 p hp), fin D ys μ' φ' b' hI'⟩

theorem H_Assign_ListComp {elt iter : Expr} {x y : Str} {px py : Pos} {ifs : List Expr} {scope : Scope} {cl : List (Str × Addr)} {pos spos : Pos} {Q : Flow → Loc → Led → Led → Prop}
    (hL : env.locals = L) (hk : env.scope.kind = .function)
    (hsw : swapsWith (.ListComp elt [⟨.Name x px, iter, ifs, 0⟩] scope pos) (some (.Name y py)) spos.line env = pure true)
    (hclos : closureFor scope env = pure cl) (hcell : ∀ y ∈ scope.names, y.2 ≠ .cell) (hkind : scope.kind = .function)
    (hnames : ∀ y ∈ scope.names, y.2 = .local → scope.names.lookup y.1 = some .local) (hx : scope.names.lookup x = some .local)
    (hy : env.kindOf y = some .local)
    (h : H (model prog w) A h₀ L (eval iter env) m μ φ (CompOver prog w A h₀ L env scope cl x ifs elt (fun D ys m μ φ => Q .next (upd m y (.ref D)) ((D, LCg.lst ys) :: μ) φ)))
    (hs : ∀ x, foldedSetIterable iter env x = pure x := by intro _; rfl) :
    H (model prog w) A h₀ L (exec (.Assign [.Name y py] (.ListComp elt [⟨.Name x px, iter, ifs, 0⟩] scope pos) spos) env) m μ φ Q := by
  intro R E s S
  subst hL
  have hp : (env.scope.kind == .class || (env.scope.kind == .module && env.locals != env.globals)) = false := by rw [hk]; rfl
  rw [exec_Assign_Name_used _ _ _ _ hsw]
  refine wpAny_bind (wpAny_standAt (wpAny_bind ?_))
  show wpAny _ A (do let _ ← comprehension (.ListComp elt [⟨.Name x px, iter, ifs, 0⟩] scope pos) scope env _ (newList []) false (eval iter env) (some (assign (.Name y py) env))) _ _ s
  refine wpAny_bind (wpAny_mono (wpAny_comprehension_free (use := some (assign (.Name y py) env)) (Q := fun _ s' => ∃ h' tk m' μ' φ', s' = { s with heap := h', toks := tk } ∧ St h₀ env.locals h' m' (μ' ++ R) φ' ∧ Sub φ φ' ∧ Q .next m' μ' φ') rfl hs hclos hkind hnames
    (H_run h S fun xv h1 t1 m1 μ1 φ1 S1 b1 q1 => ?_)) (fun _ s' hq => wpAny_pure (wpAny_pure hq)) fun _ _ e => e)
  obtain ⟨n, P, Iv, X, hsz, hI0, turn, fin⟩ := q1.ex
  refine X.iter _ _ _ (fun p hp => (S1.N p (List.mem_append_right _ hp)).1) fun oI fp Stt hfr W hfp hst hIo => ?_
  dsimp only at W hfp hst hIo ⊢
  have S2 : St h₀ env.locals (h1.push oI) m1 ((h1.objs.size, oI) :: (μ1 ++ R)) φ1 := S1.pushM oI hfr
  generalize h1.objs.size = J at W hfp hIo S2 ⊢
  refine comp_block (s₂ := { s with heap := h1.push oI, toks := t1 }) (RR := fun acc C => compPost (model prog w) A E (some (assign (.Name y py) env)) _ acc C) Iv W hsz hfp hIo hcell hkind hx hst S2 hI0 turn ?_
  intro D C oC h tk m' ys μ' φ' S' hN' b' hI'
  show wpAny _ A (assign (.Name y py) env (.ref D)) _ _ _
  refine wpAny_assign_Name (wpAny_storeName_local hy S'.F.ns (fun h₂ hn₂ hs₂ => ?_) hp)
  have S3 : St h₀ env.locals h₂ (upd m1 y (.ref D)) ((C, oC) :: (D, LCg.lst ys) :: (μ' ++ R)) φ' := ⟨S'.F.set hn₂ hs₂, S'.N.set hs₂, S'.D, S'.U⟩
  refine ⟨m', hN'.ns (S3.get (List.mem_append_left _ (.head _))), fun h'' hs'' => ?_⟩
  exact ⟨h'', _, _, _ :: μ', φ', rfl, S3.lose fun b o ne e => hs''.extBut b o ne e, fun p hp => b' p (b1 p hp), fin D ys μ' φ' b' hI'⟩

/-- a turn without a test -/
theorem CompTurn.plain {cenv : Env} {elt : Expr} {Iv : Nat → List Value → Led → Led → Prop} {i : Nat} {ys : List Value} {c : Addr × Obj}
    (h : H (model prog w) A h₀ L (eval elt cenv) m (c :: μ) φ (fun y m'' μ'' φ'' => m'' = m ∧ ∃ μ₂, μ'' = c :: μ₂ ∧ Iv (i + 1) (ys ++ [y]) μ₂ φ'')) : CompTurn prog w A h₀ L cenv [] elt Iv i ys c m μ φ :=
  H_pure (a := true) (by rw [if_pos rfl]; exact h)
/-- a turn with one test -/
theorem CompTurn.one {cenv : Env} {t elt : Expr} {Iv : Nat → List Value → Led → Led → Prop} {i : Nat} {ys : List Value} {c : Addr × Obj}
    (h : H (model prog w) A h₀ L (isTrue t cenv (eval t cenv)) m (c :: μ) φ (fun ok m' μ' φ' =>
      if ok = true then H (model prog w) A h₀ L (eval elt cenv) m' μ' φ' (fun y m'' μ'' φ'' => m'' = m ∧ ∃ μ₂, μ'' = c :: μ₂ ∧ Iv (i + 1) (ys ++ [y]) μ₂ φ'')
      else m' = m ∧ ∃ μ₂, μ' = c :: μ₂ ∧ Iv (i + 1) ys μ₂ φ')) : CompTurn prog w A h₀ L cenv [t] elt Iv i ys c m μ φ :=
  H_as h fun _ _ _ x => wpAny_tests_one x

/-- a tree that changes nothing: its answer and what it has made -/
def PureC (M : Model) (A : Around) (h₀ : Heap) (L : Addr) {α : Type} (t : Sem α) (m : Loc) (φ : Led) (Post : α → Led → Prop) : Prop := H M A h₀ L t m [] φ (fun v m' μ' φ' => m' = m ∧ μ' = [] ∧ Post v φ')
theorem H_use {M : Model} {α : Type} {t : Sem α} {Post : α → Led → Prop} {Q : α → Loc → Led → Led → Prop} (hp : PureC M A h₀ L t m φ Post) (h : ∀ v φ', Sub φ φ' → Post v φ' → Q v m μ φ') : H M A h₀ L t m μ φ Q := by
  have := H_frame (μ₂ := μ) hp (Q := Q) (fun v m' μ' φ' b q => by obtain ⟨rfl, rfl, q⟩ := q; exact h v φ' b q)
  exact this
end
-- A8
mutual
/-- the ledger bears the datum at the value -/
inductive PIn (φ : Led) : Value → PyData → Prop
  | none : PIn φ .none .none
  | bool (b : Bool) : PIn φ (.bool b) (.bool b)
  | int (i : Int) (t : Tok) : PIn φ (.int i t) (.int i)
  | str (x : Str) (t : Tok) : PIn φ (.str x t) (.str x)
  | tuple {a : Addr} {vs : List Value} {n : Nat} {ds : List PyData} : (a, ({ cls := .type "tuple", data := .seq vs.toArray n } : Obj)) ∈ φ → PAll φ vs ds → PIn φ (.ref a) (.tuple ds)
  | list {a : Addr} {vs : List Value} {n : Nat} {ds : List PyData} : (a, lstO vs n) ∈ φ → PAll φ vs ds → PIn φ (.ref a) (.list ds)
inductive PAll (φ : Led) : List Value → List PyData → Prop
  | nil : PAll φ [] []
  | cons {v : Value} {vs : List Value} {d : PyData} {ds : List PyData} : PIn φ v d → PAll φ vs ds → PAll φ (v :: vs) (d :: ds)
end
mutual
theorem PIn.mono {φ φ' : Led} (hs : Sub φ φ') : ∀ {v : Value} {d : PyData}, PIn φ v d → PIn φ' v d
  | _, _, .none => .none
  | _, _, .bool b => .bool b
  | _, _, .int i t => .int i t
  | _, _, .str x t => .str x t
  | _, _, .tuple h r => .tuple (hs _ h) (PAll.mono hs r)
  | _, _, .list h r => .list (hs _ h) (PAll.mono hs r)
theorem PAll.mono {φ φ' : Led} (hs : Sub φ φ') : ∀ {vs : List Value} {ds : List PyData}, PAll φ vs ds → PAll φ' vs ds
  | _, _, .nil => .nil
  | _, _, .cons h r => .cons (PIn.mono hs h) (PAll.mono hs r)
end
mutual
theorem PIn.reads {φ : Led} {h : Heap} (hf : ∀ p ∈ φ, h.get? p.1 = some p.2) : ∀ {v : Value} {d : PyData}, PIn φ v d → ∃ as, Reads h v d as
  | _, _, .none => ⟨_, Reads.none⟩
  | _, _, .bool b => ⟨_, Reads.bool b⟩
  | _, _, .int i t => ⟨_, Reads.int i t⟩
  | _, _, .str x t => ⟨_, Reads.str x t⟩
  | _, _, .tuple hm r => let ⟨as, q⟩ := PAll.reads hf r; ⟨as, reads_tuple_at (hf _ hm) rfl rfl (by simpa using q)⟩
  | _, _, .list hm r => let ⟨as, q⟩ := PAll.reads hf r; ⟨_, reads_list_at (hf _ hm) rfl rfl (by simpa using q)⟩
theorem PAll.reads {φ : Led} {h : Heap} (hf : ∀ p ∈ φ, h.get? p.1 = some p.2) : ∀ {vs : List Value} {ds : List PyData}, PAll φ vs ds → ∃ as, ReadsAll h vs ds as
  | _, _, .nil => ⟨_, ReadsAll.nil⟩
  | _, _, .cons h r => let ⟨as, q⟩ := PIn.reads hf h; let ⟨bs, p⟩ := PAll.reads hf r; ⟨_, ReadsAll.cons q p⟩
end
theorem PIn.handed {φ : Led} {v : Value} {d : PyData} (h : PIn φ v d) : handedIn v = true := by cases h <;> rfl
theorem PAll.length {φ : Led} : ∀ {vs : List Value} {ds : List PyData}, PAll φ vs ds → vs.length = ds.length
  | _, _, .nil => rfl
  | _, _, .cons _ r => by simp [PAll.length r]
theorem PAll.append {φ : Led} {ws : List Value} {es : List PyData} (k : PAll φ ws es) : ∀ {vs : List Value} {ds : List PyData}, PAll φ vs ds → PAll φ (vs ++ ws) (ds ++ es)
  | _, _, .nil => k
  | _, _, .cons h r => .cons h (PAll.append k r)
theorem PAll.one {φ : Led} {v : Value} {d : PyData} (h : PIn φ v d) : PAll φ [v] [d] := .cons h .nil
theorem PAll.snoc {φ : Led} {vs : List Value} {ds : List PyData} {v : Value} {d : PyData} (r : PAll φ vs ds) (h : PIn φ v d) : PAll φ (vs ++ [v]) (ds ++ [d]) := PAll.append (.one h) r
theorem PAll.getD {φ : Led} : ∀ {vs : List Value} {ds : List PyData}, PAll φ vs ds → ∀ {i : Nat} {d : PyData}, ds[i]? = some d → ∃ v, vs[i]? = some v ∧ PIn φ v d
  | _, _, .nil, i, v, h => by simp at h
  | _, _, .cons hv r, 0, v, h => by simp at h; subst h; exact ⟨_, rfl, hv⟩
  | _, _, .cons hv r, i + 1, v, h => by simpa using PAll.getD r (by simpa using h)

/-! data of one make -/
structure Enc {α : Type} [DecidableEq α] (enc : α → PyData) (ok : α → Prop) (n : Nat) : Prop where
  eqv : ∀ a b, PyData.eqv (enc a) (enc b) = decide (a = b)
  lay : ∀ a, ok a → (enc a).canLay0 = true
  dep : ∀ a, (enc a).depth ≤ n
theorem Enc.eqvAll {α : Type} [DecidableEq α] {enc : α → PyData} {ok : α → Prop} {n : Nat} (e : Enc enc ok n) : ∀ xs ys : List α, PyData.eqvAll (xs.map enc) (ys.map enc) = decide (xs = ys)
  | [], [] => rfl
  | [], _ :: _ => rfl
  | _ :: _, [] => rfl
  | x :: xs, y :: ys => by
    simp only [List.map_cons, PyData.eqvAll, e.eqv, Enc.eqvAll e xs ys, List.cons.injEq]
    by_cases h1 : x = y <;> by_cases h2 : xs = ys <;> simp [h1, h2]
theorem Enc.layAll {α : Type} [DecidableEq α] {enc : α → PyData} {ok : α → Prop} {n : Nat} (e : Enc enc ok n) : ∀ xs : List α, (∀ x ∈ xs, ok x) → PyData.canLayAll0 (xs.map enc) = true
  | [], _ => rfl
  | x :: xs, h => by simp only [List.map_cons, PyData.canLayAll0, e.lay x (h x (.head _)), Enc.layAll e xs fun y hy => h y (.tail _ hy), Bool.and_self]
theorem Enc.depAll {α : Type} [DecidableEq α] {enc : α → PyData} {ok : α → Prop} {n : Nat} (e : Enc enc ok n) : ∀ xs : List α, PyData.depthAll (xs.map enc) ≤ n
  | [] => Nat.zero_le _
  | x :: xs => by
    have := e.dep x
    have := Enc.depAll e xs
    simp only [List.map_cons, PyData.depthAll]; omega
theorem Enc.list {α : Type} [DecidableEq α] {enc : α → PyData} {ok : α → Prop} {n : Nat} (e : Enc enc ok n) : Enc (fun xs : List α => PyData.list (xs.map enc)) (fun xs => ∀ x ∈ xs, ok x) (n + 1) :=
  ⟨fun a b => by show PyData.eqvAll _ _ = _; exact e.eqvAll a b, fun a h => by show PyData.canLayAll0 _ = true; exact e.layAll a h, fun a => by show PyData.depthAll _ + 1 ≤ _; exact Nat.succ_le_succ (e.depAll a)⟩
theorem Enc.tuple {α : Type} [DecidableEq α] {enc : α → PyData} {ok : α → Prop} {n : Nat} (e : Enc enc ok n) : Enc (fun xs : List α => PyData.tuple (xs.map enc)) (fun xs => ∀ x ∈ xs, ok x) (n + 1) :=
  ⟨fun a b => by show PyData.eqvAll _ _ = _; exact e.eqvAll a b, fun a h => by show PyData.canLayAll0 _ = true; exact e.layAll a h, fun a => by show PyData.depthAll _ + 1 ≤ _; exact Nat.succ_le_succ (e.depAll a)⟩
theorem Enc.str : Enc PyData.str (fun x => PyData.strOk x = true) 0 :=
  ⟨fun a b => by show (a == b) = _; by_cases h : a = b <;> simp [h], fun a h => h, fun _ => Nat.le_refl _⟩
theorem Enc.int : Enc PyData.int (fun _ => True) 0 :=
  ⟨fun a b => by show (a == b) = _; by_cases h : a = b <;> simp [h], fun a h => rfl, fun _ => Nat.le_refl _⟩
theorem Enc.any {α : Type} [DecidableEq α] {enc : α → PyData} {ok : α → Prop} {n : Nat} (e : Enc enc ok n) (x : α) : ∀ xs : List α, (xs.map enc).any (fun y => PyData.eqv y (enc x)) = decide (x ∈ xs)
  | [] => rfl
  | y :: ys => by
    rw [List.map_cons, List.any_cons, e.eqv, Enc.any e x ys]
    by_cases h1 : y = x
    · simp [h1]
    · have : ¬ x = y := fun q => h1 q.symm
      simp [h1, this, List.mem_cons]

abbrev PL {α : Type} (φ : Led) (v : Value) (enc : α → PyData) (xs : List α) : Prop := PIn φ v (.list (xs.map enc))
abbrev PT {α : Type} (φ : Led) (v : Value) (enc : α → PyData) (xs : List α) : Prop := PIn φ v (.tuple (xs.map enc))

section
variable {prog : Program} {w : World} {A : Around} {h₀ : Heap} {L : Addr} {m : Loc} {μ φ R : Led} {env : Env} {K : Frag} {d u : Nat}

theorem H_eq {α : Type} [DecidableEq α] {enc : α → PyData} {ok : α → Prop} {n : Nat} {a b : Value} {x y : α} {Q : Value → Loc → Led → Led → Prop} (e : Enc enc ok n) (hn : n ≤ 64) (C : Cx K A h₀ L d u) (hu : u + 64 < cLine)
    (ha : PIn φ a (enc x)) (hb : PIn φ b (enc y)) (hx : ok x) (hy : ok y) (h : Q (.bool (decide (x = y))) m μ φ) : H (model prog w) A h₀ L (compareOp .Eq a b) m μ φ Q := by
  intro R E s S
  obtain ⟨as, ra⟩ := ha.reads fun p hp => (S.N p (List.mem_append_right _ hp)).1
  obtain ⟨bs, rb⟩ := hb.reads fun p hp => (S.N p (List.mem_append_right _ hp)).1
  have sh : ∀ z, ok z → SeqAt.shaped (enc z) = true := fun z hz => by
    unfold SeqAt.shaped; rw [e.lay z hz, Bool.true_and]; exact decide_eq_true (Nat.le_trans (e.dep z) hn)
  refine eq_dataH ra rb (sh x hx) (sh y hy) (by have := C.hu; omega) ?_
  rw [e.eqv]
  exact ⟨s.heap, s.toks, m, μ, φ, rfl, S, fun _ x => x, h⟩
theorem H_ne {α : Type} [DecidableEq α] {enc : α → PyData} {ok : α → Prop} {n : Nat} {a b : Value} {x y : α} {Q : Value → Loc → Led → Led → Prop} (e : Enc enc ok n) (hn : n ≤ 64) (C : Cx K A h₀ L d u) (hu : u + 64 < cLine)
    (ha : PIn φ a (enc x)) (hb : PIn φ b (enc y)) (hx : ok x) (hy : ok y) (h : Q (.bool (!decide (x = y))) m μ φ) : H (model prog w) A h₀ L (compareOp .NotEq a b) m μ φ Q := by
  intro R E s S
  obtain ⟨as, ra⟩ := ha.reads fun p hp => (S.N p (List.mem_append_right _ hp)).1
  obtain ⟨bs, rb⟩ := hb.reads fun p hp => (S.N p (List.mem_append_right _ hp)).1
  have sh : ∀ z, ok z → SeqAt.shaped (enc z) = true := fun z hz => by
    unfold SeqAt.shaped; rw [e.lay z hz, Bool.true_and]; exact decide_eq_true (Nat.le_trans (e.dep z) hn)
  refine ne_dataH ra rb (sh x hx) (sh y hy) (by have := C.hu; omega) ?_
  rw [e.eqv]
  exact ⟨s.heap, s.toks, m, μ, φ, rfl, S, fun _ x => x, h⟩
theorem H_inList {α : Type} [DecidableEq α] {enc : α → PyData} {ok : α → Prop} {n : Nat} {a b : Value} {x : α} {ys : List α} {Q : Value → Loc → Led → Led → Prop} (e : Enc enc ok n) (C : Cx K A h₀ L d u) (hu : u + 1 + n < cLine)
    (ha : PIn φ a (enc x)) (hb : PIn φ b (.list (ys.map enc))) (hx : ok x) (hy : ∀ y ∈ ys, ok y) (h : Q (.bool (decide (x ∈ ys))) m μ φ) : H (model prog w) A h₀ L (compareOp .In a b) m μ φ Q := by
  intro R E s S
  obtain ⟨as, ra⟩ := ha.reads fun p hp => (S.N p (List.mem_append_right _ hp)).1
  obtain ⟨bs, rb⟩ := hb.reads fun p hp => (S.N p (List.mem_append_right _ hp)).1
  refine SeqAt.in_list_reads rb ra (e.layAll ys hy) (e.lay x hx) (by have := C.hu; have := e.dep x; have := Nat.min_le_right (PyData.depthAll (ys.map enc)) (enc x).depth; omega) ?_
  rw [e.any]
  exact ⟨s.heap, s.toks, m, μ, φ, rfl, S, fun _ x => x, h⟩
theorem H_inTuple {α : Type} [DecidableEq α] {enc : α → PyData} {ok : α → Prop} {n : Nat} {a b : Value} {x : α} {ys : List α} {Q : Value → Loc → Led → Led → Prop} (e : Enc enc ok n) (C : Cx K A h₀ L d u) (hu : u + 1 + n < cLine)
    (ha : PIn φ a (enc x)) (hb : PIn φ b (.tuple (ys.map enc))) (hx : ok x) (hy : ∀ y ∈ ys, ok y) (h : Q (.bool (decide (x ∈ ys))) m μ φ) : H (model prog w) A h₀ L (compareOp .In a b) m μ φ Q := by
  intro R E s S
  obtain ⟨as, ra⟩ := ha.reads fun p hp => (S.N p (List.mem_append_right _ hp)).1
  obtain ⟨bs, rb⟩ := hb.reads fun p hp => (S.N p (List.mem_append_right _ hp)).1
  refine SeqAt.in_tuple_reads rb ra (e.layAll ys hy) (e.lay x hx) (by have := C.hu; have := e.dep x; have := Nat.min_le_right (PyData.depthAll (ys.map enc)) (enc x).depth; omega) ?_
  rw [e.any]
  exact ⟨s.heap, s.toks, m, μ, φ, rfl, S, fun _ x => x, h⟩
end
-- A9
section
variable {prog : Program} {w : World} {A : Around} {h₀ : Heap} {L : Addr} {m : Loc} {μ φ R : Led} {env : Env} {K : Frag} {d u : Nat}
theorem H_add {a b : Int} {t v : Tok} {Q : Value → Loc → Led → Led → Prop} (h : ∀ t, Q (.int (a + b) t) m μ φ) : H (model prog w) A h₀ L (binaryOp .Add (.int a t) (.int b v)) m μ φ Q :=
  fun R E s S => PyProof.Rows.add_int ⟨s.heap, _, m, μ, φ, rfl, S, fun _ x => x, h _⟩
theorem H_sub {a b : Int} {t v : Tok} {Q : Value → Loc → Led → Led → Prop} (h : ∀ t, Q (.int (a - b) t) m μ φ) : H (model prog w) A h₀ L (binaryOp .Sub (.int a t) (.int b v)) m μ φ Q :=
  fun R E s S => PyProof.Rows.sub_int' ⟨s.heap, _, m, μ, φ, rfl, S, fun _ x => x, h _⟩
theorem H_mod {a b : Int} {t v : Tok} {Q : Value → Loc → Led → Led → Prop} (hb : b ≠ 0) (h : ∀ t, Q (.int (a.fmod b) t) m μ φ) : H (model prog w) A h₀ L (binaryOp .Mod (.int a t) (.int b v)) m μ φ Q :=
  fun R E s S => PyProof.Rows.mod_int' hb ⟨s.heap, _, m, μ, φ, rfl, S, fun _ x => x, h _⟩
theorem H_fdiv {a b : Int} {t v : Tok} {Q : Value → Loc → Led → Led → Prop} (hb : b ≠ 0) (hs : b.natAbs < 1073741824) (h : ∀ t, Q (.int (a.fdiv b) t) m μ φ) : H (model prog w) A h₀ L (binaryOp .FloorDiv (.int a t) (.int b v)) m μ φ Q :=
  fun R E s S => PyProof.Rows.floordiv_int hb ⟨s.heap, _, m, μ, φ, rfl, S, fun _ x => x, h _⟩ (Or.inl (PyProof.noPylong_small hs))
theorem H_neg {a : Int} {t : Tok} {Q : Value → Loc → Led → Led → Prop} (h : ∀ t, Q (.int (-a) t) m μ φ) : H (model prog w) A h₀ L (unaryOp .USub (.int a t)) m μ φ Q :=
  fun R E s S => PyProof.Rows.neg_int ⟨s.heap, _, m, μ, φ, rfl, S, fun _ x => x, h _⟩
theorem H_ge {a b : Int} {t v : Tok} {Q : Value → Loc → Led → Led → Prop} (h : Q (.bool (decide (b ≤ a))) m μ φ) : H (model prog w) A h₀ L (compareOp .GtE (.int a t) (.int b v)) m μ φ Q :=
  fun R E s S => PyProof.Rows.ge_int ⟨s.heap, s.toks, m, μ, φ, rfl, S, fun _ x => x, h⟩

theorem H_itemTup {value slice : Expr} {a : Addr} {vs : List Value} {n : Nat} {k : Int} {t : Tok} {v : Value} {Q : Value → Loc → Led → Led → Prop} (hm : (a, ({ cls := .type "tuple", data := .seq vs.toArray n } : Obj)) ∈ μ ++ φ)
    (h0 : 0 ≤ k) (hk : k < 2 ^ 63) (hv : vs[k.toNat]? = some v) (h : Q v m μ φ)
    (hs : subscripted slice false (.ref a) (.int k t) = operate [.ref a, .int k t] (getItem (.ref a) (.int k t)) := by with_unfolding_all rfl) :
    H (model prog w) A h₀ L (subscriptTail value slice (.ref a) (.int k t)) m μ φ Q := by
  intro R E s S
  have hl : k.toNat < vs.length := (List.getElem?_eq_some_iff.mp hv).1
  refine item_tupleT (l := vs) ⟨_, S.get (mem_in hm), rfl, n, rfl⟩ (by omega) hk (j := k.toNat) ?_ hv ⟨s.heap, s.toks, m, μ, φ, rfl, S, fun _ x => x, h⟩ hs
  unfold seqIndex?
  have h1 : k < (vs.length : Int) := by omega
  have h2 : ¬ k < 0 := by omega
  simp [h0, h1, h2]
theorem H_itemList {value slice : Expr} {a : Addr} {vs : List Value} {n : Nat} {k : Int} {t : Tok} {v : Value} {Q : Value → Loc → Led → Led → Prop} (hm : (a, lstO vs n) ∈ μ ++ φ)
    (h0 : 0 ≤ k) (hk : k < 2 ^ 63) (hv : vs[k.toNat]? = some v) (h : Q v m μ φ)
    (hs : subscripted slice false (.ref a) (.int k t) = operate [.ref a, .int k t] (getItem (.ref a) (.int k t)) := by with_unfolding_all rfl) :
    H (model prog w) A h₀ L (subscriptTail value slice (.ref a) (.int k t)) m μ φ Q := by
  intro R E s S
  exact item_litK (vs := vs) ⟨_, S.get (mem_in hm), rfl, n, rfl⟩ h0 hk hv ⟨s.heap, s.toks, m, μ, φ, rfl, S, fun _ x => x, h⟩ hs
/-- a place of a tuple of data -/
theorem H_itemTupP {value slice : Expr} {v : Value} {ds : List PyData} {k : Int} {t : Tok} {d : PyData} {Q : Value → Loc → Led → Led → Prop} (hm : PIn φ v (.tuple ds))
    (h0 : 0 ≤ k) (hk : k < 2 ^ 63) (hv : ds[k.toNat]? = some d) (h : ∀ v, PIn φ v d → Q v m μ φ)
    (hs : ∀ a, subscripted slice false (.ref a) (.int k t) = operate [.ref a, .int k t] (getItem (.ref a) (.int k t)) := by intro _; with_unfolding_all rfl) :
    H (model prog w) A h₀ L (subscriptTail value slice v (.int k t)) m μ φ Q := by
  cases hm with
  | tuple hm r =>
    obtain ⟨v, e, p⟩ := r.getD hv
    exact H_itemTup (List.mem_append_right _ hm) h0 hk e (h v p) (hs _)
theorem H_itemListP {value slice : Expr} {v : Value} {ds : List PyData} {k : Int} {t : Tok} {d : PyData} {Q : Value → Loc → Led → Led → Prop} (hm : PIn φ v (.list ds))
    (h0 : 0 ≤ k) (hk : k < 2 ^ 63) (hv : ds[k.toNat]? = some d) (h : ∀ v, PIn φ v d → Q v m μ φ)
    (hs : ∀ a, subscripted slice false (.ref a) (.int k t) = operate [.ref a, .int k t] (getItem (.ref a) (.int k t)) := by intro _; with_unfolding_all rfl) :
    H (model prog w) A h₀ L (subscriptTail value slice v (.int k t)) m μ φ Q := by
  cases hm with
  | list hm r =>
    obtain ⟨v, e, p⟩ := r.getD hv
    exact H_itemList (List.mem_append_right _ hm) h0 hk e (h v p) (hs _)
end
-- B0
/-- a row of the law -/
structure Row where
  name : Str
  kinds : List Str
  opcode : Int
  escape : Int
  size : Int
  must : Int
deriving DecidableEq
abbrev ofs (s : String) : Str := Str.ofString s
def namesTab : List Str := [ofs "mov", ofs "movx", ofs "m", ofs "jb", ofs "x"]
def kindsTab : List (List Str) := [[], [ofs "o32"], [ofs "rm8", ofs "imm8"], [ofs "r16", ofs "m16"], [ofs "xm32", ofs "x"], [ofs "rm64", ofs "cl"], [ofs "m"], [ofs "x", ofs "m128", ofs "uimm8"], [ofs "eax", ofs "o32"], [ofs "rel8"]]
structure RowOk (r : Row) : Prop where
  name : r.name ∈ namesTab
  kinds : r.kinds ∈ kindsTab
  opcode : r.opcode ∈ [0, 64, 71, 72, 144, 240, 248]
  plus : ofs "o32" ∈ r.kinds → r.opcode ≠ 71
  escape : r.escape ∈ [0, 1]
  size : r.size ∈ [0, 8, 32]
  must : r.must ∈ [0, 102, 242, 243]
def fixedKinds : List Str := [ofs "al", ofs "ax", ofs "eax", ofs "rax", ofs "cl", ofs "dx"]
def isFixed (k : Str) : Bool := decide (k ∈ fixedKinds)
def rowP (r : Row) : PyData := .tuple [.str r.name, .tuple (r.kinds.map .str), .int r.opcode, .int r.escape, .int (-1), .int r.size, .int r.must, .bool false]
def codeP (c : Int × Int × Int) : PyData := .tuple [.int c.1, .int c.2.1, .int c.2.2]
def formF (vn vk vo ve vd vs vm vw vnum vp : Value) : Loc :=
  upd (upd (upd (upd (upd (upd (upd (upd (upd (upd (fun _ => none) (ofs "name") vn) (ofs "kinds") vk) (ofs "opcode") vo) (ofs "escape") ve) (ofs "digit") vd) (ofs "size") vs) (ofs "must") vm) (ofs "is_wide") vw) (ofs "number") vnum) (ofs "places") vp
-- B1
abbrev dctO : Obj := { cls := .type "dict", data := .dict #[] }
section
variable {prog : Program} {w : World} {A : Around} {h₀ : Heap} {L : Addr} {m : Loc} {μ φ R : Led} {env : Env} {K : Frag} {d u : Nat}

theorem St.notMods {h : Heap} (C : Cx K A h₀ L d u) (S : St h₀ L h m μ φ) : (h.objs.size == sysModules) = false := by
  obtain ⟨_, _, _, _, _, _, _, mg, mb, _, T, _⟩ := C.ctx
  exact S.F.notModules (modules_low T.nolimit)

/-! dicts -/
theorem H_newDict {pos : Pos} {Q : Value → Loc → Led → Led → Prop} (C : Cx K A h₀ L d u) (h : ∀ a, (a == sysModules) = false → Q (.ref a) m ((a, dctO) :: μ) φ) : H (model prog w) A h₀ L (eval (.Dict [] [] pos) env) m μ φ Q :=
  fun R E s S => wpAny_Dict_empty ⟨_, _, m, (s.heap.objs.size, dctO) :: μ, φ, rfl, S.pushM dctO, fun _ x => x, h _ (S.notMods C)⟩
theorem dctO_is (h₀ : Heap) {κ : Type} [DecidableEq κ] (knd : KeyKind prog w κ) : dctO.IsDictOf knd [] := by
  obtain ⟨o, ho, hd⟩ := Heap.dictOf_iff.mp (Heap.DictOf.new (knd := knd) h₀)
  rw [Heap.get?_push_size _ rfl] at ho
  have e := Option.some.inj ho
  rw [← e] at hd
  exact hd

section
variable {κ : Type} [DecidableEq κ] {knd : KeyKind prog w κ} {kvs : List (κ × Value)} {D : Addr} {o : Obj} {k : κ} {key : Value}
theorem St.dictOf {h : Heap} (S : St h₀ L h m (μ ++ R) φ) (hm : (D, o) ∈ μ ++ φ) (ho : o.IsDictOf knd kvs) : h.DictOf knd D kvs := Heap.dictOf_iff.mpr ⟨o, S.get (mem_in hm), ho⟩
theorem H_dictIn {Q : Value → Loc → Led → Led → Prop} (hm : (D, o) ∈ μ ++ φ) (ho : o.IsDictOf knd kvs) (lo : (D == sysModules) = false) (hk : knd.is k key = true) (h : Q (.bool (valueAt kvs k).isSome) m μ φ) :
    H (model prog w) A h₀ L (compareOp .In key (.ref D)) m μ φ Q :=
  fun R E s S => wpAny_in_of hk lo (S.dictOf hm ho).mapOf ⟨s.heap, _, m, μ, φ, rfl, S, fun _ x => x, h⟩
theorem H_dictNotIn {Q : Value → Loc → Led → Led → Prop} (hm : (D, o) ∈ μ ++ φ) (ho : o.IsDictOf knd kvs) (lo : (D == sysModules) = false) (hk : knd.is k key = true) (h : Q (.bool (!(valueAt kvs k).isSome)) m μ φ) :
    H (model prog w) A h₀ L (compareOp .NotIn key (.ref D)) m μ φ Q :=
  fun R E s S => wpAny_notIn_of hk lo (S.dictOf hm ho).mapOf ⟨s.heap, _, m, μ, φ, rfl, S, fun _ x => x, h⟩
theorem H_dictSet {v : Value} {g : Obj → Led} {Q : Unit → Loc → Led → Led → Prop} (U : ∀ o', Up D o o' μ (g o')) (ho : o.IsDictOf knd kvs) (hk : knd.is k key = true) (hz : kvs.length ≤ sizeLine)
    (h : ∀ o', o'.IsDictOf knd (stored kvs k v) → Q () m (g o') φ) : H (model prog w) A h₀ L (setItem (.ref D) key v) m μ φ Q := by
  intro R E s S
  refine wpAny_setItem_pairs (hsz := hz) hk (S.dictOf (List.mem_append_left _ (U o).mem) ho) fun h' hm hs => ?_
  obtain ⟨o', ho', hd'⟩ := Heap.dictOf_iff.mp hm
  exact ⟨h', _, m, g o', φ, rfl, S.up ((U o').right R) hs ho', fun _ x => x, h o' hd'⟩
theorem H_dictItem {value slice : Expr} {v : Value} {Q : Value → Loc → Led → Led → Prop} (hm : (D, o) ∈ μ ++ φ) (ho : o.IsDictOf knd kvs) (hk : knd.is k key = true) (hv : valueAt kvs k = some v) (h : Q v m μ φ)
    (hs : subscripted slice false (.ref D) key = operate [.ref D, key] (getItem (.ref D) key) := by with_unfolding_all rfl) :
    H (model prog w) A h₀ L (subscriptTail value slice (.ref D) key) m μ φ Q :=
  fun R E s S => tail_any (S.dictOf hm ho).typeIs slot_dict_getitem.lookup (wpAny_getItem_of hk (S.dictOf hm ho).mapOf hv ⟨s.heap, _, m, μ, φ, rfl, S, fun _ x => x, h⟩) hs
theorem H_dictGetM {pl : Sem Bool} {Q : Value × List Value → Loc → Led → Led → Prop} (hm : (D, o) ∈ μ ++ φ) (ho : o.IsDictOf knd kvs) (h : Q (.builtin "dict.get", [.ref D]) m μ φ) :
    H (model prog w) A h₀ L (getMethod (.ref D) "get" pl) m μ φ Q :=
  fun R E s S => getMethod_builtin (S.dictOf hm ho).typeIs PySem.F.plainAttrs_dict PySem.F.slot_dict_get PySem.F.type_dict_get (S.dictOf hm ho).mapOf.noDict ⟨s.heap, _, m, μ, φ, rfl, S, fun _ x => x, h⟩
theorem H_dictGet {dflt : Value} {Q : Value → Loc → Led → Led → Prop} (hm : (D, o) ∈ μ ++ φ) (ho : o.IsDictOf knd kvs) (lo : (D == sysModules) = false) (hk : knd.is k key = true) (h : Q ((valueAt kvs k).getD dflt) m μ φ) :
    H (model prog w) A h₀ L (call (.builtin "dict.get") [.ref D, key, dflt]) m μ φ Q :=
  fun R E s S => call_meetsIn PySem.F.slot_dict_get (S.dictOf hm ho).typeIs PySem.F.entry_dict_get (PySem.F.args_dict_get_3 _ _ _) (meets_dict_get_default knd D hk lo dflt) ⟨_, (S.dictOf hm ho).mapOf, ⟨s.heap, _, m, μ, φ, rfl, S, fun _ x => x, h⟩⟩
/-- the keys of a dict -/
theorem H_listDict {Q : Value → Loc → Led → Led → Prop} (C : Cx K A h₀ L d u) (hm : (D, o) ∈ μ ++ φ) (ho : o.IsDictOf knd kvs) (lo : (D == sysModules) = false) (hz : kvs.length ≤ sizeLine)
    (h : ∀ a c (vs : List Value), vs.length = kvs.length → (∀ (j : Nat) (v : Value), vs[j]? = some v → ∃ k x, kvs[j]? = some (k, x) ∧ knd.is k v = true) → Q (.ref a) m ((a, lstO vs c) :: μ) φ) :
    H (model prog w) A h₀ L (call (.type "list") [.ref D]) m μ φ Q := by
  intro R E s S
  obtain ⟨o', es, ep, ho', r⟩ := S.dictOf hm ho
  have hA : s.heap.DictAt knd D kvs ep := ⟨o', es, ho', r⟩
  refine kdl_call (kdl_dict (knd := knd) (ep := ep) lo) C.hh hA hz fun h' tk acc c hk hD hacc => ?_
  have S' : St h₀ L h' m ((s.heap.objs.size, lstO acc.toList c) :: (μ ++ R)) φ := by
    have S1 := (S.pushM (lstO acc.toList c))
    refine ⟨S.F.keeps hk, fun p hp => ?_, S1.D, S1.U⟩
    rcases List.mem_cons.mp hp with rfl | hp
    · have := S1.N _ (.head _)
      refine ⟨?_, this.2⟩
      show h'.get? s.heap.objs.size = _
      rw [hD]
    · have := S.N p hp
      exact ⟨hk _ _ this.1, this.2⟩
  refine ⟨h', tk, m, (s.heap.objs.size, lstO acc.toList c) :: μ, φ, rfl, S', fun _ x => x, h _ _ _ (by rw [Array.length_toList]; exact hacc.1) fun j v e => hacc.2 j v (by rw [← Array.getElem?_toList]; exact e)⟩
end
end
-- B2
section
variable {prog : Program} {w : World} {A : Around} {h₀ : Heap} {L : Addr} {m : Loc} {μ φ R : Led} {env : Env} {K : Frag} {d u : Nat}

/-- the heap has grown by one object at its old end -/
theorem St.grown {h h' : Heap} {o : Obj} (S : St h₀ L h m μ φ) (hk : ∀ b o', h.get? b = some o' → h'.get? b = some o') (ho : h'.get? h.objs.size = some o) (hf : o.isFreed = false := by rfl) : St h₀ L h' m ((h.objs.size, o) :: μ) φ := by
  have S1 := S.pushM o hf
  refine ⟨S.F.keeps hk, fun p hp => ?_, S1.D, S1.U⟩
  rcases List.mem_cons.mp hp with rfl | hp
  · exact ⟨ho, (S1.N _ (.head _)).2⟩
  · have := S.N p hp
    exact ⟨hk _ _ this.1, this.2⟩
/-! lists -/
theorem H_listCopy {a : Addr} {vs : List Value} {n : Nat} {Q : Value → Loc → Led → Led → Prop} (hm : (a, lstO vs n) ∈ μ ++ φ) (hz : vs.length ≤ sizeLine) (h : ∀ a c, Q (.ref a) m ((a, lstO vs c) :: μ) φ) :
    H (model prog w) A h₀ L (call (.type "list") [.ref a]) m μ φ Q := by
  intro R E s S
  exact call_list_seq a (.inl rfl) (S.get (mem_in hm)) rfl rfl (fun h' c hk ho => ⟨h', _, m, (s.heap.objs.size, lstO vs c) :: μ, φ, rfl, S.grown hk ho, fun _ x => x, h _ _⟩) hz
theorem H_tupleOf {a : Addr} {vs : List Value} {n : Nat} {Q : Value → Loc → Led → Led → Prop} (hm : (a, lstO vs n) ∈ μ ++ φ) (hz : vs.length ≤ sizeLine) (h : ∀ a, Q (.ref a) m μ ((a, tupO vs) :: φ)) :
    H (model prog w) A h₀ L (call (.type "tuple") [.ref a]) m μ φ Q := by
  intro R E s S
  refine call_tuple_list ⟨_, S.get (mem_in hm), rfl, n, rfl⟩ (fun h' hk => ?_) hz
  have S' : St h₀ L h' m (μ ++ R) φ := S.keeps hk
  exact ⟨_, _, m, μ, (h'.objs.size, tupO vs) :: φ, rfl, S'.push (tupO vs), fun _ x => .tail _ x, h _⟩
theorem H_tupleSame {v : Value} {ds : List PyData} {Q : Value → Loc → Led → Led → Prop} (hm : PIn φ v (.tuple ds)) (h : Q v m μ φ) : H (model prog w) A h₀ L (call (.type "tuple") [v]) m μ φ Q := by
  intro R E s S
  cases hm with
  | tuple hm r => exact call_tuple_same ⟨_, S.get (List.mem_append_right _ hm), rfl, _, rfl⟩ ⟨s.heap, s.toks, m, μ, φ, rfl, S, fun _ x => x, h⟩
theorem H_appendM {a : Addr} {o : Obj} {pl : Sem Bool} {Q : Value × List Value → Loc → Led → Led → Prop} (hm : (a, o) ∈ μ ++ φ) (hc : o.cls = .type "list") (hd : o.dict = none) (h : Q (.builtin "list.append", [.ref a]) m μ φ) :
    H (model prog w) A h₀ L (getMethod (.ref a) "append" pl) m μ φ Q :=
  fun R E s S => Calls.getMethod_list_append (S.get (mem_in hm)) hc hd ⟨s.heap, _, m, μ, φ, rfl, S, fun _ x => x, h⟩
theorem H_append {a : Addr} {vs : List Value} {n : Nat} {v : Value} {g : Obj → Led} {Q : Value → Loc → Led → Led → Prop} (U : ∀ o', Up a (lstO vs n) o' μ (g o')) (hz : vs.length ≤ sizeLine) (h : Q .none m (g (lstO (vs ++ [v]) (n + 1))) φ) :
    H (model prog w) A h₀ L (call (.builtin "list.append") [.ref a, v]) m μ φ Q := by
  intro R E s S
  refine append_at (S.get (List.mem_append_left _ (List.mem_append_left _ (U (lstO vs n)).mem))) (fun h' hs ho => ?_) hz
  have ho' : h'.get? a = some (lstO (vs ++ [v]) (n + 1)) := by rw [ho]; simp [lstO]
  exact ⟨h', _, m, _, φ, rfl, S.up ((U _).right R) hs ho', fun _ x => x, h⟩
theorem H_clearM {a : Addr} {vs : List Value} {n : Nat} {pl : Sem Bool} {Q : Value × List Value → Loc → Led → Led → Prop} (hm : (a, lstO vs n) ∈ μ ++ φ) (h : Q (.builtin "list.clear", [.ref a]) m μ φ) :
    H (model prog w) A h₀ L (getMethod (.ref a) "clear" pl) m μ φ Q :=
  fun R E s S => getMethod_list_of PySem.F.slot_list_clear PySem.F.type_list_clear ⟨_, S.get (mem_in hm), rfl, n, rfl⟩ ⟨_, S.get (mem_in hm), rfl⟩ ⟨s.heap, _, m, μ, φ, rfl, S, fun _ x => x, h⟩
theorem H_lenList {a : Addr} {vs : List Value} {n : Nat} {Q : Value → Loc → Led → Led → Prop} (hm : (a, lstO vs n) ∈ μ ++ φ) (hz : vs.length ≤ sizeLine) (h : ∀ t, Q (.int vs.length t) m μ φ) :
    H (model prog w) A h₀ L (call (.builtin "len") [.ref a]) m μ φ Q := by
  intro R E s S
  have hz' : ((vs.toArray.size : Nat) : Int) < 2 ^ 63 := by rw [List.size_toArray]; have : sizeLine ≤ 2 ^ 40 := by decide
                                                            omega
  exact PyProof.Rows.len_list ⟨_, S.get (mem_in hm), rfl, n, rfl⟩ hz' ⟨s.heap, _, m, μ, φ, rfl, S, fun _ x => x, by simpa using h _⟩
theorem H_lenTup {v : Value} {ds : List PyData} {Q : Value → Loc → Led → Led → Prop} (hm : PIn φ v (.tuple ds)) (hz : ds.length ≤ sizeLine) (h : ∀ t, Q (.int ds.length t) m μ φ) :
    H (model prog w) A h₀ L (call (.builtin "len") [v]) m μ φ Q := by
  cases hm with
  | @tuple a vs n ds hm r =>
    intro R E s S
    have hl := r.length
    have hz' : ((vs.toArray.size : Nat) : Int) < 2 ^ 63 := by rw [List.size_toArray]; have : sizeLine ≤ 2 ^ 40 := by decide
                                                              omega
    refine PyProof.Rows.len_tuple ⟨_, S.get (List.mem_append_right _ hm), rfl, n, rfl⟩ hz' ⟨s.heap, _, m, μ, φ, rfl, S, fun _ x => x, ?_⟩
    rw [List.size_toArray, hl]; exact h _
/-! ranges -/
theorem H_range1 {b : Int} {t : Tok} {Q : Value → Loc → Led → Led → Prop} (h : ∀ a t u v, Q (.ref a) m μ ((a, rngO 0 b t u v) :: φ)) : H (model prog w) A h₀ L (call (.type "range") [.int b t]) m μ φ Q :=
  fun R E s S => call_range_1 ⟨_, _, m, μ, _, rfl, S.push (rngO 0 b _ _ _), fun _ x => .tail _ x, h _ _ _ _⟩
theorem H_range2 {a b : Int} {t u : Tok} {Q : Value → Loc → Led → Led → Prop} (h : ∀ r t u v, Q (.ref r) m μ ((r, rngO a b t u v) :: φ)) : H (model prog w) A h₀ L (call (.type "range") [.int a t, .int b u]) m μ φ Q :=
  fun R E s S => call_range_2 ⟨_, _, m, μ, _, rfl, S.push (rngO a b _ _ _), fun _ x => .tail _ x, h _ _ _ _⟩
abbrev rng3O (a b c : Int) (t u v : Tok) : Obj := { cls := .type "range", dict := none, data := .fields #[.int a t, .int b u, .int c v], slots := #[] }
theorem H_range3 {a b c : Int} {t u v : Tok} {Q : Value → Loc → Led → Led → Prop} (hc : c ≠ 0) (hs : c.natAbs < 1073741824) (h : ∀ r, Q (.ref r) m μ ((r, rng3O a b c t u v) :: φ)) : H (model prog w) A h₀ L (call (.type "range") [.int a t, .int b u, .int c v]) m μ φ Q :=
  fun R E s S => call_range_3 hc ⟨_, _, m, μ, _, rfl, S.push (rng3O a b c t u v), fun _ x => .tail _ x, h _⟩ (Or.inl (PyProof.noPylong_small hs))
theorem Src.range3 {φ : Led} {r : Addr} {a b c : Int} {t u v : Tok} {n : Nat} (hh : A.handled = none) (hm : (r, rng3O a b c t u v) ∈ φ) (hsm : Builtin.Range.small a b c = true) (hn : Builtin.Range.rangeSize a b c = (n : Int)) :
    Src prog w A φ (.ref r) n (fun i v => ∃ t, v = .int (a + (i : Int) * c) t) := by
  refine ⟨fun s Q E hφ K => ?_⟩
  refine wpAny_pyIter_range (hφ _ hm) hsm (K _ [_] (fun i h => IsRangeIter h s.heap.objs.size (a + (i : Nat) * c) ((n : Int) - (i : Nat)) c) rfl ?_ (fun b hb => .inl (List.mem_singleton.mp hb)) ?_ fun i h st => ⟨_, _, st, rfl, by decide⟩)
  · exact Walks.range (prog := prog) (w := w) (A := A) hh s.heap.objs.size a c n
  · show IsRangeIter _ _ _ _ _
    rw [hn]
    simpa using Heap.get?_push_size s.heap (o := { cls := .type "range_iterator", data := .fields #[rawInt a, rawInt n, rawInt c] }) rfl
theorem H_listRange {r : Addr} {a b : Int} {t u v : Tok} {n : Nat} {Q : Value → Loc → Led → Led → Prop} (C : Cx K A h₀ L d u') (hm : (r, rngO a b t u v) ∈ μ ++ φ) (hsm : Builtin.Range.small a b 1 = true) (hn : Builtin.Range.rangeSize a b 1 = (n : Int)) (hz : n ≤ 2 ^ 24)
    (h : ∀ D c (vs : List Value), vs.length = n → (∀ (j : Nat) (v : Value), vs[j]? = some v → ∃ t, v = .int (a + (j : Int)) t) → Q (.ref D) m ((D, lstO vs c) :: μ) φ) :
    H (model prog w) A h₀ L (call (.type "list") [.ref r]) m μ φ Q := by
  intro R E s S
  refine call_list_range C.hh (S.get (mem_in hm)) hsm hn hz fun h' tk acc c hk hD hacc => ?_
  have hD' : h'.get? s.heap.objs.size = some (lstO acc.toList c) := by rw [hD]
  refine ⟨h', tk, m, (s.heap.objs.size, lstO acc.toList c) :: μ, φ, rfl, S.grown hk hD', fun _ x => x, h _ _ _ (by rw [Array.length_toList]; exact hacc.1) fun j v e => ?_⟩
  obtain ⟨t, e⟩ := hacc.2 j v (by rw [← Array.getElem?_toList]; exact e)
  exact ⟨t, by rw [e, Int.mul_one]⟩

/-! slices -/
abbrev slcO (a b c : Value) : Obj := { cls := .type "slice", data := .fields #[a, b, c] }
theorem H_evalPart_none {Q : Value → Loc → Led → Led → Prop} (h : Q .none m μ φ) : H (model prog w) A h₀ L (evalPart none env) m μ φ Q := by
  rw [evalPart_none]; exact H_pure h
theorem H_evalPart_some {e : Expr} {Q : Value → Loc → Led → Led → Prop} (h : H (model prog w) A h₀ L (eval e env) m μ φ Q) : H (model prog w) A h₀ L (evalPart (some e) env) m μ φ Q := by
  rw [evalPart_some]; exact h
theorem H_Slice {lo up st : Option Expr} {p : Pos} {Q : Value → Loc → Led → Led → Prop}
    (h : H (model prog w) A h₀ L (evalPart lo env) m μ φ (fun a m μ φ => H (model prog w) A h₀ L (evalPart up env) m μ φ (fun b m μ φ => H (model prog w) A h₀ L (evalPart st env) m μ φ (fun c m μ φ => ∀ r, Q (.ref r) m μ ((r, slcO a b c) :: φ))))) :
    H (model prog w) A h₀ L (eval (.Slice lo up st p) env) m μ φ Q := by
  intro R E s S
  refine wpAny_Slice (H_run h S fun a h1 t1 m1 μ1 φ1 S1 b1 q1 => H_run q1 S1 fun b h2 t2 m2 μ2 φ2 S2 b2 q2 => H_run q2 S2 fun c h3 t3 m3 μ3 φ3 S3 b3 q3 => ?_)
  exact ⟨_, _, m3, μ3, _, rfl, S3.push (slcO a b c), fun p hp => .tail _ (b3 p (b2 p (b1 p hp))), q3 _⟩
theorem H_sliceList {value slice : Expr} {a sl : Addr} {vs : List Value} {n : Nat} {x y z : Value} {lo hi st : Option Int} {ops : List Value} {Q : Value → Loc → Led → Led → Prop} (hm : (a, lstO vs n) ∈ μ ++ φ) (hsl : (sl, slcO x y z) ∈ μ ++ φ)
    (px : IsPart x lo) (py : IsPart y hi) (pz : IsPart z st) (h0 : st ≠ some 0) (hz : vs.length ≤ sizeLine)
    (h : ∀ D, Q (.ref D) m μ ((D, lstO (slicePick vs.toArray lo hi st).toList 0) :: φ))
    (hs : subscripted slice false (.ref a) (.ref sl) = operate ops (getItem (.ref a) (.ref sl)) := by with_unfolding_all rfl) :
    H (model prog w) A h₀ L (subscriptTail value slice (.ref a) (.ref sl)) m μ φ Q := by
  intro R E s S
  have hl : s.heap.IsList a vs.toArray := ⟨_, S.get (mem_in hm), rfl, n, rfl⟩
  refine tail_any hl.typeIs list_getitem_lookup (wpAny_getItem_list_slice hl ⟨_, S.get (mem_in hsl), rfl, rfl⟩ px py pz h0 ?_ (by simpa using hz)) hs
  exact ⟨_, _, m, μ, _, rfl, by simpa [lstO] using S.push (lstO (slicePick vs.toArray lo hi st).toList 0), fun _ x => .tail _ x, h _⟩
theorem H_sliceStr {value slice : Expr} {x : Str} {t t' : Tok} {sl : Addr} {j : Int} {ops : List Value} {Q : Value → Loc → Led → Led → Prop} (hsl : (sl, slcO .none (.int j t') .none) ∈ μ ++ φ) (hz : x.length ≤ sizeLine)
    (h : ∀ t, Q (.str (Txt.slice x none (some j)) t) m μ φ)
    (hs : subscripted slice false (.str x t) (.ref sl) = operate ops (getItem (.str x t) (.ref sl)) := by with_unfolding_all rfl) (ht : ∀ r, letTemporaryGo value (.str x t) r = pure () := by intro _; with_unfolding_all rfl) :
    H (model prog w) A h₀ L (subscriptTail value slice (.str x t) (.ref sl)) m μ φ Q := by
  intro R E s S
  refine tail_of_ItemOn (A := A) (s := s) ⟨"str", _, PySem.F.slot_str_getitem.lookup, typeIs_str _ _ _, wpAny_getItem_str_slice (l := none) (u := some (j, t')) (st := none) ⟨_, S.get (mem_in hsl), rfl, rfl⟩ rfl
    (post_val_or_str ⟨Nat.le_trans (Txt.slice_le x _ _) hz, fun t k => ⟨s.heap, k, m, μ, φ, rfl, S, fun _ x => x, h t⟩⟩)⟩ hs ht
theorem H_inStr {x y : Str} {t t' : Tok} {Q : Value → Loc → Led → Led → Prop} (h : Q (.bool !(Builtin.Str.occurrences x y 0 x.length 1).isEmpty) m μ φ) : H (model prog w) A h₀ L (compareOp .In (.str y t') (.str x t)) m μ φ Q :=
  fun R E s S => PyProof.Rows.in_str ⟨s.heap, s.toks, m, μ, φ, rfl, S, fun _ x => x, h⟩
end
-- B3
/-! going through the keys of any dict -/
def RawD (h : Heap) (d : Addr) (es : Array DictEntry) (ep : Nat) : Prop := ∃ o, h.get? d = some o ∧ o.ExactDict ∧ o.data = .dict es ep
section
variable {prog : Program} {w : World} {A : Around} {E : Value → Shared → Prop} {s : Shared} {d it : Addr} {es : Array DictEntry} {ep i : Nat}
theorem RawD.typeIs (x : RawD s.heap d es ep) : s.TypeIs (.ref d) "dict" := let ⟨o, ho, hc, _⟩ := x; ⟨o, ho, hc.1⟩
theorem raw_iter {Q : Value → Shared → Prop} (lo : (d == sysModules) = false) (hm : RawD s.heap d es ep)
    (hQ : Q (.ref s.heap.objs.size) { s with heap := s.heap.push { cls := .type "dict_keyiterator", data := .fields #[.ref d, .int 0 0, .int es.size 0, .int ep 0] } }) : wpAny (model prog w) A (pyIter (.ref d)) Q E s := by
  obtain ⟨o, ho, hc, hdat⟩ := id hm
  have hT : s.TypeIs (.ref d) "dict" := hm.typeIs
  refine wpAny_pyIter_slot hT PySem.F.slot_dict_iter (wpAny_call_entry PySem.F.slot_dict_iter hT PySem.F.entry_dict_iter ?_ (PySem.F.args_dict_iter_1 _))
  unfold Builtin.«dict.__iter__»
  refine wpAny_bind ?_
  unfold Builtin.Dict.dictSlotNone
  refine wpAny_bind (wpAny_notOrdered_dict hT (wpAny_pure ?_))
  refine wpAny_bind (m := Builtin.Dict.showsAll d) ?_
  unfold Builtin.Dict.showsAll
  rw [if_neg (by rw [lo]; exact Bool.false_ne_true)]
  refine wpAny_pure (wpAny_bind (wpAny_dictEntries ho hdat (wpAny_bind (wpAny_dictEpoch ho hdat ?_))))
  refine wpAny_bind (wpAny_newObj_type (wpAny_pure ⟨_, rfl, "dict_keyiterator", _, ⟨_, Heap.get?_push_size _ rfl, rfl⟩, PySem.F.slot_dict_keyiterator_next.lookup, ?_⟩))
  simpa [rawInt] using hQ
theorem raw_item {e : DictEntry} {Q : Option Value → Shared → Prop} (hit : s.heap.IsKeyIter it d i es.size ep) (hm : RawD s.heap d es ep) (hx : es[i]? = some e)
    (hQ : ∀ h', h'.IsKeyIter it d (i + 1) es.size ep → Heap.SameBut it s.heap h' → Q (some e.key) { s with heap := h' }) : wpAny (model prog w) A (pyNext (.ref it)) Q E s := by
  obtain ⟨o, ho, hc, hd⟩ := id hit
  obtain ⟨od, hod, hcd, hdd⟩ := id hm
  unfold pyNext
  refine wpAny_bind (wpAny_attempt (wpAny_callSpecial?_slot (name := Str.ofString "__next__") hit.typeIs PySem.F.slot_dict_keyiterator_next
    (wpAny_call_entry PySem.F.slot_dict_keyiterator_next hit.typeIs PySem.F.entry_dict_keyiterator_next ?_ (PySem.F.args_dict_keyiterator_next_1 _))))
  refine wpAny_bind (wpAny_pure (wpAny_bind (wpAny_bind ?_)))
  first | refine wpAny_bind (wpAny_typeNameOfWhole_keyiter hit.typeIs (wpAny_pure ?_)) | refine wpAny_bind (wpAny_typeNameOf_keyiter hit.typeIs (wpAny_pure ?_))
  refine wpAny_bind (wpAny_fieldsOf ho hd ?_)
  have hown : Builtin.Dict_items.ownsTuple "dict_keyiterator" = false := by decide
  simp only [hown, Bool.false_eq_true, if_false]
  show wpAny _ _ (if (Value.ref d == Value.none) = true then _ else _) _ _ s
  rw [if_neg (show ¬ ((Value.ref d == Value.none) = true) from Bool.false_ne_true)]
  refine wpAny_bind (wpAny_pure (wpAny_bind (wpAny_dictEntries hod hdd ?_)))
  rw [if_neg (by simp)]
  refine wpAny_bind (wpAny_pure (wpAny_bind (wpAny_dictEpoch hod hdd ?_)))
  rw [if_neg (by simp)]
  refine wpAny_pure ?_
  obtain ⟨hlt, he⟩ := Array.getElem?_eq_some_iff.mp hx
  simp only [show ¬ ((i : Int) < 0) from by omega, if_false, Int.toNat_natCast, Array.getElem?_eq_getElem hlt]
  refine wpAny_bind ?_
  first | refine wpAny_bind (wpAny_typeNameOfWhole_keyiter hit.typeIs (wpAny_pure ?_)) | refine wpAny_bind (wpAny_typeNameOf_keyiter hit.typeIs (wpAny_pure ?_))
  refine wpAny_bind (wpAny_isOneOf_keyiter hit.typeIs ?_)
  show wpAny _ _ (setField (.ref it) 1 (rawInt ((i : Int) + 1)) >>= _) _ _ s
  refine wpAny_bind (wpAny_setField ho hd (by simp) ?_)
  have hit' : (s.heap.update it (Obj.mapFields (·.setIfInBounds 1 (rawInt ((i : Int) + 1))))).IsKeyIter it d (i + 1) es.size ep :=
    ⟨_, Heap.get?_update_self _ ho (Obj.isFreed_of_fields (Obj.data_mapFields hd _)), (Obj.cls_mapFields ..).trans hc, by rw [Obj.data_mapFields hd]; simp [rawInt]⟩
  refine wpAny_bind (wpAny_holding (wpAny_bind (wpAny_isOneOf_keyiter (s := { s with heap := s.heap.update it (Obj.mapFields (·.setIfInBounds 1 (rawInt ((i : Int) + 1)))) }) hit'.typeIs ?_)))
  show wpAny _ _ (pure es[i].key) _ _ _
  rw [he]
  exact wpAny_pure (wpAny_pure ⟨_, rfl, wpAny_pure (hQ _ hit' (Heap.SameBut.update ..))⟩)
theorem raw_end {Q : Option Value → Shared → Prop} (hh : A.handled = none) (hit : s.heap.IsKeyIter it d es.size es.size ep) (hm : RawD s.heap d es ep)
    (hQ : ∀ h', Heap.ExtBut it s.heap h' → Q none { s with heap := h' }) : wpAny (model prog w) A (pyNext (.ref it)) Q E s := by
  obtain ⟨o, ho, hc, hd⟩ := id hit
  obtain ⟨od, hod, hcd, hdd⟩ := id hm
  unfold pyNext
  refine wpAny_bind (wpAny_attempt (wpAny_callSpecial?_slot (name := Str.ofString "__next__") hit.typeIs PySem.F.slot_dict_keyiterator_next
    (wpAny_call_entry PySem.F.slot_dict_keyiterator_next hit.typeIs PySem.F.entry_dict_keyiterator_next ?_ (PySem.F.args_dict_keyiterator_next_1 _))))
  refine wpAny_bind (wpAny_pure (wpAny_bind (wpAny_bind ?_)))
  first | refine wpAny_bind (wpAny_typeNameOfWhole_keyiter hit.typeIs (wpAny_pure ?_)) | refine wpAny_bind (wpAny_typeNameOf_keyiter hit.typeIs (wpAny_pure ?_))
  refine wpAny_bind (wpAny_fieldsOf ho hd ?_)
  have hown : Builtin.Dict_items.ownsTuple "dict_keyiterator" = false := by decide
  simp only [hown, Bool.false_eq_true, if_false]
  show wpAny _ _ (if (Value.ref d == Value.none) = true then _ else _) _ _ s
  rw [if_neg (show ¬ ((Value.ref d == Value.none) = true) from Bool.false_ne_true)]
  refine wpAny_bind (wpAny_pure (wpAny_bind (wpAny_dictEntries hod hdd ?_)))
  rw [if_neg (by simp)]
  refine wpAny_bind (wpAny_pure (wpAny_bind (wpAny_dictEpoch hod hdd ?_)))
  rw [if_neg (by simp)]
  refine wpAny_pure ?_
  simp only [show ¬ ((es.size : Int) < 0) from by omega, if_false, Int.toNat_natCast, Array.getElem?_eq_none (Nat.le_refl es.size)]
  refine wpAny_bind ?_
  first | refine wpAny_bind (wpAny_typeNameOfWhole_keyiter hit.typeIs (wpAny_pure ?_)) | refine wpAny_bind (wpAny_typeNameOf_keyiter hit.typeIs (wpAny_pure ?_))
  show wpAny _ _ (setField (.ref it) 0 .none >>= _) _ _ s
  refine wpAny_bind (wpAny_setField ho hd (by simp) ?_)
  show wpAny _ _ (newExc (.type "StopIteration") [] >>= _) _ _ _
  refine wpAny_bind ?_
  simp only [newExc, newTuple]
  refine wpAny_bind (wpAny_newObj_type ?_ (by size_fits))
  refine wpAny_bind (m := firstArgMember _ _) (wpAny_of_eq (a := Value.none) (by first | rfl | (simp only [firstArgMember]; rfl)) ?_)
  refine wpAny_newObj_type ?_ (by size_fits)
  simp only [raiseNew]
  refine wpAny_bind (wpAny_handled ?_)
  rw [show A.in1.handled = none from hh]
  refine wpAny_bind (wpAny_pure (wpAny_throw ?_))
  refine wpAny_bind (wpAny_isInstance (T := "StopIteration") (b := true) ⟨_, Heap.get?_push_size _ rfl, rfl⟩ isSubtype_stop ?_)
  exact wpAny_pure (hQ _ (((Heap.SameBut.update ..).extBut.push _).push _))
theorem raw_self {Q : Value → Shared → Prop} (hit : s.heap.IsKeyIter it d i es.size ep) (h : Q (.ref it) s) : wpAny (model prog w) A (pyIter (.ref it)) Q E s := wpAny_pyIter_keyiter hit h
theorem RawD.at' {h h' : Heap} (x : RawD h d es ep) (e : ∀ o, h.get? d = some o → h'.get? d = some o) : RawD h' d es ep := let ⟨o, ho, r⟩ := x; ⟨o, e _ ho, r⟩
theorem raw_walks (hh : A.handled = none) (I : Addr) (hne : d ≠ I) : Walks prog w A I [I, d] [I] es.size (fun i v => ∃ e, es[i]? = some e ∧ v = e.key) (fun i h => h.IsKeyIter I d i es.size ep ∧ RawD h d es ep) where
  sub := fun b hb => by simp at hb; simp [hb]
  frame := fun _ _ _ st hk => ⟨st.1.at fun o e => hk I (by simp) o e, st.2.at' fun o e => hk d (by simp) o e⟩
  item := fun i s Q E hi st hQ => by
    refine raw_item st.1 st.2 (Array.getElem?_eq_getElem hi) fun h' hit' hs' => ?_
    exact hQ _ h' s.toks ⟨_, Array.getElem?_eq_getElem hi, rfl⟩ ⟨hit', st.2.at' fun o e => hs'.extBut d o hne e⟩ fun b o hb e => hs'.extBut b o (fun h => hb (by simp [h])) e
  done := fun s Q E st hQ => raw_end hh st.1 st.2 fun h' he' => hQ h' s.toks fun b o hb e => he' b o (fun h => hb (by simp [h])) e
  self := fun _ _ _ _ st hQ => raw_self st.1 hQ
theorem raw_src (lo : (d == sysModules) = false) : KdlSrc prog w "dict" d d es.size (fun i v => ∃ e, es[i]? = some e ∧ v = e.key) (fun h => RawD h d es ep) where
  type := fun _ hm => hm.typeIs
  there := fun _ hm => let ⟨_, ho, _⟩ := hm; ⟨Heap.lt_size ho, Heap.lt_size ho⟩
  keep := fun _ _ hm hk => hm.at' fun o e => hk d (.inl rfl) o e
  notList := by decide
  notTuple := by decide
  hint := fun _ _ _ _ hm hq => kdl_hint_dict hm.typeIs hq
  iter := fun _ s hh hm => ⟨_, _, (fun _ _ hq => raw_iter lo hm hq), raw_walks hh _ (Nat.ne_of_lt (let ⟨_, ho, _⟩ := hm; Heap.lt_size ho)), ⟨⟨_, Heap.get?_push_size _ rfl, rfl, rfl⟩, hm.at' fun o e => Heap.get?_push_of_some _ e⟩⟩
end

/-! dicts keyed by tuples of ints -/
abbrev TK (prog : Program) (w : World) := tupleKind (PySem.intKind prog w)
abbrev intsP (c : List Int) : PyData := .tuple (c.map .int)
structure TupD (prog : Program) (w : World) (φ : Led) (o : Obj) (xs : List (List Int × Addr × Value)) : Prop where
  ex : ∃ es ep, o.ExactDict ∧ o.data = .dict es ep ∧ es.toList = xs.map (entryOfKey (TK prog w)) ∧ (xs.map (·.1)).Nodup ∧ ∀ x ∈ xs, PIn φ (.ref x.2.1) (intsP x.1)
theorem PAll.itemsAre {prog : Program} {w : World} {φ : Led} : ∀ {vs : List Value} {c : List Int}, PAll φ vs (c.map .int) → ItemsAre (PySem.intKind prog w) c vs
  | [], [], _ => .nil
  | [], _ :: _, h => nomatch h
  | _ :: _, [], h => nomatch h
  | v :: vs, i :: c, .cons hv r => by
    cases hv with
    | int i t => exact .cons (intKind_is ..) (PAll.itemsAre r)
section
variable {prog : Program} {w : World} {A : Around} {h₀ : Heap} {L : Addr} {m : Loc} {μ φ R : Led} {env : Env} {K : Frag} {d u : Nat} {D : Addr} {o : Obj} {xs : List (List Int × Addr × Value)} {c : List Int} {key : Value}
theorem TupD.mono {φ' : Led} (x : TupD prog w φ o xs) (b : Sub φ φ') : TupD prog w φ' o xs := let ⟨es, ep, a, e, f, g, k⟩ := x.ex; ⟨es, ep, a, e, f, g, fun y hy => (k y hy).mono b⟩
theorem TupD.empty : TupD prog w φ dctO [] := ⟨#[], 0, ⟨rfl, rfl, rfl⟩, rfl, rfl, List.nodup_nil, fun _ h => nomatch h⟩
theorem key_at {h : Heap} {P : Addr → Prop} (S : St h₀ L h m (μ ++ R) φ) (hk : PIn φ key (intsP c)) : ∃ a ok, key = .ref a ∧ (a, ok) ∈ φ ∧ TupKeyObj (PySem.intKind prog w) c ok ∧ IsTupleKey (PySem.intKind prog w) h c a := by
  cases hk with
  | @tuple a vs n _ hm r =>
    have t : TupKeyObj (PySem.intKind prog w) c ({ cls := .type "tuple", data := .seq vs.toArray n } : Obj) := ⟨rfl, vs.toArray, n, rfl, r.itemsAre⟩
    exact ⟨a, _, rfl, hm, t, t.key (S.get (List.mem_append_right _ hm))⟩
theorem TupD.at {h : Heap} (x : TupD prog w φ o xs) (S : St h₀ L h m (μ ++ R) φ) (hm : (D, o) ∈ μ ++ φ) : h.DictOfH (TK prog w) D xs :=
  let ⟨es, ep, a, e, f, g, k⟩ := x.ex
  ⟨o, es, ep, S.get (mem_in hm), a, e, f, fun y hy => by
    obtain ⟨a, ok, e, _, _, hka⟩ := key_at (prog := prog) (w := w) (P := fun _ => True) S (k y hy)
    cases e
    exact hka, g⟩
theorem H_tupNotIn {Q : Value → Loc → Led → Led → Prop} (C : Cx K A h₀ L d u) (hu : u + 1 < cLine) (hm : (D, o) ∈ μ ++ φ) (ho : TupD prog w φ o xs) (lo : (D == sysModules) = false) (hk : PIn φ key (intsP c)) (h : Q (.bool (!(atKey xs c).isSome)) m μ φ) :
    H (model prog w) A h₀ L (compareOp .NotIn key (.ref D)) m μ φ Q := by
  intro R E s S
  obtain ⟨a, ok, rfl, _, _, hka⟩ := key_at (prog := prog) (w := w) (P := fun _ => True) S hk
  exact wpAny_notIn_heap (knd := TK prog w) (tupleKind_room_in1 (by have := C.hu; omega)) hka lo (ho.at S hm) ⟨s.heap, _, m, μ, φ, rfl, S, fun _ x => x, h⟩
theorem H_tupItem {value slice : Expr} {p : Addr × Value} {Q : Value → Loc → Led → Led → Prop} (C : Cx K A h₀ L d u) (hu : u + 1 < cLine) (hm : (D, o) ∈ μ ++ φ) (ho : TupD prog w φ o xs) (hk : PIn φ key (intsP c)) (hp : atKey xs c = some p) (h : Q p.2 m μ φ)
    (hs : ∀ a, subscripted slice false (.ref D) (.ref a) = operate [.ref D, .ref a] (getItem (.ref D) (.ref a)) := by intro _; with_unfolding_all rfl) :
    H (model prog w) A h₀ L (subscriptTail value slice (.ref D) key) m μ φ Q := by
  intro R E s S
  obtain ⟨a, ok, rfl, _, _, hka⟩ := key_at (prog := prog) (w := w) (P := fun _ => True) S hk
  exact tail_any (ho.at S hm).typeIs slot_dict_getitem.lookup (wpAny_getItem_heap (knd := TK prog w) (tupleKind_room_in1 (by have := C.hu; omega)) hka (ho.at S hm) hp ⟨s.heap, _, m, μ, φ, rfl, S, fun _ x => x, h⟩) (hs a)
theorem H_tupGetM {pl : Sem Bool} {Q : Value × List Value → Loc → Led → Led → Prop} (hm : (D, o) ∈ μ ++ φ) (ho : TupD prog w φ o xs) (h : Q (.builtin "dict.get", [.ref D]) m μ φ) :
    H (model prog w) A h₀ L (getMethod (.ref D) "get" pl) m μ φ Q :=
  fun R E s S => getMethod_builtin (ho.at S hm).typeIs PySem.F.plainAttrs_dict PySem.F.slot_dict_get PySem.F.type_dict_get (dictOfH_noDict (ho.at S hm)) ⟨s.heap, _, m, μ, φ, rfl, S, fun _ x => x, h⟩
theorem H_tupGet {dflt : Value} {Q : Value → Loc → Led → Led → Prop} (C : Cx K A h₀ L d u) (hu : u + 1 < cLine) (hm : (D, o) ∈ μ ++ φ) (ho : TupD prog w φ o xs) (lo : (D == sysModules) = false) (hk : PIn φ key (intsP c)) (h : Q (((atKey xs c).map (·.2)).getD dflt) m μ φ) :
    H (model prog w) A h₀ L (call (.builtin "dict.get") [.ref D, key, dflt]) m μ φ Q := by
  intro R E s S
  obtain ⟨a, ok, rfl, _, _, hka⟩ := key_at (prog := prog) (w := w) (P := fun _ => True) S hk
  exact call_meetsIn PySem.F.slot_dict_get (ho.at S hm).typeIs PySem.F.entry_dict_get (PySem.F.args_dict_get_3 _ _ _) (meetsH_dict_get_default (TK prog w) D a lo dflt)
    ⟨tupleKind_room_in1 (by have := C.hu; omega), c, xs, hka, ho.at S hm, ⟨s.heap, _, m, μ, φ, rfl, S, fun _ x => x, h⟩⟩
theorem H_tupSet {v : Value} {g : Obj → Led} {Q : Unit → Loc → Led → Led → Prop} (C : Cx K A h₀ L d u) (hu : u + 1 < cLine) (U : ∀ o', Up D o o' μ (g o')) (ho : TupD prog w φ o xs) (hk : PIn φ key (intsP c)) (hz : xs.length ≤ sizeLine)
    (h : ∀ o' a, key = .ref a → TupD prog w φ o' (storedH xs c a v) → Q () m (g o') φ) : H (model prog w) A h₀ L (setItem (.ref D) key v) m μ φ Q := by
  intro R E s S
  obtain ⟨a, ok, rfl, hma, hta, hka⟩ := key_at (prog := prog) (w := w) (P := fun _ => True) S hk
  refine wpAny_setItem_heap (knd := TK prog w) (tupleKind_room_in1 (by have := C.hu; omega)) hka (ho.at S (List.mem_append_left _ (U o).mem)) (fun h' hm hs => ?_) hz
  obtain ⟨o', es', ep', ho', hc', hd', he', _, hn'⟩ := hm
  refine ⟨h', _, m, g o', φ, rfl, S.up ((U o').right R) hs ho', fun _ x => x, h o' a rfl ⟨es', ep', hc', hd', he', hn', fun x hx => ?_⟩⟩
  rcases mem_storedH hx with ⟨y, hy, e1, e2⟩ | ⟨e1, e2⟩
  · obtain ⟨_, _, _, _, _, _, k⟩ := ho.ex
    rw [e1, e2]; exact k y hy
  · rw [e1, e2]; exact hk
theorem H_listTup {Q : Value → Loc → Led → Led → Prop} (C : Cx K A h₀ L d u) (hm : (D, o) ∈ μ ++ φ) (ho : TupD prog w φ o xs) (lo : (D == sysModules) = false) (hz : xs.length ≤ sizeLine)
    (h : ∀ a c, Q (.ref a) m ((a, lstO (xs.map fun x => Value.ref x.2.1) c) :: μ) φ) : H (model prog w) A h₀ L (call (.type "list") [.ref D]) m μ φ Q := by
  intro R E s S
  obtain ⟨es, ep, hc, hd, he, _, _⟩ := ho.ex
  have hsz : es.size = xs.length := by rw [← Array.length_toList, he, List.length_map]
  refine kdl_call (raw_src (es := es) (ep := ep) lo) C.hh ⟨o, S.get (mem_in hm), hc, hd⟩ (by rw [hsz]; exact hz) fun h' tk acc c hk hD hacc => ?_
  have ea : acc.toList = xs.map fun x => Value.ref x.2.1 := by
    apply List.ext_getElem?
    intro j
    by_cases hj : j < xs.length
    · have h1 : j < acc.size := by rw [hacc.1, hsz]; exact hj
      obtain ⟨e, h2, h3⟩ := hacc.2 j acc[j] (Array.getElem?_eq_getElem h1)
      have h4 := entry_at he j
      rw [h2, List.getElem?_eq_getElem hj] at h4
      simp only [Option.map_some, Option.some.injEq] at h4
      rw [Array.getElem?_toList, Array.getElem?_eq_getElem h1, h3, h4, List.getElem?_map, List.getElem?_eq_getElem hj]
      rfl
    · have h1 : acc.size ≤ j := by rw [hacc.1, hsz]; omega
      rw [Array.getElem?_toList, Array.getElem?_eq_none h1, List.getElem?_eq_none (by simpa using hj)]
  have hD' : h'.get? s.heap.objs.size = some (lstO (xs.map fun x => Value.ref x.2.1) c) := by rw [hD, ← ea]
  exact ⟨h', tk, m, _ :: μ, φ, rfl, S.grown hk hD', fun _ x => x, h _ _⟩

/-! texts -/
theorem H_lstripM {x : Str} {t : Tok} {pl : Sem Bool} {Q : Value × List Value → Loc → Led → Led → Prop} (h : Q (.builtin "str.lstrip", [.str x t]) m μ φ) : H (model prog w) A h₀ L (getMethod (.str x t) "lstrip" pl) m μ φ Q :=
  fun R E s S => getMethod_builtin (typeIs_str _ _ _) PySem.F.plainAttrs_str PySem.F.slot_str_lstrip PySem.F.type_str_lstrip (fun _ e => nomatch e) ⟨s.heap, _, m, μ, φ, rfl, S, fun _ x => x, h⟩
theorem H_lstrip {x y : Str} {t v : Tok} {Q : Value → Loc → Led → Led → Prop} (hz : x.length ≤ sizeLine) (h : ∀ t, Q (.str (Txt.lstripChars x y) t) m μ φ) : H (model prog w) A h₀ L (call (.builtin "str.lstrip") [.str x t, .str y v]) m μ φ Q :=
  fun R E s S => PySem.SC.lstripChars (fun t k => ⟨s.heap, _, m, μ, φ, rfl, S, fun _ x => x, h t⟩) hz
theorem H_intText {x : Str} {t : Tok} {n : Int} {Q : Value → Loc → Led → Led → Prop} (hn : PySem.intText? x = some n) (hl : x.length ≤ 640) (h : ∀ t, Q (.int n t) m μ φ) : H (model prog w) A h₀ L (call (.type "int") [.str x t]) m μ φ Q :=
  fun R E s S => PySem.W.KIN.call_text hn hl ⟨s.heap, _, m, μ, φ, rfl, S, fun _ x => x, h _⟩
theorem H_splitM {x : Str} {t : Tok} {pl : Sem Bool} {Q : Value × List Value → Loc → Led → Led → Prop} (h : Q (.builtin "str.split", [.str x t]) m μ φ) : H (model prog w) A h₀ L (getMethod (.str x t) "split" pl) m μ φ Q :=
  fun R E s S => getMethod_builtin (typeIs_str _ _ _) PySem.F.plainAttrs_str PySem.F.slot_str_split PySem.F.type_str_split (fun _ e => nomatch e) ⟨s.heap, _, m, μ, φ, rfl, S, fun _ x => x, h⟩
theorem strs_all : ∀ (l : List (Str × Tok)) {φ : Led}, PAll φ (strValues l) ((l.map (·.1)).map .str)
  | [], _ => .nil
  | (x, t) :: r, φ => .cons (.str x t) (strs_all r)
theorem H_split {x y : Str} {t v : Tok} {Q : Value → Loc → Led → Led → Prop} (hy : (y.length == 0) = false) (hz : x.length + 2 ≤ sizeLine) (h : ∀ w φ', Sub φ φ' → PL φ' w PyData.str (Txt.split x y) → Q w m μ φ') :
    H (model prog w) A h₀ L (call (.builtin "str.split") [.str x t, .str y v]) m μ φ Q := by
  intro R E s S
  refine splitN1 S.F S.N hy (fun l h' k e F' N' => ?_) hz
  refine ⟨h', k, m, μ, (s.heap.objs.size, lstO (strValues l) 0) :: φ, rfl, ?_, fun _ x => .tail _ x, h _ _ (fun _ x => .tail _ x) ?_⟩
  · refine ⟨F', fun p hp => N' p ?_, (S.push (lstO (strValues l) 0)).D, S.U⟩
    rcases List.mem_append.mp hp with q | q
    · exact .tail _ (List.mem_append_left _ q)
    · rcases List.mem_cons.mp q with rfl | q
      · exact .head _
      · exact .tail _ (List.mem_append_right _ q)
  · rw [← e]; exact .list (.head _) (strs_all l)
end
-- S0
/-! the sort's tree, answered by an order -/
def runT {α : Type} (lt : Nat → Nat → Bool) : KasT α → α
  | .ret a => a
  | .ask i j k => runT lt (k (lt i j))
theorem runT_bind {α β : Type} (lt : Nat → Nat → Bool) (f : α → KasT β) : ∀ t : KasT α, runT lt (t.bind f) = runT lt (f (runT lt t))
  | .ret _ => rfl
  | .ask i j k => by show runT lt ((k (lt i j)).bind f) = _; rw [runT_bind lt f (k (lt i j))]; rfl
theorem runT_wp {α : Type} {lt : Nat → Nat → Bool} {cmp : Nat → Nat → (Bool → Shared → Prop) → Shared → Prop} {I : Shared → Prop} (hc : ∀ i j C s, I s → (∀ s', I s' → C (lt i j) s') → cmp i j C s) {Q : α → Shared → Prop} :
    ∀ (t : KasT α) (s : Shared), I s → (∀ s', I s' → Q (runT lt t) s') → t.kasWp cmp Q s
  | .ret a, s, h, k => k s h
  | .ask i j t, s, h, k => hc i j _ s h fun s' h' => runT_wp hc (t (lt i j)) s' h' k

/-! places, mirrored -/
theorem mir_lo {a n i : Nat} (h : i < n) : a ≤ a + n - 1 - i := by omega
theorem mir_hi {a n i : Nat} (h1 : a ≤ i) (h : i < n) : a + n - 1 - i < n := by omega
theorem mir_in {n i : Nat} (h : i < n) : 0 ≤ i ∧ i < n := ⟨Nat.zero_le _, h⟩
theorem mir_lt {n i : Nat} (h : i < n) : 0 + n - 1 - i < n := mir_hi (Nat.zero_le _) h
theorem mir_le {n i j : Nat} (h : i ≤ j) (h : j < n) : 0 + n - 1 - j ≤ 0 + n - 1 - i := by omega
theorem sub_one_lt {n : Nat} (h : 1 ≤ n) : n - 1 < n := by omega
theorem le_sub {n i : Nat} (h : i < n) : i ≤ n - 1 := by omega
theorem win1 {n q i : Nat} (hq : q + 1 ≤ n) (c : n + 1 - (q + 1 + 1) ≤ i) : n - (q + 1) ≤ i := by omega
theorem win0 {n q : Nat} (h : 1 ≤ n) : n - (q + 1) ≤ n - 1 := by omega
theorem win_n {n i : Nat} (h1 : 1 ≤ n) (a : n + 1 - (0 + 1) ≤ i) (b : i < n + 1) : i = n := by omega
theorem max_sub {a n : Nat} (h1 : 1 ≤ a) (h : a < n) : max a 1 + (n - max a 1) = n := by omega
theorem add_sub {a b : Nat} (h : a ≤ b) : a + (b - a) = b := by omega
theorem add_sh {n f : Nat} : n + 1 + f = n + (f + 1) := by omega
theorem lt_of_add {k f n : Nat} (h : k + (f + 1) ≤ n) : k < n := Nat.lt_of_lt_of_le (Nat.lt_add_of_pos_right (Nat.succ_pos _)) h
theorem pred_lt' {x j k : Nat} (h : x < j) (hk : j < k + 1) : j - 1 < k := by omega
theorem half1 {l r : Nat} (c : ¬ l ≥ r) : l ≤ (l + r) / 2 ∧ (l + r) / 2 < r := by omega
theorem half2 {l r f : Nat} (c : r ≤ l + (f + 1)) : (l + r) / 2 ≤ l + f ∧ r ≤ (l + r) / 2 + 1 + f := by omega
section
variable (lt : Nat → Nat → Bool) (T : ∀ a b c, lt b a = false → lt c b = false → lt c a = false) (S : ∀ a b, lt a b = true → lt b a = false)
/-- in order up to n -/
def Ord (p : Array Nat) (n : Nat) : Prop := ∀ i j, i ≤ j → j < n → lt (p.getD j 0) (p.getD i 0) = false
def Non (p : Array Nat) (n : Nat) : Prop := ∀ i j, i ≤ j → j < n → lt (p.getD i 0) (p.getD j 0) = false
include S in
theorem irr (a : Nat) : lt a a = false := by
  cases h : lt a a with
  | false => rfl
  | true => have := S a a h; rw [h] at this; exact this
include T S in
theorem Ord.step {p : Array Nat} {n : Nat} (h : Ord lt p n) (h1 : 1 ≤ n) (hl : lt (p.getD n 0) (p.getD (n - 1) 0) = false) : Ord lt p (n + 1) := by
  intro i j hij hj
  by_cases e : j = n
  · subst e
    by_cases e2 : i = j
    · rw [e2]; exact irr lt S _
    · exact T _ _ _ (h i (j - 1) (le_sub (Nat.lt_of_le_of_ne hij e2)) (sub_one_lt h1)) hl
  · exact h i j hij (by walk_at "o")
include T S in
theorem Non.step {p : Array Nat} {n : Nat} (h : Non lt p n) (h1 : 1 ≤ n) (hl : lt (p.getD (n - 1) 0) (p.getD n 0) = false) : Non lt p (n + 1) := by
  intro i j hij hj
  by_cases e : j = n
  · subst e
    by_cases e2 : i = j
    · rw [e2]; exact irr lt S _
    · exact T _ _ _ hl (h i (j - 1) (le_sub (Nat.lt_of_le_of_ne hij e2)) (sub_one_lt h1))
  · exact h i j hij (by walk_at "o")
include S in
theorem Ord.one (p : Array Nat) : Ord lt p 1 := fun i j hij hj => by
  obtain rfl : j = 0 := Nat.lt_one_iff.mp hj
  obtain rfl : i = 0 := Nat.le_zero.mp hij
  exact irr lt S _
include T S in
theorem asc_ok {p : Array Nat} : ∀ (f n : Nat), 1 ≤ n → Ord lt p n → n ≤ runT lt (kas_asc p f n) ∧ runT lt (kas_asc p f n) ≤ n + f ∧ Ord lt p (runT lt (kas_asc p f n)) ∧
    (runT lt (kas_asc p f n) = n + f ∨ lt (p.getD (runT lt (kas_asc p f n)) 0) (p.getD (runT lt (kas_asc p f n) - 1) 0) = true)
  | 0, n, h1, h => ⟨Nat.le_refl _, Nat.le_refl _, h, .inl rfl⟩
  | f + 1, n, h1, h => by
    show n ≤ runT lt (if lt (p.getD n 0) (p.getD (n - 1) 0) = true then KasT.ret n else kas_asc p f (n + 1)) ∧ _
    have e : kas_asc p (f + 1) n = .ask (p.getD n 0) (p.getD (n - 1) 0) fun c => if c = true then .ret n else kas_asc p f (n + 1) := rfl
    have e' : runT lt (kas_asc p (f + 1) n) = runT lt (if lt (p.getD n 0) (p.getD (n - 1) 0) = true then KasT.ret n else kas_asc p f (n + 1)) := rfl
    rw [e']
    by_cases c : lt (p.getD n 0) (p.getD (n - 1) 0) = true
    · rw [if_pos c]; exact ⟨Nat.le_refl _, Nat.le_add_right _ _, h, .inr c⟩
    · rw [if_neg c]
      obtain ⟨a1, a2, a3, a4⟩ := asc_ok f (n + 1) (Nat.succ_pos _) (h.step lt T S h1 (by simpa using c))
      exact ⟨Nat.le_of_succ_le a1, Nat.le_trans a2 (Nat.le_of_eq add_sh), a3, a4.imp (fun q => q.trans add_sh) id⟩

theorem getD_mirror {p : Array Nat} {i j : Nat} (hj : j ≤ p.size) (k : Nat) : (kas_rev p i j).getD k 0 = if i ≤ k ∧ k < j then p.getD (i + j - 1 - k) 0 else p.getD k 0 := by
  have := getElem?_mirror_all (xs := p) (i := i) hj k
  unfold kas_rev
  simp only [Array.getD_eq_getD_getElem?]
  rw [this]
  split <;> rfl
theorem getD_bubble {p : Array Nat} {src d : Nat} (hs : src < p.size) (hd : d ≤ src) (k : Nat) : (bubble p src d).getD k 0 = if k = src - d then p.getD src 0 else if src - d < k ∧ k ≤ src then p.getD (k - 1) 0 else p.getD k 0 := by
  have := getElem?_bubble hs d hd k
  simp only [Array.getD_eq_getD_getElem?]
  rw [this]
  repeat' split
  all_goals rfl
theorem rev_perm (p : Array Nat) (i j : Nat) : (kas_rev p i j).Perm p := mirror_perm ..
theorem rev_size (p : Array Nat) (i j : Nat) : (kas_rev p i j).size = p.size := mirror_size ..

/-- the last q + 1 before n are alike -/
def Alike (p : Array Nat) (n q : Nat) : Prop := ∀ i j, n - (q + 1) ≤ i → i < n → n - (q + 1) ≤ j → j < n → lt (p.getD i 0) (p.getD j 0) = false
include T S in
theorem Non.rev {p : Array Nat} {n q : Nat} (h : Non lt p n) (ha : Alike lt p n q) (hq : q + 1 ≤ n) (hn : n ≤ p.size) : Non lt (kas_rev p (n - (q + 1)) n) n := by
  intro i j hij hj
  rw [getD_mirror hn, getD_mirror hn]
  by_cases h1 : n - (q + 1) ≤ i
  · have hi := Nat.lt_of_le_of_lt hij hj
    have h2 := Nat.le_trans h1 hij
    rw [if_pos ⟨h1, hi⟩, if_pos ⟨h2, hj⟩]
    exact ha _ _ (mir_lo hi) (mir_hi h1 hi) (mir_lo hj) (mir_hi h2 hj)
  · rw [if_neg fun x => h1 x.1]
    by_cases h2 : n - (q + 1) ≤ j
    · rw [if_pos ⟨h2, hj⟩]; exact h _ _ (Nat.le_trans (Nat.le_of_lt (Nat.lt_of_not_le h1)) (mir_lo hj)) (mir_hi h2 hj)
    · rw [if_neg fun x => h2 x.1]; exact h _ _ hij hj
include T S in
theorem desc_ok : ∀ (f : Nat) (p : Array Nat) (n q : Nat), 1 ≤ n → n + f ≤ p.size → Non lt p n → Alike lt p n q → q + 1 ≤ n →
    ∃ p' m q', runT lt (kas_desc f p n q) = (p', m, q') ∧ p'.Perm p ∧ n ≤ m ∧ m ≤ n + f ∧ Non lt p' m ∧ Alike lt p' m q' ∧ q' + 1 ≤ m
  | 0, p, n, q, h1, hn, h, ha, hq => ⟨p, n, q, rfl, Array.Perm.refl _, Nat.le_refl _, Nat.le_refl _, h, ha, hq⟩
  | f + 1, p, n, q, h1, hn, h, ha, hq => by
    have e' : runT lt (kas_desc (f + 1) p n q) = runT lt (if lt (p.getD n 0) (p.getD (n - 1) 0) = true then (if q > 0 then kas_desc f (kas_rev p (n - (q + 1)) n) (n + 1) 0 else kas_desc f p (n + 1) 0)
      else .ask (p.getD (n - 1) 0) (p.getD n 0) fun d => if d = true then .ret (p, n, q) else kas_desc f p (n + 1) (q + 1)) := rfl
    rw [e']
    have alone : ∀ p' : Array Nat, Alike lt p' (n + 1) 0 := fun p' i j a b c d => by
      obtain rfl : i = n := win_n h1 a b
      obtain rfl : j = i := win_n h1 c d
      exact irr lt S _
    by_cases c : lt (p.getD n 0) (p.getD (n - 1) 0) = true
    · rw [if_pos c]
      have hs := S _ _ c
      by_cases hq0 : q > 0
      · rw [if_pos hq0]
        have hr : Non lt (kas_rev p (n - (q + 1)) n) (n + 1) := by
          refine Non.step lt T S (h.rev lt T S ha hq (Nat.le_trans (Nat.le_add_right _ _) hn)) h1 ?_
          have hnp : n ≤ p.size := Nat.le_trans (Nat.le_add_right _ _) hn
          rw [getD_mirror hnp, getD_mirror hnp, if_pos ⟨win0 h1, sub_one_lt h1⟩, if_neg fun x => Nat.lt_irrefl _ x.2]
          exact T _ _ _ hs (ha _ _ (mir_lo (sub_one_lt h1)) (mir_hi (win0 h1) (sub_one_lt h1)) (win0 h1) (sub_one_lt h1))
        obtain ⟨p', m, q', a1, a2, a3, a4, a5, a6, a7⟩ := desc_ok f _ (n + 1) 0 (Nat.succ_pos _) (by rw [rev_size, add_sh]; exact hn) hr (alone _) (Nat.succ_pos _)
        exact ⟨p', m, q', a1, a2.trans (rev_perm ..), Nat.le_of_succ_le a3, Nat.le_trans a4 (Nat.le_of_eq add_sh), a5, a6, a7⟩
      · rw [if_neg hq0]
        obtain ⟨p', m, q', a1, a2, a3, a4, a5, a6, a7⟩ := desc_ok f p (n + 1) 0 (Nat.succ_pos _) (Nat.le_trans (Nat.le_of_eq add_sh) hn) (h.step lt T S h1 hs) (alone _) (Nat.succ_pos _)
        exact ⟨p', m, q', a1, a2, Nat.le_of_succ_le a3, Nat.le_trans a4 (Nat.le_of_eq add_sh), a5, a6, a7⟩
    · rw [if_neg c]
      show ∃ p' m q', runT lt (if lt (p.getD (n - 1) 0) (p.getD n 0) = true then .ret (p, n, q) else kas_desc f p (n + 1) (q + 1)) = (p', m, q') ∧ _
      by_cases c2 : lt (p.getD (n - 1) 0) (p.getD n 0) = true
      · rw [if_pos c2]; exact ⟨p, n, q, rfl, Array.Perm.refl _, Nat.le_refl _, Nat.le_add_right _ _, h, ha, hq⟩
      · rw [if_neg c2]
        have d1 : lt (p.getD n 0) (p.getD (n - 1) 0) = false := by simpa using c
        have d2 : lt (p.getD (n - 1) 0) (p.getD n 0) = false := by simpa using c2
        have ha' : Alike lt p (n + 1) (q + 1) := fun i j a b c d => by
          by_cases ei : i = n
          · by_cases ej : j = n
            · rw [ei, ej]; exact irr lt S _
            · rw [ei]; exact T _ _ _ (ha (n - 1) j (win0 h1) (sub_one_lt h1) (win1 hq c) (o9 d ej)) d1
          · by_cases ej : j = n
            · rw [ej]; exact T _ _ _ d2 (ha i (n - 1) (win1 hq a) (o9 b ei) (win0 h1) (sub_one_lt h1))
            · exact ha i j (win1 hq a) (o9 b ei) (win1 hq c) (o9 d ej)
        obtain ⟨p', m, q', a1, a2, a3, a4, a5, a6, a7⟩ := desc_ok f p (n + 1) (q + 1) (Nat.succ_pos _) (Nat.le_trans (Nat.le_of_eq add_sh) hn) (h.step lt T S h1 d2) ha' (Nat.succ_le_succ hq)
        exact ⟨p', m, q', a1, a2, Nat.le_of_succ_le a3, Nat.le_trans a4 (Nat.le_of_eq add_sh), a5, a6, a7⟩
include T S in
theorem Non.turn {p : Array Nat} {n : Nat} (h : Non lt p n) (hn : n ≤ p.size) : Ord lt (kas_rev p 0 n) n := by
  intro i j hij hj
  have hi := Nat.lt_of_le_of_lt hij hj
  rw [getD_mirror hn, getD_mirror hn, if_pos (mir_in hi), if_pos (mir_in hj)]
  exact h _ _ (mir_le hij hj) (mir_lt hi)
def CountOk (nrem : Nat) (p : Array Nat) (r : Nat × Array Nat) : Prop := r.2.Perm p ∧ 1 ≤ r.1 ∧ r.1 ≤ nrem ∧ Ord lt r.2 r.1
include T S in
theorem tail3_ok {n nrem : Nat} {p : Array Nat} (h1 : 1 ≤ n) (hn : n ≤ nrem) (hz : nrem ≤ p.size) (h : Non lt p n) : CountOk lt nrem p (runT lt (kas_tail3 n nrem p)) := by
  unfold kas_tail3
  rw [runT_bind]
  obtain ⟨a1, a2, a3, a4⟩ := asc_ok lt T S (p := kas_rev p 0 n) (nrem - n) n h1 (h.turn lt T S (by walk_at "o"))
  exact ⟨rev_perm .., Nat.le_trans h1 a1, Nat.le_trans a2 (Nat.le_of_eq (add_sub hn)), a3⟩
include T S in
theorem descPart_ok {n nrem : Nat} {p : Array Nat} (h1 : 1 ≤ n) (hn : n < nrem) (hz : nrem ≤ p.size) (h : Non lt p (n + 1)) : CountOk lt nrem p (runT lt (kas_descPart n nrem p)) := by
  unfold kas_descPart
  rw [runT_bind]
  obtain ⟨p', m, q', a1, a2, a3, a4, a5, a6, a7⟩ := desc_ok lt T S (nrem - (n + 1)) p (n + 1) 0 (Nat.succ_pos _) (by rw [add_sub hn]; exact hz) h (fun i j a b c d => by
      obtain rfl : i = n := win_n h1 a b
      obtain rfl : j = i := win_n h1 c d
      exact irr lt S _) (Nat.succ_pos _)
  rw [a1]
  rw [add_sub hn] at a4
  have hz' : nrem ≤ p'.size := a2.size_eq ▸ hz
  have hm : 1 ≤ m := Nat.le_trans (Nat.succ_pos _) a3
  dsimp only
  by_cases hq : q' > 0
  · rw [if_pos hq]
    obtain ⟨b1, b2, b3, b4⟩ := tail3_ok lt T S (n := m) (nrem := nrem) (p := kas_rev p' (m - (q' + 1)) m) hm a4 (by rw [rev_size]; exact hz') (a5.rev lt T S a6 a7 (Nat.le_trans a4 hz'))
    exact ⟨b1.trans ((rev_perm ..).trans a2), b2, b3, b4⟩
  · rw [if_neg hq]
    obtain ⟨b1, b2, b3, b4⟩ := tail3_ok lt T S (n := m) (nrem := nrem) (p := p') hm a4 hz' a5
    exact ⟨b1.trans a2, b2, b3, b4⟩
include T S in
theorem count_ok {nrem : Nat} {p : Array Nat} (h1 : 1 ≤ nrem) (hz : nrem ≤ p.size) : CountOk lt nrem p (runT lt (kas_count nrem p)) := by
  unfold kas_count
  rw [runT_bind]
  obtain ⟨a1, a2, a3, a4⟩ := asc_ok lt T S (p := p) (nrem - 1) 1 (Nat.le_refl _) (Ord.one lt S p)
  rw [add_sub h1] at a2 a4
  generalize runT lt (kas_asc p (nrem - 1) 1) = n at a1 a2 a3 a4 ⊢
  by_cases e : (n == nrem) = true
  · rw [if_pos e]
    exact ⟨Array.Perm.refl _, a1, a2, a3⟩
  · rw [if_neg e]
    have hne : n ≠ nrem := by simpa using e
    have hlt : lt (p.getD n 0) (p.getD (n - 1) 0) = true := a4.resolve_left hne
    by_cases e2 : n > 1
    · rw [if_pos e2]
      show CountOk lt nrem p (runT lt (if lt (p.getD 0 0) (p.getD (n - 1) 0) = true then .ret (n, p) else kas_descPart n nrem (kas_rev p 0 n)))
      by_cases c : lt (p.getD 0 0) (p.getD (n - 1) 0) = true
      · rw [if_pos c]; exact ⟨Array.Perm.refl _, a1, a2, a3⟩
      · rw [if_neg c]
        have c' : lt (p.getD 0 0) (p.getD (n - 1) 0) = false := by simpa using c
        have alike : ∀ i j, i < n → j < n → lt (p.getD i 0) (p.getD j 0) = false := fun i j hi hj =>
          T _ _ _ (T _ _ _ (a3 j (n - 1) (le_sub hj) (sub_one_lt (Nat.le_of_lt e2))) c') (a3 0 i (Nat.zero_le _) hi)
        have hlr : n ≤ nrem := a2
        have hnp : n ≤ p.size := Nat.le_trans hlr hz
        have hn1 := sub_one_lt (Nat.le_of_lt e2)
        have hN : Non lt (kas_rev p 0 n) n := fun i j hij hj => by
          have hi := Nat.lt_of_le_of_lt hij hj
          rw [getD_mirror hnp, getD_mirror hnp, if_pos (mir_in hi), if_pos (mir_in hj)]
          exact alike _ _ (mir_lt hi) (mir_lt hj)
        obtain ⟨b1, b2, b3, b4⟩ := descPart_ok lt T S (n := n) (nrem := nrem) (p := kas_rev p 0 n) a1 (Nat.lt_of_le_of_ne hlr hne) (by rw [rev_size]; exact hz) (hN.step lt T S a1 (by
          rw [getD_mirror hnp, getD_mirror hnp, if_pos (mir_in hn1), if_neg fun x => Nat.lt_irrefl _ x.2]
          exact T _ _ _ (S _ _ hlt) (alike _ _ (mir_lt hn1) hn1)))
        exact ⟨b1.trans (rev_perm ..), b2, b3, b4⟩
    · rw [if_neg e2]
      obtain rfl : n = 1 := Nat.le_antisymm (Nat.le_of_not_lt e2) a1
      exact descPart_ok lt T S (Nat.le_refl _) (Nat.lt_of_le_of_ne h1 hne) hz (Non.step lt T S (fun i j hij hj => by
        obtain rfl : j = 0 := Nat.lt_one_iff.mp hj
        obtain rfl : i = 0 := Nat.le_zero.mp hij
        exact irr lt S _) (Nat.le_refl _) (S _ _ hlt))
include T S in
theorem place_ok {p : Array Nat} {k : Nat} (h : Ord lt p k) : ∀ (f l r : Nat), l ≤ r → r ≤ k → r ≤ l + f → (∀ i, i < l → lt (p.getD k 0) (p.getD i 0) = false) → (∀ i, r ≤ i → i < k → lt (p.getD k 0) (p.getD i 0) = true) →
    ∃ x, runT lt (kas_place p k f l r) = x ∧ x ≤ k ∧ (∀ i, i < x → lt (p.getD k 0) (p.getD i 0) = false) ∧ (∀ i, x ≤ i → i < k → lt (p.getD k 0) (p.getD i 0) = true)
  | 0, l, r, h1, h2, h3, h4, h5 => ⟨l, rfl, Nat.le_trans h1 h2, h4, fun i a b => h5 i (Nat.le_trans h3 a) b⟩
  | f + 1, l, r, h1, h2, h3, h4, h5 => by
    have e : kas_place p k (f + 1) l r = if l ≥ r then .ret l else .ask (p.getD k 0) (p.getD ((l + r) / 2) 0) fun c => if c = true then kas_place p k f l ((l + r) / 2) else kas_place p k f ((l + r) / 2 + 1) r := rfl
    rw [e]
    by_cases c : l ≥ r
    · rw [if_pos c]; exact ⟨l, rfl, Nat.le_trans h1 h2, h4, fun i a b => h5 i (Nat.le_trans c a) b⟩
    · rw [if_neg c]
      have hmk : (l + r) / 2 < k := Nat.lt_of_lt_of_le (half1 c).2 h2
      show ∃ x, runT lt (if lt (p.getD k 0) (p.getD ((l + r) / 2) 0) = true then kas_place p k f l ((l + r) / 2) else kas_place p k f ((l + r) / 2 + 1) r) = x ∧ _
      by_cases c2 : lt (p.getD k 0) (p.getD ((l + r) / 2) 0) = true
      · rw [if_pos c2]
        refine place_ok h f l ((l + r) / 2) (half1 c).1 (Nat.le_of_lt hmk) (half2 h3).1 h4 fun i a b => ?_
        cases hh : lt (p.getD k 0) (p.getD i 0) with
        | true => rfl
        | false => exact (T _ _ _ (h ((l + r) / 2) i a b) hh).symm.trans c2 |>.symm ▸ rfl
      · rw [if_neg c2]
        refine place_ok h f ((l + r) / 2 + 1) r (half1 c).2 h2 (half2 h3).2 (fun i a => ?_) h5
        exact T _ _ _ (h i ((l + r) / 2) (Nat.le_of_lt_succ a) hmk) (by simpa using c2)
include T S in
theorem bin_ok : ∀ (f : Nat) (p : Array Nat) (k : Nat), k + f ≤ p.size → Ord lt p k → (runT lt (kas_bin f p k)).Perm p ∧ Ord lt (runT lt (kas_bin f p k)) (k + f)
  | 0, p, k, _, h => ⟨Array.Perm.refl _, h⟩
  | f + 1, p, k, hz, h => by
    have e : kas_bin (f + 1) p k = (kas_place p k k 0 k).bind fun l => kas_bin f (bubble p k (k - l)) (k + 1) := rfl
    rw [e, runT_bind]
    obtain ⟨x, hx, hk, hb, ha⟩ := place_ok lt T S h k 0 k (Nat.zero_le _) (Nat.le_refl _) (Nat.le_add_left _ _) (fun i a => absurd a (Nat.not_lt_zero _)) (fun i a b => absurd b (Nat.not_lt.mpr a))
    rw [hx]
    have ho : Ord lt (bubble p k (k - x)) (k + 1) := by
      intro i j hij hj
      have hkp := lt_of_add hz
      rw [getD_bubble hkp (Nat.sub_le _ _), getD_bubble hkp (Nat.sub_le _ _), Nat.sub_sub_self hk]
      have hjk := Nat.le_of_lt_succ hj
      by_cases ei : i = x
      · rw [if_pos ei]
        by_cases ej : j = x
        · rw [if_pos ej]; exact irr lt S _
        · have hx : x < j := Nat.lt_of_le_of_ne (ei ▸ hij) (Ne.symm ej)
          rw [if_neg ej, if_pos ⟨hx, hjk⟩]; exact S _ _ (ha _ (le_sub hx) (pred_lt' hx hj))
      · rw [if_neg ei]
        by_cases ej : j = x
        · rw [if_pos ej, if_neg fun q => absurd (Nat.lt_of_lt_of_le q.1 (ej ▸ hij)) (Nat.lt_irrefl _)]; exact hb _ (Nat.lt_of_le_of_ne (ej ▸ hij) ei)
        · rw [if_neg ej]
          by_cases hi : x < i ∧ i ≤ k
          · have hx := Nat.lt_of_lt_of_le hi.1 hij
            rw [if_pos hi, if_pos ⟨hx, hjk⟩]; exact h _ _ (Nat.sub_le_sub_right hij 1) (pred_lt' hx hj)
          · rw [if_neg hi]
            by_cases hj2 : x < j ∧ j ≤ k
            · rw [if_pos hj2]
              have hix : i ≤ x := Nat.le_of_not_lt fun q => hi ⟨q, Nat.le_trans hij hjk⟩
              exact h _ _ (Nat.le_trans hix (le_sub hj2.1)) (pred_lt' hj2.1 hj)
            · rw [if_neg hj2]; exact h _ _ hij (Nat.lt_of_lt_of_le (Nat.lt_of_le_of_ne (Nat.le_of_not_lt fun q => hj2 ⟨q, hjk⟩) ej) hk)
    obtain ⟨a1, a2⟩ := bin_ok f (bubble p k (k - x)) (k + 1) (by rw [bubble_size, add_sh]; exact hz) ho
    exact ⟨a1.trans (bubble_perm ..), by rw [← add_sh (n := k) (f := f)]; exact a2⟩
include T S in
theorem sort_ok {n : Nat} (h1 : 1 ≤ n) : (runT lt (kas_sort n)).Perm (List.toArray (List.range n)) ∧ Ord lt (runT lt (kas_sort n)) n := by
  unfold kas_sort
  rw [runT_bind]
  have hz : (List.toArray (List.range n)).size = n := by simp
  obtain ⟨b1, b2, b3, b4⟩ := count_ok lt T S (nrem := n) (p := List.toArray (List.range n)) h1 (Nat.le_of_eq hz.symm)
  generalize runT lt (kas_count n (List.toArray (List.range n))) = r at b1 b2 b3 b4 ⊢
  by_cases c : r.1 < n
  · rw [if_pos c]
    obtain ⟨a1, a2⟩ := bin_ok lt T S (n - max r.1 1) r.2 (max r.1 1) (by rw [max_sub b2 c, b1.size_eq, hz]; exact Nat.le_refl _) (by rw [Nat.max_eq_left b2]; exact b4)
    exact ⟨a1.trans b1, by rw [max_sub b2 c] at a2; exact a2⟩
  · rw [if_neg c]
    obtain ⟨q, rfl⟩ : ∃ q, q = r.2 := ⟨_, rfl⟩
    exact ⟨b1, by rw [Nat.le_antisymm (Nat.le_of_not_lt c) b3]; exact b4⟩
end
-- B4
/-! every asked place is one of the list's -/
def Safe (N : Nat) {α : Type} : KasT α → (α → Prop) → Prop
  | .ret a, P => P a
  | .ask i j k, P => i < N ∧ j < N ∧ ∀ b, Safe N (k b) P
theorem Safe.bind {N : Nat} {α β : Type} {f : α → KasT β} {P : β → Prop} : ∀ {t : KasT α}, Safe N t (fun a => Safe N (f a) P) → Safe N (t.bind f) P
  | .ret _, h => h
  | .ask i j k, h => ⟨h.1, h.2.1, fun b => Safe.bind (h.2.2 b)⟩
theorem Safe.mono {N : Nat} {α : Type} {P P' : α → Prop} (k : ∀ a, P a → P' a) : ∀ {t : KasT α}, Safe N t P → Safe N t P'
  | .ret _, h => k _ h
  | .ask i j _, h => ⟨h.1, h.2.1, fun b => Safe.mono k (h.2.2 b)⟩
def Inb (N : Nat) (p : Array Nat) : Prop := ∀ i, p.getD i 0 < N
theorem Inb.of_mem {N : Nat} {p : Array Nat} (h0 : 0 < N) (h : ∀ x ∈ p, x < N) : Inb N p := fun i => by
  rw [Array.getD_eq_getD_getElem?]
  cases e : p[i]? with
  | none => exact h0
  | some x => exact h x (Array.mem_of_getElem? e)
theorem Inb.mem {N : Nat} {p : Array Nat} (h : Inb N p) : ∀ x ∈ p, x < N := fun x hx => by
  obtain ⟨i, hi, e⟩ := Array.mem_iff_getElem.mp hx
  have := h i
  simp [Array.getD, hi] at this
  walk_at "o"
theorem Inb.perm {N : Nat} {p q : Array Nat} (h0 : 0 < N) (h : Inb N p) (hp : q.Perm p) : Inb N q := .of_mem h0 fun x hx => h.mem x (hp.mem_iff.mp hx)
section
variable {N : Nat} (h0 : 0 < N)
theorem asc_safe {p : Array Nat} (h : Inb N p) : ∀ (f n : Nat), Safe N (kas_asc p f n) fun _ => True
  | 0, _ => trivial
  | f + 1, n => ⟨h _, h _, fun b => by
    dsimp only
    by_cases c : b = true
    · rw [if_pos c]; trivial
    · rw [if_neg c]; exact asc_safe h f (n + 1)⟩
include h0 in
theorem desc_safe : ∀ (f : Nat) (p : Array Nat) (n q : Nat), Inb N p → Safe N (kas_desc f p n q) fun r => Inb N r.1
  | 0, p, n, q, h => h
  | f + 1, p, n, q, h => ⟨h _, h _, fun b => by
    dsimp only
    by_cases c : b = true
    · rw [if_pos c]
      by_cases c2 : q > 0
      · rw [if_pos c2]; exact desc_safe f _ _ _ (h.perm h0 (rev_perm ..))
      · rw [if_neg c2]; exact desc_safe f _ _ _ h
    · rw [if_neg c]
      refine ⟨h _, h _, fun d => ?_⟩
      dsimp only
      by_cases c2 : d = true
      · rw [if_pos c2]; exact h
      · rw [if_neg c2]; exact desc_safe f _ _ _ h⟩
include h0 in
theorem tail3_safe {p : Array Nat} {n nrem : Nat} (h : Inb N p) : Safe N (kas_tail3 n nrem p) fun r => Inb N r.2 := by
  unfold kas_tail3
  exact .bind ((asc_safe (h.perm h0 (rev_perm ..)) _ _).mono fun _ _ => h.perm h0 (rev_perm ..))
include h0 in
theorem descPart_safe {p : Array Nat} {n nrem : Nat} (h : Inb N p) : Safe N (kas_descPart n nrem p) fun r => Inb N r.2 := by
  unfold kas_descPart
  refine .bind ((desc_safe h0 _ _ _ _ h).mono fun r hr => ?_)
  by_cases c : r.2.2 > 0
  · rw [if_pos c]; exact tail3_safe h0 (hr.perm h0 (rev_perm ..))
  · rw [if_neg c]; exact tail3_safe h0 hr
include h0 in
theorem count_safe {p : Array Nat} {nrem : Nat} (h : Inb N p) : Safe N (kas_count nrem p) fun r => Inb N r.2 := by
  unfold kas_count
  refine .bind ((asc_safe h _ _).mono fun n _ => ?_)
  by_cases c : (n == nrem) = true
  · rw [if_pos c]; exact h
  · rw [if_neg c]
    by_cases c2 : n > 1
    · rw [if_pos c2]
      refine ⟨h _, h _, fun b => ?_⟩
      dsimp only
      by_cases c3 : b = true
      · rw [if_pos c3]; exact h
      · rw [if_neg c3]; exact descPart_safe h0 (h.perm h0 (rev_perm ..))
    · rw [if_neg c2]; exact descPart_safe h0 h
theorem place_safe {p : Array Nat} {k : Nat} (h : Inb N p) : ∀ (f l r : Nat), Safe N (kas_place p k f l r) fun _ => True
  | 0, _, _ => trivial
  | f + 1, l, r => by
    have e : kas_place p k (f + 1) l r = if l ≥ r then .ret l else .ask (p.getD k 0) (p.getD ((l + r) / 2) 0) fun c => if c = true then kas_place p k f l ((l + r) / 2) else kas_place p k f ((l + r) / 2 + 1) r := rfl
    rw [e]
    by_cases c : l ≥ r
    · rw [if_pos c]; trivial
    · rw [if_neg c]
      refine ⟨h _, h _, fun b => ?_⟩
      dsimp only
      by_cases c2 : b = true
      · rw [if_pos c2]; exact place_safe h f _ _
      · rw [if_neg c2]; exact place_safe h f _ _
include h0 in
theorem bin_safe : ∀ (f : Nat) (p : Array Nat) (k : Nat), Inb N p → Safe N (kas_bin f p k) fun r => Inb N r
  | 0, p, k, h => h
  | f + 1, p, k, h => by
    have e : kas_bin (f + 1) p k = (kas_place p k k 0 k).bind fun l => kas_bin f (bubble p k (k - l)) (k + 1) := rfl
    rw [e]
    exact .bind ((place_safe h _ _ _).mono fun l _ => bin_safe f _ _ (h.perm h0 (bubble_perm ..)))
include h0 in
theorem sort_safe : Safe N (kas_sort N) fun _ => True := by
  unfold kas_sort
  have h : Inb N (List.toArray (List.range N)) := .of_mem h0 fun x hx => by simpa using hx
  refine .bind ((count_safe h0 h).mono fun r hr => ?_)
  by_cases c : r.1 < N
  · rw [if_pos c]; exact (bin_safe h0 _ _ _ hr).mono fun _ _ => trivial
  · rw [if_neg c]; trivial
end
theorem safe_wp {α : Type} {N : Nat} {lt : Nat → Nat → Bool} {cmp : Nat → Nat → (Bool → Shared → Prop) → Shared → Prop} {I : Shared → Prop} (hc : ∀ i j C s, i < N → j < N → I s → (∀ s', I s' → C (lt i j) s') → cmp i j C s) {Q : α → Shared → Prop} {P : α → Prop} :
    ∀ (t : KasT α) (s : Shared), Safe N t P → I s → (∀ s', I s' → Q (runT lt t) s') → t.kasWp cmp Q s
  | .ret a, s, _, h, k => k s h
  | .ask i j t, s, hs, h, k => hc i j _ s hs.1 hs.2.1 h fun s' h' => safe_wp hc (t (lt i j)) s' (hs.2.2 _) h' k

/-! the order of tuples of ints -/
def lexLt : List Int → List Int → Bool
  | [], [] => false
  | [], _ :: _ => true
  | _ :: _, [] => false
  | x :: xs, y :: ys => if x = y then lexLt xs ys else decide (x < y)
theorem lex_trans : ∀ a b c : List Int, lexLt b a = false → lexLt c b = false → lexLt c a = false
  | [], [], [], _, _ => rfl
  | [], [], _ :: _, _, h => rfl
  | [], _ :: _, [], _, h => rfl
  | [], _ :: _, _ :: _, h, h2 => rfl
  | _ :: _, [], [], h, _ => by simp [lexLt] at h
  | _ :: _, [], _ :: _, h, _ => by simp [lexLt] at h
  | _ :: _, _ :: _, [], _, h => by simp [lexLt] at h
  | x :: a, y :: b, z :: c, h1, h2 => by
    unfold lexLt at h1 h2 ⊢
    by_cases e1 : y = x
    · rw [if_pos e1] at h1
      by_cases e2 : z = y
      · rw [if_pos e2] at h2; rw [if_pos (by walk_at "o")]; exact lex_trans a b c h1 h2
      · rw [if_neg e2] at h2; rw [if_neg (by walk_at "o")]; subst e1; exact h2
    · rw [if_neg e1] at h1
      by_cases e2 : z = y
      · rw [if_pos e2] at h2; rw [if_neg (by walk_at "o")]; subst e2; exact h1
      · rw [if_neg e2] at h2
        simp only [decide_eq_false_iff_not] at h1 h2
        rw [if_neg (by walk_at "o")]; simp only [decide_eq_false_iff_not]; walk_at "o"
theorem lex_asym : ∀ a b : List Int, lexLt a b = true → lexLt b a = false
  | [], [], h => by simp [lexLt] at h
  | [], _ :: _, _ => rfl
  | _ :: _, [], h => by simp [lexLt] at h
  | x :: a, y :: b, h => by
    unfold lexLt at h ⊢
    by_cases e : x = y
    · rw [if_pos e] at h; rw [if_pos e.symm]; exact lex_asym a b h
    · rw [if_neg e] at h; rw [if_neg (Ne.symm e)]
      simp only [decide_eq_true_eq] at h
      simp only [decide_eq_false_iff_not]; walk_at "o"
theorem lex_anti : ∀ a b : List Int, lexLt a b = false → lexLt b a = false → a = b
  | [], [], _, _ => rfl
  | [], _ :: _, h, _ => by simp [lexLt] at h
  | _ :: _, [], _, h => by simp [lexLt] at h
  | x :: a, y :: b, h1, h2 => by
    unfold lexLt at h1 h2
    by_cases e : x = y
    · rw [if_pos e] at h1; rw [if_pos e.symm] at h2; rw [e, lex_anti a b h1 h2]
    · rw [if_neg e] at h1; rw [if_neg (Ne.symm e)] at h2
      simp only [decide_eq_false_iff_not] at h1 h2; walk_at "o"
def LexSorted (cs : List (List Int)) : Prop := cs.Pairwise fun a b => lexLt b a = false
theorem lex_uniq {a b : List (List Int)} (h : a.Perm b) (ha : LexSorted a) (hb : LexSorted b) : a = b := List.Perm.eq_of_pairwise (fun x y _ _ h1 h2 => lex_anti x y h2 h1) ha hb h

theorem pairs_lex {prog : Program} {w : World} {A : Around} {fl : Bool} {φ : Led} {Q : Bool → Shared → Prop} : ∀ (a b : List Int) (xs ys : List Value) (i : Nat) (s : Shared), PAll φ xs (a.map .int) → PAll φ ys (b.map .int) → a.length = b.length → Q (lexLt a b) s →
    KatLex prog w A fl false Q (xs.zip ys) i s := by
  intro a
  induction a with
  | nil =>
    intro b xs ys i s hx hy hl h
    cases hx
    cases b with
    | nil => exact kat_nil h
    | cons _ _ => cases hl
  | cons u a ih =>
    intro b xs ys i s hx hy hl h
    cases b with
    | nil => cases hl
    | cons v b =>
      cases hx with
      | cons hx rx =>
        cases hy with
        | cons hy ry =>
          cases hx with
          | int u t =>
            cases hy with
            | int v t' =>
              refine kat_cons (wpAny_eqBool_int (kat_go (fun e => kat_yes ?_) fun e => kat_no ?_))
              · have e' : u = v := by simpa using e
                refine ih b _ _ (i + 1) s rx ry (by simpa using hl) ?_
                unfold lexLt at h; rw [if_pos e'] at h; exact h
              · have e' : u ≠ v := by simpa using e
                unfold lexLt at h; rw [if_neg e'] at h
                cases hh : (fl && i == 0) with
                | true => exact oneLt_int h
                | false => exact kat_one _ _ (PyProof.Rows.lt_int h)
-- B5
/-! texts in order -/
theorem rising_all : ∀ (r : List Str) (p : Str), risingS p r = true → (∀ x ∈ r, p.cps.toList ≤ x.cps.toList) ∧ r.Pairwise fun a b => a.cps.toList ≤ b.cps.toList
  | [], _, _ => ⟨fun _ h => (nomatch h), .nil⟩
  | x :: r, p, h => by
    unfold risingS at h
    rw [Bool.and_eq_true] at h
    obtain ⟨a, b⟩ := rising_all r x h.2
    have hx : p.cps.toList ≤ x.cps.toList := by
      have := h.1
      rw [ltCps_eq] at this
      exact List.not_lt.mp (by simpa using this)
    refine ⟨fun y hy => ?_, .cons a b⟩
    rcases List.mem_cons.mp hy with rfl | hy
    · exact hx
    · exact List.le_trans hx (a y hy)
theorem sortedS_pairs {l : List Str} (h : sortedS l = true) : l.Pairwise fun a b => a.cps.toList ≤ b.cps.toList := by
  cases l with
  | nil => exact .nil
  | cons x r => obtain ⟨a, b⟩ := rising_all r x h; exact .cons a b
theorem strs_uniq {a b : List Str} (h : a.Perm b) (ha : sortedS a = true) (hb : sortedS b = true) : a = b :=
  List.Perm.eq_of_pairwise (fun x y _ _ h1 h2 => Str.ext' (Array.toList_inj.mp (List.le_antisymm h1 h2))) (sortedS_pairs ha) (sortedS_pairs hb) h
theorem ints_uniq {a b : List Int} (h : a.Perm b) (ha : a.Pairwise (· ≤ ·)) (hb : b.Pairwise (· ≤ ·)) : a = b :=
  List.Perm.eq_of_pairwise (fun x y _ _ h1 h2 => Int.le_antisymm h1 h2) ha hb h

theorem PAll.ints {φ : Led} : ∀ {vs : List Value} {ns : List Int}, PAll φ vs (ns.map .int) → IntsAre vs ns
  | [], [], _ => .nil
  | [], _ :: _, h => nomatch h
  | _ :: _, [], h => nomatch h
  | v :: vs, i :: c, .cons hv r => by
    cases hv with
    | int i t => exact .cons _ _ (PAll.ints r)
theorem PAll.strs {φ : Led} : ∀ {vs : List Value} {ns : List Str}, PAll φ vs (ns.map .str) → StrsAre vs ns
  | [], [], _ => .nil
  | [], _ :: _, h => nomatch h
  | _ :: _, [], h => nomatch h
  | v :: vs, i :: c, .cons hv r => by
    cases hv with
    | str x t => exact .cons _ _ (PAll.strs r)
theorem ints_PAll {φ : Led} : ∀ {vs : List Value} {ns : List Int}, IntsAre vs ns → PAll φ vs (ns.map .int)
  | _, _, .nil => .nil
  | _, _, .cons n t r => .cons (.int n t) (ints_PAll r)
theorem strs_PAll {φ : Led} : ∀ {vs : List Value} {ns : List Str}, StrsAre vs ns → PAll φ vs (ns.map .str)
  | _, _, .nil => .nil
  | _, _, .cons n t r => .cons (.str n t) (strs_PAll r)
theorem tups_fst {φ : Led} {h : Heap} (hf : ∀ p ∈ φ, h.get? p.1 = some p.2) : ∀ {vs : List Value} {cs : List (List Int)}, PAll φ vs (cs.map intsP) → (∀ c ∈ cs, c.length = 3) → ∃ fs, KatTups h vs fs ∧ fs.length = cs.length ∧ ∀ v ∈ fs, ∃ i t, v = .int i t
  | [], [], _, _ => ⟨[], .nil, rfl, fun _ h => nomatch h⟩
  | [], _ :: _, h, _ => nomatch h
  | _ :: _, [], h, _ => nomatch h
  | v :: vs, c :: cs, .cons hv r, hl => by
    obtain ⟨fs, k, e, hi⟩ := tups_fst hf r fun c hc => hl c (.tail _ hc)
    have hc := hl c (.head _)
    cases hv with
    | @tuple a ws n _ hm rr =>
      match c, hc, rr with
      | x :: _, _, .cons (.int _ t) q => exact ⟨.int x t :: fs, .cons (hf _ hm) rfl rfl (by simp) k, by simp [e], fun u hu => by
          rcases List.mem_cons.mp hu with rfl | hu
          · exact ⟨_, _, rfl⟩
          · exact hi u hu⟩
section
variable {prog : Program} {w : World} {A : Around} {h₀ : Heap} {L : Addr} {m : Loc} {μ φ R : Led} {env : Env} {K : Frag} {d u : Nat} {E : Value → Shared → Prop} {s : Shared}
theorem St.newAt {h h' : Heap} {a : Addr} {o : Obj} (S : St h₀ L h m μ φ) (F' : Fr h₀ L h' m) (N' : News h₀ L h' ((a, o) :: (μ ++ φ))) (lt : ∀ q ∈ μ ++ φ, q.1 ≠ a) : St h₀ L h' m μ ((a, o) :: φ) := by
  refine ⟨F', fun p hp => N' p ?_, fun p hp q hq => ?_, S.U⟩
  · rcases List.mem_append.mp hp with x | x
    · exact .tail _ (List.mem_append_left _ x)
    · rcases List.mem_cons.mp x with rfl | x
      · exact .head _
      · exact .tail _ (List.mem_append_right _ x)
  · rcases List.mem_cons.mp hq with rfl | hq
    · exact lt p (List.mem_append_left _ hp)
    · exact S.D p hp q hq

theorem sorted_short {l : Addr} {vs : List Value} {Q : Value → Shared → Prop} (hl : s.heap.IsList l vs.toArray) (h2 : vs.length < 2)
    (h : Q (.ref (s.heap.objs.size + 1)) { s with heap := sortedAll s.heap vs vs.toArray }) : wpAny (model prog w) A (call (.builtin "sorted") [.ref l]) Q E s := by
  refine Calls.call_function_entry kind_sorted plain_sorted entry_sorted (args_sorted1 _) ?_
  unfold Builtin.«sorted»
  refine wpAny_bind (m := checkCount "sorted" 1 1 _) (wpAny_pure ?_)
  refine wpAny_bind (collect_list hl ?_ (by rw [sizeLine_eq]; walk_at "o"))
  refine wpAny_bind (wpAny_newList ?_ (by rw [sizeLine_eq]; walk_at "o"))
  have hsz : ((s.heap.push (seqObj "list" #[] 0)).update s.heap.objs.size (Obj.mapSeq (· ++ vs.toArray))).objs.size = s.heap.objs.size + 1 := by
    rw [Heap.size_update, size_push']
  have hoL : (((s.heap.push (seqObj "list" #[] 0)).update s.heap.objs.size (Obj.mapSeq (· ++ vs.toArray))).push (seqObj "list" vs.toArray 0)).get? (s.heap.objs.size + 1) = some (seqObj "list" vs.toArray 0) := by
    rw [← hsz]; exact Heap.get?_push_size _ rfl
  show wpAny _ _ _ _ _ { s with heap := ((s.heap.push (seqObj "list" #[] 0)).update s.heap.objs.size (Obj.mapSeq (· ++ vs.toArray))).push (seqObj "list" vs.toArray 0) }
  rw [hsz]
  refine wpAny_bind (wpAny_holding (wpAny_call_entry slot_list_sort ⟨_, hoL, rfl⟩ entry_list_sort ?body (args_list_sort _)))
  case body =>
    rw [list_sort_plain]
    generalize hH : ((s.heap.push (seqObj "list" #[] 0)).update s.heap.objs.size (Obj.mapSeq (· ++ vs.toArray))).push (seqObj "list" vs.toArray 0) = H at hoL ⊢
    have ha : s.heap.objs.size + 1 < H.objs.size := Heap.lt_size hoL
    refine wpAny_bind (listItems_at hoL rfl ?_)
    refine wpAny_bind (listUpdate_at hoL rfl ?_ (by rw [List.size_toArray, sizeLine_eq]; walk_at "o") (Nat.zero_le _))
    obtain ⟨e1, ho1⟩ : ∃ e1, (H.update (s.heap.objs.size + 1) (Obj.mapSeq fun _ => (#[] : Array Value))).get? (s.heap.objs.size + 1) = some (seqObj "list" #[] e1) := ⟨_, get?_update_seq hoL fun _ => #[]⟩
    refine wpAny_bind (seqEpoch_at ho1 rfl ?_)
    refine wpAny_bind (wpAny_newTuple ?_ (by show vs.length ≤ _; rw [sizeLine_eq]; walk_at "o"))
    refine wpAny_bind (wpAny_newList ?_ (Nat.zero_le _))
    refine wpAny_holding ?_
    have ho6 : (((H.update (s.heap.objs.size + 1) (Obj.mapSeq fun _ => (#[] : Array Value))).push (seqObj "tuple" vs.toArray 0)).push (seqObj "list" #[] 0)).get? (s.heap.objs.size + 1) = some (seqObj "list" #[] e1) :=
      Heap.get?_push_of_some _ (Heap.get?_push_of_some _ ho1)
    show wpAny (model prog w) _ _ _ _ { s with heap := ((H.update (s.heap.objs.size + 1) (Obj.mapSeq fun _ => (#[] : Array Value))).push (seqObj "tuple" vs.toArray 0)).push (seqObj "list" #[] 0) }
    dsimp only
    have h2' : vs.toArray.size < 2 := by rw [List.size_toArray]; exact h2
    rw [if_pos h2', if_pos h2']
    refine wpAny_bind (wpAny_pure ?_)
    rw [StateT.run_pure]
    refine wpAny_bind (wpAny_pure ?_)
    dsimp only
    refine wpAny_bind (seqEpoch_at ho6 rfl ?_)
    have hout : (arrOf (SortSt.mk' general' (vs.toArray.zip vs.toArray) #[] 7 none)).map (·.2) = vs.toArray := by
      show (vs.toArray.zip vs.toArray).map (·.2) = vs.toArray
      apply Array.toList_inj.mp
      simp only [Array.toList_map, Array.toList_zip, List.toList_toArray]
      exact List.map_snd_zip (Nat.le_refl _)
    rw [hout]
    refine wpAny_bind (listUpdate_at ho6 rfl ?_ (Nat.zero_le _) (by rw [List.size_toArray, sizeLine_eq]; walk_at "o"))
    simp only [bne_self_eq_false, Bool.false_eq_true, if_false]
    refine wpAny_pure ⟨_, rfl, wpAny_pure ⟨_, rfl, ?_⟩⟩
    subst hH
    exact h

theorem H_sortedInt {a : Addr} {vs : List Value} {n : Nat} {ns : List Int} {Q : Value → Loc → Led → Led → Prop} (hm : (a, lstO vs n) ∈ μ ++ φ) (hi : PAll φ vs (ns.map .int)) (h64 : ns.length < 64)
    (h : ∀ v φ' ns', Sub φ φ' → ns'.Perm ns → ns'.Pairwise (· ≤ ·) → PL φ' v PyData.int ns' → Q v m μ φ') : H (model prog w) A h₀ L (call (.builtin "sorted") [.ref a]) m μ φ Q := by
  intro R E s S
  have hI := hi.ints
  refine sorted_N S.F S.N ⟨_, S.get (mem_in hm), rfl, n, rfl⟩ hI (by rw [hI.length]; exact h64) fun h' vs' ns' e F' N' i' p o => ?_
  exact ⟨h', s.toks, m, μ, (s.heap.objs.size + 1, lstO vs' e) :: φ, rfl, S.newAt F' N' (fun q hq => Nat.ne_of_lt (Nat.lt_succ_of_lt (Heap.lt_size (S.N q hq).1))), fun _ x => .tail _ x, h _ _ ns' (fun _ x => .tail _ x) p o (.list (.head _) (ints_PAll i'))⟩
theorem H_sortedStr {a : Addr} {vs : List Value} {n : Nat} {ns : List Str} {Q : Value → Loc → Led → Led → Prop} (hm : (a, lstO vs n) ∈ μ ++ φ) (hi : PAll φ vs (ns.map .str)) (h64 : ns.length < 64)
    (h : ∀ v φ' ns', Sub φ φ' → ns'.Perm ns → sortedS ns' = true → PL φ' v PyData.str ns' → Q v m μ φ') : H (model prog w) A h₀ L (call (.builtin "sorted") [.ref a]) m μ φ Q := by
  intro R E s S
  have hI := hi.strs
  have hl := hi.length
  rw [List.length_map] at hl
  refine sorted_N_str S.F S.N ⟨_, S.get (mem_in hm), rfl, n, rfl⟩ hI (by walk_at "o") fun h' vs' ns' e F' N' i' p o => ?_
  exact ⟨h', s.toks, m, μ, (s.heap.objs.size + 1, lstO vs' e) :: φ, rfl, S.newAt F' N' (fun q hq => Nat.ne_of_lt (Nat.lt_succ_of_lt (Heap.lt_size (S.N q hq).1))), fun _ x => .tail _ x, h _ _ ns' (fun _ x => .tail _ x) p o (.list (.head _) (strs_PAll i'))⟩
theorem PAll.getD3 {φ : Led} {vs : List Value} {cs : List (List Int)} (h : PAll φ vs (cs.map intsP)) {i : Nat} (hi : i < cs.length) : PIn φ (vs.getD i .none) (intsP (cs.getD i [])) := by
  obtain ⟨v, e, p⟩ := PAll.getD h (i := i) (d := intsP cs[i]) (by simp [hi])
  have e1 : vs.getD i .none = v := by simp [e]
  have e2 : cs.getD i [] = cs[i] := by simp [hi]
  rw [e1, e2]; exact p
theorem H_sortedTup {a : Addr} {vs : List Value} {n : Nat} {cs : List (List Int)} {Q : Value → Loc → Led → Led → Prop} (hm : (a, lstO vs n) ∈ μ ++ φ) (hi : PAll φ vs (cs.map intsP)) (h3 : ∀ c ∈ cs, c.length = 3) (h64 : cs.length < 64)
    (h : ∀ v φ' cs', Sub φ φ' → cs'.Perm cs → LexSorted cs' → PL φ' v intsP cs' → Q v m μ φ') : H (model prog w) A h₀ L (call (.builtin "sorted") [.ref a]) m μ φ Q := by
  intro R E s S
  have hl := hi.length
  rw [List.length_map] at hl
  have hL : s.heap.IsList a vs.toArray := ⟨_, S.get (mem_in hm), rfl, n, rfl⟩
  have hf : ∀ p ∈ φ, s.heap.get? p.1 = some p.2 := fun p hp => (S.N p (List.mem_append_right _ hp)).1
  by_cases h2 : vs.length < 2
  · refine sorted_short hL h2 ?_
    obtain ⟨e, he⟩ := sortedAll_at s.heap vs vs.toArray
    have hs : LexSorted cs := by
      match cs, hl with
      | [], _ => exact .nil
      | [c], _ => exact List.pairwise_singleton ..
      | _ :: _ :: _, hl => exact absurd hl (by simp; walk_at "o")
    exact ⟨_, s.toks, m, μ, (s.heap.objs.size + 1, lstO vs e) :: φ, rfl, S.newAt (S.F.kept fun _ _ => sortedAll_old) (S.N.kept_cons S.F (fun _ _ => sortedAll_old) (Nat.le_succ _) he) (fun q hq => Nat.ne_of_lt (Nat.lt_succ_of_lt (Heap.lt_size (S.N q hq).1))),
      fun _ x => .tail _ x, h _ _ cs (fun _ x => .tail _ x) (.refl _) hs (.list (.head _) (hi.mono fun _ x => .tail _ x))⟩
  · refine kat_sorted S.F S.N hL (by walk_at "o") (by walk_at "o") fun D e1 h' F' N' hlt => ?_
    have hf' : ∀ p ∈ φ, h'.get? p.1 = some p.2 := fun p hp => (N' p (.tail _ (List.mem_append_right _ hp))).1
    obtain ⟨fs, hk, hfl, hfi⟩ := tups_fst hf' hi h3
    refine kat_kind (T := .type "int") hk (by walk_at "o") (fun v hv => by obtain ⟨i, t, rfl⟩ := hfi v hv; exact Looks.now) (by decide) ?_
    have T : ∀ a b c : Nat, lexLt (cs.getD b []) (cs.getD a []) = false → lexLt (cs.getD c []) (cs.getD b []) = false → lexLt (cs.getD c []) (cs.getD a []) = false := fun a b c => lex_trans _ _ _
    have SS : ∀ a b : Nat, lexLt (cs.getD a []) (cs.getD b []) = true → lexLt (cs.getD b []) (cs.getD a []) = false := fun a b => lex_asym _ _
    obtain ⟨hp, ho⟩ := sort_ok (fun i j => lexLt (cs.getD i []) (cs.getD j [])) T SS (n := vs.length) (by walk_at "o")
    refine safe_wp (N := vs.length) (lt := fun i j => lexLt (cs.getD i []) (cs.getD j [])) (I := fun s' => s' = { s with heap := h' }) (fun i j C s' hi' hj' e hC => ?_) _ _ (sort_safe (by walk_at "o")) rfl fun s' e => ?_
    · subst e
      have p1 := hi.getD3 (i := i) (by walk_at "o")
      have p2 := hi.getD3 (i := j) (by walk_at "o")
      have l1 : (cs.getD i []).length = 3 := h3 _ (by simp [show i < cs.length by walk_at "o"])
      have l2 : (cs.getD j []).length = 3 := h3 _ (by simp [show j < cs.length by walk_at "o"])
      have hC' : C (lexLt (cs.getD i []) (cs.getD j [])) { s with heap := h' } := hC _ rfl
      generalize cs.getD i [] = c1 at p1 l1 hC'
      generalize cs.getD j [] = c2 at p2 l2 hC'
      unfold kas_ask
      revert p1 p2
      generalize vs.getD i .none = v1
      generalize vs.getD j .none = v2
      intro p1 p2
      cases p1 with
      | @tuple a1 ws1 n1 _ hm1 r1 =>
        cases p2 with
        | @tuple a2 ws2 n2 _ hm2 r2 =>
          have q1 := r1.length
          have q2 := r2.length
          rw [List.length_map] at q1 q2
          refine kat_lt (hf' _ hm1) rfl (hf' _ hm2) rfl ?_
          have ef : decide (ws1.toArray.size < ws2.toArray.size) = false := by simp; walk_at "o"
          rw [ef]
          simp only [List.toList_toArray]
          exact pairs_lex c1 c2 ws1 ws2 0 _ r1 r2 (by walk_at "o") hC'
    · subst e
      generalize runT (fun i j => lexLt (cs.getD i []) (cs.getD j [])) (kas_sort vs.length) = p at hp ho ⊢
      refine KasFin.intro F' N' (.head fun q hq => Nat.ne_of_lt (hlt q hq)) fun h2 c F2 N2 => ?_
      have hpn : ∀ x ∈ p.toList, x < cs.length := fun x hx => by
        have := hp.mem_iff.mp (Array.mem_toList_iff.mp hx)
        simp at this
        walk_at "o"
      have hpl : p.toList.Perm (List.range cs.length) := by
        have := hp.toList
        simpa [hl] using this
      have hsz : p.size = vs.length := by rw [hp.size_eq]; simp
      refine ⟨h2, s.toks, m, μ, (D, lstO (p.toList.map fun i => vs.getD i Value.none) c) :: φ, rfl, S.newAt F2 N2 fun q hq => Nat.ne_of_lt (hlt q hq), fun _ x => .tail _ x, h _ _ (p.toList.map fun i => cs.getD i []) (fun _ x => .tail _ x) ?_ ?_ (.list (.head _) ?_)⟩
      · refine (hpl.map _).trans (List.Perm.of_eq ?_)
        apply List.ext_getElem
        · simp
        · intro i h1 h2; simp at h1; simp [h1]
      · unfold LexSorted
        rw [List.pairwise_iff_getElem]
        intro i j hi' hj' hij
        rw [List.length_map, Array.length_toList] at hi' hj'
        have := ho i j (by walk_at "o") (by walk_at "o")
        have g1 : p.getD i 0 = p[i] := by simp [Array.getD, hi']
        have g2 : p.getD j 0 = p[j] := by simp [Array.getD, hj']
        rw [g1, g2] at this
        simpa using this
      · have go : ∀ l : List Nat, (∀ x ∈ l, x < cs.length) → PAll ((D, lstO (p.toList.map fun i => vs.getD i Value.none) c) :: φ) (l.map fun i => vs.getD i Value.none) ((l.map fun i => cs.getD i []).map intsP) := by
          intro l
          induction l with
          | nil => exact fun _ => .nil
          | cons x l ih => exact fun hx => .cons ((hi.getD3 (hx x (.head _))).mono fun _ x => .tail _ x) (ih fun y hy => hx y (.tail _ hy))
        exact go _ hpn
end
-- B6
section
variable {prog : Program} {w : World} {A : Around} {h₀ : Heap} {L : Addr} {m : Loc} {μ φ R : Led} {env : Env} {K : Frag} {d u : Nat} {E : Value → Shared → Prop} {s : Shared}
/-! tuples taken apart -/
abbrev tupN (vs : List Value) (n : Nat) : Obj := { cls := .type "tuple", data := .seq vs.toArray n }
theorem H_unpack {t : Addr} {vs : List Value} {n : Nat} {k : Nat} {Q : List Value → Loc → Led → Led → Prop} (hh : A.handled = none) (hm : (t, tupN vs n) ∈ μ ++ φ) (hk : k = vs.length) (h : Q vs m μ φ) :
    H (model prog w) A h₀ L (unpackItems (.ref t) k none) m μ φ Q := by
  intro R E s S
  subst hk
  have := unpackItems_tuple (prog := prog) (w := w) (E := E) (items := vs.toArray) (Q := fun its s' => ∃ h' tk m' μ' φ', s' = { s with heap := h', toks := tk } ∧ St h₀ L h' m' (μ' ++ R) φ' ∧ Sub φ φ' ∧ Q its m' μ' φ') (s := s) hh ⟨_, S.get (mem_in hm), rfl, n, rfl⟩ fun h' he =>
    ⟨h', s.toks, m, μ, φ, rfl, S.keeps fun b o e => he b o (Nat.ne_of_lt (Heap.lt_size e)) e, fun _ x => x, by simpa using h⟩
  simpa using this
theorem H_inOrder_nil {xs : List Value} {Q : Unit → Loc → Led → Led → Prop} (h : Q () m μ φ) : H (model prog w) A h₀ L (assignInOrder [] xs) m μ φ Q := fun R E s S => assignInOrder_nil ⟨s.heap, s.toks, m, μ, φ, rfl, S, fun _ x => x, h⟩
theorem H_inOrder_cons {t : Value → Sem Unit} {ts : List (Value → Sem Unit)} {x : Value} {xs : List Value} {Q : Unit → Loc → Led → Led → Prop} (h : H (model prog w) A h₀ L (t x) m μ φ (fun _ m μ φ => H (model prog w) A h₀ L (assignInOrder ts xs) m μ φ Q)) :
    H (model prog w) A h₀ L (assignInOrder (t :: ts) (x :: xs)) m μ φ Q := H_seq h fun _ _ _ x => assignInOrder_cons x
theorem H_assign_Tuple {elts : List Expr} {k : Nat} {pos : Pos} {t : Addr} {vs : List Value} {n : Nat} {Q : Unit → Loc → Led → Led → Prop} (hh : A.handled = none) (hm : (t, tupN vs n) ∈ μ ++ φ)
    (h : H (model prog w) A h₀ L (assignInOrder ((assignEach elts env).map (·.2)) vs) m μ φ Q) (hn : (assignEach elts env).length = vs.length) (hstar : (assignEach elts env).findIdx? (·.1) = none) :
    H (model prog w) A h₀ L (assign (.Tuple elts k pos) env (.ref t)) m μ φ Q := by
  intro R E s S
  refine wpAny_assign_Tuple hh ⟨_, S.get (mem_in hm), rfl, n, rfl⟩ (by simpa using hn) hstar fun h' he => ?_
  exact H_run h (s := { s with heap := h' }) (S.keeps fun b o e => he b o (Nat.ne_of_lt (Heap.lt_size e)) e) fun a h2 t2 m2 μ2 φ2 S2 b2 q2 => ⟨h2, t2, m2, μ2, φ2, rfl, S2, b2, q2⟩
theorem H_assign_Tuple2 {x y : Str} {p q : Pos} {k : Nat} {pos : Pos} {t : Addr} {a b : Value} {n : Nat} {Q : Unit → Loc → Led → Led → Prop} (hh : A.handled = none) (hm : (t, tupN [a, b] n) ∈ μ ++ φ)
    (h : H (model prog w) A h₀ L (storeName env x a) m μ φ (fun _ m μ φ => H (model prog w) A h₀ L (storeName env y b) m μ φ Q)) :
    H (model prog w) A h₀ L (assign (.Tuple [.Name x p, .Name y q] k pos) env (.ref t)) m μ φ Q :=
  H_assign_Tuple hh hm (H_inOrder_cons (H_assign_Name (H_mono h fun _ _ _ _ _ h => H_inOrder_cons (H_assign_Name (H_mono h fun _ _ _ _ _ h => H_inOrder_nil h))))) rfl rfl
theorem H_assign_Tuple3 {x y z : Str} {p q r : Pos} {k : Nat} {pos : Pos} {t : Addr} {a b c : Value} {n : Nat} {Q : Unit → Loc → Led → Led → Prop} (hh : A.handled = none) (hm : (t, tupN [a, b, c] n) ∈ μ ++ φ)
    (h : H (model prog w) A h₀ L (storeName env x a) m μ φ (fun _ m μ φ => H (model prog w) A h₀ L (storeName env y b) m μ φ (fun _ m μ φ => H (model prog w) A h₀ L (storeName env z c) m μ φ Q))) :
    H (model prog w) A h₀ L (assign (.Tuple [.Name x p, .Name y q, .Name z r] k pos) env (.ref t)) m μ φ Q :=
  H_assign_Tuple hh hm (H_inOrder_cons (H_assign_Name (H_mono h fun _ _ _ _ _ h => H_inOrder_cons (H_assign_Name (H_mono h fun _ _ _ _ _ h => H_inOrder_cons (H_assign_Name (H_mono h fun _ _ _ _ _ h => H_inOrder_nil h))))))) rfl rfl
theorem H_Assign_Tup {elts : List Expr} {k : Nat} {tpos pos : Pos} {value : Expr} {Q : Flow → Loc → Led → Led → Prop}
    (h : H (model prog w) A h₀ L (eval value env) m μ φ (fun v m μ φ => H (model prog w) A h₀ L (assign (.Tuple elts k tpos) env v) m μ φ (fun _ => Q .next)))
    (hs : swapsWithSole [.Tuple elts k tpos] value pos.line env = pure false := by rfl) (hw : swappedStores [.Tuple elts k tpos] value env = pure none := by rfl) :
    H (model prog w) A h₀ L (exec (.Assign [.Tuple elts k tpos] value pos) env) m μ φ Q := by
  intro R E s S
  exact Assign_Tuple (H_run h S fun a h1 t1 m1 μ1 φ1 S1 b1 q1 => H_run q1 S1 fun b h2 t2 m2 μ2 φ2 S2 b2 q2 => ⟨h2, t2, m2, μ2, φ2, rfl, S2, fun p hp => b2 p (b1 p hp), q2⟩) hs hw
theorem H_Assign_TupSw {elts : List Expr} {k : Nat} {tpos pos : Pos} {value : Expr} {x y : Str} {Q : Flow → Loc → Led → Led → Prop}
    (h : H (model prog w) A h₀ L (eval value env) m μ φ (fun v m μ φ => ∃ t a b n, v = .ref t ∧ (t, tupN [a, b] n) ∈ μ ++ φ ∧ H (model prog w) A h₀ L (storeName env y b) m μ φ (fun _ m μ φ => H (model prog w) A h₀ L (storeName env x a) m μ φ (fun _ => Q .next)))) (hh : A.handled = none)
    (hs : swapsWithSole [.Tuple elts k tpos] value pos.line env = pure false := by rfl) (hw : swappedStores [.Tuple elts k tpos] value env = pure (some [x, y]) := by rfl) :
    H (model prog w) A h₀ L (exec (.Assign [.Tuple elts k tpos] value pos) env) m μ φ Q := by
  intro R E s S
  refine Assign_Tuple_swapped (names := [x, y]) (H_run h S fun v h1 t1 m1 μ1 φ1 S1 b1 q1 => ?_) hs hw
  obtain ⟨t, a, b, n, rfl, hm, q⟩ := q1
  refine H_run (H_unpack hh hm rfl (Q := fun vs m μ φ => H (model prog w) A h₀ L (assignInOrder ([x, y].reverse.map fun n => bindName env n) vs.reverse) m μ φ (fun _ => Q .next)) ?_) S1 fun its h2 t2 m2 μ2 φ2 S2 b2 q2 => ?_
  · refine H_inOrder_cons (H_as (H_mono q fun _ m' μ' φ' _ q' => H_inOrder_cons (H_as (H_mono q' fun _ _ _ _ _ q => H_inOrder_nil q) fun _ _ _ x => bindName_ x)) fun _ _ _ x => bindName_ x)
  · exact H_run q2 S2 fun b h3 t3 m3 μ3 φ3 S3 b3 q3 => ⟨h3, t3, m3, μ3, φ3, rfl, S3, fun p hp => b3 p (b2 p (b1 p hp)), q3⟩

/-! a == b == c asked -/
theorem H_isTrue_chain {l r₁ r₂ : Expr} {o₁ o₂ : CmpOp} {pos : Pos} {whole : Sem Value} {Q : Bool → Loc → Led → Led → Prop}
    (h : H (model prog w) A h₀ L (eval l env) m μ φ (fun a m μ φ => H (model prog w) A h₀ L (eval r₁ env) m μ φ (fun b m μ φ => H (model prog w) A h₀ L (compareOp o₁ a b) m μ φ (fun c m μ φ => H (model prog w) A h₀ L (truthy c) m μ φ (fun t m μ φ =>
      if t = true then H (model prog w) A h₀ L (eval r₂ env) m μ φ (fun e m μ φ => H (model prog w) A h₀ L (compareOp o₂ b e) m μ φ (fun f m μ φ => H (model prog w) A h₀ L (truthy f) m μ φ Q)) else Q false m μ φ)))))
    (hm : lastMarks [o₁, o₂] [r₁, r₂] = false := by with_unfolding_all rfl) :
    H (model prog w) A h₀ L (isTrue (.Compare l [o₁, o₂] [r₁, r₂] pos) env whole) m μ φ Q := by
  intro R E s S
  refine isTrue_chain (H_run h S fun a h1 t1 m1 μ1 φ1 S1 b1 q1 => test_link (H_run q1 S1 fun b h2 t2 m2 μ2 φ2 S2 b2 q2 => H_run q2 S2 fun c h3 t3 m3 μ3 φ3 S3 b3 q3 => H_run q3 S3 fun t h4 t4 m4 μ4 φ4 S4 b4 q4 => ?_)) hm
  cases t with
  | false =>
    rw [if_neg (by simp)] at q4 ⊢
    exact ⟨h4, t4, m4, μ4, φ4, rfl, S4, fun p hp => b4 p (b3 p (b2 p (b1 p hp))), q4⟩
  | true =>
    rw [if_pos rfl] at q4 ⊢
    exact test_last (H_run q4 S4 fun e h5 t5 m5 μ5 φ5 S5 b5 q5 => H_run q5 S5 fun f h6 t6 m6 μ6 φ6 S6 b6 q6 => H_run q6 S6 fun g h7 t7 m7 μ7 φ7 S7 b7 q7 =>
      ⟨h7, t7, m7, μ7, φ7, rfl, S7, fun p hp => b7 p (b6 p (b5 p (b4 p (b3 p (b2 p (b1 p hp)))))), q7⟩)

/-- a list of anything that is not empty is no empty list -/
theorem H_neEmpty {a b : Addr} {vs : List Value} {n k : Nat} {Q : Value → Loc → Led → Led → Prop} (C : Cx K A h₀ L d u) (hu : u + 64 < cLine) (ha : (a, lstO vs n) ∈ μ ++ φ) (hb : (b, lstO [] k) ∈ μ ++ φ) (hne : vs ≠ []) (h : Q (.bool true) m μ φ) :
    H (model prog w) A h₀ L (compareOp .NotEq (.ref a) (.ref b)) m μ φ Q := by
  intro R E s S
  have hsz : (vs.toArray.size != (#[] : Array Value).size) = true := by
    cases vs with
    | nil => exact absurd rfl hne
    | cons _ _ => simp
  exact SeqAt.RcNeAt.lists_lengths (A := A) (s := s) ⟨_, S.get (mem_in ha), rfl, n, rfl⟩ ⟨_, S.get (mem_in hb), rfl, k, rfl⟩ hsz (by have := C.hu; omega) prog w E _ ⟨s.heap, s.toks, m, μ, φ, rfl, S, fun _ x => x, h⟩
end
-- B7
theorem ite_tt {p q : Prop} (h : p) : if true = true then p else q := by rw [if_pos rfl]; exact h
theorem ite_ff {p q : Prop} (h : q) : if false = true then p else q := by rw [if_neg (by simp)]; exact h
theorem ite_go {c : Prop} [Decidable c] {p q : Prop} (h1 : c → p) (h2 : ¬ c → q) : if c then p else q := by
  by_cases h : c
  · rw [if_pos h]; exact h1 h
  · rw [if_neg h]; exact h2 h
theorem ite_yes {b : Bool} {p q : Prop} (hb : b = true) (h : p) : if b = true then p else q := by rw [if_pos hb]; exact h
theorem ite_no {b : Bool} {p q : Prop} (hb : b = false) (h : q) : if b = true then p else q := by rw [if_neg (by simp [hb])]; exact h
def kindsAll : List Str := [ofs "o32", ofs "rm8", ofs "imm8", ofs "r16", ofs "m16", ofs "xm32", ofs "x", ofs "rm64", ofs "cl", ofs "m", ofs "m128", ofs "uimm8", ofs "eax", ofs "rel8"]
def isImm (k : Str) : Bool := !(Builtin.Str.occurrences k (ofs "imm") 0 k.length 1).isEmpty
def isRel (k : Str) : Bool := decide (Txt.slice k none (some 3) = ofs "rel")
def isMem (k : Str) : Bool := decide (Txt.slice k none (some 1) = ofs "m") || (decide (Txt.slice k none (some 2) = ofs "rm") || decide (Txt.slice k none (some 2) = ofs "xm"))
def slotF (k : Str) : Str := if isFixed k || decide (k = ofs "one") then ofs "fixed" else if isImm k then ofs "imm" else if isRel k then ofs "rel" else if isMem k then ofs "rm" else if Txt.slice k none (some 1) = ofs "o" then ofs "plus" else ofs "reg"
theorem kinds_ok : ∀ k ∈ kindsAll, PyData.strOk k = true ∧ k.length ≤ 10 := by decide +kernel
theorem kinds_tab : ∀ ks ∈ kindsTab, ∀ k ∈ ks, k ∈ kindsAll := by decide +kernel
theorem slot_is : ∀ k ∈ kindsAll, slotF k ∈ [ofs "fixed", ofs "imm", ofs "rel", ofs "rm", ofs "plus", ofs "reg"] := by decide +kernel
theorem slot_plus : ∀ k ∈ kindsAll, (slotF k = ofs "plus" ↔ k = ofs "o32") := by decide +kernel
def sizeF (k : Str) : Int := if k = ofs "m" then 0 else (PySem.intText? (Txt.lstripChars k (ofs "rmox"))).getD 0
theorem mem_kinds : ∀ k ∈ kindsAll, isMem k = true → (k = ofs "m" ∨ (k ≠ ofs "m" ∧ decide (k ∈ [ofs "m", ofs "one"]) = false ∧ isImm k = false ∧ isRel k = false ∧ isFixed k = false ∧ decide (k = ofs "x") = false ∧ PySem.intText? (Txt.lstripChars k (ofs "rmox")) = some (sizeF k) ∧ (Txt.lstripChars k (ofs "rmox")).length ≤ 640)) := by decide +kernel
section
variable {prog : Program} {w : World} {A : Around} {h₀ : Heap} {L : Addr} {m : Loc} {μ φ R : Led} {env : Env} {K : Frag} {d u : Nat} {E : Value → Shared → Prop} {s : Shared}
theorem H_eqStr {x y : Str} {t v : Tok} {Q : Value → Loc → Led → Led → Prop} (h : Q (.bool (decide (x = y))) m μ φ) : H (model prog w) A h₀ L (compareOp .Eq (.str x t) (.str y v)) m μ φ Q :=
  fun R E s S => PyProof.Rows.eq_str ⟨s.heap, s.toks, m, μ, φ, rfl, S, fun _ x => x, by rw [show (x == y) = decide (x = y) by by_cases h : x = y <;> simp [h]]; exact h⟩
theorem H_eqInt {x y : Int} {t v : Tok} {Q : Value → Loc → Led → Led → Prop} (h : Q (.bool (decide (x = y))) m μ φ) : H (model prog w) A h₀ L (compareOp .Eq (.int x t) (.int y v)) m μ φ Q :=
  fun R E s S => PyProof.Rows.eq_int ⟨s.heap, s.toks, m, μ, φ, rfl, S, fun _ x => x, by rw [show (x == y) = decide (x = y) by by_cases h : x = y <;> simp [h]]; exact h⟩
theorem H_neBool {x y : Bool} {Q : Value → Loc → Led → Led → Prop} (h : Q (.bool (x != y)) m μ φ) : H (model prog w) A h₀ L (compareOp .NotEq (.bool x) (.bool y)) m μ φ Q :=
  fun R E s S => by
    have := SeqAt.RcNeAt.bool_bool (A := A) (s := s) x y prog w E (fun v s' => ∃ h' tk m' μ' φ', s' = { s with heap := h', toks := tk } ∧ St h₀ L h' m' (μ' ++ R) φ' ∧ Sub φ φ' ∧ Q v m' μ' φ') ⟨s.heap, s.toks, m, μ, φ, rfl, S, fun _ x => x, h⟩
    exact this
end
-- B8
/-- the values of a form's fields -/
structure FV where
  vn : Value
  vk : Value
  vo : Value
  ve : Value
  vd : Value
  vs : Value
  vm : Value
  vw : Value
  vnum : Value
  vp : Value
abbrev FV.f (a : FV) : Loc := formF a.vn a.vk a.vo a.ve a.vd a.vs a.vm a.vw a.vnum a.vp
structure FormV (φ : Led) (r : Row) (a : FV) : Prop where
  n : PIn φ a.vn (.str r.name)
  k : PIn φ a.vk (.tuple (r.kinds.map .str))
  o : PIn φ a.vo (.int r.opcode)
  e : PIn φ a.ve (.int r.escape)
  d : PIn φ a.vd (.int (-1))
  s : PIn φ a.vs (.int r.size)
  m : PIn φ a.vm (.int r.must)
  w : PIn φ a.vw (.bool false)
  p : PIn φ a.vp (.tuple ((r.kinds.map slotF).map .str))
theorem FormV.mono {φ φ' : Led} {r : Row} {a : FV} (h : FormV φ r a) (b : Sub φ φ') : FormV φ' r a :=
  ⟨h.n.mono b, h.k.mono b, h.o.mono b, h.e.mono b, h.d.mono b, h.s.mono b, h.m.mono b, h.w.mono b, h.p.mono b⟩
/-- a form whose fields may still change -/
structure FormM (φ : Led) (x dx : Addr) (od : Obj) (r : Row) : Prop where
  ex : ∃ (a : FV) (k : Nat), k ≤ 20 ∧ (x, instObj 199 dx) ∈ φ ∧ Attrs od a.f k ∧ FormV φ r a
theorem FormM.mono {φ φ' : Led} {x dx : Addr} {od : Obj} {r : Row} (h : FormM φ x dx od r) (b : Sub φ φ') : FormM φ' x dx od r :=
  let ⟨a, k, l, h1, h2, h3⟩ := h.ex; ⟨a, k, l, b _ h1, h2, h3.mono b⟩
/-- a form that stays -/
structure FormAt (φ : Led) (v : Value) (r : Row) (n : Int) : Prop where
  ex : ∃ (x dx : Addr) (od : Obj) (a : FV) (k : Nat), v = .ref x ∧ (x, instObj 199 dx) ∈ φ ∧ (dx, od) ∈ φ ∧ Attrs od a.f k ∧ FormV φ r a ∧ PIn φ a.vnum (.int n)
theorem FormAt.mono {φ φ' : Led} {v : Value} {r : Row} {n : Int} (h : FormAt φ v r n) (b : Sub φ φ') : FormAt φ' v r n :=
  let ⟨x, dx, od, a, k, e, h1, h2, h3, h4, h5⟩ := h.ex; ⟨x, dx, od, a, k, e, b _ h1, b _ h2, h3, h4.mono b, h5.mono b⟩
theorem formF_number (a : FV) (v : Value) : upd a.f (ofs "number") v = FV.f { a with vnum := v } := by
  funext x
  show upd _ _ _ x = formF _ _ _ _ _ _ _ _ _ _ x
  unfold FV.f formF
  simp only [upd]
  by_cases h : x = ofs "number"
  · rw [if_pos h]
    rw [if_neg (by subst h; decide), if_pos h]
  · rw [if_neg h, if_neg h, if_neg h]
-- B9
inductive AllR {α : Type} (R : Value → α → Prop) : List Value → List α → Prop
  | nil : AllR R [] []
  | cons {v : Value} {a : α} {vs : List Value} {as : List α} : R v a → AllR R vs as → AllR R (v :: vs) (a :: as)
section
variable {α β : Type} {R R' : Value → α → Prop}
theorem AllR.mono (k : ∀ v a, R v a → R' v a) : ∀ {vs : List Value} {as : List α}, AllR R vs as → AllR R' vs as
  | _, _, .nil => .nil
  | _, _, .cons h r => .cons (k _ _ h) (r.mono k)
theorem AllR.length : ∀ {vs : List Value} {as : List α}, AllR R vs as → vs.length = as.length
  | _, _, .nil => rfl
  | _, _, .cons _ r => by simp [r.length]
theorem AllR.append {ws : List Value} {bs : List α} (k : AllR R ws bs) : ∀ {vs : List Value} {as : List α}, AllR R vs as → AllR R (vs ++ ws) (as ++ bs)
  | _, _, .nil => k
  | _, _, .cons h r => .cons h (AllR.append k r)
theorem AllR.snoc {vs : List Value} {as : List α} {v : Value} {a : α} (r : AllR R vs as) (h : R v a) : AllR R (vs ++ [v]) (as ++ [a]) := AllR.append (.cons h .nil) r
theorem AllR.get : ∀ {vs : List Value} {as : List α}, AllR R vs as → ∀ {i : Nat} {v : Value}, vs[i]? = some v → ∃ a, as[i]? = some a ∧ R v a
  | _, _, .nil, i, v, h => by simp at h
  | _, _, .cons hv r, 0, v, h => by simp at h; subst h; exact ⟨_, rfl, hv⟩
  | _, _, .cons hv r, i + 1, v, h => by simpa using AllR.get r (by simpa using h)
theorem AllR.reverse : ∀ {vs : List Value} {as : List α}, AllR R vs as → AllR R vs.reverse as.reverse
  | _, _, .nil => .nil
  | _, _, .cons h r => by simpa using r.reverse.snoc h
theorem AllR.map {f : β → α} : ∀ {vs : List Value} {bs : List β}, AllR (fun v b => R v (f b)) vs bs → AllR R vs (bs.map f)
  | _, _, .nil => .nil
  | _, _, .cons h r => .cons h r.map
theorem AllR.unmap {f : β → α} : ∀ {vs : List Value} {bs : List β}, AllR R vs (bs.map f) → AllR (fun v b => R v (f b)) vs bs
  | [], [], _ => .nil
  | [], _ :: _, h => nomatch h
  | _ :: _, [], h => nomatch h
  | _ :: _, _ :: _, .cons h r => .cons h r.unmap
end
theorem PAll.allR {φ : Led} : ∀ {vs : List Value} {ds : List PyData}, PAll φ vs ds → AllR (PIn φ) vs ds
  | _, _, .nil => .nil
  | _, _, .cons h r => .cons h (PAll.allR r)
theorem AllR.pAll {φ : Led} : ∀ {vs : List Value} {ds : List PyData}, AllR (PIn φ) vs ds → PAll φ vs ds
  | _, _, .nil => .nil
  | _, _, .cons h r => .cons h (AllR.pAll r)
theorem AllR.pMap {α : Type} {enc : α → PyData} {φ : Led} {vs : List Value} {xs : List α} (h : AllR (fun v x => PIn φ v (enc x)) vs xs) : PAll φ vs (xs.map enc) := h.map.pAll
theorem PAll.unMap {α : Type} {enc : α → PyData} {φ : Led} {vs : List Value} {xs : List α} (h : PAll φ vs (xs.map enc)) : AllR (fun v x => PIn φ v (enc x)) vs xs := h.allR.unmap
section
variable {prog : Program} {w : World} {A : Around} {h₀ : Heap} {L : Addr} {m : Loc} {μ φ R : Led} {env : Env} {K : Frag} {d u : Nat} {E : Value → Shared → Prop} {s : Shared}
theorem Src.congr {v : Value} {n : Nat} {P P' : Nat → Value → Prop} (X : Src prog w A φ v n P) (h : ∀ i v, P i v → P' i v) : Src prog w A φ v n P' :=
  ⟨fun s Q E hφ k => X.iter s Q E hφ fun oI fp Stt hf W hfp hs hI => k oI fp Stt hf { sub := W.sub, frame := W.frame, done := W.done, self := W.self, item := fun i s Q E hi st hQ => W.item i s Q E hi st fun v h' tk hP => hQ v h' tk (h _ _ hP) } hfp hs hI⟩
theorem Src.lst {a : Addr} {vs : List Value} {k : Nat} (hh : A.handled = none) (hm : (a, lstO vs k) ∈ φ) : Src prog w A φ (.ref a) vs.length (fun i v => vs[i]? = some v) := by
  have := Src.list (prog := prog) (w := w) hh hm rfl rfl
  rw [List.size_toArray] at this
  exact this.congr fun i v h => by simpa using h
theorem Src.tup {a : Addr} {vs : List Value} {k : Nat} (hh : A.handled = none) (hm : (a, tupN vs k) ∈ φ) : Src prog w A φ (.ref a) vs.length (fun i v => vs[i]? = some v) := by
  have := Src.tuple (prog := prog) (w := w) hh hm rfl rfl
  rw [List.size_toArray] at this
  exact this.congr fun i v h => by simpa using h
theorem Src.ofTup {v : Value} {ds : List PyData} (hh : A.handled = none) (hm : PIn φ v (.tuple ds)) : ∃ vs, vs.length = ds.length ∧ PAll φ vs ds ∧ Src prog w A φ v vs.length (fun i v => vs[i]? = some v) := by
  cases hm with
  | tuple hm r => exact ⟨_, r.length, r, Src.tup hh hm⟩
theorem Src.ofLst {v : Value} {ds : List PyData} (hh : A.handled = none) (hm : PIn φ v (.list ds)) : ∃ vs, vs.length = ds.length ∧ PAll φ vs ds ∧ Src prog w A φ v vs.length (fun i v => vs[i]? = some v) := by
  cases hm with
  | list hm r => exact ⟨_, r.length, r, Src.lst hh hm⟩
theorem range_small {a b : Int} (h1 : -1000000 ≤ a) (h2 : a ≤ 1000000) (h3 : -1000000 ≤ b) (h4 : b ≤ 1000000) : Builtin.Range.small a b 1 = true := small_one (by omega) (by omega) (by omega) (by omega)
theorem range_size {a b : Int} {n : Nat} (h : b - a = n) : Builtin.Range.rangeSize a b 1 = (n : Int) := by rw [rangeSize_one]; split <;> omega

/-- a comprehension whose turns change nothing -/
theorem CompOver.mapG {α β : Type} {scope : Scope} {cl : List (Str × Addr)} {x : Str} {elt : Expr} {fin : Addr → List Value → Loc → Led → Led → Prop} {xv : Value} {n : Nat} {P : Nat → Value → Prop} {as : List α} {T : Led → Value → β → Prop} (f : α → β)
    (src : Src prog w A φ xv n P) (hn : n = as.length) (hz : n ≤ sizeLine) (Tm : ∀ φ φ' v a, Sub φ φ' → T φ v a → T φ' v a)
    (turn : ∀ i v a c oC m₂ φ', Sub φ φ' → as[i]? = some a → P i v → LCg.NsObj oC m₂ → m₂ x = some v → H (model prog w) A h₀ L (eval elt (compEnvC scope cl c env)) m ((c, oC) :: μ) φ' (fun y m' μ' φ'' => m' = m ∧ μ' = (c, oC) :: μ ∧ T φ'' y (f a)))
    (end' : ∀ D ys φ', Sub φ φ' → AllR (T φ') ys (as.map f) → fin D ys m μ φ') : CompOver prog w A h₀ L env scope cl x [] elt fin xv m μ φ := by
  refine ⟨n, P, fun i ys μ' φ' => μ' = μ ∧ AllR (T φ') ys ((as.take i).map f), src, hz, ⟨rfl, .nil⟩, fun i ys v c oC m₂ μ' φ' b hi hv hI hN hx => ?_, fun D ys μ' φ' b hI => ?_⟩
  · obtain ⟨rfl, hY⟩ := hI
    obtain ⟨a, ha⟩ : ∃ a, as[i]? = some a := ⟨_, List.getElem?_eq_getElem (hn ▸ hi)⟩
    refine CompTurn.plain (H_mono (turn i v a c oC m₂ φ' b ha hv hN hx) fun y m' μ' φ'' b' q => ?_)
    obtain ⟨rfl, rfl, q⟩ := q
    refine ⟨rfl, _, rfl, rfl, ?_⟩
    have e : as.take (i + 1) = as.take i ++ [a] := by rw [List.take_add_one, ha]; rfl
    rw [e, List.map_append]
    exact (hY.mono fun v a h => Tm _ _ _ _ b' h).snoc q
  · obtain ⟨rfl, hY⟩ := hI
    rw [hn, List.take_length] at hY
    exact end' D ys φ' b hY
theorem CompOver.filterG {α β : Type} {scope : Scope} {cl : List (Str × Addr)} {x : Str} {elt t : Expr} {fin : Addr → List Value → Loc → Led → Led → Prop} {xv : Value} {n : Nat} {P : Nat → Value → Prop} {as : List α} {T : Led → Value → β → Prop} (p : α → Bool) (f : α → β)
    (src : Src prog w A φ xv n P) (hn : n = as.length) (hz : n ≤ sizeLine) (Tm : ∀ φ φ' v a, Sub φ φ' → T φ v a → T φ' v a)
    (turn : ∀ i v a c oC m₂ φ', Sub φ φ' → as[i]? = some a → P i v → LCg.NsObj oC m₂ → m₂ x = some v → H (model prog w) A h₀ L (isTrue t (compEnvC scope cl c env) (eval t (compEnvC scope cl c env))) m ((c, oC) :: μ) φ' (fun ok m' μ' φ'' => ok = p a ∧ m' = m ∧ μ' = (c, oC) :: μ ∧
      (ok = true → H (model prog w) A h₀ L (eval elt (compEnvC scope cl c env)) m ((c, oC) :: μ) φ'' (fun y m' μ' φ3 => m' = m ∧ μ' = (c, oC) :: μ ∧ T φ3 y (f a)))))
    (end' : ∀ D ys φ', Sub φ φ' → AllR (T φ') ys ((as.filter p).map f) → fin D ys m μ φ') : CompOver prog w A h₀ L env scope cl x [t] elt fin xv m μ φ := by
  refine ⟨n, P, fun i ys μ' φ' => μ' = μ ∧ AllR (T φ') ys (((as.take i).filter p).map f), src, hz, ⟨rfl, .nil⟩, fun i ys v c oC m₂ μ' φ' b hi hv hI hN hx => ?_, fun D ys μ' φ' b hI => ?_⟩
  · obtain ⟨rfl, hY⟩ := hI
    obtain ⟨a, ha⟩ : ∃ a, as[i]? = some a := ⟨_, List.getElem?_eq_getElem (hn ▸ hi)⟩
    have e : as.take (i + 1) = as.take i ++ [a] := by rw [List.take_add_one, ha]; rfl
    refine CompTurn.one (H_mono (turn i v a c oC m₂ φ' b ha hv hN hx) fun ok m' μ' φ'' b' q => ?_)
    obtain ⟨hok, rfl, rfl, q⟩ := q
    cases ok with
    | true =>
      rw [if_pos rfl]
      refine H_mono (q rfl) fun y m' μ' φ3 b3 q => ?_
      obtain ⟨rfl, rfl, q⟩ := q
      refine ⟨rfl, _, rfl, rfl, ?_⟩
      rw [e, List.filter_append, List.map_append]
      have e2 : [a].filter p = [a] := by simp [← hok]
      rw [e2]
      exact (hY.mono fun v a h => Tm _ _ _ _ (fun x hx => b3 x (b' x hx)) h).snoc q
    | false =>
      rw [if_neg (by simp)]
      refine ⟨rfl, _, rfl, rfl, ?_⟩
      rw [e, List.filter_append, List.map_append]
      have e2 : [a].filter p = [] := by simp [← hok]
      rw [e2, List.map_nil, List.append_nil]
      exact hY.mono fun v a h => Tm _ _ _ _ b' h
  · obtain ⟨rfl, hY⟩ := hI
    rw [hn, List.take_length] at hY
    exact end' D ys φ' b hY
theorem CompOver.map {α β : Type} {scope : Scope} {cl : List (Str × Addr)} {x : Str} {elt : Expr} {fin : Addr → List Value → Loc → Led → Led → Prop} {xv : Value} {vs : List Value} {as : List α} {S : Led → Value → α → Prop} {T : Led → Value → β → Prop} (f : α → β)
    (src : Src prog w A φ xv vs.length (fun i v => vs[i]? = some v)) (hz : vs.length ≤ sizeLine) (hS : AllR (S φ) vs as) (Sm : ∀ φ φ' v a, Sub φ φ' → S φ v a → S φ' v a) (Tm : ∀ φ φ' v a, Sub φ φ' → T φ v a → T φ' v a)
    (turn : ∀ v a c oC m₂ φ', Sub φ φ' → a ∈ as → S φ' v a → LCg.NsObj oC m₂ → m₂ x = some v → H (model prog w) A h₀ L (eval elt (compEnvC scope cl c env)) m ((c, oC) :: μ) φ' (fun y m' μ' φ'' => m' = m ∧ μ' = (c, oC) :: μ ∧ T φ'' y (f a)))
    (end' : ∀ D ys φ', Sub φ φ' → AllR (T φ') ys (as.map f) → fin D ys m μ φ') : CompOver prog w A h₀ L env scope cl x [] elt fin xv m μ φ :=
  CompOver.mapG f src hS.length hz Tm (fun i v a c oC m₂ φ' b ha hv hN hx => by
    obtain ⟨a', ha', hs⟩ := hS.get hv
    rw [ha] at ha'; cases ha'
    exact turn v a c oC m₂ φ' b (List.mem_of_getElem? ha) (Sm _ _ _ _ b hs) hN hx) end'
theorem CompOver.filter {α β : Type} {scope : Scope} {cl : List (Str × Addr)} {x : Str} {elt t : Expr} {fin : Addr → List Value → Loc → Led → Led → Prop} {xv : Value} {vs : List Value} {as : List α} {S : Led → Value → α → Prop} {T : Led → Value → β → Prop} (p : α → Bool) (f : α → β)
    (src : Src prog w A φ xv vs.length (fun i v => vs[i]? = some v)) (hz : vs.length ≤ sizeLine) (hS : AllR (S φ) vs as) (Sm : ∀ φ φ' v a, Sub φ φ' → S φ v a → S φ' v a) (Tm : ∀ φ φ' v a, Sub φ φ' → T φ v a → T φ' v a)
    (turn : ∀ v a c oC m₂ φ', Sub φ φ' → a ∈ as → S φ' v a → LCg.NsObj oC m₂ → m₂ x = some v → H (model prog w) A h₀ L (isTrue t (compEnvC scope cl c env) (eval t (compEnvC scope cl c env))) m ((c, oC) :: μ) φ' (fun ok m' μ' φ'' => ok = p a ∧ m' = m ∧ μ' = (c, oC) :: μ ∧
      (ok = true → H (model prog w) A h₀ L (eval elt (compEnvC scope cl c env)) m ((c, oC) :: μ) φ'' (fun y m' μ' φ3 => m' = m ∧ μ' = (c, oC) :: μ ∧ T φ3 y (f a)))))
    (end' : ∀ D ys φ', Sub φ φ' → AllR (T φ') ys ((as.filter p).map f) → fin D ys m μ φ') : CompOver prog w A h₀ L env scope cl x [t] elt fin xv m μ φ :=
  CompOver.filterG p f src hS.length hz Tm (fun i v a c oC m₂ φ' b ha hv hN hx => by
    obtain ⟨a', ha', hs⟩ := hS.get hv
    rw [ha] at ha'; cases ha'
    exact turn v a c oC m₂ φ' b (List.mem_of_getElem? ha) (Sm _ _ _ _ b hs) hN hx) end'
end
-- C0
theorem upd_ne {m : Loc} {x y : Str} {v : Value} (h : x ≠ y) : upd m y v x = m x := if_neg h
theorem TurnEnds.next_ {I : Nat → Loc → Led → Led → Prop} {i : Nat} {Q : Flow → Loc → Led → Led → Prop} {m : Loc} {μ φ : Led} (h : I (i + 1) m μ φ) : TurnEnds I i Q .next m μ φ := h
theorem TurnEnds.ret_ {I : Nat → Loc → Led → Led → Prop} {i : Nat} {Q : Flow → Loc → Led → Led → Prop} {m : Loc} {μ φ : Led} {v : Value} (h : Q (.ret v) m μ φ) : TurnEnds I i Q (.ret v) m μ φ := h
theorem cells_one {cm : Loc} {x : Str} {a : Addr} {cells : Led} (h : CellsAre cm [(x, a)] cells) : ∃ o, cells = [(a, o)] ∧ o.data = .cell (cm x) := by
  cases h with
  | cons h1 h2 => cases h2; exact ⟨_, rfl, h1⟩
def memF (r : Row) : Int := match r.kinds.find? isMem with | some k => sizeF k | none => -1
theorem memF_none {r : Row} (h : ∀ k ∈ r.kinds, isMem k = false) : memF r = -1 := by
  unfold memF
  have : r.kinds.find? isMem = none := List.find?_eq_none.mpr fun k hk => by simp [h k hk]
  rw [this]
theorem memF_some {r : Row} {i : Nat} {k : Str} (hk : r.kinds[i]? = some k) (hm : isMem k = true) (h : ∀ j k, j < i → r.kinds[j]? = some k → isMem k = false) : memF r = sizeF k := by
  unfold memF
  have : r.kinds.find? isMem = some k := by
    rw [List.find?_eq_some_iff_getElem]
    obtain ⟨hi, e⟩ := List.getElem?_eq_some_iff.mp hk
    exact ⟨hm, i, hi, e, fun j hj => by simp [h j _ hj (List.getElem?_eq_getElem (by omega))]⟩
  rw [this]
def plusB (r : Row) : Bool := decide (ofs "plus" ∈ r.kinds.map slotF)
def codesF (r : Row) : List (List Int) := if plusB r = true then (List.range 8).map (fun i : Nat => [r.must, r.escape, r.opcode + (i : Int)]) else [[r.must, r.escape, r.opcode]]
section
variable {prog : Program} {w : World} {A : Around} {h₀ : Heap} {L : Addr} {m : Loc} {μ φ R : Led} {env : Env} {K : Frag} {d u : Nat} {E : Value → Shared → Prop} {s : Shared}
theorem LoopFor.mk' {target : Expr} {body : List Stmt} {Q : Flow → Loc → Led → Led → Prop} {xv : Value} {n : Nat} {P : Nat → Value → Prop} (I : Nat → Loc → Led → Led → Prop) (src : Src prog w A φ xv n P) (h0 : I 0 m μ φ)
    (turn : ∀ i v m μ φ', Sub φ φ' → i < n → P i v → I i m μ φ' → H (model prog w) A h₀ L (assign target env v) m μ φ' (fun _ m μ φ'' => H (model prog w) A h₀ L (execs body env) m μ φ'' (TurnEnds I i Q)))
    (fin : ∀ m μ φ', Sub φ φ' → I n m μ φ' → Q .next m μ φ') : LoopFor prog w A h₀ L env target body Q xv m μ φ := ⟨n, P, I, src, h0, turn, fin⟩
end
-- C1
def opTab : List Int := [0, 64, 71, 72, 144, 240, 248]
def mustTab : List Int := [0, 102, 242, 243]
def sizeTab : List Int := [0, 8, 32]
def kOf (c : Int) : List Str := kindsTab.getD ((c.fdiv 5).fmod 10).toNat []
def oOf (c : Int) : Int := opTab.getD (((c.fdiv 5).fdiv 10).fmod 7).toNat 0
def rowOf (c : Int) : Row where
  name := namesTab.getD (c.fmod 5).toNat (ofs "mov")
  kinds := kOf c
  opcode := if ofs "o32" ∈ kOf c ∧ oOf c = 71 then 64 else oOf c
  escape := ((((c.fdiv 5).fdiv 10).fdiv 7).fdiv 4).fmod 2
  size := sizeTab.getD (((((c.fdiv 5).fdiv 10).fdiv 7).fdiv 8).fmod 3).toNat 0
  must := mustTab.getD ((((c.fdiv 5).fdiv 10).fdiv 7).fmod 4).toNat 0
theorem fmod_at (c : Int) {n : Int} (h : 0 < n) : 0 ≤ c.fmod n ∧ c.fmod n < n := by
  rw [Int.fmod_eq_emod_of_nonneg _ (Int.le_of_lt h)]
  exact ⟨Int.emod_nonneg _ (Int.ne_of_gt h), Int.emod_lt_of_pos _ h⟩
theorem getD_mem {α : Type} {l : List α} {i : Nat} (d : α) (h : i < l.length) : l.getD i d ∈ l := by simp [h]
theorem getD_some {α : Type} {l : List α} {i : Nat} (d : α) (h : i < l.length) : l[i]? = some (l.getD i d) := by simp [h]
theorem rowOf_ok (c : Int) : RowOk (rowOf c) where
  name := getD_mem _ (by have := fmod_at c (n := 5) (by walk_at "o"); show _ < 5; walk_at "o")
  kinds := getD_mem _ (by have := fmod_at (c.fdiv 5) (n := 10) (by walk_at "o"); show _ < 10; walk_at "o")
  opcode := by
    have hm : oOf c ∈ opTab := getD_mem _ (by have := fmod_at ((c.fdiv 5).fdiv 10) (n := 7) (by walk_at "o"); show _ < 7; walk_at "o")
    show (if ofs "o32" ∈ kOf c ∧ oOf c = 71 then 64 else oOf c) ∈ opTab
    split
    · decide
    · exact hm
  plus := fun h => by
    show (if ofs "o32" ∈ kOf c ∧ oOf c = 71 then 64 else oOf c) ≠ 71
    split
    · decide
    · rename_i q; exact fun e => q ⟨h, e⟩
  escape := by
    show ((((c.fdiv 5).fdiv 10).fdiv 7).fdiv 4).fmod 2 ∈ _
    have := fmod_at ((((c.fdiv 5).fdiv 10).fdiv 7).fdiv 4) (n := 2) (by walk_at "o")
    generalize ((((c.fdiv 5).fdiv 10).fdiv 7).fdiv 4).fmod 2 = z at this
    rcases (show z = 0 ∨ z = 1 by walk_at "o") with rfl | rfl <;> decide
  size := getD_mem _ (by have := fmod_at ((((c.fdiv 5).fdiv 10).fdiv 7).fdiv 8) (n := 3) (by walk_at "o"); show _ < 3; walk_at "o")
  must := getD_mem _ (by have := fmod_at (((c.fdiv 5).fdiv 10).fdiv 7) (n := 4) (by walk_at "o"); show _ < 4; walk_at "o")
def spanF (r : Row) : List (List Int) := if ofs "o32" ∈ r.kinds then (List.range 8).map (fun i : Nat => [r.must, r.escape, r.opcode + (i : Int)]) else [[r.must, r.escape, r.opcode]]
theorem plus_is {r : Row} (h : RowOk r) : (ofs "plus" ∈ r.kinds.map slotF) ↔ ofs "o32" ∈ r.kinds := by
  constructor
  · intro hm
    obtain ⟨k, hk, e⟩ := List.mem_map.mp hm
    rwa [← (slot_plus k (kinds_tab _ h.kinds k hk)).mp e]
  · intro hm
    exact List.mem_map.mpr ⟨_, hm, (slot_plus _ (kinds_tab _ h.kinds _ hm)).mpr rfl⟩
theorem codes_span {r : Row} (h : RowOk r) : codesF r = spanF r := by
  unfold codesF spanF plusB
  by_cases e : ofs "o32" ∈ r.kinds
  · rw [if_pos e, if_pos (by simpa using (plus_is h).mpr e)]
  · rw [if_neg e, if_neg (by simpa using fun q => e ((plus_is h).mp q))]
theorem kinds_strOk {r : Row} (h : RowOk r) : ∀ y ∈ r.kinds, PyData.strOk y = true := fun y hy => (kinds_ok y (kinds_tab _ h.kinds y hy)).1
theorem kinds_len {r : Row} (h : RowOk r) : r.kinds.length ≤ 3 := (by decide +kernel : ∀ ks ∈ kindsTab, ks.length ≤ 3) _ h.kinds
-- C2
section
variable {prog : Program} {w : World} {A : Around} {h₀ : Heap} {L : Addr} {m : Loc} {μ φ R : Led} {env : Env} {K : Frag} {d u : Nat} {E : Value → Shared → Prop} {s : Shared}
theorem H_eqL {α : Type} [DecidableEq α] {enc : α → PyData} {ok : α → Prop} {n : Nat} {a b : Value} {x y : List α} {Q : Value → Loc → Led → Led → Prop} (e : Enc enc ok n) (hn : n + 1 ≤ 64) (C : Cx K A h₀ L d u) (hu : u + 64 < cLine)
    (ha : PL φ a enc x) (hb : PL φ b enc y) (hx : ∀ z ∈ x, ok z) (hy : ∀ z ∈ y, ok z) (h : Q (.bool (decide (x = y))) m μ φ) : H (model prog w) A h₀ L (compareOp .Eq a b) m μ φ Q :=
  H_eq e.list hn C hu ha hb hx hy h
theorem H_neL {α : Type} [DecidableEq α] {enc : α → PyData} {ok : α → Prop} {n : Nat} {a b : Value} {x y : List α} {Q : Value → Loc → Led → Led → Prop} (e : Enc enc ok n) (hn : n + 1 ≤ 64) (C : Cx K A h₀ L d u) (hu : u + 64 < cLine)
    (ha : PL φ a enc x) (hb : PL φ b enc y) (hx : ∀ z ∈ x, ok z) (hy : ∀ z ∈ y, ok z) (h : Q (.bool (!decide (x = y))) m μ φ) : H (model prog w) A h₀ L (compareOp .NotEq a b) m μ φ Q :=
  H_ne e.list hn C hu ha hb hx hy h
theorem H_neT {α : Type} [DecidableEq α] {enc : α → PyData} {ok : α → Prop} {n : Nat} {a b : Value} {x y : List α} {Q : Value → Loc → Led → Led → Prop} (e : Enc enc ok n) (hn : n + 1 ≤ 64) (C : Cx K A h₀ L d u) (hu : u + 64 < cLine)
    (ha : PT φ a enc x) (hb : PT φ b enc y) (hx : ∀ z ∈ x, ok z) (hy : ∀ z ∈ y, ok z) (h : Q (.bool (!decide (x = y))) m μ φ) : H (model prog w) A h₀ L (compareOp .NotEq a b) m μ φ Q :=
  H_ne e.tuple hn C hu ha hb hx hy h
theorem H_eqNil {a b : Addr} {n k : Nat} {Q : Value → Loc → Led → Led → Prop} (C : Cx K A h₀ L d u) (hu : u + 64 < cLine) (ha : (a, lstO [] n) ∈ φ) (hb : (b, lstO [] k) ∈ φ) (h : Q (.bool true) m μ φ) : H (model prog w) A h₀ L (compareOp .Eq (.ref a) (.ref b)) m μ φ Q :=
  H_eqL (x := []) (y := []) Enc.str (by omega) C hu (.list ha .nil) (.list hb .nil) (by simp) (by simp) h
/-- a list of data is no empty list -/
theorem H_neNil {α : Type} [DecidableEq α] {enc : α → PyData} {ok : α → Prop} {n : Nat} {a : Value} {b : Addr} {k : Nat} {x : List α} {Q : Value → Loc → Led → Led → Prop} (e : Enc enc ok n) (hn : n + 1 ≤ 64) (C : Cx K A h₀ L d u) (hu : u + 64 < cLine)
    (ha : PL φ a enc x) (hb : (b, lstO [] k) ∈ φ) (hx : ∀ z ∈ x, ok z) (h : Q (.bool (!decide (x = []))) m μ φ) : H (model prog w) A h₀ L (compareOp .NotEq a (.ref b)) m μ φ Q :=
  H_neL e hn C hu ha (.list hb .nil) hx (by simp) h
theorem H_clear1 {a : Addr} {vs : List Value} {n : Nat} {g : Obj → Led} {Q : Value → Loc → Led → Led → Prop} (U : ∀ o', Up a (lstO vs n) o' μ (g o')) (hz : vs.length ≤ sizeLine) (h : ∀ c, Q .none m (g (lstO [] c)) φ) :
    H (model prog w) A h₀ L (call (.builtin "list.clear") [.ref a]) m μ φ Q := by
  intro R E s S
  have ho := S.get (List.mem_append_left _ (List.mem_append_left _ (U (lstO vs n)).mem))
  obtain ⟨c, hc⟩ : ∃ c, (s.heap.update a (Obj.mapSeq fun _ => (#[] : Array Value))).get? a = some (lstO [] c) := ⟨_, get?_update_seq ho fun _ => #[]⟩
  exact call_meets PySem.F.slot_list_clear ⟨_, ho, rfl⟩ PySem.F.entry_list_clear (PySem.F.args_list_clear_1 _) (AutoSeq1.list_clear_list_0 a vs.toArray n (by simpa using hz)) ⟨ho, ⟨_, _, m, g (lstO [] c), φ, rfl, S.up ((U _).right R) (Heap.SameBut.update ..) hc, fun _ x => x, h c⟩⟩
theorem H_notInListM {α : Type} [DecidableEq α] {enc : α → PyData} {ok : α → Prop} {n : Nat} {a b : Value} {x : α} {ys : List α} {Q : Value → Loc → Led → Led → Prop} (e : Enc enc ok n) (C : Cx K A h₀ L d u) (hu : u + 1 + n < cLine)
    (ha : PIn (μ ++ φ) a (enc x)) (hb : PIn (μ ++ φ) b (.list (ys.map enc))) (hx : ok x) (hy : ∀ y ∈ ys, ok y) (h : Q (.bool (!decide (x ∈ ys))) m μ φ) : H (model prog w) A h₀ L (compareOp .NotIn a b) m μ φ Q := by
  intro R E s S
  obtain ⟨as, ra⟩ := ha.reads fun p hp => (S.N p (mem_in hp)).1
  obtain ⟨bs, rb⟩ := hb.reads fun p hp => (S.N p (mem_in hp)).1
  refine SeqAt.notIn_list_reads rb ra (e.layAll ys hy) (e.lay x hx) (by have := C.hu; have := e.dep x; have := Nat.min_le_right (PyData.depthAll (ys.map enc)) (enc x).depth; omega) ?_
  rw [e.any]
  exact ⟨s.heap, s.toks, m, μ, φ, rfl, S, fun _ x => x, h⟩
end
/-- rows as data -/
theorem rowEnc : Enc rowP (fun r => RowOk r) 2 where
  eqv a b := by
    have hk := Enc.eqvAll Enc.str a.kinds b.kinds
    have hs : ∀ x y : Str, (x == y) = decide (x = y) := fun x y => by by_cases h : x = y <;> simp [h]
    have hi : ∀ x y : Int, (x == y) = decide (x = y) := fun x y => by by_cases h : x = y <;> simp [h]
    obtain ⟨a1, a2, a3, a4, a5, a6⟩ := a
    obtain ⟨b1, b2, b3, b4, b5, b6⟩ := b
    simp only at hk
    simp only [rowP, PyData.eqv, PyData.eqvAll, hk, hs, hi, Row.mk.injEq]
    by_cases e1 : a1 = b1 <;> by_cases e2 : a2 = b2 <;> by_cases e3 : a3 = b3 <;> by_cases e4 : a4 = b4 <;> by_cases e5 : a5 = b5 <;> by_cases e6 : a6 = b6 <;> simp [e1, e2, e3, e4, e5, e6]
  lay a h := by
    have h1 : PyData.strOk a.name = true := (by decide +kernel : ∀ x ∈ namesTab, PyData.strOk x = true) _ h.name
    have h2 := Enc.layAll Enc.str a.kinds (kinds_strOk h)
    simp only [rowP, PyData.canLay0, PyData.canLayAll0, h1, h2, Bool.and_self]
  dep a := by
    have := Enc.depAll Enc.str a.kinds
    simp only [rowP, PyData.depth, PyData.depthAll]
    omega
-- C3
/-- one key of a dict of lists -/
structure Ent (κ : Type) where
  k : κ
  ka : Addr
  a : Addr
  vs : List Value
  n : Nat
section
variable {κ : Type} [DecidableEq κ]
abbrev led (xs : List (Ent κ)) : Led := xs.map fun x => (x.a, lstO x.vs x.n)
abbrev kvsE (xs : List (Ent κ)) : List (κ × Value) := xs.map fun x => (x.k, .ref x.a)
abbrev katE (xs : List (Ent κ)) : List (κ × Addr × Value) := xs.map fun x => (x.k, x.ka, .ref x.a)
def put (k : κ) (v : Value) (xs : List (Ent κ)) : List (Ent κ) := xs.map fun x => if x.k = k then ⟨x.k, x.ka, x.a, x.vs ++ [v], x.n + 1⟩ else x
def getIts (its : List (κ × Value)) (k : κ) : List Value := (its.filter fun p => decide (p.1 = k)).map (·.2)
structure BagV (its : List (κ × Value)) (xs : List (Ent κ)) : Prop where
  nd : (xs.map (·.k)).Nodup
  vs : ∀ x ∈ xs, x.vs = getIts its x.k
structure BagOk (its : List (κ × Value)) (xs : List (Ent κ)) : Prop extends BagV its xs where
  mem : ∀ k, k ∈ xs.map (·.k) ↔ k ∈ its.map (·.1)
theorem getIts_none {its : List (κ × Value)} {k : κ} (h : k ∉ its.map (·.1)) : getIts its k = [] := by
  unfold getIts
  rw [List.filter_eq_nil_iff.mpr]
  · rfl
  · intro p hp e
    exact h (List.mem_map.mpr ⟨p, hp, by simpa using e⟩)
theorem getIts_snoc (its : List (κ × Value)) (k k' : κ) (v : Value) : getIts (its ++ [(k, v)]) k' = if k = k' then getIts its k' ++ [v] else getIts its k' := by
  unfold getIts
  rw [List.filter_append, List.map_append]
  by_cases h : k = k' <;> simp [h]
theorem BagOk.nil : BagOk ([] : List (κ × Value)) [] := ⟨⟨List.nodup_nil, fun _ h => nomatch h⟩, fun k => Iff.rfl⟩
theorem BagV.new {its : List (κ × Value)} {xs : List (Ent κ)} (h : BagV its xs) {k : κ} (hk : k ∉ xs.map (·.k)) (hi : k ∉ its.map (·.1)) (ka a : Addr) (n : Nat) : BagV its (xs ++ [⟨k, ka, a, [], n⟩]) := by
  refine ⟨?_, fun x hx => ?_⟩
  · rw [List.map_append, List.nodup_append]
    refine ⟨h.nd, by simp, fun y hy z hz e => ?_⟩
    simp only [List.map_cons, List.map_nil, List.mem_singleton] at hz
    exact hk (hz ▸ e ▸ hy)
  · rcases List.mem_append.mp hx with hx | hx
    · exact h.vs x hx
    · rw [List.mem_singleton] at hx
      subst hx
      exact (getIts_none hi).symm
theorem put_keys (k : κ) (v : Value) (xs : List (Ent κ)) : (put k v xs).map (·.k) = xs.map (·.k) := by
  unfold put
  rw [List.map_map]
  exact List.map_congr_left fun x _ => by show (if x.k = k then _ else x : Ent κ).k = x.k; split <;> rfl
theorem put_kvs (k : κ) (v : Value) (xs : List (Ent κ)) : kvsE (put k v xs) = kvsE xs := by
  unfold put
  simp only [kvsE, List.map_map]
  exact List.map_congr_left fun x _ => by show ((if x.k = k then _ else x : Ent κ).k, Value.ref (if x.k = k then _ else x : Ent κ).a) = _; split <;> rfl
theorem put_kat (k : κ) (v : Value) (xs : List (Ent κ)) : katE (put k v xs) = katE xs := by
  unfold put
  simp only [katE, List.map_map]
  exact List.map_congr_left fun x _ => by show ((if x.k = k then _ else x : Ent κ).k, (if x.k = k then _ else x : Ent κ).ka, Value.ref (if x.k = k then _ else x : Ent κ).a) = _; split <;> rfl
theorem BagV.put {its : List (κ × Value)} {xs : List (Ent κ)} (h : BagV its xs) (k : κ) (v : Value) : BagV (its ++ [(k, v)]) (put k v xs) := by
  refine ⟨by rw [put_keys]; exact h.nd, fun x hx => ?_⟩
  unfold Mine.put at hx
  obtain ⟨y, hy, rfl⟩ := List.mem_map.mp hx
  by_cases e : y.k = k
  · rw [if_pos e, getIts_snoc, if_pos e.symm, h.vs y hy]
  · rw [if_neg e, getIts_snoc, if_neg (Ne.symm e), h.vs y hy]
theorem put_same {k : κ} {v : Value} {xs : List (Ent κ)} (h : k ∉ xs.map (·.k)) : put k v xs = xs := by
  unfold put
  conv => rhs; rw [← List.map_id xs]
  exact List.map_congr_left fun x hx => by
    rw [if_neg fun e => h (List.mem_map.mpr ⟨x, hx, e⟩)]; rfl
/-- a key's list in the ledger -/
theorem put_up {xs : List (Ent κ)} (hn : (xs.map (·.k)).Nodup) {k : κ} (hk : k ∈ xs.map (·.k)) (v : Value) (L1 L2 : Led) :
    ∃ (x : Ent κ) (g : Obj → Led), x ∈ xs ∧ x.k = k ∧ (∀ o', Up x.a (lstO x.vs x.n) o' (L1 ++ (led xs ++ L2)) (g o')) ∧ g (lstO (x.vs ++ [v]) (x.n + 1)) = L1 ++ (led (put k v xs) ++ L2) := by
  obtain ⟨x, hx, rfl⟩ := List.mem_map.mp hk
  obtain ⟨pre, post, rfl⟩ := List.append_of_mem hx
  rw [List.map_append, List.map_cons, List.nodup_append] at hn
  have h1 : x.k ∉ pre.map (·.k) := fun q => hn.2.2 _ q _ (.head _) rfl
  have h2 : x.k ∉ post.map (·.k) := (List.nodup_cons.mp hn.2.1).1
  refine ⟨x, fun o' => L1 ++ ((led pre ++ (x.a, o') :: led post) ++ L2), hx, rfl, fun o' => ?_, ?_⟩
  · have : led (pre ++ x :: post) = led pre ++ (x.a, lstO x.vs x.n) :: led post := by simp [led]
    rw [this]
    exact Up.left ((Up.left .head _).right _) _
  · have e : put x.k v (pre ++ x :: post) = pre ++ ⟨x.k, x.ka, x.a, x.vs ++ [v], x.n + 1⟩ :: post := by
      have e1 : put x.k v (pre ++ x :: post) = put x.k v pre ++ put x.k v (x :: post) := by unfold put; rw [List.map_append]
      have e2 : put x.k v (x :: post) = ⟨x.k, x.ka, x.a, x.vs ++ [v], x.n + 1⟩ :: put x.k v post := by unfold put; rw [List.map_cons, if_pos rfl]
      rw [e1, e2, put_same h1, put_same h2]
    rw [e]
    simp [led]
theorem valueAt_kvs {xs : List (Ent κ)} (hn : (xs.map (·.k)).Nodup) {x : Ent κ} (hx : x ∈ xs) : valueAt (kvsE xs) x.k = some (.ref x.a) := by
  induction xs with
  | nil => cases hx
  | cons y ys ih =>
    rw [List.map_cons, List.nodup_cons] at hn
    rcases List.mem_cons.mp hx with rfl | hx
    · simp [valueAt, kvsE]
    · have hne : ¬ y.k = x.k := fun e => hn.1 (e ▸ List.mem_map_of_mem hx)
      have := ih hn.2 hx
      simpa [valueAt, kvsE, hne] using this
theorem valueAt_none {xs : List (Ent κ)} {k : κ} (h : k ∉ xs.map (·.k)) : valueAt (kvsE xs) k = none := by
  induction xs with
  | nil => rfl
  | cons y ys ih =>
    rw [List.map_cons, List.mem_cons, not_or] at h
    have hne : ¬ y.k = k := fun e => h.1 e.symm
    have := ih h.2
    simpa [valueAt, kvsE, hne] using this
theorem valueAt_has {xs : List (Ent κ)} (hn : (xs.map (·.k)).Nodup) (k : κ) : (valueAt (kvsE xs) k).isSome = decide (k ∈ xs.map (·.k)) := by
  by_cases h : k ∈ xs.map (·.k)
  · obtain ⟨x, hx, rfl⟩ := List.mem_map.mp h
    rw [valueAt_kvs hn hx, decide_eq_true h]; rfl
  · rw [valueAt_none h, decide_eq_false h]; rfl
theorem atKey_kat {xs : List (Ent κ)} (hn : (xs.map (·.k)).Nodup) {x : Ent κ} (hx : x ∈ xs) : atKey (katE xs) x.k = some (x.ka, .ref x.a) := by
  induction xs with
  | nil => cases hx
  | cons y ys ih =>
    rw [List.map_cons, List.nodup_cons] at hn
    rcases List.mem_cons.mp hx with rfl | hx
    · simp [atKey, katE]
    · have hne : ¬ y.k = x.k := fun e => hn.1 (e ▸ List.mem_map_of_mem hx)
      have := ih hn.2 hx
      simpa [atKey, katE, hne] using this
theorem atKey_none {xs : List (Ent κ)} {k : κ} (h : k ∉ xs.map (·.k)) : atKey (katE xs) k = none := by
  induction xs with
  | nil => rfl
  | cons y ys ih =>
    rw [List.map_cons, List.mem_cons, not_or] at h
    have hne : ¬ y.k = k := fun e => h.1 e.symm
    have := ih h.2
    simpa [atKey, katE, hne] using this
theorem atKey_has {xs : List (Ent κ)} (hn : (xs.map (·.k)).Nodup) (k : κ) : (atKey (katE xs) k).isSome = decide (k ∈ xs.map (·.k)) := by
  by_cases h : k ∈ xs.map (·.k)
  · obtain ⟨x, hx, rfl⟩ := List.mem_map.mp h
    rw [atKey_kat hn hx, decide_eq_true h]; rfl
  · rw [atKey_none h, decide_eq_false h]; rfl
theorem stored_kvs {xs : List (Ent κ)} {k : κ} (h : k ∉ xs.map (·.k)) (ka a : Addr) (n : Nat) : stored (kvsE xs) k (.ref a) = kvsE (xs ++ [⟨k, ka, a, [], n⟩]) := by
  rw [stored_absent (valueAt_none h)]; simp [kvsE]
theorem stored_kat {xs : List (Ent κ)} {k : κ} (h : k ∉ xs.map (·.k)) (ka a : Addr) (n : Nat) : storedH (katE xs) k ka (.ref a) = katE (xs ++ [⟨k, ka, a, [], n⟩]) := by
  rw [storedH_new (atKey_none h)]; simp [katE]
end

/-! the set -/
inductive FormsM (φ : Led) : List Value → Led → List Row → Prop
  | nil : FormsM φ [] [] []
  | cons {x dx : Addr} {od : Obj} {r : Row} {vs : List Value} {ds : Led} {rs : List Row} : FormM φ x dx od r → FormsM φ vs ds rs → FormsM φ (.ref x :: vs) ((dx, od) :: ds) (r :: rs)
theorem FormsM.mono {φ φ' : Led} (b : Sub φ φ') : ∀ {vs : List Value} {ds : Led} {rs : List Row}, FormsM φ vs ds rs → FormsM φ' vs ds rs
  | _, _, _, .nil => .nil
  | _, _, _, .cons h r => .cons (h.mono b) (r.mono b)
theorem FormsM.length {φ : Led} : ∀ {vs : List Value} {ds : Led} {rs : List Row}, FormsM φ vs ds rs → vs.length = rs.length
  | _, _, _, .nil => rfl
  | _, _, _, .cons _ r => by simp [r.length]
def nameIts (p : List (Value × Row)) : List (Str × Value) := p.map fun q => (q.2.name, q.1)
def codeIts (p : List (Value × Row)) : List (List Int × Value) := p.flatMap fun q => (codesF q.2).map fun c => (c, q.1)
def setF (a b c : Value) : Loc := upd (upd (upd (fun _ => none) (ofs "forms") a) (ofs "by_name") b) (ofs "by_code") c
structure SetB (prog : Program) (w : World) (φ : Led) (fvs : List Value) (rows : List Row) (x dx : Addr) (od : Obj) (k : Nat) (F : Addr) (nF : Nat) (D1 : Addr) (o1 : Obj) (xs1 : List (Ent Str)) (D2 : Addr) (o2 : Obj) (xs2 : List (Ent (List Int))) : Prop where
  h1 : (x, instObj 95 dx) ∈ φ
  h2 : (dx, od) ∈ φ
  h3 : Attrs od (setF (.ref F) (.ref D1) (.ref D2)) k
  h4 : (F, lstO fvs nF) ∈ φ
  h5 : (D1, o1) ∈ φ
  h6 : o1.IsDictOf (PySem.strKind prog w) (kvsE xs1)
  h7 : (D1 == sysModules) = false
  h8 : BagOk (nameIts (fvs.zip rows)) xs1
  h9 : ∀ p ∈ led xs1, p ∈ φ
  h10 : (D2, o2) ∈ φ
  h11 : TupD prog w φ o2 (katE xs2)
  h12 : (D2 == sysModules) = false
  h13 : BagOk (codeIts (fvs.zip rows)) xs2
  h14 : ∀ p ∈ led xs2, p ∈ φ
  h15 : fvs.length = rows.length
  h16 : ∀ (j : Nat) (v : Value) (r : Row), fvs[j]? = some v → rows[j]? = some r → FormAt φ v r j
structure SetIs (prog : Program) (w : World) (φ : Led) (v : Value) (fvs : List Value) (rows : List Row) : Prop where
  ex : ∃ (x dx : Addr) (od : Obj) (k : Nat) (F : Addr) (nF : Nat) (D1 : Addr) (o1 : Obj) (xs1 : List (Ent Str)) (D2 : Addr) (o2 : Obj) (xs2 : List (Ent (List Int))), v = .ref x ∧ SetB prog w φ fvs rows x dx od k F nF D1 o1 xs1 D2 o2 xs2
section
variable {prog : Program} {w : World} {A : Around} {h₀ : Heap} {L : Addr} {m : Loc} {μ φ R : Led} {env : Env} {K : Frag} {d u : Nat} {E : Value → Shared → Prop} {s : Shared}
theorem SetB.mono {φ' : Led} {fvs : List Value} {rows : List Row} {x dx : Addr} {od : Obj} {k : Nat} {F : Addr} {nF : Nat} {D1 : Addr} {o1 : Obj} {xs1 : List (Ent Str)} {D2 : Addr} {o2 : Obj} {xs2 : List (Ent (List Int))}
    (h : SetB prog w φ fvs rows x dx od k F nF D1 o1 xs1 D2 o2 xs2) (b : Sub φ φ') : SetB prog w φ' fvs rows x dx od k F nF D1 o1 xs1 D2 o2 xs2 :=
  ⟨b _ h.h1, b _ h.h2, h.h3, b _ h.h4, b _ h.h5, h.h6, h.h7, h.h8, fun p hp => b _ (h.h9 p hp), b _ h.h10, h.h11.mono b, h.h12, h.h13, fun p hp => b _ (h.h14 p hp), h.h15, fun j v r a c => (h.h16 j v r a c).mono b⟩
theorem SetIs.mono {φ' : Led} {v : Value} {fvs : List Value} {rows : List Row} (h : SetIs prog w φ v fvs rows) (b : Sub φ φ') : SetIs prog w φ' v fvs rows := by
  obtain ⟨x, dx, od, k, F, nF, D1, o1, xs1, D2, o2, xs2, e, hB⟩ := h.ex
  exact ⟨x, dx, od, k, F, nF, D1, o1, xs1, D2, o2, xs2, e, hB.mono b⟩
/-- the object of a set -/
theorem SetIs.obj {x : Addr} {fvs : List Value} {rows : List Row} (h : SetIs prog w φ (.ref x) fvs rows) : ∃ (dxs : Addr) (oX : Obj) (f1 f2 f3 : Value) (k : Nat), (x, instObj 95 dxs) ∈ φ ∧ (dxs, oX) ∈ φ ∧ Attrs oX (setF f1 f2 f3) k := by
  obtain ⟨_, dx, od, k, F, _, D1, _, _, D2, _, _, e, hB⟩ := h.ex
  cases e
  exact ⟨dx, od, _, _, _, k, hB.h1, hB.h2, hB.h3⟩
theorem SetIs.forms {v : Value} {fvs : List Value} {rows : List Row} (h : SetIs prog w φ v fvs rows) (j : Nat) (v' : Value) (r : Row) (a : fvs[j]? = some v') (b : rows[j]? = some r) : FormAt φ v' r j := by
  obtain ⟨_, dx, od, k, F, _, D1, _, _, D2, _, _, e, hB⟩ := h.ex
  exact hB.h16 j v' r a b
/-- the roads of a statement come together -/
theorem H_mid {st : Stmt} {rest : List Stmt} {Q : Flow → Loc → Led → Led → Prop} (P : Loc → Led → Led → Prop) (h1 : H (model prog w) A h₀ L (exec st env) m μ φ (fun fl m μ φ => fl = .next ∧ P m μ φ))
    (h2 : ∀ m' μ' φ', Sub φ φ' → P m' μ' φ' → H (model prog w) A h₀ L (execs rest env) m' μ' φ' Q) : H (model prog w) A h₀ L (execs (st :: rest) env) m μ φ Q :=
  H_execs_cons (H_mono h1 fun fl m' μ' φ' b q => by obtain ⟨rfl, q⟩ := q; exact After.next (h2 m' μ' φ' b q))
end
-- C4
theorem H_isIf {M : Model} {A : Around} {h₀ : Heap} {L : Addr} {env : Env} {m : Loc} {μ φ : Led} {t : Expr} {a b : List Stmt} {p : Pos} {rest : List Stmt} {Q : Flow → Loc → Led → Led → Prop} (h : H M A h₀ L (execs (.If t a b p :: rest) env) m μ φ Q) : H M A h₀ L (execs (.If t a b p :: rest) env) m μ φ Q := h
theorem FormV.num {φ : Led} {r : Row} {a : FV} (h : FormV φ r a) (v : Value) : FormV φ r { a with vnum := v } := ⟨h.n, h.k, h.o, h.e, h.d, h.s, h.m, h.w, h.p⟩
theorem getIts_len {κ : Type} [DecidableEq κ] (its : List (κ × Value)) (k : κ) : (getIts its k).length ≤ its.length := by unfold getIts; rw [List.length_map]; exact List.length_filter_le _ _
theorem put_up_end {κ : Type} [DecidableEq κ] {xs : List (Ent κ)} (hn : (xs.map (·.k)).Nodup) {k : κ} (hk : k ∈ xs.map (·.k)) (v : Value) (L1 l1 : Led) :
    ∃ (x : Ent κ) (g : Obj → Led), x ∈ xs ∧ x.k = k ∧ (∀ o', Up x.a (lstO x.vs x.n) o' (L1 ++ (l1 ++ led xs)) (g o')) ∧ g (lstO (x.vs ++ [v]) (x.n + 1)) = L1 ++ (l1 ++ led (put k v xs)) := by
  obtain ⟨x, g, h1, h2, h3, h4⟩ := put_up hn hk v (L1 ++ l1) []
  simp only [List.append_nil, List.append_assoc] at h3 h4
  exact ⟨x, g, h1, h2, h3, h4⟩
theorem codeIts_len (p : List (Value × Row)) : (codeIts p).length ≤ 8 * p.length := by
  induction p with
  | nil => exact Nat.le_refl _
  | cons q p ih =>
    have : (codeIts (q :: p)).length = (codesF q.2).length + (codeIts p).length := by simp [codeIts]
    have h8 : (codesF q.2).length ≤ 8 := by unfold codesF; split <;> simp
    rw [this, List.length_cons]; walk_at "o"
theorem perm_third {α : Type} (a b c : α) (l : List α) : (a :: b :: c :: l).Perm (c :: a :: b :: l) := .trans (.cons _ (.swap _ _ _)) (.swap _ _ _)
theorem perm_ins1 {α : Type} (a p q : α) (f l1 l2 : List α) : (a :: p :: q :: (f ++ (l1 ++ l2))).Perm (p :: q :: (f ++ ((l1 ++ [a]) ++ l2))) := by
  refine .trans (.swap _ _ _) (.cons _ (.trans (.swap _ _ _) (.cons _ ?_)))
  have : f ++ ((l1 ++ [a]) ++ l2) = (f ++ l1) ++ a :: l2 := by simp
  rw [this, ← List.append_assoc]
  exact List.perm_middle.symm
theorem perm_ins2 {α : Type} (a p q : α) (f l1 l2 : List α) : (a :: p :: q :: (f ++ (l1 ++ l2))).Perm (p :: q :: (f ++ (l1 ++ (l2 ++ [a])))) := by
  refine .trans (.swap _ _ _) (.cons _ (.trans (.swap _ _ _) (.cons _ ?_)))
  have : f ++ (l1 ++ (l2 ++ [a])) = (f ++ (l1 ++ l2)) ++ a :: [] := by simp
  rw [this]
  refine List.Perm.trans ?_ List.perm_middle.symm
  simp
theorem take_zip {α β : Type} {xs : List α} {ys : List β} {i : Nat} {a : α} {b : β} (ha : xs[i]? = some a) (hb : ys[i]? = some b) : (xs.zip ys).take (i + 1) = (xs.zip ys).take i ++ [(a, b)] := by
  rw [List.take_add_one]
  have : (xs.zip ys)[i]? = some (a, b) := by rw [List.getElem?_zip_eq_some]; exact ⟨ha, hb⟩
  rw [this]; rfl
theorem nameIts_snoc (p : List (Value × Row)) (v : Value) (r : Row) : nameIts (p ++ [(v, r)]) = nameIts p ++ [(r.name, v)] := by simp [nameIts]
theorem codeIts_snoc (p : List (Value × Row)) (v : Value) (r : Row) : codeIts (p ++ [(v, r)]) = codeIts p ++ (codesF r).map fun c => (c, v) := by simp [codeIts]
theorem FormsM.at {φ : Led} {vs : List Value} {ds : Led} {rs : List Row} {i : Nat} (h : FormsM φ (vs.drop i) ds (rs.drop i)) (hi : i < vs.length) : ∃ x dx od r ds', vs[i]? = some (.ref x) ∧ rs[i]? = some r ∧ ds = (dx, od) :: ds' ∧ FormM φ x dx od r ∧ FormsM φ (vs.drop (i + 1)) ds' (rs.drop (i + 1)) := by
  have hl := h.length
  simp only [List.length_drop] at hl
  have hi2 : i < rs.length := by walk_at "o"
  rw [List.drop_eq_getElem_cons hi, List.drop_eq_getElem_cons hi2] at h
  generalize hv : vs[i] = v at h
  generalize hr : rs[i] = r at h
  cases h with
  | cons h1 h2 => exact ⟨_, _, _, _, _, by rw [List.getElem?_eq_getElem hi, hv], by rw [List.getElem?_eq_getElem hi2, hr], rfl, h1, h2⟩
/-- keys with one more -/
theorem BagV.ok {κ : Type} [DecidableEq κ] {its : List (κ × Value)} {xs : List (Ent κ)} (h : BagV its xs) {k : κ} (v : Value) (hk : k ∈ xs.map (·.k)) (hm : ∀ k', k' ∈ xs.map (·.k) ↔ k' ∈ its.map (·.1) ∨ k' = k) : BagOk (its ++ [(k, v)]) (Mine.put k v xs) := by
  refine ⟨h.put k v, fun k' => ?_⟩
  rw [put_keys, hm k', List.map_append, List.mem_append]
  simp
theorem codes3 (r : Row) : ∀ c ∈ codesF r, c.length = 3 := by
  intro c hc
  unfold codesF at hc
  split at hc
  · obtain ⟨i, _, rfl⟩ := List.mem_map.mp hc; rfl
  · rw [List.mem_singleton] at hc; rw [hc]; rfl
theorem codes8 (r : Row) : (codesF r).length ≤ 8 := by
  unfold codesF
  split <;> simp
theorem nd_len {κ : Type} [DecidableEq κ] : ∀ {l l' : List κ}, l.Nodup → (∀ x ∈ l, x ∈ l') → l.length ≤ l'.length
  | [], _, _, _ => Nat.zero_le _
  | a :: l, l', nd, h => by
    rw [List.nodup_cons] at nd
    have ha := h a (.head _)
    have := nd_len (l := l) (l' := l'.erase a) nd.2 fun x hx => (List.mem_erase_of_ne (a := x) (b := a) (fun e => nd.1 (by rw [← e]; exact hx))).mpr (h x (.tail _ hx))
    have e := List.length_erase_of_mem ha
    have := List.length_pos_of_mem ha
    simp only [List.length_cons]; walk_at "o"
theorem keys_len {κ : Type} [DecidableEq κ] {its : List (κ × Value)} {xs : List (Ent κ)} (h : BagOk its xs) : xs.length ≤ its.length := by
  have := nd_len h.nd fun k hk => (h.mem k).mp hk
  simpa using this
-- C5
section
variable {κ : Type} [DecidableEq κ]
theorem bag_get {φ : Led} {its : List (κ × Value)} {xs : List (Ent κ)} (h : BagOk its xs) (hl : ∀ p ∈ led xs, p ∈ φ) (k : κ) {a0 : Addr} {n0 : Nat} (h0 : (a0, lstO [] n0) ∈ φ) :
    ∃ b n, (valueAt (kvsE xs) k).getD (.ref a0) = .ref b ∧ (b, lstO (getIts its k) n) ∈ φ := by
  by_cases hk : k ∈ xs.map (·.k)
  · obtain ⟨x, hx, rfl⟩ := List.mem_map.mp hk
    rw [valueAt_kvs h.nd hx]
    refine ⟨x.a, x.n, rfl, ?_⟩
    rw [← h.vs x hx]
    exact hl _ (List.mem_map.mpr ⟨x, hx, rfl⟩)
  · rw [valueAt_none hk]
    refine ⟨a0, n0, rfl, ?_⟩
    rw [getIts_none fun q => hk ((h.mem k).mpr q)]
    exact h0
theorem bag_getT {φ : Led} {its : List (κ × Value)} {xs : List (Ent κ)} (h : BagOk its xs) (hl : ∀ p ∈ led xs, p ∈ φ) (k : κ) {a0 : Addr} {n0 : Nat} (h0 : (a0, lstO [] n0) ∈ φ) :
    ∃ b n, ((atKey (katE xs) k).map (·.2)).getD (.ref a0) = .ref b ∧ (b, lstO (getIts its k) n) ∈ φ := by
  by_cases hk : k ∈ xs.map (·.k)
  · obtain ⟨x, hx, rfl⟩ := List.mem_map.mp hk
    rw [atKey_kat h.nd hx]
    refine ⟨x.a, x.n, rfl, ?_⟩
    rw [← h.vs x hx]
    exact hl _ (List.mem_map.mpr ⟨x, hx, rfl⟩)
  · rw [atKey_none hk]
    refine ⟨a0, n0, rfl, ?_⟩
    rw [getIts_none fun q => hk ((h.mem k).mpr q)]
    exact h0
end
theorem allR_of {α : Type} {R : Value → α → Prop} : ∀ {vs : List Value} {as : List α}, vs.length = as.length → (∀ (j : Nat) (v : Value) (a : α), vs[j]? = some v → as[j]? = some a → R v a) → AllR R vs as
  | [], [], _, _ => .nil
  | [], _ :: _, h, _ => by simp at h
  | _ :: _, [], h, _ => by simp at h
  | v :: vs, a :: as, h, k => .cons (k 0 v a rfl rfl) (allR_of (by simpa using h) fun j v a x y => k (j + 1) v a (by simpa using x) (by simpa using y))
theorem str_of {prog : Program} {w : World} {k : Str} {v : Value} (h : (PySem.strKind prog w).is k v = true) : ∃ t, v = .str k t := by
  cases v <;> simp [PySem.strKind, Value.isStrOf] at h
  exact ⟨_, by rw [h]⟩
theorem int_of {prog : Program} {w : World} {k : Int} {v : Value} (h : (PySem.intKind prog w).is k v = true) : ∃ t, v = .int k t := by
  cases v <;> simp [PySem.intKind, Value.isInt] at h
  exact ⟨_, by rw [h]⟩
theorem nameIts_keys {fvs : List Value} {rows : List Row} (h : fvs.length = rows.length) : (nameIts (fvs.zip rows)).map (·.1) = rows.map (·.name) := by
  unfold nameIts
  rw [List.map_map]
  have : ((fun q : Str × Value => q.1) ∘ fun q : Value × Row => (q.2.name, q.1)) = (fun r : Row => r.name) ∘ Prod.snd := rfl
  rw [this, ← List.map_map, List.map_snd_zip (by omega)]
theorem codeIts_keys {fvs : List Value} {rows : List Row} (h : fvs.length = rows.length) : (codeIts (fvs.zip rows)).map (·.1) = rows.flatMap codesF := by
  induction rows generalizing fvs with
  | nil => cases fvs with
    | nil => rfl
    | cons _ _ => cases h
  | cons r rs ih =>
    cases fvs with
    | nil => cases h
    | cons v vs =>
      have := ih (fvs := vs) (by simpa using h)
      simp only [codeIts, List.zip_cons_cons, List.flatMap_cons, List.map_append] at this ⊢
      rw [this]
      simp [Function.comp_def]
/-- the forms of a name, with their rows -/
theorem nameIts_sub {fvs : List Value} {rows : List Row} {P : Value → Row → Prop} (h : ∀ (j : Nat) (v : Value) (r : Row), fvs[j]? = some v → rows[j]? = some r → P v r) (nm : Str) :
    fvs.length = rows.length → AllR (fun v r => P v r ∧ r ∈ rows) (getIts (nameIts (fvs.zip rows)) nm) (rows.filter fun r => decide (r.name = nm)) := by
  intro hl
  have go : ∀ (fvs : List Value) (rs : List Row), fvs.length = rs.length → (∀ (j : Nat) (v : Value) (r : Row), fvs[j]? = some v → rs[j]? = some r → P v r ∧ r ∈ rows) → AllR (fun v r => P v r ∧ r ∈ rows) (getIts (nameIts (fvs.zip rs)) nm) (rs.filter fun r => decide (r.name = nm)) := by
    intro fvs
    induction fvs with
    | nil => intro rs h _; cases rs with
      | nil => exact .nil
      | cons _ _ => cases h
    | cons v vs ih =>
      intro rs hl hp
      cases rs with
      | nil => cases hl
      | cons r rs =>
        have := ih rs (by simpa using hl) fun j v r a b => hp (j + 1) v r (by simpa using a) (by simpa using b)
        have hr := hp 0 v r rfl rfl
        unfold getIts nameIts at this ⊢
        simp only [List.zip_cons_cons, List.map_cons, List.filter_cons]
        by_cases e : r.name = nm
        · simp only [e, decide_true, if_true, List.map_cons]
          exact .cons hr this
        · simp only [e, decide_false, Bool.false_eq_true, if_false]
          exact this
  exact go fvs rows hl fun j v r a b => ⟨h j v r a b, List.mem_of_getElem? b⟩
-- C6
section
variable {prog : Program} {w : World} {A : Around} {h₀ : Heap} {L : Addr} {m : Loc} {μ φ R : Led} {env : Env}
theorem dictSet_obj {κ : Type} [DecidableEq κ] {knd : KeyKind prog w κ} {E : Value → Shared → Prop} {s : Shared} {D : Addr} {o : Obj} {kvs : List (κ × Value)} {k : κ} {key v : Value} {Q : Unit → Shared → Prop} (ho : s.heap.get? D = some o) (hd : o.IsDictOf knd kvs) (hk : knd.is k key = true) (hz : kvs.length ≤ sizeLine)
    (h : ∀ h' tk o', Heap.SameBut D s.heap h' → h'.get? D = some o' → o'.IsDictOf knd (stored kvs k v) → Q () { s with heap := h', toks := tk }) : wpAny (model prog w) A (dictSet D key v) Q E s :=
  wpAny_dictSet_pairs (hsz := hz) hk (Heap.dictOf_iff.mpr ⟨o, ho, hd⟩) fun h' hm hs => by
    obtain ⟨o', ho', hd'⟩ := Heap.dictOf_iff.mp hm
    exact h h' _ o' hs ho' hd'
/-- one turn of a dict's comprehension -/
def DCompTurn (prog : Program) (w : World) {κ : Type} [DecidableEq κ] (knd : KeyKind prog w κ) (A : Around) (h₀ : Heap) (L : Addr) (cenv : Env) (kx vx : Expr) (Iv : Nat → List (κ × Value) → Led → Led → Prop) (i : Nat) (kvs : List (κ × Value)) (c : Addr × Obj) (m : Loc) (μ φ : Led) : Prop :=
  H (model prog w) A h₀ L (eval kx cenv) m (c :: μ) φ (fun kv m' μ' φ' => H (model prog w) A h₀ L (eval vx cenv) m' μ' φ' (fun vv m'' μ'' φ'' => m'' = m ∧ ∃ μ₂, μ'' = c :: μ₂ ∧ ∃ k, knd.is k kv = true ∧ Iv (i + 1) (stored kvs k vv) μ₂ φ''))
theorem comp_blockD {κ : Type} [DecidableEq κ] {knd : KeyKind prog w κ} {kx vx iter : Expr} {x : Str} {px : Pos} {scope : Scope} {cl : List (Str × Addr)} {pos : Pos} {s₂ : Shared} {J : Addr} {oI : Obj} {fp : List Addr} {n : Nat} {P : Nat → Value → Prop} {Stt : Nat → Heap → Prop}
    {E : Value → Shared → Prop} {RR : Value → Addr → Result → Shared → Prop} (Iv : Nat → List (κ × Value) → Led → Led → Prop)
    (W : Walks prog w A J fp [J] n P Stt) (hsz : n ≤ sizeLine) (hfp : ∀ b ∈ fp, b = J ∨ ∃ o, (b, o) ∈ φ) (hIo : ∀ i h, Stt i h → ∃ o T, h.get? J = some o ∧ o.cls = .type T ∧ nonOwners.contains T = false)
    (hcell : ∀ y ∈ scope.names, y.2 ≠ .cell) (hkind : scope.kind = .function) (hx : scope.names.lookup x = some .local) (hst : Stt 0 s₂.heap)
    (S : St h₀ L s₂.heap m ((J, oI) :: (μ ++ R)) φ) (hI0 : Iv 0 [] μ φ) (hbig : sysModules < h₀.objs.size)
    (turn : ∀ i kvs v c oC m₂ μ' φ', Sub φ φ' → i < n → P i v → Iv i kvs μ' φ' → LCg.NsObj oC m₂ → m₂ x = some v → DCompTurn prog w knd A h₀ L (compEnvC scope cl c env) kx vx Iv i kvs (c, oC) m μ' φ')
    (hRR : ∀ D C oC oD h tk m' kvs μ' φ', (D == sysModules) = false → oD.IsDictOf knd kvs → St h₀ L h m ((C, oC) :: (D, oD) :: (μ' ++ R)) φ' → LCg.NsObj oC m' → Sub φ φ' → Iv n kvs μ' φ' → RR (.ref D) C (.ok .next) { s₂ with heap := h, toks := tk }) :
    wpAny (model prog w) A newDict (fun acc s₃ => wpAny (model prog w) A (newFunctionEnv scope env.globals cl [] env.qual none .none (some env)) (fun cenv s₄ =>
      codeAny (model prog w) A (.compStart (.DictComp kx vx [⟨.Name x px, iter, [], 0⟩] scope pos) 0 (.ref J) acc { cenv with scope := relabel scope env }) (RR acc cenv.locals) s₄) E s₃) E s₂ := by
  refine wpAny_newObj_type (T := "dict") (data := .dict #[]) (dict := none) (wpAny_newFunctionEnv hcell (by intro y hy; simp at hy) (fun h₁ hns₁ hsb₁ => ?_) hkind)
  have SD : St h₀ L (s₂.heap.push dctO) m ((s₂.heap.objs.size, dctO) :: ((J, oI) :: (μ ++ R))) φ := S.pushM _ rfl
  have hlo : (s₂.heap.objs.size == sysModules) = false := S.F.notModules hbig
  have SC := SD.pushM { cls := .type (if (some env).isSome then "dict" else "frame"), data := .dict #[] } rfl
  obtain ⟨oC, hoC, hNs⟩ := LCg.ns_obj hns₁
  have S₁ := SC.upX .head (fun b o ne e => hsb₁.extBut b o ne e) hoC
  have hst₁ : Stt 0 h₁ := W.frame _ _ _ hst fun b hb o e => by
    rcases hfp b hb with rfl | ⟨ob, hob⟩
    · have e1 := S.get (List.mem_append_left _ (.head _)); rw [e1] at e; cases e
      exact S₁.get (List.mem_append_left _ (.tail _ (.tail _ (.head _))))
    · have e1 := S.get (List.mem_append_right _ hob); rw [e1] at e; cases e
      exact S₁.get (List.mem_append_right _ hob)
  dsimp only at hns₁ hsb₁ hoC hNs S₁ ⊢
  generalize s₂.heap.objs.size = D at *
  generalize hCg : (s₂.heap.push { cls := .type "dict", dict := none, data := .dict #[] }).objs.size = C at *
  have S₁' : St h₀ L h₁ m ((C, oC) :: (D, dctO) :: (J, oI) :: (μ ++ R)) φ := S₁
  clear S₁ SC SD
  have loop : ∀ s₃ : Shared, s₃ = { s₂ with heap := h₁, toks := s₂.toks + ([] : List (Str × Value)).length } →
      codeAny (model prog w) A (.compLoop (.DictComp kx vx [⟨.Name x px, iter, [], 0⟩] scope pos) 0 (.ref J) (.ref D) (compEnvC scope cl C env)) (RR (.ref D) C) s₃ := by
    rintro s₃ rfl
    refine codeAny_compLoop_testsD (fun k s' => ∃ h' tk i ys m' μ' φ' oI oC oD, s' = { s₂ with heap := h', toks := tk } ∧ i ≤ n ∧ k = n + 1 - i ∧ ys.length ≤ i ∧ oD.IsDictOf knd ys ∧ Stt i h' ∧ LCg.NsObj oC m' ∧
      St h₀ L h' m ((C, oC) :: (D, oD) :: (J, oI) :: (μ' ++ R)) φ' ∧ Sub φ φ' ∧ Iv i ys μ' φ') ?_ (n + 1)
      ⟨h₁, _, 0, [], _, μ, φ, oI, oC, dctO, rfl, Nat.zero_le _, rfl, Nat.le_refl _, dctO_is h₀ _, hst₁, hNs, S₁', fun _ x => x, hI0⟩
    rintro k s' ⟨h', tk, i, ys, m', μ', φ', oI', oC', oD, rfl, hi, rfl, hyl, hoD, hst', hN', S', b', hI'⟩
    by_cases hlt : i < n
    · refine W.item i _ _ _ hlt hst' fun v h2 t2 hP hst2 hk2 => ?_
      obtain ⟨o2, T, ho2, _, _⟩ := hIo _ _ hst2
      have S2 : St h₀ L h2 m ((C, oC') :: (D, oD) :: (J, o2) :: (μ' ++ R)) φ' := S'.upX (.tail (.tail .head)) (fun b o ne e => hk2 b o (by simpa using ne) e) ho2
      have hnsC : h2.Ns C m' := hN'.ns (S2.get (List.mem_append_left _ (.head _)))
      refine wpAny_assign_Name (wpAny_storeName_local (lookup_relabel_local hx) hnsC (fun h3 hn3 hs3 => ?_) (by simp [compEnvC, relabel, hkind]))
      obtain ⟨oC3, hoC3, hN3⟩ := LCg.ns_obj hn3
      have S3 : St h₀ L h3 m ((C, oC3) :: (D, oD) :: (J, o2) :: (μ' ++ R)) φ' := S2.upX .head (fun b o ne e => hs3.extBut b o ne e) hoC3
      have hst3 : Stt (i + 1) h3 := W.frame _ _ _ hst2 fun b hb o e => by
        rcases hfp b hb with rfl | ⟨ob, hob⟩
        · rw [ho2] at e; cases e
          exact S3.get (List.mem_append_left _ (.tail _ (.tail _ (.head _))))
        · have e1 := S2.get (List.mem_append_right _ (b' _ hob)); rw [e1] at e; cases e
          exact S3.get (List.mem_append_right _ (b' _ hob))
      have pm : ∀ ν : Led, List.Perm ((C, oC3) :: (D, oD) :: (J, o2) :: (ν ++ R)) (((C, oC3) :: ν) ++ ((D, oD) :: (J, o2) :: R)) := fun ν => by
        refine List.Perm.cons _ ?_
        have : List.Perm ((D, oD) :: (J, o2) :: (ν ++ R)) (ν ++ ((D, oD) :: (J, o2) :: R)) := by
          refine (List.perm_middle.trans ?_).symm
          refine List.Perm.cons _ ?_
          exact List.perm_middle
        exact this
      have Sp := S3.perm (pm μ')
      have up : ∀ {h5 : Heap} {m5 : Loc} {μ5 φ5 : Led}, St h₀ L h5 m5 (((C, oC3) :: μ5) ++ ((D, oD) :: (J, o2) :: R)) φ5 → Sub φ' φ5 → Stt (i + 1) h5 := fun S5 b5 => W.frame _ _ _ hst3 fun b hb o e => by
        rcases hfp b hb with rfl | ⟨ob, hob⟩
        · have e1 := S3.get (List.mem_append_left _ (.tail _ (.tail _ (.head _)))); rw [e1] at e; cases e
          exact S5.get (List.mem_append_left _ (List.mem_append_right _ (.tail _ (.head _))))
        · have e1 := S3.get (List.mem_append_right _ (b' _ hob)); rw [e1] at e; cases e
          exact S5.get (List.mem_append_right _ (b5 _ (b' _ hob)))
      rw [List.forIn_nil]
      refine wpAny_pure ?_
      rw [if_pos rfl]
      refine H_run (turn i ys v C oC3 _ μ' φ' b' hlt hP hI' hN3 (by simp)) (s := { s₂ with heap := h3, toks := t2 + 1 }) (R := (D, oD) :: (J, o2) :: R) Sp fun kv h4 t4 m4 μ4 φ4 S4 b4 q4 => ?_
      refine H_run q4 (s := { s₂ with heap := h4, toks := t4 }) S4 fun y h5 t5 m5 μ5 φ5 S5 b5 q5 => ?_
      obtain ⟨rfl, μ₂, rfl, k, hk, hI5⟩ := q5
      have S5' := S5.perm (pm μ₂).symm
      have hst5 := up S5 fun p hp => b5 p (b4 p hp)
      refine dictSet_obj (S5'.get (List.mem_append_left _ (.tail _ (.head _)))) hoD hk (by walk_at "o") fun h6 t6 o6 hs6 hD6 ho6 => ?_
      have S6 : St h₀ L h6 m5 ((C, oC3) :: (D, o6) :: (J, o2) :: (μ₂ ++ R)) φ5 := S5'.upX (.tail .head) (fun b o ne e => hs6.extBut b o ne e) hD6
      have hst6 : Stt (i + 1) h6 := W.frame _ _ _ hst5 fun b hb o e => by
        rcases hfp b hb with rfl | ⟨ob, hob⟩
        · have e1 := S5'.get (List.mem_append_left _ (.tail _ (.tail _ (.head _)))); rw [e1] at e; cases e
          exact S6.get (List.mem_append_left _ (.tail _ (.tail _ (.head _))))
        · have e1 := S5'.get (List.mem_append_right _ (b5 _ (b4 _ (b' _ hob)))); rw [e1] at e; cases e
          exact S6.get (List.mem_append_right _ (b5 _ (b4 _ (b' _ hob))))
      exact ⟨n + 1 - (i + 1), by walk_at "o", h6, t6, i + 1, _, _, μ₂, φ5, o2, oC3, o6, rfl, hlt, rfl, by have := stored_length_le ys k y; walk_at "o", ho6, hst6, hN3, S6, fun p hp => b5 p (b4 p (b' p hp)), hI5⟩
    · obtain rfl : i = n := Nat.le_antisymm hi (Nat.not_lt.mp hlt)
      refine W.done _ _ _ hst' fun h2 t2 hk2 => ?_
      have Sj : St h₀ L h2 m ((C, oC') :: (D, oD) :: (μ' ++ R)) φ' := by
        have Sp := S'.perm (show List.Perm ((C, oC') :: (D, oD) :: (J, oI') :: (μ' ++ R)) ((J, oI') :: (C, oC') :: (D, oD) :: (μ' ++ R)) from
          ((List.Perm.cons _ (List.Perm.swap _ _ _)).trans (List.Perm.swap _ _ _)))
        exact Sp.lose fun b o ne e => hk2 b o (by simpa using ne) e
      exact hRR D C oC' oD h2 t2 m' ys μ' φ' hlo hoD Sj hN' b' hI'
  exact codeAny_compStart_dict (loop _ rfl) (W.self 0 _ _ _ hst₁ (loop _ rfl))

structure DCompOver (prog : Program) (w : World) {κ : Type} [DecidableEq κ] (knd : KeyKind prog w κ) (A : Around) (h₀ : Heap) (L : Addr) (env : Env) (scope : Scope) (cl : List (Str × Addr)) (x : Str) (kx vx : Expr) (fin : Addr → Obj → List (κ × Value) → Loc → Led → Led → Prop) (xv : Value) (m : Loc) (μ φ : Led) : Prop where
  ex : ∃ (n : Nat) (P : Nat → Value → Prop) (Iv : Nat → List (κ × Value) → Led → Led → Prop), Src prog w A φ xv n P ∧ n ≤ sizeLine ∧ Iv 0 [] μ φ ∧
    (∀ i kvs v c oC m₂ μ' φ', Sub φ φ' → i < n → P i v → Iv i kvs μ' φ' → LCg.NsObj oC m₂ → m₂ x = some v → DCompTurn prog w knd A h₀ L (compEnvC scope cl c env) kx vx Iv i kvs (c, oC) m μ' φ') ∧
    (∀ D oD kvs μ' φ', (D == sysModules) = false → oD.IsDictOf knd kvs → Sub φ φ' → Iv n kvs μ' φ' → fin D oD kvs m μ' φ')
theorem H_DictComp {κ : Type} [DecidableEq κ] (knd : KeyKind prog w κ) {K : Frag} {d u : Nat} (Cc : Cx K A h₀ L d u) {kx vx iter : Expr} {x : Str} {px : Pos} {scope : Scope} {cl : List (Str × Addr)} {pos : Pos} {Q : Value → Loc → Led → Led → Prop}
    (hclos : closureFor scope env = pure cl) (hcell : ∀ y ∈ scope.names, y.2 ≠ .cell) (hkind : scope.kind = .function)
    (hnames : ∀ y ∈ scope.names, y.2 = .local → scope.names.lookup y.1 = some .local) (hx : scope.names.lookup x = some .local)
    (h : H (model prog w) A h₀ L (eval iter env) m μ φ (DCompOver prog w knd A h₀ L env scope cl x kx vx (fun D oD _ m μ φ => Q (.ref D) m ((D, oD) :: μ) φ)))
    (hs : ∀ x, foldedSetIterable iter env x = pure x := by intro _; rfl) :
    H (model prog w) A h₀ L (eval (.DictComp kx vx [⟨.Name x px, iter, [], 0⟩] scope pos) env) m μ φ Q := by
  intro R E s S
  rw [arm_eval_DictComp]
  have hbig : sysModules < h₀.objs.size := by
    obtain ⟨_, _, _, _, _, _, _, mg, mb, _, T, _⟩ := Cc.ctx
    exact modules_low T.nolimit
  refine wpAny_comprehension_free (use := none) rfl hs hclos hkind hnames (H_run h S fun xv h1 t1 m1 μ1 φ1 S1 b1 q1 => ?_)
  obtain ⟨n, P, Iv, X, hsz, hI0, turn, fin⟩ := q1.ex
  refine X.iter _ _ _ (fun p hp => (S1.N p (List.mem_append_right _ hp)).1) fun oI fp Stt hfr W hfp hst hIo => ?_
  dsimp only at W hfp hst hIo ⊢
  have S2 : St h₀ L (h1.push oI) m1 ((h1.objs.size, oI) :: (μ1 ++ R)) φ1 := S1.pushM oI hfr
  generalize h1.objs.size = J at W hfp hIo S2 ⊢
  refine comp_blockD (knd := knd) (s₂ := { s with heap := h1.push oI, toks := t1 }) (RR := fun acc C => compPost (model prog w) A E none _ acc C) Iv W hsz hfp hIo hcell hkind hx hst S2 hI0 hbig turn ?_
  intro D C oC oD h tk m' kvs μ' φ' hlo hoD S' hN' b' hI'
  refine ⟨m', hN'.ns (S'.get (List.mem_append_left _ (.head _))), fun h'' hs'' => ?_⟩
  exact ⟨h'', tk, m1, _ :: μ', φ', rfl, S'.lose fun b o ne e => hs''.extBut b o ne e, fun p hp => b' p (b1 p hp), fin D oD kvs μ' φ' hlo hoD b' hI'⟩
end
-- C7
theorem stored_keys {κ : Type} [DecidableEq κ] (kvs : List (κ × Value)) (k : κ) (v : Value) (z : κ) : z ∈ (stored kvs k v).map (·.1) ↔ z ∈ kvs.map (·.1) ∨ z = k := by
  unfold stored
  split
  · rename_i h
    rw [List.map_map]
    have e : ((fun x : κ × Value => x.1) ∘ fun kv => if kv.1 = k then (kv.1, v) else kv) = fun x => x.1 := by
      funext x; show (if x.1 = k then (x.1, v) else x).1 = x.1; split <;> rfl
    rw [e]
    obtain ⟨y, hy, hk⟩ := List.any_eq_true.mp h
    constructor
    · exact .inl
    · rintro (h | rfl)
      · exact h
      · exact List.mem_map.mpr ⟨y, hy, by simpa using hk⟩
  · rw [List.map_append, List.mem_append]; simp
theorem keys_PAll {prog : Program} {w : World} {φ : Led} {kvs : List (Int × Value)} {vs : List Value} (hl : vs.length = kvs.length) (h : ∀ (j : Nat) (v : Value), vs[j]? = some v → ∃ k x, kvs[j]? = some (k, x) ∧ (PySem.intKind prog w).is k v = true) : PAll φ vs ((kvs.map (·.1)).map .int) := by
  refine AllR.pAll (allR_of (by simpa using hl) fun j v d hv hd => ?_)
  obtain ⟨k, x, e, hk⟩ := h j v hv
  simp only [List.getElem?_map, e, Option.map_some, Option.some.injEq] at hd
  subst hd
  obtain ⟨t, rfl⟩ := int_of hk
  exact .int _ _
theorem IsDictOf.nodup {prog : Program} {w : World} {κ : Type} [DecidableEq κ] {knd : KeyKind prog w κ} {o : Obj} {kvs : List (κ × Value)} (h : o.IsDictOf knd kvs) : (kvs.map (·.1)).Nodup := by
  obtain ⟨_, _, _, _, _, _, h⟩ := h; exact h
def ownOf (rows : List Row) (nm : Str) : List Row := rows.filter fun r => decide (r.name = nm)
-- C8
theorem cells_cons {cm : Loc} {x : Str} {a : Addr} {cs : List (Str × Addr)} {cells : Led} (h : CellsAre cm ((x, a) :: cs) cells) : ∃ o rest, cells = (a, o) :: rest ∧ o.data = .cell (cm x) ∧ CellsAre cm cs rest := by
  cases h with
  | cons h1 h2 => exact ⟨_, _, rfl, h1, h2⟩
theorem cells_nil {cm : Loc} {cells : Led} (h : CellsAre cm [] cells) : cells = [] := by cases h; rfl
theorem FormsM.snoc {φ : Led} {x dx : Addr} {od : Obj} {r : Row} (k : FormM φ x dx od r) : ∀ {vs : List Value} {ds : Led} {rs : List Row}, FormsM φ vs ds rs → FormsM φ (vs ++ [.ref x]) (ds ++ [(dx, od)]) (rs ++ [r])
  | _, _, _, .nil => .cons k .nil
  | _, _, _, .cons h r => .cons h (r.snoc k)
section
variable {prog : Program} {w : World} {A : Around} {h₀ : Heap} {L : Addr} {m : Loc} {μ φ R : Led} {env : Env} {K : Frag} {d u : Nat} {E : Value → Shared → Prop} {s : Shared}
theorem H_endPerm {M : Model} {α : Type} {t : Sem α} {Q : α → Loc → Led → Led → Prop} (h : H M A h₀ L t m μ φ (fun v m' μ' φ' => ∃ μ'', μ'.Perm μ'' ∧ Q v m' μ'' φ')) : H M A h₀ L t m μ φ Q := by
  intro R E s S
  refine wpAny_mono (h R E s S) (fun v s' hs => ?_) fun _ _ x => x
  obtain ⟨h', tk, m', μ', φ', rfl, S', b, μ'', hp, q⟩ := hs
  exact ⟨h', tk, m', μ'', φ', rfl, S'.perm (hp.append_right R), b, q⟩
theorem perm_end {α : Type} (a c : α) (ds μ : List α) : (a :: c :: (ds ++ μ)).Perm (c :: ((ds ++ [a]) ++ μ)) := by
  refine .trans (.swap _ _ _) (.cons _ ?_)
  rw [List.append_assoc]
  exact List.perm_middle.symm
/-- forms of rows -/
theorem CompOver.forms {scope : Scope} {cl : List (Str × Addr)} {x : Str} {elt : Expr} {fin : Addr → List Value → Loc → Led → Led → Prop} {xv : Value} {vs : List Value} {rows : List Row}
    (src : Src prog w A φ xv vs.length (fun i v => vs[i]? = some v)) (hz : vs.length ≤ sizeLine) (hP : AllR (fun v r => PIn φ v (rowP r)) vs rows)
    (turn : ∀ v r c oC m₂ μ' φ' Q, Sub φ φ' → r ∈ rows → PIn φ' v (rowP r) → LCg.NsObj oC m₂ → m₂ x = some v → (∀ y dx od φ'', Sub φ' φ'' → FormM φ'' y dx od r → Q (.ref y) m ((dx, od) :: (c, oC) :: μ') φ'') →
      H (model prog w) A h₀ L (eval elt (compEnvC scope cl c env)) m ((c, oC) :: μ') φ' Q)
    (end' : ∀ D ys ds φ', Sub φ φ' → FormsM φ' ys ds rows → fin D ys m (ds ++ μ) φ') : CompOver prog w A h₀ L env scope cl x [] elt fin xv m μ φ := by
  have hl := hP.length
  refine ⟨vs.length, _, fun i ys μ' φ' => ∃ ds, μ' = ds ++ μ ∧ FormsM φ' ys ds (rows.take i), src, hz, ⟨[], rfl, .nil⟩, fun i ys v c oC m₂ μ' φ' b hi hv hI hN hx => ?_, fun D ys μ' φ' b hI => ?_⟩
  · obtain ⟨ds, rfl, hM⟩ := hI
    obtain ⟨r, hr, pv⟩ := hP.get hv
    have e : rows.take (i + 1) = rows.take i ++ [r] := by rw [List.take_add_one, hr]; rfl
    refine CompTurn.plain (H_endPerm (turn v r c oC m₂ _ φ' _ b (List.mem_of_getElem? hr) (pv.mono b) hN hx fun y dx od φ'' b' hF => ?_))
    exact ⟨_, perm_end _ _ _ _, rfl, _, rfl, _, rfl, by rw [e]; exact (hM.mono b').snoc hF⟩
  · obtain ⟨ds, rfl, hM⟩ := hI
    rw [hl, List.take_length] at hM
    exact end' D ys ds φ' b hM
theorem CompOver.formsIf {scope : Scope} {cl : List (Str × Addr)} {x : Str} {elt t : Expr} {fin : Addr → List Value → Loc → Led → Led → Prop} {xv : Value} {vs : List Value} {rows : List Row} (p : Row → Bool)
    (src : Src prog w A φ xv vs.length (fun i v => vs[i]? = some v)) (hz : vs.length ≤ sizeLine) (hP : AllR (fun v r => PIn φ v (rowP r)) vs rows)
    (test : ∀ v r c oC m₂ (ds : Led) φ', Sub φ φ' → r ∈ rows → PIn φ' v (rowP r) → LCg.NsObj oC m₂ → m₂ x = some v → H (model prog w) A h₀ L (isTrue t (compEnvC scope cl c env) (eval t (compEnvC scope cl c env))) m ((c, oC) :: (ds ++ μ)) φ' (fun ok m'' μ'' φ'' => ok = p r ∧ m'' = m ∧ μ'' = (c, oC) :: (ds ++ μ)))
    (turn : ∀ v r c oC m₂ μ' φ' Q, Sub φ φ' → r ∈ rows → PIn φ' v (rowP r) → LCg.NsObj oC m₂ → m₂ x = some v → (∀ y dx od φ'', Sub φ' φ'' → FormM φ'' y dx od r → Q (.ref y) m ((dx, od) :: (c, oC) :: μ') φ'') →
      H (model prog w) A h₀ L (eval elt (compEnvC scope cl c env)) m ((c, oC) :: μ') φ' Q)
    (end' : ∀ D ys ds φ', Sub φ φ' → FormsM φ' ys ds (rows.filter p) → fin D ys m (ds ++ μ) φ') : CompOver prog w A h₀ L env scope cl x [t] elt fin xv m μ φ := by
  have hl := hP.length
  refine ⟨vs.length, _, fun i ys μ' φ' => ∃ ds, μ' = ds ++ μ ∧ FormsM φ' ys ds ((rows.take i).filter p), src, hz, ⟨[], rfl, .nil⟩, fun i ys v c oC m₂ μ' φ' b hi hv hI hN hx => ?_, fun D ys μ' φ' b hI => ?_⟩
  · obtain ⟨ds, rfl, hM⟩ := hI
    obtain ⟨r, hr, pv⟩ := hP.get hv
    have e : rows.take (i + 1) = rows.take i ++ [r] := by rw [List.take_add_one, hr]; rfl
    refine CompTurn.one (H_mono (test v r c oC m₂ _ φ' b (List.mem_of_getElem? hr) (pv.mono b) hN hx) fun ok m' μ' φ2 b2 q => ?_)
    obtain ⟨hok, rfl, rfl⟩ := q
    cases ok with
    | true =>
      rw [if_pos rfl]
      refine H_endPerm (turn v r c oC m₂ _ φ2 _ (fun p hp => b2 p (b p hp)) (List.mem_of_getElem? hr) ((pv.mono b).mono b2) hN hx fun y dx od φ'' b' hF => ?_)
      refine ⟨_, perm_end _ _ _ _, rfl, _, rfl, _, rfl, ?_⟩
      rw [e, List.filter_append, show [r].filter p = [r] by simp [← hok]]
      exact (hM.mono fun p hp => b' p (b2 p hp)).snoc hF
    | false =>
      rw [if_neg (by simp)]
      refine ⟨rfl, _, rfl, _, rfl, ?_⟩
      rw [e, List.filter_append, show [r].filter p = [] by simp [← hok], List.append_nil]
      exact hM.mono b2
  · obtain ⟨ds, rfl, hM⟩ := hI
    rw [hl, List.take_length] at hM
    exact end' D ys ds φ' b hM
end
-- C9
theorem Sub.tr {a b c : Led} (h : Sub a b) (k : Sub b c) : Sub a c := fun p hp => k p (h p hp)
theorem Sub.tl {a b : Led} {p : Addr × Obj} (h : Sub a b) : Sub a (p :: b) := fun q hq => .tail _ (h q hq)
theorem Sub.rf {a : Led} : Sub a a := fun _ h => h
def upTo (n : Nat) : List Int := (List.range n).map fun i : Nat => (i : Int)
theorem upTo_of {φ : Led} {ns : List Value} {n : Nat} (h : AllR (fun v (z : Nat) => PIn φ v (.int (z : Int))) ns (List.range n)) : PAll φ ns ((upTo n).map .int) := by
  have := (h.map (R := fun v (z : Int) => PIn φ v (.int z)) (f := fun i : Nat => (i : Int))).pMap
  exact this
theorem range_of {φ : Led} {vs : List Value} {n : Nat} (hl : vs.length = n) (h : ∀ (j : Nat) (v : Value), vs[j]? = some v → ∃ t, v = .int (0 + (j : Int)) t) : PAll φ vs ((upTo n).map .int) := by
  refine AllR.pAll (allR_of (by simpa [upTo] using hl) fun j v d hv hd => ?_)
  obtain ⟨t, rfl⟩ := h j v hv
  unfold upTo at hd
  rw [List.getElem?_map, List.getElem?_map] at hd
  cases e : (List.range n)[j]? with
  | none => rw [e] at hd; cases hd
  | some k =>
    rw [e] at hd
    obtain ⟨_, rfl⟩ := List.getElem?_eq_some_iff.mp e
    simp only [Option.map_some, Option.some.injEq, List.getElem_range] at hd
    subst hd
    rw [show (0 : Int) + (j : Int) = (j : Int) by omega]
    exact .int _ _
theorem codesEnc : Enc (fun c : List Int => intsP c) (fun _ => True) 1 := by
  have := Enc.int.tuple
  exact ⟨this.eqv, fun a _ => this.lay a fun _ _ => trivial, this.dep⟩
theorem spanEnc : Enc (fun cs : List (List Int) => PyData.list (cs.map intsP)) (fun _ => True) 2 := by
  have := codesEnc.list
  exact ⟨this.eqv, fun a _ => this.lay a fun _ _ => trivial, this.dep⟩
set_option maxHeartbeats 8000000
local macro_rules | `(tactic| k_qdec) => `(tactic| decide +kernel)
local macro_rules | `(tactic| walk_at "mem") => `(tactic| first
  | assumption
  | exact List.Mem.head _
  | (refine List.Mem.tail _ ?_; walk_at "mem")
  | (refine List.mem_append_left _ ?_; walk_at "mem")
  | (refine List.mem_append_right _ ?_; walk_at "mem"))
local macro_rules | `(tactic| walk_at "pin") => `(tactic| first
  | assumption
  | exact PIn.str _ _
  | exact PIn.int _ _
  | exact PIn.bool _
  | exact PAll.nil
  | (refine' PIn.tuple ?a ?b; (case a => walk_at "mem"); (case b => walk_at "pin"))
  | (refine' PIn.list ?a ?b; (case a => walk_at "mem"); (case b => walk_at "pin"))
  | (refine' PAll.cons ?a ?b; (case a | b => walk_at "pin")))
local macro_rules | `(tactic| walk_at "sub") => `(tactic| (intro p9 hp9; walk_at "mem"))
local macro_rules | `(tactic| walk_at "up") => `(tactic| first
  | exact fun _ => Up.head
  | (apply Up.tails; walk_at "up"))
local macro_rules | `(tactic| walk_at "H") => `(tactic| first
  | with_reducible first
    | refine' H_execs_cons ?_
    | refine' H_execs_nil ?_
    | refine' After.next ?_
    | refine' After.ret ?_
    | refine' H_Return_some ?_
    | refine' H_If ?_
    | (refine' H_int ?_; intro _)
    | (refine' H_str ?_; intro _)
    | refine' H_bool ?_
    | refine' H_BinOp ?_
    | refine' H_IfExp ?_
    | refine' H_Bool_one ?_
    | refine' H_And ?_
    | refine' H_Or ?_
    | refine' H_isTrue_not ?_
    | refine' H_isTrue_and_nil ?_
    | refine' H_isTrue_or_nil ?_
    | refine' H_isTrue_and ?_
    | refine' H_isTrue_or ?_
    | refine' H_truthy_bool ?_
    | refine' H_items_nil ?_
    | refine' H_Tuple ?_
    | refine' H_List ?_
    | refine' H_UnaryOp ?_
    | refine' H_assign_Name ?_
    | refine' TurnEnds.next_ ?_
    | refine' TurnEnds.ret_ ?_
    | (refine' H_neg ?_; intro _)
    | (refine' H_add ?_; intro _)
    | (refine' H_sub ?_; intro _)
    | refine' H_ge ?_
    | refine' H_Slice ?_
    | refine' H_evalPart_none ?_
    | refine' H_evalPart_some ?_
    | (show ∀ _ : Addr, _; intro _)
    | refine' H_inStr ?_
    | (refine' H_range1 ?_; intro _ _ _ _)
    | (refine' H_range2 ?_; intro _ _ _ _)
    | refine' H_eqStr ?_
    | refine' H_eqInt ?_
    | refine' H_neBool ?_
    | refine' H_Subscript ?_
    | refine' H_CallName ?_
    | refine' H_with_b0 ?_
    | refine' ite_tt ?_
    | refine' ite_ff ?_
  | ((with_reducible refine' H_local ?a ?b ?c ?d ?_ ?e); (case a | b | c => rfl); (case d => first | rfl | assumption | ((repeat (refine Eq.trans (upd_ne (by decide)) ?_)); first | rfl | assumption)); (case e => decide))
  | ((with_reducible refine' H_own ?a ?b ?c ?d ?e ?f ?_ ?g); (case a | b | c => rfl); (case d => walk_at "mem"); (case e | f => assumption); (case g => decide))
  | ((with_reducible refine' H_cell ?a ?b ?c ?d ?e ?_ ?g); (case a | b | c => rfl); (case d => walk_at "mem"); (case e => assumption); (case g => decide))
  | ((with_reducible refine' H_global (by assumption) ?a ?b ?c ?d ?_ ?e); (case a | b | c => rfl); (case d => k_is); (case e => decide))
  | ((with_reducible refine' H_builtin (by assumption) ?a ?b ?c ?d ?e ?f ?g ?_ ?i); (case a | b | c | d => rfl); (case e => k_is); (case f => boot_fast); (case g | i => decide))
  | ((with_reducible refine' H_Assign_Name ?_ ?hs); (case hs => rfl))
  | ((with_reducible refine' H_Assign_Attribute ?_ ?hs); (case hs => rfl))
  | ((with_reducible refine' H_Assign_Subscript ?_ ?hs); (case hs => rfl))
  | ((with_reducible refine' H_Expr ?_ ?hi ?hs); (case hi | hs => rfl))
  | ((with_reducible refine' H_store ?a ?b ?c ?_); (case a | b | c => rfl))
  | ((with_reducible refine' H_storeCell ?a ?b ?c ?d ?e ?_); (case a | b | c => rfl); (case d => walk_at "up"); (case e => assumption); intro _ _)
  | ((with_reducible refine' H_Compare ?_ ?hm); (case hm => with_unfolding_all rfl))
  | ((with_reducible refine' H_isTrue_Compare ?_ ?hm); (case hm => with_unfolding_all rfl))
  | ((with_reducible refine' H_items_cons ?_ ?he); (case he => rfl))
  | ((with_reducible refine' H_newTuple ?_ ?hz); (case hz => size_fits); intro _)
  | ((with_reducible refine' H_For ?_ ?hs); (case hs => (intro _; rfl)))
  | ((with_reducible refine' H_mod ?hb ?_); (case hb => decide); intro _)
  | ((with_reducible refine' H_fdiv ?hb ?hs ?_); (case hb | hs => decide); intro _)
  | ((with_reducible refine' H_sliceStr ?a ?b ?_ ?c ?e); (case a => walk_at "mem"); (case b => assumption); (case c => with_unfolding_all rfl); (case e => intro _; with_unfolding_all rfl); intro _)
  | ((with_reducible refine' H_clearM ?a ?_); (case a => walk_at "mem"))
  | ((with_reducible refine' H_appendM ?a ?b ?c ?_); (case a => walk_at "mem"); (case b | c => rfl))
  | ((with_reducible refine' H_clear1 ?a ?b ?_); (case a => walk_at "up"); (case b => assumption); intro _)
  | ((with_reducible refine' H_newDict (by assumption) ?_); intro _ _)
  | ((with_reducible refine' H_Attribute ?_ ?he); (case he => with_unfolding_all rfl))
  | ((with_reducible refine' H_MethodCall ?_ ?he); (case he => rfl))
  | ((with_reducible refine' H_with_K (by assumption) ?a ?_ ?b ?c); (case a => k_is); (case b | c => rfl))
  | ((with_reducible refine' H_with_K0 (by assumption) ?a ?_); (case a => k_is))
  | ((with_reducible refine' H_with_b ?_ ?b ?c); (case b | c => rfl))
  | ((with_reducible refine' H_with_t ?_ ?b ?c); (case b | c => rfl))
  | ((with_reducible refine' H_getAttr (by assumption) ?a ?b ?c ?d ?e ?f ?g ?i ?j ?_); (case a | b => walk_at "mem"); (case c => assumption); (case d | e | f | g => k_is); (case i => rfl); (case j => first | rfl | exact PIn.handed (by assumption)))
  | ((with_reducible refine' H_setAttr (by assumption) ?a ?b ?c ?d ?e ?f ?g ?i ?_); (case a => walk_at "mem"); (case b => walk_at "up"); (case c => first | exact Attrs.empty | assumption); (case d | e | f | g => k_is); (case i => first | decide | walk_at "o"); intro _ _)
  | ((with_reducible refine' H_getMethod (by assumption) ?a ?b ?c ?d ?e ?f ?g ?_); (case a | b => walk_at "mem"); (case c => assumption); (case d | e | f => k_is); (case g => rfl))
  | ((with_reducible refine' H_isTrue_plain ?_ ?he); (case he => rfl)))
local macro_rules | `(tactic| walk_at "Hs") => `(tactic| repeat' (walk_at "H"))
local macro_rules | `(tactic| walk_at "Hif") => `(tactic| repeat' ((fail_if_success (with_reducible refine' H_isIf ?_)); walk_at "H"))
local macro_rules | `(tactic| walk_at "room") => `(tactic| (unfold recursionLimit; walk_at "o"))
local macro_rules | `(tactic| walk_at "bind") => `(tactic| first | exact BindsTo.of_eq rfl | exact binds_K (by assumption) rfl (by k_is) rfl rfl rfl)
local macro_rules | `(tactic| walk_at "enter") => `(tactic| (
  (with_reducible refine' H_call (by assumption) ?ho ?hcd ?hroom ?hbind ?hloc ?_ ?c2 ?c3 ?c4 ?c5); (case ho | hcd => k_is); (case hroom => walk_at "room");
  (case hbind => (intro _ _; walk_at "bind")); (case c5 => decide); (case hloc => exact locs rfl); (case c2 | c3 | c4 => exact rfl)))
local macro_rules | `(tactic| walk_at "comp") => `(tactic| (
  (with_reducible refine' H_ListComp ?a ?b ?c ?d ?e ?_ ?f); (case a => rfl); (case b => decide); (case c => rfl); (case d => decide); (case e => rfl); (case f => (intro _; rfl))))
local macro_rules | `(tactic| walk_at "acomp") => `(tactic| (
  (with_reducible refine' H_Assign_ListComp ?a ?b ?c ?d ?e ?f ?g ?i ?j ?_ ?k); (case a | b | c | d => rfl); (case e => decide); (case f => rfl); (case g => decide); (case i | j => rfl); (case k => (intro _; rfl))))
local macro_rules | `(tactic| walk_at "make") => `(tactic| (
  (with_reducible refine' H_make (by assumption) ?hm ?hi ?hf ?ho ?hcd ?hroom ?hbind ?hloc ?_ ?c2 ?c3 ?c4 ?c5); (case hm | hi | hf | ho | hcd => k_is); (case hroom => walk_at "room");
  (case hbind => (intro _ _ _; walk_at "bind")); (case c5 => decide); (case hloc => intro _; exact locs rfl); (case c2 | c3 | c4 => exact rfl)))
local macro_rules | `(tactic| walk_at "enterC") => `(tactic| (
  (with_reducible refine' H_callC (by assumption) ?ho ?hcd ?hroom ?hbind ?hkind ?hnd ?_ ?c2 ?c3 ?c4); (case ho | hcd => k_is); (case hroom => walk_at "room");
  (case hbind => (intro _ _; walk_at "bind")); (case hkind => exact rfl); (case hnd => decide +kernel); (case c2 | c3 | c4 => exact rfl)))
-- K1
section
variable {prog : Program} {w : World} {A : Around} {h₀ : Heap} {L : Addr} {m : Loc} {μ φ R : Led} {env : Env} {d u : Nat}
theorem line_of {k : Str} (hk : k ∈ kindsAll) : k.length ≤ sizeLine := Nat.le_trans (kinds_ok k hk).2 (by decide)
theorem is_fixed_spec {k : Str} {t : Tok} (C : Cx (Mine.hd.heap_1 w.params) A h₀ L d u) (hd : d ≤ 700) (hu : u ≤ 2000) (hk : k ∈ kindsAll) :
   PureC (model prog w) A h₀ L (call (.ref 106) [.str k t]) m φ (fun v φ' => v = .bool (isFixed k)) := by
  unfold PureC
  walk_at "enter"
  intro g9 L9 C9
  walk_at "Hs"
  refine H_inTuple (ys := fixedKinds) (x := k) Enc.str (by assumption) (by unfold cLine; walk_at "o") (.str _ _) (.tuple (.head _) (.cons (.str _ _) (.cons (.str _ _) (.cons (.str _ _) (.cons (.str _ _) (.cons (.str _ _) (.cons (.str _ _) .nil))))))) (kinds_ok k hk).1 (by decide +kernel) ?_
  exact ⟨rfl, rfl, rfl⟩
theorem is_immediate_spec {k : Str} {t : Tok} (C : Cx (Mine.hd.heap_1 w.params) A h₀ L d u) (hd : d ≤ 700) (hu : u ≤ 2000) :
   PureC (model prog w) A h₀ L (call (.ref 113) [.str k t]) m φ (fun v φ' => v = .bool (isImm k)) := by
  unfold PureC
  walk_at "enter"
  intro g9 L9 C9
  walk_at "Hs"
  exact ⟨rfl, rfl, rfl⟩
theorem is_relative_spec {k : Str} {t : Tok} (C : Cx (Mine.hd.heap_1 w.params) A h₀ L d u) (hd : d ≤ 700) (hu : u ≤ 2000) (hk : k ∈ kindsAll) :
   PureC (model prog w) A h₀ L (call (.ref 120) [.str k t]) m φ (fun v φ' => v = .bool (isRel k)) := by
  have hz := line_of hk
  unfold PureC
  walk_at "enter"
  intro g9 L9 C9
  walk_at "Hs"
  exact ⟨rfl, rfl, rfl⟩
theorem takes_memory_spec {k : Str} {t : Tok} (C : Cx (Mine.hd.heap_1 w.params) A h₀ L d u) (hd : d ≤ 700) (hu : u ≤ 2000) (hk : k ∈ kindsAll) :
   PureC (model prog w) A h₀ L (call (.ref 127) [.str k t]) m φ (fun v φ' => v = .bool (isMem k)) := by
  have hz := line_of hk
  unfold PureC
  walk_at "enter"
  intro g9 L9 C9
  walk_at "Hs"
  refine ite_go (fun h1 => ?_) (fun h1 => ?_)
  · refine ⟨rfl, rfl, ?_⟩
    show Value.bool _ = _
    unfold isMem; simp only [decide_eq_true_eq] at h1; simp [h1]
  · walk_at "Hs"
    refine ite_go (fun h2 => ?_) (fun h2 => ?_)
    · refine ⟨rfl, rfl, ?_⟩
      show Value.bool _ = _
      unfold isMem; simp only [decide_eq_true_eq] at h2; simp [h2]
    · walk_at "Hs"
      refine ⟨rfl, rfl, ?_⟩
      show Value.bool _ = _
      unfold isMem; simp only [decide_eq_true_eq] at h1 h2; simp [h1, h2]
theorem slot_of_spec {k : Str} {t : Tok} (C : Cx (Mine.hd.heap_1 w.params) A h₀ L d u) (hd : d ≤ 690) (hu : u ≤ 1900) (hk : k ∈ kindsAll) :
   PureC (model prog w) A h₀ L (call (.ref 141) [.str k t]) m φ (fun v φ' => ∃ t, v = .str (slotF k) t) := by
  have hz := line_of hk
  unfold PureC
  walk_at "enter"
  intro g9 L9 C9
  walk_at "Hs"
  refine H_use (is_fixed_spec (by assumption) (by walk_at "o") (by walk_at "o") hk) fun v φ' b e => ?_
  subst e
  walk_at "Hs"
  refine ite_go (fun h1 => ?_) (fun h1 => ?_)
  · walk_at "Hs"
    exact ⟨rfl, rfl, _, by unfold slotF; rw [h1]; rfl⟩
  · walk_at "Hs"
    refine ite_go (fun h2 => ?_) (fun h2 => ?_)
    · walk_at "Hs"
      exact ⟨rfl, rfl, _, by unfold slotF; rw [h2]; simp; rfl⟩
    · have e1 : (isFixed k || decide (k = ofs "one")) = false := by
        rw [Bool.or_eq_false_iff]; exact ⟨by simpa using h1, by simpa using h2⟩
      walk_at "Hs"
      refine H_use (is_immediate_spec (by assumption) (by walk_at "o") (by walk_at "o")) fun v φ' b e => ?_
      subst e
      walk_at "Hs"
      refine ite_go (fun h3 => ?_) (fun h3 => ?_)
      · walk_at "Hs"
        exact ⟨rfl, rfl, _, by unfold slotF; rw [e1, h3]; rfl⟩
      · walk_at "Hs"
        refine H_use (is_relative_spec (by assumption) (by walk_at "o") (by walk_at "o") hk) fun v φ' b e => ?_
        subst e
        walk_at "Hs"
        refine ite_go (fun h4 => ?_) (fun h4 => ?_)
        · walk_at "Hs"
          exact ⟨rfl, rfl, _, by unfold slotF; rw [e1, h4]; simp [h3]; rfl⟩
        · walk_at "Hs"
          refine H_use (takes_memory_spec (by assumption) (by walk_at "o") (by walk_at "o") hk) fun v φ' b e => ?_
          subst e
          walk_at "Hs"
          refine ite_go (fun h5 => ?_) (fun h5 => ?_)
          · walk_at "Hs"
            exact ⟨rfl, rfl, _, by unfold slotF; rw [e1, h5]; simp [h3, h4]; rfl⟩
          · walk_at "Hs"
            refine ite_go (fun h6 => ?_) (fun h6 => ?_)
            · walk_at "Hs"
              exact ⟨rfl, rfl, _, by unfold slotF; rw [e1]; simp at h6; simp [h3, h4, h5, h6]; rfl⟩
            · walk_at "Hs"
              exact ⟨rfl, rfl, _, by unfold slotF; rw [e1]; simp at h6; simp [h3, h4, h5, h6]; rfl⟩
theorem kind_size_spec {k : Str} {t : Tok} (C : Cx (Mine.hd.heap_1 w.params) A h₀ L d u) (hd : d ≤ 690) (hu : u ≤ 1900) (hk : k ∈ kindsAll) (hm : isMem k = true) :
   PureC (model prog w) A h₀ L (call (.ref 134) [.str k t]) m φ (fun v φ' => ∃ t, v = .int (sizeF k) t) := by
  have hz := line_of hk
  unfold PureC
  walk_at "enter"
  intro g9 L9 C9
  walk_at "Hs"
  refine H_inTuple (ys := [ofs "m", ofs "one"]) (x := k) Enc.str (by assumption) (by unfold cLine; walk_at "o") (.str _ _) (.tuple (.head _) (.cons (.str _ _) (.cons (.str _ _) .nil))) (kinds_ok k hk).1 (by decide +kernel) ?_
  walk_at "Hs"
  rcases mem_kinds k hk hm with rfl | ⟨f0, f1, f2, f3, f4, f5, f6, f7⟩
  · refine ite_yes (by decide +kernel) ?_
    walk_at "Hs"
    exact ⟨rfl, rfl, _, rfl⟩
  · refine ite_no f1 ?_
    walk_at "Hs"
    refine H_use (is_immediate_spec (by assumption) (by walk_at "o") (by walk_at "o")) fun v φ' b e => ?_
    subst e
    walk_at "Hs"
    refine ite_no f2 ?_
    walk_at "Hs"
    refine H_use (is_relative_spec (by assumption) (by walk_at "o") (by walk_at "o") hk) fun v φ' b e => ?_
    subst e
    walk_at "Hs"
    refine ite_no f3 ?_
    walk_at "Hs"
    refine H_use (is_fixed_spec (by assumption) (by walk_at "o") (by walk_at "o") hk) fun v φ' b e => ?_
    subst e
    walk_at "Hs"
    refine ite_no f4 ?_
    walk_at "Hs"
    refine ite_no f5 ?_
    walk_at "Hs"
    refine H_lstripM ?_
    walk_at "Hs"
    refine H_lstrip hz fun t => ?_
    walk_at "Hs"
    refine H_intText f6 f7 fun t => ?_
    walk_at "Hs"
    exact ⟨rfl, rfl, _, rfl⟩
end
-- K2
section
variable {prog : Program} {w : World} {A : Around} {h₀ : Heap} {L : Addr} {m : Loc} {μ φ R : Led} {env : Env} {d u : Nat}
theorem law_form_spec {v : Value} {r : Row} {Q : Value → Loc → Led → Led → Prop} (C : Cx (Mine.hd.heap_1 w.params) A h₀ L d u) (hd : d ≤ 680) (hu : u ≤ 1800) (hr : RowOk r) (hv : PIn φ v (rowP r))
   (h : ∀ x dx od φ', Sub φ φ' → FormM φ' x dx od r → Q (.ref x) m ((dx, od) :: μ) φ') : H (model prog w) A h₀ L (call (.ref 217) [v]) m μ φ Q := by
  walk_at "enter"
  intro g9 L9 C9
  walk_at "Hs"
  refine H_itemTupP hv (by decide) (by decide) rfl (fun v0 p0 => ?_)
  walk_at "Hs"
  refine H_itemTupP hv (by decide) (by decide) rfl (fun v1 p1 => ?_)
  walk_at "Hs"
  refine H_itemTupP hv (by decide) (by decide) rfl (fun v2 p2 => ?_)
  walk_at "Hs"
  refine H_itemTupP hv (by decide) (by decide) rfl (fun v3 p3 => ?_)
  walk_at "Hs"
  refine H_itemTupP hv (by decide) (by decide) rfl (fun v4 p4 => ?_)
  walk_at "Hs"
  refine H_itemTupP hv (by decide) (by decide) rfl (fun v5 p5 => ?_)
  walk_at "Hs"
  refine H_itemTupP hv (by decide) (by decide) rfl (fun v6 p6 => ?_)
  walk_at "Hs"
  refine H_itemTupP hv (by decide) (by decide) rfl (fun v7 p7 => ?_)
  walk_at "Hs"
  walk_at "make"
  intro x dx A9 g9 L9 C9
  walk_at "Hs"
  refine H_tupleSame (p1.mono (fun _ h => .tail _ h)) ?_
  walk_at "Hs"
  walk_at "comp"
  walk_at "Hs"
  obtain ⟨ks, hkl, hks, src⟩ := Src.ofTup (prog := prog) (w := w) (A := A9) C9.hh (p1.mono (φ' := (x, instObj 199 dx) :: φ) fun _ h => .tail _ h)
  have hk3 : ks.length ≤ sizeLine := by rw [hkl, List.length_map]; exact Nat.le_trans ((by decide +kernel : ∀ ks ∈ kindsTab, ks.length ≤ 3) _ hr.kinds) (by decide)
  refine CompOver.map (as := r.kinds) (S := fun φ v k => PIn φ v (.str k)) (T := fun φ v k => PIn φ v (.str k)) slotF src hk3 hks.unMap (fun _ _ _ _ b h => h.mono b) (fun _ _ _ _ b h => h.mono b) (fun v k c oC m₂ φ' b hk hv hN hx => ?_) (fun D ys φ' b hY => ?_)
  · have hk' := kinds_tab _ hr.kinds k hk
    cases hv with
    | str k t =>
      walk_at "Hs"
      refine H_use (slot_of_spec (by assumption) (by walk_at "o") (by walk_at "o") hk') fun v φ' b e => ?_
      obtain ⟨t, rfl⟩ := e
      exact ⟨rfl, rfl, .str _ _⟩
  · walk_at "Hs"
    have hyl : ys.length ≤ sizeLine := by
      have := hY.length
      rw [List.length_map] at this hkl
      walk_at "o"
    refine H_tupleOf (List.mem_append_left _ (.head _)) hyl fun Dt => ?_
    walk_at "Hs"
    refine H_forget (List.sublist_cons_self ..) ?_
    have hx' : (x, instObj 199 dx) ∈ φ' := b _ (.head _)
    walk_at "Hs"
    refine ⟨rfl, ?_⟩
    walk_at "Hs"
    refine h x dx _ _ (fun p hp => .tail _ (b _ (.tail _ hp))) ⟨⟨v0, v1, v2, v3, v4, v5, v6, v7, .int (-1) _, .ref Dt⟩, _, ?_, .tail _ hx', by assumption, ?_⟩
    · decide
    · have B : Sub φ ((Dt, tupO ys) :: φ') := fun p hp => .tail _ (b _ (.tail _ hp))
      exact ⟨p0.mono B, p1.mono B, p2.mono B, p3.mono B, p4.mono B, p5.mono B, p6.mono B, p7.mono B, .tuple (.head _) ((hY.pMap).mono fun _ h => .tail _ h)⟩
end
-- K3
section
variable {prog : Program} {w : World} {A : Around} {h₀ : Heap} {L : Addr} {m : Loc} {μ φ R : Led} {env : Env} {d u : Nat}
theorem has_plus_spec {v : Value} {r : Row} {n : Int} (C : Cx (Mine.hd.heap_1 w.params) A h₀ L d u) (hd : d ≤ 680) (hu : u ≤ 1800) (hr : RowOk r) (hv : FormAt φ v r n) :
   PureC (model prog w) A h₀ L (call (.ref 182) [v]) m φ (fun v φ' => v = .bool (plusB r)) := by
  obtain ⟨x, dx, od, a, k, rfl, h1, h2, h3, h4, h5⟩ := hv.ex
  obtain ⟨an, ak, ao, ae, ad, as, am, aw, anum, ap⟩ := a
  have pp := h4.p
  unfold PureC
  walk_at "enter"
  intro g9 L9 C9
  walk_at "Hs"
  refine H_inTuple (ys := r.kinds.map slotF) (x := ofs "plus") Enc.str (by assumption) (by unfold cLine; walk_at "o") (.str _ _) pp (by decide +kernel) (fun y hy => ?_) ?_
  · obtain ⟨k, hk, rfl⟩ := List.mem_map.mp hy
    exact (by decide +kernel : ∀ y ∈ [ofs "fixed", ofs "imm", ofs "rel", ofs "rm", ofs "plus", ofs "reg"], PyData.strOk y = true) _ (slot_is k (kinds_tab _ hr.kinds k hk))
  · walk_at "Hs"
    exact ⟨rfl, rfl, rfl⟩
theorem told_spec {v : Value} {r : Row} {n : Int} (C : Cx (Mine.hd.heap_1 w.params) A h₀ L d u) (hd : d ≤ 680) (hu : u ≤ 1800) (hv : FormAt φ v r n) :
   PureC (model prog w) A h₀ L (call (.ref 161) [v]) m φ (fun v φ' => PIn φ' v (rowP r)) := by
  obtain ⟨x, dx, od, a, k, rfl, h1, h2, h3, h4, h5⟩ := hv.ex
  obtain ⟨an, ak, ao, ae, ad, as, am, aw, anum, ap⟩ := a
  obtain ⟨q1, q2, q3, q4, q5, q6, q7, q8, q9⟩ := h4
  unfold PureC
  walk_at "enter"
  intro g9 L9 C9
  walk_at "Hs"
  exact ⟨rfl, rfl, .tuple (.head _) (PAll.mono (fun _ h => .tail _ h) (.cons q1 (.cons q2 (.cons q3 (.cons q4 (.cons q5 (.cons q6 (.cons q7 (.cons q8 .nil)))))))))⟩
theorem memory_size_spec {v : Value} {r : Row} {n : Int} (C : Cx (Mine.hd.heap_1 w.params) A h₀ L d u) (hd : d ≤ 680) (hu : u ≤ 1800) (hr : RowOk r) (hv : FormAt φ v r n) :
   PureC (model prog w) A h₀ L (call (.ref 189) [v]) m φ (fun v φ' => ∃ t, v = .int (memF r) t) := by
  obtain ⟨x, dx, od, a, k, rfl, h1, h2, h3, h4, h5⟩ := hv.ex
  obtain ⟨an, ak, ao, ae, ad, as, am, aw, anum, ap⟩ := a
  obtain ⟨q1, q2, q3, q4, q5, q6, q7, q8, q9⟩ := h4
  unfold PureC
  walk_at "enter"
  intro g9 L9 C9
  walk_at "Hs"
  obtain ⟨ks, hkl, hks, src⟩ := Src.ofTup (prog := prog) (w := w) (A := _) C9.hh q2
  have hU := hks.unMap
  refine LoopFor.mk' (fun i m' μ' φ' => μ' = [] ∧ ∀ j k, j < i → r.kinds[j]? = some k → isMem k = false) src ⟨rfl, fun j k hj => absurd hj (by walk_at "o")⟩ (fun i v m' μ' φ' b hi hv hI => ?_) (fun m' μ' φ' b hI => ?_)
  · obtain ⟨rfl, hno⟩ := hI
    obtain ⟨k, hk, pv⟩ := hU.get hv
    have hk' := kinds_tab _ hr.kinds k (List.mem_of_getElem? hk)
    cases pv with
    | str k t =>
      walk_at "Hs"
      refine H_use (takes_memory_spec (by assumption) (by walk_at "o") (by walk_at "o") hk') fun v φ' b e => ?_
      subst e
      walk_at "Hs"
      refine ite_go (fun h => ?_) (fun h => ?_)
      · walk_at "Hs"
        refine H_use (kind_size_spec (by assumption) (by walk_at "o") (by walk_at "o") hk' h) fun v φ' b e => ?_
        obtain ⟨t, rfl⟩ := e
        walk_at "Hs"
        exact ⟨rfl, rfl, _, by rw [memF_some hk h hno]⟩
      · walk_at "Hs"
        refine ⟨rfl, fun j k' hj hk2 => ?_⟩
        by_cases e : j < i
        · exact hno j k' e hk2
        · obtain rfl : j = i := by walk_at "o"
          rw [hk] at hk2
          cases hk2
          simpa using h
  · obtain ⟨rfl, hno⟩ := hI
    walk_at "Hs"
    have e := memF_none (r := r) fun k hk => by
      obtain ⟨j, hj, e⟩ := List.mem_iff_getElem.mp hk
      rw [List.length_map] at hkl
      exact hno j k (by walk_at "o") (by rw [List.getElem?_eq_getElem hj, e])
    exact ⟨rfl, rfl, _, by rw [e]⟩
theorem codes_of_spec {v : Value} {r : Row} {n : Int} (C : Cx (Mine.hd.heap_1 w.params) A h₀ L d u) (hd : d ≤ 670) (hu : u ≤ 1700) (hr : RowOk r) (hv : FormAt φ v r n) :
   PureC (model prog w) A h₀ L (call (.ref 26) [v]) m φ (fun v φ' => PL φ' v intsP (codesF r)) := by
  unfold PureC
  have hv' := hv
  obtain ⟨x, dx, od, a, k, rfl, h1, h2, h3, h4, h5⟩ := hv.ex
  obtain ⟨an, ak, ao, ae, ad, as, am, aw, anum, ap⟩ := a
  obtain ⟨q1, q2, q3, q4, q5, q6, q7, q8, q9⟩ := h4
  walk_at "enterC"
  intro g9 L9 cells9 C9 Y9
  obtain ⟨oc, rfl, hoc⟩ := cells_one (x := ofs "form") (a := L9 + 1) Y9
  have hoc : oc.data = .cell (some (.ref x)) := hoc
  show H _ _ _ _ _ _ ((L9 + 1, oc) :: []) φ _
  refine H_freeze ?_
  refine H_end_freezeAll ?_
  walk_at "Hs"
  refine H_use (has_plus_spec (by assumption) (by walk_at "o") (by walk_at "o") hr (hv'.mono fun _ h => .tail _ h)) fun v φ' b e => ?_
  subst e
  have b1 : Sub φ φ' := fun p hp => b p (.tail _ hp)
  have g0 : (L9 + 1, oc) ∈ φ' := b _ (.head _)
  have g1 := b1 _ h1
  have g2 := b1 _ h2
  walk_at "Hs"
  refine ite_go (fun h => ?_) (fun h => ?_)
  · walk_at "Hs"
    refine H_newListF (fun a => ?_) (by size_fits)
    walk_at "Hs"
    refine ⟨[], [], rfl, [], .refl _, rfl, rfl, ?_⟩
    have e : codesF r = [[r.must, r.escape, r.opcode]] := by unfold codesF; rw [if_neg (by simpa using h)]
    rw [e]
    refine .list (.head _) (.cons (.tuple (.tail _ (.head _)) (PAll.mono (fun p hp => .tail _ (.tail _ (b1 p hp))) (.cons q7 (.cons q4 (.cons q3 .nil))))) .nil)
  · walk_at "Hs"
    walk_at "comp"
    walk_at "Hs"
    refine CompOver.mapG (as := List.range 8) (T := fun φ v c => PIn φ v (intsP c)) (fun i : Nat => [r.must, r.escape, r.opcode + (i : Int)]) (Src.range (prog := prog) (w := w) C9.hh (.head _) (range_small (by walk_at "o") (by walk_at "o") (by walk_at "o") (by walk_at "o")) (range_size (n := 8) (by walk_at "o"))) (by decide) (by decide) (fun _ _ _ _ b h => h.mono b) (fun i v a c oC m₂ φ2 b2 ha hP hN hx => ?_) (fun D ys φ2 b2 hY => ?_)
    · obtain ⟨t, rfl⟩ := hP
      obtain rfl : i = a := by
        have := List.getElem?_eq_some_iff.mp ha
        obtain ⟨h1, h2⟩ := this
        simpa using h2
      have g0 := b2 _ (.tail _ g0)
      have g1 := b2 _ (.tail _ g1)
      have g2 := b2 _ (.tail _ g2)
      have B : Sub φ φ2 := fun p hp => b2 p (.tail _ (b1 p hp))
      have q7 := q7.mono B
      have q4 := q4.mono B
      have q3 := q3.mono B
      have hoo : ∃ o, ao = .int r.opcode o := by cases q3; exact ⟨_, rfl⟩
      obtain ⟨o, rfl⟩ := hoo
      walk_at "Hs"
      refine ⟨rfl, rfl, .tuple (.head _) (PAll.mono (fun p hp => .tail _ hp) (.cons q7 (.cons q4 (.cons ?_ .nil))))⟩
      show PIn _ _ (.int (r.opcode + (i : Int)))
      rw [show r.opcode + (i : Int) = r.opcode + (0 + (i : Int)) by walk_at "o"]
      exact .int _ _
    · walk_at "Hs"
      refine ⟨[_], [], rfl, [], .refl _, rfl, rfl, ?_⟩
      have e : codesF r = (List.range 8).map (fun i : Nat => [r.must, r.escape, r.opcode + (i : Int)]) := by unfold codesF; rw [if_pos (by simpa using h)]
      rw [e]
      exact .list (.head _) (hY.pMap.mono fun _ h => .tail _ h)
end
-- K4
theorem map_at {α β : Type} {l : List α} {f : α → β} {i : Nat} (d : α) (h : i < l.length) : (l.map f)[i]? = some (f (l.getD i d)) := by rw [List.getElem?_map, getD_some d h]; rfl
section
variable {prog : Program} {w : World} {A : Around} {h₀ : Heap} {L : Addr} {m : Loc} {μ φ R : Led} {env : Env} {d u : Nat}
theorem fields_spec {c : Int} {t : Tok} (C : Cx (Mine.hd.heap_1 w.params) A h₀ L d u) (hd : d ≤ 680) (hu : u ≤ 1800) :
   PureC (model prog w) A h₀ L (call (.ref 210) [.int c t]) m φ (fun v φ' => PIn φ' v (rowP (rowOf c))) := by
  have hr := rowOf_ok c
  unfold PureC
  walk_at "enter"
  intro g9 L9 C9
  walk_at "Hs"
  have f1 := fmod_at c (n := 5) (by walk_at "o")
  refine H_itemTupP (ds := namesTab.map .str) (.tuple (.head _) (.cons (.str _ _) (.cons (.str _ _) (.cons (.str _ _) (.cons (.str _ _) (.cons (.str _ _) .nil)))))) f1.1 (by walk_at "o") (map_at (ofs "mov") (by show _ < 5; walk_at "o")) (fun vn pn => ?_)
  walk_at "Hs"
  have f2 := fmod_at (c.fdiv 5) (n := 10) (by walk_at "o")
  refine H_itemTupP (ds := kindsTab.map fun ks => .tuple (ks.map .str)) (d := .tuple ((kOf c).map .str)) ?pk f2.1 (by walk_at "o") (map_at (f := fun ks : List Str => PyData.tuple (ks.map .str)) [] (by show _ < 10; walk_at "o")) (fun vk pk => ?_)
  case pk => walk_at "pin"
  walk_at "Hs"
  have f3 := fmod_at ((c.fdiv 5).fdiv 10) (n := 7) (by walk_at "o")
  refine H_itemTupP (ds := opTab.map .int) (d := .int (oOf c)) (by walk_at "pin") f3.1 (by walk_at "o") (map_at 0 (by show _ < 7; walk_at "o")) (fun vo po => ?_)
  obtain ⟨o, rfl⟩ : ∃ o, vo = .int (oOf c) o := by cases po; exact ⟨_, rfl⟩
  walk_at "Hs"
  refine H_inTuple (x := ofs "o32") (ys := kOf c) Enc.str (by assumption) (by unfold cLine; walk_at "o") (.str _ _) (pk.mono (by walk_at "sub")) (by decide +kernel) (kinds_strOk hr) ?_
  walk_at "Hs"
  have f4 := fmod_at (((c.fdiv 5).fdiv 10).fdiv 7) (n := 4) (by walk_at "o")
  have f5 := fmod_at ((((c.fdiv 5).fdiv 10).fdiv 7).fdiv 8) (n := 3) (by walk_at "o")
  refine ite_go (fun h1 => ?_) (fun h1 => ?_)
  · walk_at "Hs"
    refine ite_go (fun h2 => ?_) (fun h2 => ?_)
    · have ho : (rowOf c).opcode = 64 := if_pos ⟨by simpa using h1, by simpa using h2⟩
      walk_at "Hs"
      refine H_itemTupP (ds := mustTab.map .int) (d := .int (rowOf c).must) (by walk_at "pin") f4.1 (by walk_at "o") (map_at 0 (by show _ < 4; walk_at "o")) (fun vm pm => ?_)
      walk_at "Hs"
      refine H_itemTupP (ds := sizeTab.map .int) (d := .int (rowOf c).size) (by walk_at "pin") f5.1 (by walk_at "o") (map_at 0 (by show _ < 3; walk_at "o")) (fun vs ps => ?_)
      walk_at "Hs"
      refine ⟨rfl, rfl, .tuple (.head _) (.cons (pn.mono (by walk_at "sub")) (.cons (pk.mono (by walk_at "sub")) (.cons ?_ (.cons (.int _ _) (.cons (.int _ _) (.cons (ps.mono (by walk_at "sub")) (.cons (pm.mono (by walk_at "sub")) (.cons (.bool _) .nil))))))))⟩
      rw [ho]; exact .int _ _
    · have ho : (rowOf c).opcode = oOf c := if_neg fun q => h2 (by simpa using q.2)
      walk_at "Hs"
      refine H_itemTupP (ds := mustTab.map .int) (d := .int (rowOf c).must) (by walk_at "pin") f4.1 (by walk_at "o") (map_at 0 (by show _ < 4; walk_at "o")) (fun vm pm => ?_)
      walk_at "Hs"
      refine H_itemTupP (ds := sizeTab.map .int) (d := .int (rowOf c).size) (by walk_at "pin") f5.1 (by walk_at "o") (map_at 0 (by show _ < 3; walk_at "o")) (fun vs ps => ?_)
      walk_at "Hs"
      refine ⟨rfl, rfl, .tuple (.head _) (.cons (pn.mono (by walk_at "sub")) (.cons (pk.mono (by walk_at "sub")) (.cons ?_ (.cons (.int _ _) (.cons (.int _ _) (.cons (ps.mono (by walk_at "sub")) (.cons (pm.mono (by walk_at "sub")) (.cons (.bool _) .nil))))))))⟩
      rw [ho]; exact .int _ _
  · have ho : (rowOf c).opcode = oOf c := if_neg fun q => h1 (by simpa using q.1)
    walk_at "Hs"
    refine H_itemTupP (ds := mustTab.map .int) (d := .int (rowOf c).must) (by walk_at "pin") f4.1 (by walk_at "o") (map_at 0 (by show _ < 4; walk_at "o")) (fun vm pm => ?_)
    walk_at "Hs"
    refine H_itemTupP (ds := sizeTab.map .int) (d := .int (rowOf c).size) (by walk_at "pin") f5.1 (by walk_at "o") (map_at 0 (by show _ < 3; walk_at "o")) (fun vs ps => ?_)
    walk_at "Hs"
    refine ⟨rfl, rfl, .tuple (.head _) (.cons (pn.mono (by walk_at "sub")) (.cons (pk.mono (by walk_at "sub")) (.cons ?_ (.cons (.int _ _) (.cons (.int _ _) (.cons (ps.mono (by walk_at "sub")) (.cons (pm.mono (by walk_at "sub")) (.cons (.bool _) .nil))))))))⟩
    rw [ho]; exact .int _ _
end
-- K5
section
variable {prog : Program} {w : World} {A : Around} {h₀ : Heap} {L : Addr} {m : Loc} {μ φ R : Led} {env : Env} {d u : Nat}
theorem span_spec {v : Value} {r : Row} (C : Cx (Mine.hd.heap_1 w.params) A h₀ L d u) (hd : d ≤ 680) (hu : u ≤ 1800) (hr : RowOk r) (hv : PIn φ v (rowP r)) :
   PureC (model prog w) A h₀ L (call (.ref 222) [v]) m φ (fun v φ' => PL φ' v intsP (spanF r)) := by
  unfold PureC
  walk_at "enterC"
  intro g9 L9 cells9 C9 Y9
  obtain ⟨oc, rfl, hoc⟩ := cells_one (x := ofs "row") (a := L9 + 1) Y9
  have hoc : oc.data = .cell (some v) := hoc
  show H _ _ _ _ _ _ ((L9 + 1, oc) :: []) φ _
  refine H_freeze ?_
  refine H_end_freezeAll ?_
  walk_at "Hs"
  refine H_itemTupP (hv.mono (by walk_at "sub")) (by decide) (by decide) rfl (fun vk pk => ?_)
  refine H_inTuple (x := ofs "o32") (ys := r.kinds) Enc.str (by assumption) (by unfold cLine; walk_at "o") (.str _ _) pk (by decide +kernel) (kinds_strOk hr) ?_
  walk_at "Hs"
  refine ite_go (fun h1 => ?_) (fun h1 => ?_)
  · walk_at "Hs"
    walk_at "comp"
    walk_at "Hs"
    obtain ⟨ks, hkl, hks, src⟩ := Src.ofTup (prog := prog) (w := w) (A := A.deeper _) (φ := _) (ds := (List.range 8).map fun i : Nat => PyData.int (i : Int)) C9.hh (PIn.tuple (.head _) (.cons (.int _ _) (.cons (.int _ _) (.cons (.int _ _) (.cons (.int _ _) (.cons (.int _ _) (.cons (.int _ _) (.cons (.int _ _) (.cons (.int _ _) .nil)))))))))
    refine CompOver.map (as := List.range 8) (S := fun φ v i => PIn φ v (.int ((i : Nat) : Int))) (T := fun φ v c => PIn φ v (intsP c)) (fun i : Nat => [r.must, r.escape, r.opcode + (i : Int)]) src (by rw [hkl]; decide) hks.allR.unmap (fun _ _ _ _ b h => h.mono b) (fun _ _ _ _ b h => h.mono b) (fun v' i c oC m₂ φ2 b2 hi hv' hN hx => ?_) (fun D ys φ2 b2 hY => ?_)
    · have g0 : (L9 + 1, oc) ∈ φ2 := b2 _ (.tail _ (.head _))
      have hv2 : PIn φ2 v (rowP r) := hv.mono fun p hp => b2 _ (.tail _ (.tail _ hp))
      obtain ⟨t, rfl⟩ : ∃ t, v' = .int (i : Int) t := by cases hv'; exact ⟨_, rfl⟩
      walk_at "Hs"
      refine H_itemTupP hv2 (by decide) (by decide) rfl (fun v1 p1 => ?_)
      walk_at "Hs"
      refine H_itemTupP hv2 (by decide) (by decide) rfl (fun v2 p2 => ?_)
      walk_at "Hs"
      refine H_itemTupP hv2 (by decide) (by decide) rfl (fun v3 p3 => ?_)
      obtain ⟨t3, rfl⟩ : ∃ t, v3 = .int r.opcode t := by cases p3; exact ⟨_, rfl⟩
      walk_at "Hs"
      exact ⟨rfl, rfl, .tuple (.head _) (.cons (p1.mono (by walk_at "sub")) (.cons (p2.mono (by walk_at "sub")) (.cons (.int _ _) .nil)))⟩
    · walk_at "Hs"
      refine ⟨[_], [], rfl, [], .refl _, rfl, rfl, ?_⟩
      have e : spanF r = (List.range 8).map (fun i : Nat => [r.must, r.escape, r.opcode + (i : Int)]) := if_pos (by simpa using h1)
      rw [e]
      exact .list (.head _) (hY.pMap.mono fun _ h => .tail _ h)
  · walk_at "Hs"
    refine H_itemTupP (hv.mono (by walk_at "sub")) (by decide) (by decide) rfl (fun v1 p1 => ?_)
    walk_at "Hs"
    refine H_itemTupP (hv.mono (by walk_at "sub")) (by decide) (by decide) rfl (fun v2 p2 => ?_)
    walk_at "Hs"
    refine H_itemTupP (hv.mono (by walk_at "sub")) (by decide) (by decide) rfl (fun v3 p3 => ?_)
    walk_at "Hs"
    refine H_newListF (fun a => ?_) (by size_fits)
    walk_at "Hs"
    refine ⟨[], [], rfl, [], .refl _, rfl, rfl, ?_⟩
    have e : spanF r = [[r.must, r.escape, r.opcode]] := if_neg (by simpa using h1)
    rw [e]
    refine .list (.head _) (.cons (.tuple (.tail _ (.head _)) (.cons (p1.mono (by walk_at "sub")) (.cons (p2.mono (by walk_at "sub")) (.cons (p3.mono (by walk_at "sub")) .nil)))) .nil)
theorem emptied_spec {a : Addr} {vs : List Value} {n : Nat} {Q : Value → Loc → Led → Led → Prop} (C : Cx (Mine.hd.heap_1 w.params) A h₀ L d u) (hd : d ≤ 680) (hu : u ≤ 1800) (hz : vs.length ≤ sizeLine)
   (h : ∀ φ', Sub φ φ' → Q (.bool true) m μ φ') :
   H (model prog w) A h₀ L (call (.ref 248) [.ref a]) m ((a, lstO vs n) :: μ) φ Q := by
  walk_at "enter"
  intro g9 L9 C9
  walk_at "Hs"
  refine H_freeze ?_
  refine H_newListF (fun a => ?_) (by size_fits)
  refine H_eqNil (by assumption) (by unfold cLine; walk_at "o") (.tail _ (.head _)) (.head _) ?_
  walk_at "Hs"
  exact h _ (by walk_at "sub")
end
-- K6
theorem op_small {r : Row} (h : RowOk r) : 0 ≤ r.opcode ∧ r.opcode ≤ 248 := (by decide : ∀ o ∈ [0, 64, 71, 72, 144, 240, 248], (0 : Int) ≤ o ∧ o ≤ 248) _ h.opcode
def cntF (rows : List Row) : List Int := rows.map fun r => (r.kinds.length : Int)
def countsF (rows : List Row) : List Int := ((List.range 5).filter fun k : Nat => decide ((k : Int) ∈ cntF rows)).map fun k : Nat => (k : Int)
section
variable {prog : Program} {w : World} {A : Around} {h₀ : Heap} {L : Addr} {m : Loc} {μ φ R : Led} {env : Env} {d u : Nat}
theorem law_counts_spec {v : Value} {rows : List Row} (C : Cx (Mine.hd.heap_1 w.params) A h₀ L d u) (hd : d ≤ 680) (hu : u ≤ 1800) (hr : ∀ r ∈ rows, RowOk r) (hz : rows.length ≤ 4) (hv : PL φ v rowP rows) :
   PureC (model prog w) A h₀ L (call (.ref 234) [v]) m φ (fun v φ' => PL φ' v PyData.int (countsF rows)) := by
  unfold PureC
  walk_at "enterC"
  intro g9 L9 cells9 C9 Y9
  obtain ⟨oc, rfl, hoc⟩ := cells_one (x := ofs "rows") (a := L9 + 1) Y9
  have hoc : oc.data = .cell (some v) := hoc
  show H _ _ _ _ _ _ ((L9 + 1, oc) :: []) φ _
  refine H_freeze ?_
  refine H_end_freezeAll ?_
  walk_at "Hs"
  walk_at "comp"
  walk_at "Hs"
  refine CompOver.filterG (as := List.range 5) (T := fun φ v (c : Nat) => PIn φ v (.int (c : Int))) (fun k : Nat => decide ((k : Int) ∈ cntF rows)) id (Src.range (prog := prog) (w := w) C9.hh (.head _) (range_small (by walk_at "o") (by walk_at "o") (by walk_at "o") (by walk_at "o")) (range_size (n := 5) (by walk_at "o"))) (by decide) (by decide) (fun _ _ _ _ b h => h.mono b) (fun i v' k c oC m₂ φ2 b2 ha hP hN hx => ?_) (fun D ys φ2 b2 hY => ?_)
  · obtain ⟨t, rfl⟩ := hP
    obtain rfl : i = k := by
      obtain ⟨h1, h2⟩ := List.getElem?_eq_some_iff.mp ha
      simpa using h2
    have g0 : (L9 + 1, oc) ∈ φ2 := b2 _ (.tail _ (.head _))
    have hv2 : PL φ2 v rowP rows := hv.mono fun p hp => b2 p (.tail _ (.tail _ hp))
    walk_at "Hs"
    walk_at "comp"
    walk_at "Hs"
    obtain ⟨ws, hwl, hws, src⟩ := Src.ofLst (prog := prog) (w := w) (A := A.deeper _) C9.hh hv2
    rw [List.length_map] at hwl
    refine CompOver.map (as := rows) (S := fun φ v r => PIn φ v (rowP r)) (T := fun φ v (c : Int) => PIn φ v (.int c)) (fun r : Row => (r.kinds.length : Int)) src (by rw [hwl]; exact Nat.le_trans hz (by decide)) hws.unMap (fun _ _ _ _ b h => h.mono b) (fun _ _ _ _ b h => h.mono b) (fun v' r c' oC' m₃ φ3 b3 hi hv' hN' hx' => ?_) (fun D ys φ3 b3 hY => ?_)
    · walk_at "Hs"
      refine H_itemTupP hv' (by decide) (by decide) rfl (fun v1 p1 => ?_)
      walk_at "Hs"
      refine H_lenTup p1 (by rw [List.length_map]; exact Nat.le_trans (kinds_len (hr r hi)) (by decide)) fun t => ?_
      exact ⟨rfl, rfl, by rw [List.length_map]; exact .int _ _⟩
    · refine H_freeze ?_
      refine H_inList (x := (0 + (i : Int))) (ys := cntF rows) Enc.int (by assumption) (by unfold cLine; walk_at "o") (.int _ _) (.list (.head _) (hY.pMap.mono fun _ h => .tail _ h)) trivial (fun _ _ => trivial) ?_
      walk_at "Hs"
      refine ⟨by rw [Int.zero_add], rfl, rfl, fun _ => ?_⟩
      walk_at "Hs"
      exact ⟨rfl, rfl, by rw [show ((id i : Nat) : Int) = 0 + (i : Int) by simp]; exact .int _ _⟩
  · walk_at "Hs"
    refine ⟨[_], [], rfl, [], .refl _, rfl, rfl, ?_⟩
    rw [List.map_id] at hY
    exact .list (.head _) (PAll.mono (fun _ h => .tail _ h) (by
      have := hY.map (R := fun v (c : Int) => PIn φ2 v (.int c)) (f := fun k : Nat => (k : Int))
      exact this.pMap))
theorem asked_spec {v : Value} {rows : List Row} (C : Cx (Mine.hd.heap_1 w.params) A h₀ L d u) (hd : d ≤ 680) (hu : u ≤ 1800) (hr : ∀ r ∈ rows, RowOk r) (hz : rows.length ≤ 4) (hv : PL φ v rowP rows) :
   PureC (model prog w) A h₀ L (call (.ref 241) [v]) m φ (fun v φ' => ∃ os : List Int, PL φ' v PyData.int os ∧ os.Nodup ∧ os.length ≤ 44 ∧ ∀ r ∈ rows, ∀ o, r.opcode - 1 ≤ o → o < r.opcode + 10 → o ∈ os) := by
  unfold PureC
  walk_at "enter"
  intro g9 L9 C9
  refine H_end_freezeAll ?_
  walk_at "Hs"
  refine H_newList (fun D => ?_) (Nat.zero_le _)
  walk_at "Hs"
  obtain ⟨ws, hwl, hws, src⟩ := Src.ofLst (prog := prog) (w := w) (A := A.deeper _) C9.hh hv
  have hU := hws.unMap
  rw [List.length_map] at hwl
  refine LoopFor.mk' (fun i m' μ' φ' => ∃ (os : List Int) (vs : List Value) (c : Nat), μ' = [(D, lstO vs c)] ∧ m' (ofs "found") = some (.ref D) ∧ PAll φ' vs (os.map .int) ∧ os.Nodup ∧ os.length ≤ 11 * i ∧ ∀ j r, j < i → rows[j]? = some r → ∀ o, r.opcode - 1 ≤ o → o < r.opcode + 10 → o ∈ os)
    src ⟨[], [], 0, rfl, rfl, .nil, .nil, Nat.zero_le _, fun j r hj => absurd hj (by walk_at "o")⟩ (fun i v' m' μ' φ' b hi hv' hI => ?_) (fun m' μ' φ' b hI => ?_)
  · obtain ⟨os, vs, c, rfl, hfound, hvs, hnd, hlen, hcov⟩ := hI
    obtain ⟨r, hrr, pv⟩ := hU.get hv'
    have pv2 := pv.mono b
    walk_at "Hs"
    refine H_itemTupP pv2 (by decide) (by decide) rfl (fun v1 p1 => ?_)
    obtain ⟨t1, rfl⟩ : ∃ t, v1 = .int r.opcode t := by cases p1; exact ⟨_, rfl⟩
    walk_at "Hs"
    refine H_itemTupP pv2 (by decide) (by decide) rfl (fun v2 p2 => ?_)
    obtain ⟨t2, rfl⟩ : ∃ t, v2 = .int r.opcode t := by cases p2; exact ⟨_, rfl⟩
    walk_at "Hs"
    refine LoopFor.mk' (fun k m' μ' φ2 => ∃ (os2 : List Int) (vs2 : List Value) (c2 : Nat), μ' = [(D, lstO vs2 c2)] ∧ m' (ofs "found") = some (.ref D) ∧ PAll φ2 vs2 (os2.map .int) ∧ os2.Nodup ∧ os2.length ≤ 11 * i + k ∧ (∀ o ∈ os, o ∈ os2) ∧ ∀ j, j < k → (r.opcode - 1 + (j : Int)) ∈ os2)
      (Src.range (prog := prog) (w := w) C9.hh (.head _) (range_small (a := r.opcode - 1) (b := r.opcode + 10) (by have := op_small (hr r (List.mem_of_getElem? hrr)); walk_at "o") (by have := op_small (hr r (List.mem_of_getElem? hrr)); walk_at "o") (by have := op_small (hr r (List.mem_of_getElem? hrr)); walk_at "o") (by have := op_small (hr r (List.mem_of_getElem? hrr)); walk_at "o")) (range_size (n := 11) (by walk_at "o")))
      ⟨os, vs, c, rfl, hfound, hvs.mono (by walk_at "sub"), hnd, by walk_at "o", fun _ h => h, fun j hj => absurd hj (by walk_at "o")⟩ (fun k v' m2 μ2 φ2 b2 hk hv2 hI2 => ?_) (fun m2 μ2 φ2 b2 hI2 => ?_)
    · obtain ⟨os2, vs2, c2, rfl, hfound2, hvs2, hnd2, hlen2, hold, hcov2⟩ := hI2
      obtain ⟨t, rfl⟩ := hv2
      walk_at "Hs"
      refine H_notInListM (x := r.opcode - 1 + (k : Int)) (ys := os2) Enc.int (by assumption) (by unfold cLine; walk_at "o") (.int _ _) (.list (.head _) (hvs2.mono fun _ h => .tail _ h)) trivial (fun _ _ => trivial) ?_
      walk_at "Hs"
      have hl2 := hvs2.length
      rw [List.length_map] at hl2
      have hws4 : ws.length ≤ 4 := by walk_at "o"
      have hvl : vs2.length ≤ sizeLine := by rw [hl2, sizeLine_eq]; walk_at "o"
      refine ite_go (fun h => ?_) (fun h => ?_)
      · have h : ¬ (r.opcode - 1 + (k : Int)) ∈ os2 := by simpa using h
        walk_at "Hs"
        refine H_append (by walk_at "up") hvl ?_
        walk_at "Hs"
        refine ⟨os2 ++ [r.opcode - 1 + (k : Int)], _, _, rfl, ?_, ?_, ?_, ?_, ?_, ?_⟩
        · show upd _ _ _ _ = _
          exact (upd_ne (by decide)).trans hfound2
        · rw [List.map_append]; exact hvs2.snoc (.int _ _)
        · rw [List.nodup_append]
          refine ⟨hnd2, by simp, fun a ha b hb => ?_⟩
          rw [List.mem_singleton] at hb
          exact fun e => h (hb ▸ e ▸ ha)
        · rw [List.length_append, List.length_singleton]; walk_at "o"
        · exact fun o ho => List.mem_append_left _ (hold o ho)
        · intro j hj
          by_cases e : j = k
          · rw [e]; simp
          · exact List.mem_append_left _ (hcov2 j (by walk_at "o"))
      · have h : (r.opcode - 1 + (k : Int)) ∈ os2 := by simpa using h
        walk_at "Hs"
        refine ⟨os2, _, _, rfl, ?_, hvs2, hnd2, by walk_at "o", hold, fun j hj => ?_⟩
        · show upd _ _ _ _ = _
          exact (upd_ne (by decide)).trans hfound2
        · by_cases e : j = k
          · rw [e]; exact h
          · exact hcov2 j (by walk_at "o")
    · obtain ⟨os2, vs2, c2, rfl, hfound2, hvs2, hnd2, hlen2, hold, hcov2⟩ := hI2
      walk_at "Hs"
      refine ⟨os2, _, _, rfl, hfound2, hvs2, hnd2, by walk_at "o", fun j r' hj hr' o h1 h2 => ?_⟩
      by_cases e : j = i
      · rw [e, hrr] at hr'
        cases hr'
        have := hcov2 (o - (r.opcode - 1)).toNat (by walk_at "o")
        rw [show r.opcode - 1 + (((o - (r.opcode - 1)).toNat : Nat) : Int) = o by walk_at "o"] at this
        exact this
      · exact hold o (hcov j r' (by walk_at "o") hr' o h1 h2)
  · obtain ⟨os, vs, c, rfl, hfound, hvs, hnd, hlen, hcov⟩ := hI
    walk_at "Hs"
    refine ⟨[_], [], rfl, rfl, rfl, os, .list (.head _) (hvs.mono fun _ h => .tail _ h), hnd, by walk_at "o", fun r hr o h1 h2 => ?_⟩
    obtain ⟨j, hj, e⟩ := List.mem_iff_getElem.mp hr
    exact hcov j r (by walk_at "o") (by rw [List.getElem?_eq_getElem hj, e]) o h1 h2
end
-- K7
def wordsTab : List Str := Txt.split (ofs "rm8 8 m16 16 xm32 32 rm64 64 m 0 m128 128") (ofs " ")
def wd (i : Nat) : Str := [ofs "rm8", ofs "m16", ofs "xm32", ofs "rm64", ofs "m", ofs "m128"].getD i (ofs "m")
def nm (i : Nat) : Str := [ofs "8", ofs "16", ofs "32", ofs "64", ofs "0", ofs "128"].getD i (ofs "0")
def sz (i : Nat) : Int := [8, 16, 32, 64, 0, 128].getD i 0
theorem words_len : wordsTab.length = 12 := by decide +kernel
theorem words_at : ∀ i : Nat, i < 6 → wordsTab[(0 + (i : Int) * 2).toNat]? = some (wd i) ∧ wordsTab[(0 + (i : Int) * 2 + 1).toNat]? = some (nm i) ∧ PySem.intText? (nm i) = some (sz i) ∧ (nm i).length ≤ 640 ∧ PyData.strOk (wd i) = true := by decide +kernel
def sizesHas (rows : List Row) (z : Int) : Prop := ∃ i, i < 6 ∧ ∃ r ∈ rows, wd i ∈ r.kinds ∧ z = sz i
section
variable {prog : Program} {w : World} {A : Around} {h₀ : Heap} {L : Addr} {m : Loc} {μ φ R : Led} {env : Env} {d u : Nat}
theorem law_sizes_spec {v : Value} {rows : List Row} (C : Cx (Mine.hd.heap_1 w.params) A h₀ L d u) (hd : d ≤ 680) (hu : u ≤ 1800) (hr : ∀ r ∈ rows, RowOk r) (hz : rows.length ≤ 4) (hv : PL φ v rowP rows) :
   PureC (model prog w) A h₀ L (call (.ref 229) [v]) m φ (fun v φ' => ∃ ns : List Int, PL φ' v PyData.int ns ∧ ns.Nodup ∧ ns.Pairwise (· ≤ ·) ∧ ∀ z, z ∈ ns ↔ sizesHas rows z) := by
  unfold PureC
  walk_at "enter"
  intro g9 L9 C9
  refine H_end_freezeAll ?_
  walk_at "Hs"
  (refine' H_Assign_TupSw (x := ofs "words") (y := ofs "found") ?_ ?hh ?hs ?hw); (case hh => exact C9.hh); (case hs => rfl); (case hw => rfl)
  walk_at "Hs"
  refine H_splitM ?_
  walk_at "Hs"
  refine H_split (by decide +kernel) (by rw [sizeLine_eq]; decide +kernel) (fun vw φ1 b1 pw => ?_)
  have pw : PL φ1 vw PyData.str wordsTab := pw
  walk_at "Hs"
  refine H_newList (fun D => ?_) (Nat.zero_le _)
  walk_at "Hs"
  refine ⟨_, _, _, _, rfl, List.mem_append_right _ (.head _), ?_⟩
  walk_at "Hs"
  obtain ⟨vwa, hvwa⟩ : ∃ a vs n, vw = .ref a ∧ (a, lstO vs n) ∈ φ1 ∧ vs.length = 12 := by
    cases pw with
    | list hm r => exact ⟨_, _, _, rfl, hm, by have := r.length; rw [List.length_map, words_len] at this; exact this⟩
  obtain ⟨wvs, wn, rfl, hwm, hwl⟩ := hvwa
  refine H_lenList (List.mem_append_right _ (.tail _ hwm)) (by rw [hwl]; decide) fun t => ?_
  rw [hwl]
  walk_at "Hs"
  refine H_range3 (by decide) (by decide) fun rg => ?_
  refine LoopFor.mk' (fun i m' μ' φ' => ∃ (os : List Int) (vs : List Value) (c : Nat), μ' = [(D, lstO vs c)] ∧ m' (ofs "found") = some (.ref D) ∧ m' (ofs "words") = some (.ref vwa) ∧ m' (ofs "rows") = some v ∧ PAll φ' vs (os.map .int) ∧ os.Nodup ∧ os.length ≤ 4 * i ∧
      ∀ z, z ∈ os ↔ ∃ j, j < i ∧ ∃ r ∈ rows, wd j ∈ r.kinds ∧ z = sz j)
    (Src.range3 (prog := prog) (w := w) (n := 6) C9.hh (.head _) (by decide +kernel) (by decide +kernel)) ⟨[], [], 0, rfl, rfl, rfl, rfl, .nil, .nil, Nat.zero_le _, fun z => ⟨fun h => (nomatch h), fun ⟨j, hj, _⟩ => absurd hj (by walk_at "o")⟩⟩ (fun i v' m' μ' φ' b hi hv' hI => ?_) (fun m' μ' φ' b hI => ?_)
  · obtain ⟨os, vs, c, rfl, hfound, hwords, hrows, hvs, hnd, hlen, hos⟩ := hI
    obtain ⟨tp, rfl⟩ := hv'
    obtain ⟨w1, w2, w3, w4, w5⟩ := words_at i hi
    have B : Sub φ φ' := fun p hp => b p (.tail _ (.tail _ (b1 p hp)))
    have pw2 : PL φ' (.ref vwa) PyData.str wordsTab := pw.mono fun p hp => b p (.tail _ (.tail _ hp))
    walk_at "Hs"
    obtain ⟨ws, hwl2, hws, src⟩ := Src.ofLst (prog := prog) (w := w) (A := A.deeper _) C9.hh (hv.mono B)
    have hU := hws.unMap
    rw [List.length_map] at hwl2
    refine LoopFor.mk' (fun k m2 μ2 φ2 => ∃ (os2 : List Int) (vs2 : List Value) (c2 : Nat), μ2 = [(D, lstO vs2 c2)] ∧ m2 (ofs "found") = some (.ref D) ∧ m2 (ofs "words") = some (.ref vwa) ∧ m2 (ofs "rows") = some v ∧ m2 (ofs "place") = some (.int (0 + (i : Int) * 2) tp) ∧ PAll φ2 vs2 (os2.map .int) ∧ os2.Nodup ∧ os2.length ≤ 4 * i + k ∧
        ∀ z, z ∈ os2 ↔ z ∈ os ∨ ∃ j r, j < k ∧ rows[j]? = some r ∧ wd i ∈ r.kinds ∧ z = sz i) src
      ⟨os, vs, c, rfl, hfound, hwords, hrows, rfl, hvs, hnd, by walk_at "o", fun z => ⟨fun h => .inl h, fun h => h.elim id fun ⟨j, r, hj, _⟩ => absurd hj (by walk_at "o")⟩⟩ (fun k v' m2 μ2 φ2 b2 hk hv2 hI2 => ?_) (fun m2 μ2 φ2 b2 hI2 => ?_)
    · obtain ⟨os2, vs2, c2, rfl, hfound2, hwords2, hrows2, hplace2, hvs2, hnd2, hlen2, hos2⟩ := hI2
      obtain ⟨r, hrr, pv⟩ := hU.get hv2
      have hro := hr r (List.mem_of_getElem? hrr)
      have pv2 := pv.mono b2
      have pw3 := pw2.mono b2
      walk_at "Hs"
      refine H_itemListP pw3 (by walk_at "o") (by walk_at "o") (d := .str (wd i)) (by rw [List.getElem?_map, w1]; rfl) (fun v1 p1 => ?_)
      walk_at "Hs"
      refine H_itemTupP pv2 (by decide) (by decide) rfl (fun v2 p2 => ?_)
      refine H_inTuple (x := wd i) (ys := r.kinds) Enc.str (by assumption) (by unfold cLine; walk_at "o") p1 p2 w5 (kinds_strOk hro) ?_
      walk_at "Hs"
      have hl2 := hvs2.length
      rw [List.length_map] at hl2
      have hvl : vs2.length ≤ sizeLine := by rw [hl2, sizeLine_eq]; walk_at "o"
      have same : ¬ (wd i ∈ r.kinds ∧ ¬ sz i ∈ os2) → ∀ z, z ∈ os2 ↔ z ∈ os ∨ ∃ j r, j < k + 1 ∧ rows[j]? = some r ∧ wd i ∈ r.kinds ∧ z = sz i := fun hno z => by
        constructor
        · intro h
          exact ((hos2 z).mp h).imp id fun ⟨j, r, hj, h⟩ => ⟨j, r, by walk_at "o", h⟩
        · rintro (h | ⟨j, r', hj, h1, h2, h3⟩)
          · exact (hos2 z).mpr (.inl h)
          · by_cases e : j = k
            · subst e
              rw [hrr] at h1
              cases h1
              by_cases hin : sz i ∈ os2
              · rw [h3]; exact hin
              · exact absurd ⟨h2, hin⟩ hno
            · exact (hos2 z).mpr (.inr ⟨j, r', by walk_at "o", h1, h2, h3⟩)
      refine ite_go (fun h => ?_) (fun h => ?_)
      · have h : wd i ∈ r.kinds := by simpa using h
        walk_at "Hs"
        refine H_itemListP pw3 (by walk_at "o") (by walk_at "o") (d := .str (nm i)) (by rw [List.getElem?_map, w2]; rfl) (fun v1 p1 => ?_)
        obtain ⟨t1, rfl⟩ : ∃ t, v1 = .str (nm i) t := by cases p1; exact ⟨_, rfl⟩
        walk_at "Hs"
        refine H_intText w3 w4 fun t2 => ?_
        walk_at "Hs"
        refine H_notInListM (x := sz i) (ys := os2) Enc.int (by assumption) (by unfold cLine; walk_at "o") (.int _ _) (.list (.head _) (hvs2.mono fun _ h => .tail _ h)) trivial (fun _ _ => trivial) ?_
        walk_at "Hs"
        refine ite_go (fun h3 => ?_) (fun h3 => ?_)
        · have h3 : ¬ sz i ∈ os2 := by simpa using h3
          walk_at "Hs"
          refine H_itemListP pw3 (by walk_at "o") (by walk_at "o") (d := .str (nm i)) (by rw [List.getElem?_map, w2]; rfl) (fun v1 p1 => ?_)
          obtain ⟨t1, rfl⟩ : ∃ t, v1 = .str (nm i) t := by cases p1; exact ⟨_, rfl⟩
          walk_at "Hs"
          refine H_intText w3 w4 fun t2 => ?_
          walk_at "Hs"
          refine H_append (by walk_at "up") hvl ?_
          walk_at "Hs"
          refine ⟨os2 ++ [sz i], _, _, rfl, ?_, ?_, ?_, ?_, ?_, ?_, ?_, ?_⟩
          · exact (upd_ne (by decide)).trans hfound2
          · exact (upd_ne (by decide)).trans hwords2
          · exact (upd_ne (by decide)).trans hrows2
          · exact (upd_ne (by decide)).trans hplace2
          · rw [List.map_append]; exact hvs2.snoc (.int _ _)
          · rw [List.nodup_append]
            refine ⟨hnd2, by simp, fun a ha b hb => ?_⟩
            rw [List.mem_singleton] at hb
            exact fun e => h3 (hb ▸ e ▸ ha)
          · rw [List.length_append, List.length_singleton]; walk_at "o"
          · intro z
            rw [List.mem_append, List.mem_singleton]
            constructor
            · rintro (h | rfl)
              · exact ((hos2 z).mp h).imp id fun ⟨j, r, hj, h⟩ => ⟨j, r, by walk_at "o", h⟩
              · exact .inr ⟨k, r, by walk_at "o", hrr, h, rfl⟩
            · rintro (h | ⟨j, r', hj, h1, h2, h3⟩)
              · exact .inl ((hos2 z).mpr (.inl h))
              · exact .inr h3
        · have h3 : sz i ∈ os2 := by simpa using h3
          walk_at "Hs"
          exact ⟨os2, _, _, rfl, (upd_ne (by decide)).trans hfound2, (upd_ne (by decide)).trans hwords2, (upd_ne (by decide)).trans hrows2, (upd_ne (by decide)).trans hplace2, hvs2, hnd2, by walk_at "o", same fun q => q.2 h3⟩
      · have h : ¬ wd i ∈ r.kinds := by simpa using h
        walk_at "Hs"
        exact ⟨os2, _, _, rfl, (upd_ne (by decide)).trans hfound2, (upd_ne (by decide)).trans hwords2, (upd_ne (by decide)).trans hrows2, (upd_ne (by decide)).trans hplace2, hvs2, hnd2, by walk_at "o", same fun q => h q.1⟩
    · obtain ⟨os2, vs2, c2, rfl, hfound2, hwords2, hrows2, hplace2, hvs2, hnd2, hlen2, hos2⟩ := hI2
      walk_at "Hs"
      refine ⟨os2, _, _, rfl, hfound2, hwords2, hrows2, hvs2, hnd2, by walk_at "o", fun z => ?_⟩
      rw [hos2, hos]
      constructor
      · rintro (⟨j, hj, h⟩ | ⟨j, r, hj, hr, h1, h2⟩)
        · exact ⟨j, by walk_at "o", h⟩
        · exact ⟨i, by walk_at "o", r, List.mem_of_getElem? hr, h1, h2⟩
      · rintro ⟨j, hj, r, hr, h1, h2⟩
        by_cases e : j = i
        · subst e
          obtain ⟨k, hk, e⟩ := List.mem_iff_getElem.mp hr
          exact .inr ⟨k, r, by walk_at "o", by rw [List.getElem?_eq_getElem hk, e], h1, h2⟩
        · exact .inl ⟨j, by walk_at "o", r, hr, h1, h2⟩
  · obtain ⟨os, vs, c, rfl, hfound, hwords, hrows, hvs, hnd, hlen, hos⟩ := hI
    walk_at "Hs"
    refine H_sortedInt (List.mem_append_left _ (.head _)) hvs (by walk_at "o") (fun v' φ2 ns b2 hp ho hv2 => ?_)
    walk_at "Hs"
    exact ⟨[_], [], rfl, rfl, rfl, ns, hv2.mono (by walk_at "sub"), hp.nodup_iff.mpr hnd, ho, fun z => (hp.mem_iff).trans (hos z)⟩
end
-- D0
theorem ints_same {a b : List Int} (na : a.Nodup) (sa : a.Pairwise (· ≤ ·)) (nb : b.Nodup) (sb : b.Pairwise (· ≤ ·)) (h : ∀ z, z ∈ a ↔ z ∈ b) : a = b := ints_uniq ((List.perm_ext_iff_of_nodup na nb).mpr h) sa sb
theorem strs_same {a b : List Str} (na : a.Nodup) (sa : sortedS a = true) (nb : b.Nodup) (sb : sortedS b = true) (h : ∀ z, z ∈ a ↔ z ∈ b) : a = b := strs_uniq ((List.perm_ext_iff_of_nodup na nb).mpr h) sa sb
theorem codes_same {a b : List (List Int)} (na : a.Nodup) (sa : LexSorted a) (nb : b.Nodup) (sb : LexSorted b) (h : ∀ z, z ∈ a ↔ z ∈ b) : a = b := lex_uniq ((List.perm_ext_iff_of_nodup na nb).mpr h) sa sb
theorem counts_ok {rows : List Row} (hr : ∀ r ∈ rows, RowOk r) : (countsF rows).Nodup ∧ (countsF rows).Pairwise (· ≤ ·) ∧ ∀ z, z ∈ countsF rows ↔ ∃ r ∈ rows, z = (r.kinds.length : Int) := by
  unfold countsF
  have hp : (List.range 5).Pairwise (· < ·) := List.pairwise_lt_range
  have hf := hp.sublist (List.filter_sublist (p := fun k : Nat => decide ((k : Int) ∈ cntF rows)))
  refine ⟨?_, ?_, fun z => ?_⟩
  · exact List.pairwise_map.mpr (hf.imp fun h e => by walk_at "o")
  · exact List.pairwise_map.mpr (hf.imp fun h => by walk_at "o")
  · constructor
    · intro h
      obtain ⟨k, hk, rfl⟩ := List.mem_map.mp h
      have := (List.mem_filter.mp hk).2
      simp only [decide_eq_true_eq, cntF, List.mem_map] at this
      obtain ⟨r, h1, h2⟩ := this
      exact ⟨r, h1, h2.symm⟩
    · rintro ⟨r, h1, rfl⟩
      refine List.mem_map.mpr ⟨r.kinds.length, List.mem_filter.mpr ⟨?_, ?_⟩, rfl⟩
      · have := kinds_len (hr r h1); simp; walk_at "o"
      · simp only [decide_eq_true_eq, cntF, List.mem_map]
        exact ⟨r, h1, rfl⟩
theorem mem_tab : ∀ ks ∈ kindsTab, (∀ i, i < 6 → wd i ∈ ks → sz i = (match ks.find? isMem with | some k => sizeF k | none => -1) ∧ 0 ≤ sz i) ∧
    (0 ≤ (match ks.find? isMem with | some k => sizeF k | none => -1) → ∃ i, i < 6 ∧ wd i ∈ ks ∧ sz i = (match ks.find? isMem with | some k => sizeF k | none => -1)) := by decide +kernel
theorem mem_ok {r : Row} (h : RowOk r) (z : Int) : (∃ i, i < 6 ∧ wd i ∈ r.kinds ∧ z = sz i) ↔ memF r = z ∧ 0 ≤ z := by
  obtain ⟨h1, h2⟩ := mem_tab _ h.kinds
  constructor
  · rintro ⟨i, hi, hw, rfl⟩
    obtain ⟨a, b⟩ := h1 i hi hw
    exact ⟨a.symm, b⟩
  · rintro ⟨rfl, hz⟩
    obtain ⟨i, hi, hw, e⟩ := h2 hz
    exact ⟨i, hi, hw, e.symm⟩
theorem sizes_ok {rows : List Row} (hr : ∀ r ∈ rows, RowOk r) (z : Int) : sizesHas rows z ↔ ∃ r ∈ rows, memF r = z ∧ 0 ≤ z := by
  constructor
  · rintro ⟨i, hi, r, h1, h2, h3⟩
    exact ⟨r, h1, (mem_ok (hr r h1) z).mp ⟨i, hi, h2, h3⟩⟩
  · rintro ⟨r, h1, h2⟩
    obtain ⟨i, hi, h3, h4⟩ := (mem_ok (hr r h1) z).mpr h2
    exact ⟨i, hi, r, h1, h3, h4⟩
theorem own_ok {rows : List Row} (hr : ∀ r ∈ rows, RowOk r) (nm : Str) : ∀ r ∈ ownOf rows nm, RowOk r := fun r h => hr r (List.mem_filter.mp h).1
theorem own_len (rows : List Row) (nm : Str) : (ownOf rows nm).length ≤ rows.length := List.length_filter_le _ _
theorem own_nil (rows : List Row) (nm : Str) : (decide (nm ∈ rows.map (·.name)) != !decide (ownOf rows nm = [])) = false := by
  by_cases h : nm ∈ rows.map (·.name)
  · obtain ⟨r, h1, rfl⟩ := List.mem_map.mp h
    have : ownOf rows r.name ≠ [] := fun e => by
      have : r ∈ ownOf rows r.name := List.mem_filter.mpr ⟨h1, by simp⟩
      rw [e] at this; cases this
    simp [h, this]
  · have : ownOf rows nm = [] := List.filter_eq_nil_iff.mpr fun r hr e => h (List.mem_map.mpr ⟨r, hr, by simpa using e⟩)
    simp [h, this]
def lawNames : List Str := [ofs "jb", ofs "m", ofs "mo", ofs "mov", ofs "movx", ofs "x"]
def lawNames5 : List Str := [ofs "jb", ofs "m", ofs "mov", ofs "movx", ofs "x"]
theorem names5 : ∀ n ∈ namesTab, n ∈ lawNames5 := by decide +kernel
theorem names5_nd : lawNames5.Nodup := by decide +kernel
-- D1
def spanAt (rows : List Row) (p : Nat) : List (List Int) := match rows[p]? with | some r => spanF r | none => []
def underF (rows : List Row) (c : List Int) : List Nat := (List.range rows.length).filter fun p => decide (c ∈ spanAt rows p)
theorem codes_nd (r : Row) : (codesF r).Nodup := by
  unfold codesF
  split
  · refine List.pairwise_map.mpr (List.nodup_range.imp fun {a b} h e => h ?_)
    simp only [List.cons.injEq, true_and, and_true] at e
    walk_at "o"
  · simp
theorem getIts_app {κ : Type} [DecidableEq κ] (a b : List (κ × Value)) (k : κ) : getIts (a ++ b) k = getIts a k ++ getIts b k := by unfold getIts; rw [List.filter_append, List.map_append]
theorem getIts_one {κ : Type} [DecidableEq κ] (v : Value) (k : κ) : ∀ l : List κ, l.Nodup → getIts (l.map fun c => (c, v)) k = if k ∈ l then [v] else []
  | [], _ => rfl
  | c :: l, h => by
    rw [List.nodup_cons] at h
    have ih := getIts_one v k l h.2
    have e : getIts ((c :: l).map fun c => (c, v)) k = (if c = k then [v] else []) ++ getIts (l.map fun c => (c, v)) k := by
      unfold getIts
      rw [List.map_cons, List.filter_cons]
      by_cases q : c = k <;> simp [q]
    rw [e, ih]
    by_cases q : c = k
    · subst q; simp [h.1]
    · simp [q, Ne.symm q]
theorem codeIts_num {P : Value → Nat → Prop} (c : List Int) : ∀ (ys : List Value) (rows : List Row) (k : Nat), ys.length = rows.length → (∀ (j : Nat) (v : Value) (r : Row), ys[j]? = some v → rows[j]? = some r → P v (k + j)) →
    AllR P (getIts (codeIts (ys.zip rows)) c) (((rows.zipIdx k).filter fun q => decide (c ∈ codesF q.1)).map (·.2))
  | [], [], _, _, _ => .nil
  | [], _ :: _, _, h, _ => by simp at h
  | _ :: _, [], _, h, _ => by simp at h
  | v :: ys, r :: rows, k, h, hp => by
    have ih := codeIts_num (P := P) c ys rows (k + 1) (by simpa using h) fun j v r a b => by
      have := hp (j + 1) v r (by simpa using a) (by simpa using b)
      rw [show k + 1 + j = k + (j + 1) by walk_at "o"]; exact this
    have e : codeIts ((v :: ys).zip (r :: rows)) = ((codesF r).map fun c => (c, v)) ++ codeIts (ys.zip rows) := by simp [codeIts]
    rw [e, getIts_app, getIts_one _ _ _ (codes_nd r), List.zipIdx_cons, List.filter_cons]
    by_cases q : c ∈ codesF r
    · simp only [q, decide_true, if_true, List.map_cons]
      exact .cons (by simpa using hp 0 v r rfl rfl) ih
    · simp only [q, decide_false, Bool.false_eq_true, if_false]
      exact ih
theorem under_zip {rows : List Row} (hr : ∀ r ∈ rows, RowOk r) (c : List Int) : ((rows.zipIdx 0).filter fun q => decide (c ∈ codesF q.1)).map (·.2) = underF rows c := by
  unfold underF
  have e : List.range rows.length = (rows.zipIdx 0).map (·.2) := by rw [List.zipIdx_map_snd, List.range_eq_range']
  rw [e, List.filter_map]
  congr 1
  refine List.filter_congr fun q hq => ?_
  obtain ⟨r, p⟩ := q
  have hm := List.mem_zipIdx hq
  have h1 : rows[p]? = some r := by
    have := (List.mem_zipIdx_iff_getElem? (x := (r, p))).mp hq
    exact this
  have h2 : codesF r = spanF r := codes_span (hr r (List.mem_of_getElem? h1))
  simp only [Function.comp_def, spanAt, h1, h2]
theorem under_nil {rows : List Row} (hr : ∀ r ∈ rows, RowOk r) (c : List Int) : underF rows c = [] ↔ c ∉ rows.flatMap codesF := by
  unfold underF
  rw [List.filter_eq_nil_iff]
  constructor
  · intro h hc
    obtain ⟨r, hrm, hcr⟩ := List.mem_flatMap.mp hc
    obtain ⟨p, hp, e⟩ := List.mem_iff_getElem.mp hrm
    refine h p (by simpa using hp) ?_
    simp only [spanAt, List.getElem?_eq_getElem hp, e, decide_eq_true_eq, ← codes_span (hr r hrm)]
    exact hcr
  · intro h p hp hc
    simp only [List.mem_range] at hp
    simp only [spanAt, List.getElem?_eq_getElem hp, decide_eq_true_eq] at hc
    rw [← codes_span (hr _ (List.getElem_mem hp))] at hc
    exact h (List.mem_flatMap.mpr ⟨_, List.getElem_mem hp, hc⟩)
theorem code_shape {r : Row} {c : List Int} (h : c ∈ codesF r) : ∃ o, c = [r.must, r.escape, o] ∧ r.opcode ≤ o ∧ o < r.opcode + 8 := by
  unfold codesF at h
  split at h
  · obtain ⟨i, hi, rfl⟩ := List.mem_map.mp h
    simp only [List.mem_range] at hi
    exact ⟨_, rfl, by walk_at "o", by walk_at "o"⟩
  · rw [List.mem_singleton] at h
    exact ⟨_, h, Int.le_refl _, by walk_at "o"⟩
theorem code_own (r : Row) : [r.must, r.escape, r.opcode] ∈ codesF r := by
  unfold codesF
  split
  · exact List.mem_map.mpr ⟨0, by simp, by simp⟩
  · exact .head _
theorem flat_len (rows : List Row) : (rows.flatMap codesF).length ≤ 8 * rows.length := by
  induction rows with
  | nil => exact Nat.le_refl _
  | cons r rs ih =>
    rw [List.flatMap_cons, List.length_append, List.length_cons]
    have := codes8 r
    walk_at "o"
theorem row_strOk {r : Row} (h : RowOk r) : PyData.strOk r.name = true := (by decide +kernel : ∀ x ∈ namesTab, PyData.strOk x = true) _ h.name
theorem names5_ok : ∀ x ∈ lawNames5, PyData.strOk x = true := by decide +kernel
-- D2
section
variable {prog : Program} {w : World} {A : Around} {h₀ : Heap} {L : Addr} {m : Loc} {μ φ R : Led} {env : Env} {K : Frag} {d u : Nat} {E : Value → Shared → Prop} {s : Shared}
theorem H_sliceListB {value slice : Expr} {a sl : Addr} {vs : List Value} {x y z : Value} {lo hi st : Option Int} {ops : List Value} {Q : Value → Loc → Led → Led → Prop} (hl : h₀.IsList a vs.toArray) (hsl : (sl, slcO x y z) ∈ μ ++ φ)
    (px : IsPart x lo) (py : IsPart y hi) (pz : IsPart z st) (h0 : st ≠ some 0) (hz : vs.length ≤ sizeLine)
    (h : ∀ D, Q (.ref D) m μ ((D, lstO (slicePick vs.toArray lo hi st).toList 0) :: φ))
    (hs : subscripted slice false (.ref a) (.ref sl) = operate ops (getItem (.ref a) (.ref sl)) := by with_unfolding_all rfl) :
    H (model prog w) A h₀ L (subscriptTail value slice (.ref a) (.ref sl)) m μ φ Q := by
  intro R E s S
  have hl : s.heap.IsList a vs.toArray := S.F.lst hl
  refine tail_any hl.typeIs list_getitem_lookup (wpAny_getItem_list_slice hl ⟨_, S.get (mem_in hsl), rfl, rfl⟩ px py pz h0 ?_ (by simpa using hz)) hs
  exact ⟨_, _, m, μ, _, rfl, by simpa [lstO] using S.push (lstO (slicePick vs.toArray lo hi st).toList 0), fun _ x => .tail _ x, h _⟩
end
theorem range_rev : ∀ n, n ≤ 4 → sliceRange (sliceBounds none none (some (-1)) n).1 (sliceBounds none none (some (-1)) n).2.1 (sliceBounds none none (some (-1)) n).2.2 = (List.range n).reverse := by
  have : ∀ n : Fin 5, sliceRange (sliceBounds none none (some (-1)) n.val).1 (sliceBounds none none (some (-1)) n.val).2.1 (sliceBounds none none (some (-1)) n.val).2.2 = (List.range n.val).reverse := by decide +kernel
  exact fun n h => this ⟨n, by omega⟩
theorem slice_rev (vs : List Value) (h : vs.length ≤ 4) : (slicePick vs.toArray none none (some (-1))).toList = vs.reverse := by
  have e : (slicePick vs.toArray none none (some (-1))).toList = (sliceRange (sliceBounds none none (some (-1)) vs.length).1 (sliceBounds none none (some (-1)) vs.length).2.1 (sliceBounds none none (some (-1)) vs.length).2.2).filterMap (vs[·]?) := by
    simp [slicePick]
  rw [e, range_rev _ h]
  match vs, h with
  | [], _ => rfl
  | [_], _ => rfl
  | [_, _], _ => rfl
  | [_, _, _], _ => rfl
  | [_, _, _, _], _ => rfl
  | _ :: _ :: _ :: _ :: _ :: _, h => simp at h
theorem PAll.rev {φ : Led} {vs : List Value} {ds : List PyData} (h : PAll φ vs ds) : PAll φ vs.reverse ds.reverse := h.allR.reverse.pAll
theorem own_self (rows : List Row) (nm : Str) : ownOf (ownOf rows nm) nm = ownOf rows nm := by unfold ownOf; rw [List.filter_filter]; simp
theorem own_rev (rows : List Row) (nm : Str) : ownOf rows.reverse nm = (ownOf rows nm).reverse := by unfold ownOf; rw [List.filter_reverse]
theorem own_name {rows : List Row} {nm : Str} (h : nm ∈ rows.map (·.name)) (z : Str) : z ∈ (ownOf rows nm).map (·.name) ↔ z ∈ [nm] := by
  rw [List.mem_singleton]
  constructor
  · intro hz
    obtain ⟨r, hr, rfl⟩ := List.mem_map.mp hz
    simpa using (List.mem_filter.mp hr).2
  · rintro rfl
    obtain ⟨r, hr, e⟩ := List.mem_map.mp h
    exact List.mem_map.mpr ⟨r, List.mem_filter.mpr ⟨hr, by simpa using e⟩, e⟩
-- K8
section
variable {prog : Program} {w : World} {A : Around} {h₀ : Heap} {L : Addr} {m : Loc} {μ φ R : Led} {env : Env} {d u : Nat}
theorem set_make0 {F0 : Addr} {fvs : List Value} {nf : Nat} {fds : Led} {rows : List Row} {Q : Value → Loc → Led → Led → Prop} (C : Cx (Mine.hd.heap_1 w.params) A h₀ L d u) (hd : d ≤ 660) (hu : u ≤ 1600)
   (hF : (F0, lstO fvs nf) ∈ φ) (hM : FormsM φ fvs fds rows) (hr : ∀ r ∈ rows, RowOk r) (hz : rows.length ≤ 4) (h : ∀ x φ', Sub φ φ' → SetIs prog w φ' (.ref x) fvs rows → Q (.ref x) m [] φ') :
   H (model prog w) A h₀ L (call (.ref 95) [.ref F0]) m fds φ Q := by
  have hfl := hM.length
  walk_at "make"
  intro x dx A9 g9 L9 C9
  refine H_end_freezeAll ?_
  walk_at "Hs"
  refine H_listCopy (List.mem_append_right _ (.tail _ hF)) (by rw [sizeLine_eq]; walk_at "o") (fun F nF => ?_)
  refine H_freeze ?_
  walk_at "Hs"
  rename_i od1 ha1 D1 lo1 od2 ha2 D2 lo2 oX haX
  clear ha1 ha2
  refine H_perm (perm_third _ _ _ _) (H_freeze ?_)
  refine H_lenList (List.mem_append_right _ (.tail _ (.head _))) (by rw [sizeLine_eq]; walk_at "o") (fun t => ?_)
  walk_at "Hs"
  refine LoopFor.mk' (fun i m' μ' φ' => ∃ (o1 o2 : Obj) (xs1 : List (Ent Str)) (xs2 : List (Ent (List Int))) (fdr : Led), μ' = (D2, o2) :: (D1, o1) :: (fdr ++ (led xs1 ++ led xs2)) ∧ m' (ofs "self") = some (.ref x) ∧ o1.IsDictOf (PySem.strKind prog w) (kvsE xs1) ∧ TupD prog w φ' o2 (katE xs2) ∧
      BagOk (nameIts ((fvs.zip rows).take i)) xs1 ∧ BagOk (codeIts ((fvs.zip rows).take i)) xs2 ∧ FormsM φ' (fvs.drop i) fdr (rows.drop i) ∧ ∀ (j : Nat) (v : Value) (r : Row), j < i → fvs[j]? = some v → rows[j]? = some r → FormAt φ' v r j)
    (Src.range (prog := prog) (w := w) (n := rows.length) C9.hh (.head _) (range_small (by walk_at "o") (by walk_at "o") (by walk_at "o") (by walk_at "o")) (range_size (by walk_at "o")))
    ⟨dctO, dctO, [], [], fds, by simp [led], rfl, dctO_is h₀ _, TupD.empty, BagOk.nil, BagOk.nil, hM.mono (by walk_at "sub"), fun j v r hj => absurd hj (by walk_at "o")⟩ (fun i v' m' μ' φ' b hi hv' hI => ?_) (fun m' μ' φ' b hI => ?_)
  · obtain ⟨o1, o2, xs1, xs2, fdr, rfl, hself, ho1, ho2, hb1, hb2, hfm, hfa⟩ := hI
    obtain ⟨tn, rfl⟩ : ∃ t, v' = .int (i : Int) t := by obtain ⟨t, e⟩ := hv'; exact ⟨t, by rw [e, Int.zero_add]⟩
    obtain ⟨xf, dxf, odf, r, fdr', hfv, hrr, rfl, hFM, hfm'⟩ := hfm.at (by walk_at "o")
    have hro := hr r (List.mem_of_getElem? hrr)
    have gx : (x, instObj 95 dx) ∈ φ' := b _ (.tail _ (.tail _ (.tail _ (.head _))))
    have gdx : (dx, oX) ∈ φ' := b _ (.tail _ (.head _))
    have gF : (F, lstO fvs nF) ∈ φ' := b _ (.tail _ (.tail _ (.head _)))
    walk_at "Hs"
    refine H_itemList (List.mem_append_right _ gF) (by walk_at "o") (by walk_at "o") (by rw [show ((i : Int)).toNat = i by walk_at "o"]; exact hfv) ?_
    obtain ⟨fa, fk, hfk, gxf, haf, hfV⟩ := hFM.ex
    obtain ⟨an, ak, ao, ae, ad, as, am, aw, anum, ap⟩ := fa
    obtain ⟨tr, rfl⟩ : ∃ t, an = .str r.name t := by have hq : PIn φ' an (.str r.name) := hfV.n; cases hq; exact ⟨_, rfl⟩
    clear hv'
    walk_at "Hif"
    rename_i odf' haf'
    clear haf
    have haf' : Attrs odf' (FV.f ⟨.str r.name tr, ak, ao, ae, ad, as, am, aw, .int (i : Int) tn, ap⟩) (fk + 1) := by rw [formF_number] at haf'; exact haf'
    refine H_perm (perm_third _ _ _ _) (H_freeze ?_)
    have hFA : FormAt ((dxf, odf') :: φ') (.ref xf) r i := ⟨xf, dxf, odf', ⟨.str r.name tr, ak, ao, ae, ad, as, am, aw, .int (i : Int) tn, ap⟩, fk + 1, rfl, .tail _ gxf, .head _, haf', (hfV.num _).mono (fun _ h => .tail _ h), .int _ _⟩
    refine H_mid (fun m2 μ2 φ2 => ∃ (o1' : Obj) (xs1' : List (Ent Str)), μ2 = (D2, o2) :: (D1, o1') :: (fdr' ++ (led xs1' ++ led xs2)) ∧ m2 (ofs "self") = some (.ref x) ∧ m2 (ofs "form") = some (.ref xf) ∧ o1'.IsDictOf (PySem.strKind prog w) (kvsE xs1') ∧
      BagV (nameIts ((fvs.zip rows).take i)) xs1' ∧ r.name ∈ xs1'.map (·.k) ∧ ∀ k', k' ∈ xs1'.map (·.k) ↔ k' ∈ (nameIts ((fvs.zip rows).take i)).map (·.1) ∨ k' = r.name) ?_ (fun m2 μ2 φ2 b2 hP => ?_)
    · walk_at "Hs"
      refine H_dictNotIn (List.mem_append_left _ (.tail _ (.head _))) ho1 lo1 (strKind_is _ _ _ _) ?_
      rw [valueAt_has hb1.nd]
      walk_at "Hs"
      refine ite_go (fun hc => ?_) (fun hc => ?_)
      · have hc : r.name ∉ xs1.map (·.k) := by simpa using hc
        walk_at "Hs"
        refine H_newList (fun a => ?_) (Nat.zero_le _)
        refine H_perm (perm_ins1 _ _ _ _ _ _) ?_
        walk_at "Hs"
        refine H_dictSet (fun _ => Up.tail Up.head) ho1 (strKind_is _ _ _ _) (by have := keys_len hb1; have e : (nameIts ((fvs.zip rows).take i)).length ≤ i := (by simp [nameIts]; walk_at "o"); rw [List.length_map, sizeLine_eq]; walk_at "o") (fun o1' ho1' => ?_)
        walk_at "Hs"
        rw [stored_kvs hc 0 a 0] at ho1'
        refine ⟨rfl, o1', xs1 ++ [⟨r.name, 0, a, [], 0⟩], ?_, (upd_ne (by decide)).trans ((upd_ne (by decide)).trans hself), rfl, ho1', hb1.toBagV.new hc (fun h => hc ((hb1.mem _).mpr h)) _ _ _, by simp, fun k' => ?_⟩
        · simp [led]
        · rw [List.map_append, List.mem_append, hb1.mem]; simp
      · have hc : r.name ∈ xs1.map (·.k) := by simpa using hc
        walk_at "Hs"
        refine ⟨rfl, o1, xs1, rfl, (upd_ne (by decide)).trans ((upd_ne (by decide)).trans hself), rfl, ho1, hb1.toBagV, hc, fun k' => ?_⟩
        rw [← hb1.mem]
        exact ⟨fun h => .inl h, fun h => h.elim id fun e => e ▸ hc⟩
    · obtain ⟨o1', xs1', rfl, hself2, hform2, ho1', hbv, hin, hkeys⟩ := hP
      have gx2 := b2 _ (.tail _ gx)
      have gdx2 := b2 _ (.tail _ gdx)
      have gxf2 := b2 _ (.tail _ gxf)
      have gdf2 : (dxf, odf') ∈ φ2 := b2 _ (.head _)
      obtain ⟨y, g, hy, hyk, hU, hg⟩ := put_up hbv.nd hin (.ref xf) ((D2, o2) :: (D1, o1') :: fdr') (led xs2)
      have hym : (y.a, lstO y.vs y.n) ∈ (D2, o2) :: (D1, o1') :: (fdr' ++ (led xs1' ++ led xs2)) := (hU (lstO y.vs y.n)).mem
      have hnl : (nameIts ((fvs.zip rows).take i)).length ≤ 4 := by simp [nameIts]; walk_at "o"
      have hyl : y.vs.length ≤ sizeLine := by have := getIts_len (nameIts ((fvs.zip rows).take i)) y.k; rw [← hbv.vs y hy] at this; rw [sizeLine_eq]; walk_at "o"
      walk_at "Hs"
      refine H_dictItem (List.mem_append_left _ (.tail _ (.head _))) ho1' (strKind_is _ _ _ _) (hyk ▸ valueAt_kvs hbv.nd hy) ?_
      refine H_appendM (List.mem_append_left _ hym) rfl rfl ?_
      walk_at "Hs"
      refine H_append hU hyl ?_
      rw [hg]
      have hok := hbv.ok (.ref xf) hin hkeys
      rw [← nameIts_snoc, ← take_zip hfv hrr] at hok
      have ho1'' : o1'.IsDictOf (PySem.strKind prog w) (kvsE (put r.name (.ref xf) xs1')) := by rw [put_kvs]; exact ho1'
      generalize put r.name (.ref xf) xs1' = xs1'' at hok ho1''
      walk_at "Hs"
      refine H_use (codes_of_spec (by assumption) (by walk_at "o") (by walk_at "o") hro (hFA.mono b2)) fun vc φ3 b3 hvc => ?_
      obtain ⟨cs, hcl, hcs, src⟩ := Src.ofLst (prog := prog) (w := w) (A := A9) C9.hh hvc
      have hcU := hcs.unMap
      rw [List.length_map] at hcl
      have hl2 : (codeIts ((fvs.zip rows).take i)).length ≤ 32 := by have := codeIts_len ((fvs.zip rows).take i); simp at this; walk_at "o"
      have h8 := codes8 r
      refine LoopFor.mk' (fun k m3 μ3 φ4 => ∃ (o2' : Obj) (xs2' : List (Ent (List Int))), μ3 = (D2, o2') :: (D1, o1') :: (fdr' ++ (led xs1'' ++ led xs2')) ∧ m3 (ofs "self") = some (.ref x) ∧ m3 (ofs "form") = some (.ref xf) ∧ TupD prog w φ4 o2' (katE xs2') ∧
          BagOk (codeIts ((fvs.zip rows).take i) ++ ((codesF r).take k).map fun c => (c, .ref xf)) xs2') src
        ⟨o2, xs2, rfl, hself2, hform2, ho2.mono (fun p hp => b3 p (b2 p (.tail _ hp))), by simpa using hb2⟩ (fun k v' m3 μ3 φ4 b4 hk hv' hJ => ?_) (fun m3 μ3 φ4 b4 hJ => ?_)
      · obtain ⟨o2', xs2', rfl, hself3, hform3, ho2', hbk⟩ := hJ
        obtain ⟨c, hcc, pc⟩ := hcU.get hv'
        have pc4 := pc.mono b4
        have gx3 := b4 _ (b3 _ gx2)
        have gdx3 := b4 _ (b3 _ gdx2)
        have hil : (codeIts ((fvs.zip rows).take i) ++ ((codesF r).take k).map fun c => (c, Value.ref xf)).length ≤ 40 := by rw [List.length_append, List.length_map, List.length_take]; walk_at "o"
        have hkl := keys_len hbk
        walk_at "Hif"
        refine H_mid (fun m5 μ5 φ5 => ∃ (o2'' : Obj) (xs2'' : List (Ent (List Int))), μ5 = (D2, o2'') :: (D1, o1') :: (fdr' ++ (led xs1'' ++ led xs2'')) ∧ m5 (ofs "self") = some (.ref x) ∧ m5 (ofs "form") = some (.ref xf) ∧ m5 (ofs "code") = some v' ∧ TupD prog w φ5 o2'' (katE xs2'') ∧
          BagV (codeIts ((fvs.zip rows).take i) ++ ((codesF r).take k).map fun c => (c, .ref xf)) xs2'' ∧ c ∈ xs2''.map (·.k) ∧ ∀ k', k' ∈ xs2''.map (·.k) ↔ k' ∈ (codeIts ((fvs.zip rows).take i) ++ ((codesF r).take k).map fun c => (c, Value.ref xf)).map (·.1) ∨ k' = c) ?_ (fun m5 μ5 φ5 b5 hP => ?_)
        · walk_at "Hs"
          refine H_tupNotIn (by assumption) (by unfold cLine; walk_at "o") (List.mem_append_left _ (.head _)) ho2' lo2 pc4 ?_
          rw [atKey_has hbk.nd]
          walk_at "Hs"
          refine ite_go (fun hc => ?_) (fun hc => ?_)
          · have hc : c ∉ xs2'.map (·.k) := by simpa using hc
            walk_at "Hs"
            refine H_newList (fun a => ?_) (Nat.zero_le _)
            refine H_perm (perm_ins2 _ _ _ _ _ _) ?_
            walk_at "Hs"
            refine H_tupSet (by assumption) (by unfold cLine; walk_at "o") (fun _ => Up.head) ho2' pc4 (by rw [List.length_map, sizeLine_eq]; walk_at "o") (fun o2'' ka e ho2'' => ?_)
            walk_at "Hs"
            rw [stored_kat hc ka a 0] at ho2''
            refine ⟨rfl, o2'', xs2' ++ [⟨c, ka, a, [], 0⟩], ?_, (upd_ne (by decide)).trans hself3, (upd_ne (by decide)).trans hform3, rfl, ho2'', hbk.toBagV.new hc (fun h => hc ((hbk.mem _).mpr h)) _ _ _, by simp, fun k' => ?_⟩
            · simp [led]
            · rw [List.map_append, List.mem_append, hbk.mem]; simp
          · have hc : c ∈ xs2'.map (·.k) := by simpa using hc
            walk_at "Hs"
            refine ⟨rfl, o2', xs2', rfl, (upd_ne (by decide)).trans hself3, (upd_ne (by decide)).trans hform3, rfl, ho2', hbk.toBagV, hc, fun k' => ?_⟩
            rw [← hbk.mem]
            exact ⟨fun h => .inl h, fun h => h.elim id fun e => e ▸ hc⟩
        · obtain ⟨o2'', xs2'', rfl, hself5, hform5, hcode5, ho2'', hbv5, hin5, hkeys5⟩ := hP
          have gx5 := b5 _ gx3
          have gdx5 := b5 _ gdx3
          obtain ⟨y, g, hy, hyk, hU, hg⟩ := put_up_end hbv5.nd hin5 (.ref xf) ((D2, o2'') :: (D1, o1') :: fdr') (led xs1'')
          have hym : (y.a, lstO y.vs y.n) ∈ (D2, o2'') :: (D1, o1') :: (fdr' ++ (led xs1'' ++ led xs2'')) := (hU (lstO y.vs y.n)).mem
          have hyl : y.vs.length ≤ sizeLine := by have := getIts_len (codeIts ((fvs.zip rows).take i) ++ ((codesF r).take k).map fun c => (c, Value.ref xf)) y.k; rw [← hbv5.vs y hy] at this; rw [sizeLine_eq]; walk_at "o"
          walk_at "Hs"
          refine H_tupItem (p := (y.ka, .ref y.a)) (by assumption) (by unfold cLine; walk_at "o") (List.mem_append_left _ (.head _)) ho2'' (pc4.mono b5) (hyk ▸ atKey_kat hbv5.nd hy) ?_
          refine H_appendM (List.mem_append_left _ hym) rfl rfl ?_
          walk_at "Hs"
          refine H_append hU hyl ?_
          rw [hg]
          have hok5 := hbv5.ok (.ref xf) hin5 hkeys5
          walk_at "Hs"
          refine ⟨o2'', put c (.ref xf) xs2'', rfl, hself5, hform5, by rw [put_kat]; exact ho2'', ?_⟩
          have e : (codesF r).take (k + 1) = (codesF r).take k ++ [c] := by rw [List.take_add_one, hcc]; rfl
          rw [e, List.map_append, ← List.append_assoc]
          exact hok5
      · obtain ⟨o2', xs2', rfl, hself3, hform3, ho2', hbk⟩ := hJ
        walk_at "Hs"
        refine ⟨o1', o2', xs1'', xs2', fdr', rfl, hself3, ho1'', ho2', hok, ?_, hfm'.mono (fun p hp => b4 p (b3 p (b2 p (.tail _ hp)))), fun j v r' hj hv hr' => ?_⟩
        · rw [take_zip hfv hrr, codeIts_snoc]
          rw [hcl, List.take_length] at hbk
          exact hbk
        · by_cases e : j = i
          · subst e
            rw [hfv] at hv
            rw [hrr] at hr'
            cases hv
            cases hr'
            exact hFA.mono fun p hp => b4 p (b3 p (b2 p hp))
          · exact (hfa j v r' (by walk_at "o") hv hr').mono fun p hp => b4 p (b3 p (b2 p (.tail _ hp)))
  · obtain ⟨o1, o2, xs1, xs2, fdr, rfl, hself, ho1, ho2, hb1, hb2, hfm, hfa⟩ := hI
    have hfd : fdr = [] := by
      rw [List.drop_of_length_le (by walk_at "o"), List.drop_of_length_le (by walk_at "o")] at hfm
      cases hfm; rfl
    subst hfd
    rw [List.take_of_length_le (by rw [List.length_zip]; walk_at "o")] at hb1 hb2
    walk_at "Hs"
    refine ⟨(D2, o2) :: (D1, o1) :: ([] ++ (led xs1 ++ led xs2)), [], by simp, rfl, ?_⟩
    have B : Sub φ' (((D2, o2) :: (D1, o1) :: ([] ++ (led xs1 ++ led xs2))).reverse ++ φ') := fun p hp => List.mem_append_right _ hp
    have inR : ∀ p, p ∈ (D2, o2) :: (D1, o1) :: ([] ++ (led xs1 ++ led xs2)) → p ∈ ((D2, o2) :: (D1, o1) :: ([] ++ (led xs1 ++ led xs2))).reverse ++ φ' := fun p hp => List.mem_append_left _ (List.mem_reverse.mpr hp)
    refine h x _ (fun p hp => B _ (b _ (.tail _ (.tail _ (.tail _ (.tail _ hp)))))) ⟨x, dx, oX, _, F, nF, D1, o1, xs1, D2, o2, xs2, rfl, B _ (b _ (.tail _ (.tail _ (.tail _ (.head _))))), B _ (b _ (.tail _ (.head _))), haX, B _ (b _ (.tail _ (.tail _ (.head _)))),
      inR _ (.tail _ (.head _)), ho1, lo1, hb1, fun p hp => inR p (.tail _ (.tail _ (List.mem_append_right _ (List.mem_append_left _ hp)))), inR _ (.head _), ho2.mono B, lo2, hb2, fun p hp => inR p (.tail _ (.tail _ (List.mem_append_right _ (List.mem_append_right _ hp)))), hfl, fun j v r hv hr' => ?_⟩
    exact (hfa j v r (by have := (List.getElem?_eq_some_iff.mp hr').1; walk_at "o") hv hr').mono B
theorem set_make {F0 : Addr} {fvs : List Value} {nf : Nat} {fds : Led} {rows : List Row} {Q : Value → Loc → Led → Led → Prop} (C : Cx (Mine.hd.heap_1 w.params) A h₀ L d u) (hd : d ≤ 660) (hu : u ≤ 1600)
   (hF : (F0, lstO fvs nf) ∈ φ) (hM : FormsM φ fvs fds rows) (hr : ∀ r ∈ rows, RowOk r) (hz : rows.length ≤ 4) (h : ∀ x φ', Sub φ φ' → SetIs prog w φ' (.ref x) fvs rows → Q (.ref x) m μ φ') :
   H (model prog w) A h₀ L (call (.ref 95) [.ref F0]) m (fds ++ μ) φ Q :=
  H_frame (Q₁ := fun v m' μ' φ' => m' = m ∧ μ' = [] ∧ ∃ x, v = .ref x ∧ SetIs prog w φ' (.ref x) fvs rows) (set_make0 C hd hu hF hM hr hz fun x φ' b hs => ⟨rfl, rfl, x, rfl, hs⟩) fun v m' μ' φ' b q => by
    obtain ⟨rfl, rfl, x, rfl, hs⟩ := q
    exact h x φ' b hs
end
-- K9
section
variable {prog : Program} {w : World} {A : Around} {h₀ : Heap} {L : Addr} {m : Loc} {μ φ R : Led} {env : Env} {d u : Nat}
theorem set_told {v : Value} {fvs : List Value} {rows : List Row} (C : Cx (Mine.hd.heap_1 w.params) A h₀ L d u) (hd : d ≤ 660) (hu : u ≤ 1600) (hz : rows.length ≤ 4) (hS : SetIs prog w φ v fvs rows) :
   PureC (model prog w) A h₀ L (call (.ref 45) [v]) m φ (fun v φ' => PT φ' v rowP rows) := by
  obtain ⟨x, dx, od, k, F, nF, D1, o1, xs1, D2, o2, xs2, rfl, h1, h2, h3, h4, h5, h6, h7, h8, h9, h10, h11, h12, h13, h14, h15, h16⟩ := hS.ex
  unfold PureC
  walk_at "enter"
  intro g9 L9 C9
  refine H_end_freezeAll ?_
  walk_at "Hs"
  walk_at "comp"
  walk_at "Hs"
  refine CompOver.mapG (as := rows) (T := fun φ v r => PIn φ v (rowP r)) id (Src.lst (prog := prog) (w := w) C9.hh h4) h15 (by rw [sizeLine_eq]; walk_at "o") (fun _ _ _ _ b h => h.mono b) (fun i v' r c oC m₂ φ2 b2 ha hv hN hx => ?_) (fun D ys φ2 b2 hY => ?_)
  · have hfa := (h16 i v' r hv ha).mono b2
    obtain ⟨xf, dxf, odf, fa, fk, rfl, g1, g2, g3, g4, g5⟩ := hfa.ex
    walk_at "Hs"
    refine H_use (told_spec (by assumption) (by walk_at "o") (by walk_at "o") hfa) fun v φ3 b3 e => ?_
    exact ⟨rfl, rfl, e⟩
  · walk_at "Hs"
    have hyl := hY.length
    rw [List.length_map] at hyl
    refine H_tupleOf (List.mem_append_left _ (.head _)) (by rw [sizeLine_eq]; walk_at "o") fun Dt => ?_
    walk_at "Hs"
    refine ⟨[_], [], rfl, rfl, rfl, ?_⟩
    rw [List.map_id] at hY
    exact .tuple (.tail _ (.head _)) (hY.pMap.mono fun p hp => .tail _ (.tail _ hp))
theorem set_find {v : Value} {nm : Str} {t : Tok} {fvs : List Value} {rows : List Row} {Q : Value → Loc → Led → Led → Prop} (C : Cx (Mine.hd.heap_1 w.params) A h₀ L d u) (hd : d ≤ 660) (hu : u ≤ 1600) (hz : rows.length ≤ 4) (hS : SetIs prog w φ v fvs rows)
   (h : ∀ a c φ', Sub φ φ' → Q (.ref a) m ((a, lstO (getIts (nameIts (fvs.zip rows)) nm) c) :: μ) φ') :
   H (model prog w) A h₀ L (call (.ref 52) [v, .str nm t]) m μ φ Q := by
  obtain ⟨x, dx, od, k, F, nF, D1, o1, xs1, D2, o2, xs2, rfl, h1, h2, h3, h4, h5, h6, h7, h8, h9, h10, h11, h12, h13, h14, h15, h16⟩ := hS.ex
  walk_at "enter"
  intro g9 L9 C9
  walk_at "Hs"
  refine H_dictGetM (List.mem_append_right _ h5) h6 ?_
  walk_at "Hs"
  refine H_newListF (fun a0 => ?_) (Nat.zero_le _)
  walk_at "Hs"
  refine H_dictGet (List.mem_append_right _ (.tail _ h5)) h6 h7 (strKind_is _ _ _ _) ?_
  obtain ⟨b, n, e, hb⟩ := bag_get (φ := (a0, lstO [] 0) :: φ) h8 (fun p hp => .tail _ (h9 p hp)) nm (.head _)
  rw [e]
  walk_at "Hs"
  have hgl := getIts_len (nameIts (fvs.zip rows)) nm
  have hnl : (nameIts (fvs.zip rows)).length ≤ 4 := by simp [nameIts]; walk_at "o"
  refine H_listCopy (List.mem_append_right _ hb) (by rw [sizeLine_eq]; walk_at "o") (fun a c => ?_)
  walk_at "Hs"
  exact h a c _ (by walk_at "sub")
theorem set_has {v : Value} {nm : Str} {t : Tok} {fvs : List Value} {rows : List Row} (C : Cx (Mine.hd.heap_1 w.params) A h₀ L d u) (hd : d ≤ 660) (hu : u ≤ 1600) (hz : rows.length ≤ 4) (hS : SetIs prog w φ v fvs rows) :
   PureC (model prog w) A h₀ L (call (.ref 59) [v, .str nm t]) m φ (fun v φ' => v = .bool (decide (nm ∈ rows.map (·.name)))) := by
  obtain ⟨x, dx, od, k, F, nF, D1, o1, xs1, D2, o2, xs2, rfl, h1, h2, h3, h4, h5, h6, h7, h8, h9, h10, h11, h12, h13, h14, h15, h16⟩ := hS.ex
  unfold PureC
  walk_at "enter"
  intro g9 L9 C9
  walk_at "Hs"
  refine H_dictIn (List.mem_append_right _ h5) h6 h7 (strKind_is _ _ _ _) ?_
  walk_at "Hs"
  refine ⟨rfl, rfl, ?_⟩
  show Value.bool _ = _
  rw [valueAt_has h8.nd]
  congr 1
  have := h8.mem nm
  rw [nameIts_keys h15] at this
  simp only [this]
theorem set_at {v : Value} {me ee oe : Int} {t1 t2 t3 : Tok} {fvs : List Value} {rows : List Row} {Q : Value → Loc → Led → Led → Prop} (C : Cx (Mine.hd.heap_1 w.params) A h₀ L d u) (hd : d ≤ 660) (hu : u ≤ 1600) (hz : rows.length ≤ 4) (hS : SetIs prog w φ v fvs rows)
   (h : ∀ a c φ', Sub φ φ' → Q (.ref a) m ((a, lstO (getIts (codeIts (fvs.zip rows)) [me, ee, oe]) c) :: μ) φ') :
   H (model prog w) A h₀ L (call (.ref 66) [v, .int me t1, .int ee t2, .int oe t3]) m μ φ Q := by
  obtain ⟨x, dx, od, k, F, nF, D1, o1, xs1, D2, o2, xs2, rfl, h1, h2, h3, h4, h5, h6, h7, h8, h9, h10, h11, h12, h13, h14, h15, h16⟩ := hS.ex
  walk_at "enter"
  intro g9 L9 C9
  walk_at "Hs"
  refine H_tupGetM (List.mem_append_right _ h10) h11 ?_
  walk_at "Hs"
  refine H_newListF (fun a0 => ?_) (Nat.zero_le _)
  walk_at "Hs"
  refine H_tupGet (c := [me, ee, oe]) (by assumption) (by unfold cLine; walk_at "o") (List.mem_append_right _ (.tail _ (.tail _ h10))) (h11.mono (by walk_at "sub")) h12 (.tuple (.tail _ (.head _)) (.cons (.int _ _) (.cons (.int _ _) (.cons (.int _ _) .nil)))) ?_
  obtain ⟨b, n, e, hb⟩ := bag_getT (φ := (a0, lstO [] 0) :: φ) h13 (fun p hp => .tail _ (h14 p hp)) [me, ee, oe] (.head _)
  rw [e]
  walk_at "Hs"
  have hgl := getIts_len (codeIts (fvs.zip rows)) [me, ee, oe]
  have hnl : (codeIts (fvs.zip rows)).length ≤ 32 := by have := codeIts_len (fvs.zip rows); simp at this; walk_at "o"
  have hb' : ∀ p, (b, lstO (getIts (codeIts (fvs.zip rows)) [me, ee, oe]) n) ∈ (a0, lstO [] 0) :: p :: φ := fun p => by
    rcases List.mem_cons.mp hb with q | q
    · rw [q]; exact .head _
    · exact .tail _ (.tail _ q)
  refine H_listCopy (List.mem_append_right _ (hb' _)) (by rw [sizeLine_eq]; walk_at "o") (fun a c => ?_)
  walk_at "Hs"
  exact h a c _ (by walk_at "sub")
theorem set_names {v : Value} {fvs : List Value} {rows : List Row} (C : Cx (Mine.hd.heap_1 w.params) A h₀ L d u) (hd : d ≤ 660) (hu : u ≤ 1600) (hz : rows.length ≤ 4) (hS : SetIs prog w φ v fvs rows) :
   PureC (model prog w) A h₀ L (call (.ref 73) [v]) m φ (fun v φ' => ∃ ns : List Str, PL φ' v PyData.str ns ∧ ns.Nodup ∧ sortedS ns = true ∧ ∀ n, n ∈ ns ↔ n ∈ rows.map (·.name)) := by
  obtain ⟨x, dx, od, k, F, nF, D1, o1, xs1, D2, o2, xs2, rfl, h1, h2, h3, h4, h5, h6, h7, h8, h9, h10, h11, h12, h13, h14, h15, h16⟩ := hS.ex
  unfold PureC
  walk_at "enter"
  intro g9 L9 C9
  refine H_end_freezeAll ?_
  walk_at "Hs"
  have hnl : (nameIts (fvs.zip rows)).length ≤ 4 := by simp [nameIts]; walk_at "o"
  have hkl := keys_len h8
  refine H_listDict (by assumption) (List.mem_append_right _ h5) h6 h7 (by rw [List.length_map, sizeLine_eq]; walk_at "o") (fun a c vs hvl hvs => ?_)
  have hU : PAll φ vs ((xs1.map (·.k)).map .str) := by
    refine AllR.pAll ?_
    refine (allR_of (by simpa using hvl) fun j v k' hv hk' => ?_)
    obtain ⟨k2, x2, e2, hk2⟩ := hvs j v hv
    simp only [List.getElem?_map, Option.map_eq_some_iff] at hk' e2
    obtain ⟨s1, ⟨s0, q0, rfl⟩, rfl⟩ := hk'
    obtain ⟨s2, q2, e3⟩ := e2
    rw [q0] at q2
    cases q2
    cases e3
    obtain ⟨t, rfl⟩ := str_of hk2
    exact .str _ _
  walk_at "Hs"
  refine H_sortedStr (List.mem_append_left _ (.head _)) hU (by rw [List.length_map]; walk_at "o") (fun v' φ2 ns b2 hp ho hv2 => ?_)
  walk_at "Hs"
  refine ⟨[_], [], rfl, rfl, rfl, ns, hv2.mono (by walk_at "sub"), hp.nodup_iff.mpr h8.nd, ho, fun n => ?_⟩
  rw [hp.mem_iff, h8.mem, nameIts_keys h15]
theorem set_codes {v : Value} {fvs : List Value} {rows : List Row} (C : Cx (Mine.hd.heap_1 w.params) A h₀ L d u) (hd : d ≤ 660) (hu : u ≤ 1600) (hz : rows.length ≤ 4) (hS : SetIs prog w φ v fvs rows) :
   PureC (model prog w) A h₀ L (call (.ref 80) [v]) m φ (fun v φ' => ∃ cs : List (List Int), PL φ' v intsP cs ∧ cs.Nodup ∧ LexSorted cs ∧ ∀ c, c ∈ cs ↔ c ∈ rows.flatMap codesF) := by
  obtain ⟨x, dx, od, k, F, nF, D1, o1, xs1, D2, o2, xs2, rfl, h1, h2, h3, h4, h5, h6, h7, h8, h9, h10, h11, h12, h13, h14, h15, h16⟩ := hS.ex
  unfold PureC
  walk_at "enter"
  intro g9 L9 C9
  refine H_end_freezeAll ?_
  walk_at "Hs"
  have hnl : (codeIts (fvs.zip rows)).length ≤ 32 := by have := codeIts_len (fvs.zip rows); simp at this; walk_at "o"
  have hkl := keys_len h13
  refine H_listTup (by assumption) (List.mem_append_right _ h10) h11 h12 (by rw [List.length_map, sizeLine_eq]; walk_at "o") (fun a c => ?_)
  have hU : PAll φ ((katE xs2).map fun x => Value.ref x.2.1) ((xs2.map (·.k)).map intsP) := by
    obtain ⟨_, _, _, _, _, _, hks⟩ := h11.ex
    have go : ∀ ys : List (Ent (List Int)), (∀ y ∈ ys, y ∈ xs2) → PAll φ ((katE ys).map fun x => Value.ref x.2.1) ((ys.map (·.k)).map intsP) := by
      intro ys
      induction ys with
      | nil => exact fun _ => .nil
      | cons y ys ih =>
        intro hy
        exact .cons (hks (y.k, y.ka, .ref y.a) (List.mem_map.mpr ⟨y, hy y (.head _), rfl⟩)) (ih fun z hz => hy z (.tail _ hz))
    exact go xs2 fun _ h => h
  have h3' : ∀ c ∈ xs2.map (·.k), c.length = 3 := fun c hc => by
    rw [h13.mem, codeIts_keys h15] at hc
    obtain ⟨r, _, hr⟩ := List.mem_flatMap.mp hc
    exact codes3 r c hr
  walk_at "Hs"
  refine H_sortedTup (List.mem_append_left _ (.head _)) hU h3' (by rw [List.length_map]; walk_at "o") (fun v' φ2 cs b2 hp ho hv2 => ?_)
  walk_at "Hs"
  refine ⟨[_], [], rfl, rfl, rfl, cs, hv2.mono (by walk_at "sub"), hp.nodup_iff.mpr h13.nd, ho, fun c => ?_⟩
  rw [hp.mem_iff, h13.mem, codeIts_keys h15]
end
-- K10
section
variable {prog : Program} {w : World} {A : Around} {h₀ : Heap} {L : Addr} {m : Loc} {μ φ R : Led} {env : Env} {d u : Nat}
theorem set_counts {v : Value} {nm : Str} {t : Tok} {fvs : List Value} {rows : List Row} (C : Cx (Mine.hd.heap_1 w.params) A h₀ L d u) (hd : d ≤ 660) (hu : u ≤ 1600) (hz : rows.length ≤ 4) (hr : ∀ r ∈ rows, RowOk r) (hS : SetIs prog w φ v fvs rows) :
   PureC (model prog w) A h₀ L (call (.ref 85) [v, .str nm t]) m φ (fun v φ' => ∃ ns : List Int, PL φ' v PyData.int ns ∧ ns.Nodup ∧ ns.Pairwise (· ≤ ·) ∧ ∀ z, z ∈ ns ↔ ∃ r ∈ ownOf rows nm, z = (r.kinds.length : Int)) := by
  obtain ⟨x, dx, od, k, F, nF, D1, o1, xs1, D2, o2, xs2, rfl, h1, h2, h3, h4, h5, h6, h7, h8, h9, h10, h11, h12, h13, h14, h15, h16⟩ := hS.ex
  unfold PureC
  walk_at "enter"
  intro g9 L9 C9
  refine H_end_freezeAll ?_
  walk_at "Hs"
  (refine' H_DictComp (PySem.intKind prog w) C9 ?za ?zb ?zc ?zd ?ze ?_ ?zf); (case za => rfl); (case zb => decide); (case zc => rfl); (case zd => decide); (case ze => rfl); (case zf => (intro _; rfl))
  walk_at "Hs"
  refine H_dictGetM (List.mem_append_right _ h5) h6 ?_
  walk_at "Hs"
  refine H_newListF (fun a0 => ?_) (Nat.zero_le _)
  walk_at "Hs"
  refine H_dictGet (List.mem_append_right _ (.tail _ h5)) h6 h7 (strKind_is _ _ _ _) ?_
  obtain ⟨b, n, e, hb⟩ := bag_get (φ := (a0, lstO [] 0) :: φ) h8 (fun p hp => .tail _ (h9 p hp)) nm (.head _)
  rw [e]
  have hgl := getIts_len (nameIts (fvs.zip rows)) nm
  have hnl : (nameIts (fvs.zip rows)).length ≤ 4 := by simp [nameIts]; walk_at "o"
  have hown := nameIts_sub (P := fun v r => ∃ j, FormAt φ v r j) (fun j v r a b => ⟨j, h16 j v r a b⟩) nm h15
  have hol := hown.length
  refine ⟨_, _, fun i kvs μ' φ' => μ' = [] ∧ kvs.length ≤ i ∧ ∀ z, z ∈ kvs.map (·.1) ↔ ∃ j r, j < i ∧ (ownOf rows nm)[j]? = some r ∧ z = (r.kinds.length : Int), Src.lst (prog := prog) (w := w) C9.hh hb, by rw [sizeLine_eq]; walk_at "o",
    ⟨rfl, Nat.le_refl _, fun z => ⟨fun h => (nomatch h), fun ⟨j, r, hj, _⟩ => absurd hj (by walk_at "o")⟩⟩, fun i kvs v' c oC m₂ μ' φ2 b2 hi hv hI hN hx => ?_, fun D oD kvs μ' φ2 lo hoD b2 hI => ?_⟩
  · obtain ⟨rfl, hkl, hkeys⟩ := hI
    obtain ⟨r, hrr, ⟨jf, hfa⟩, hrm⟩ := hown.get hv
    have hfa := (hfa.mono (φ' := φ2) fun p hp => b2 _ (.tail _ hp))
    obtain ⟨xf, dxf, odf, fa, fk, rfl, g1, g2, g3, g4, g5⟩ := hfa.ex
    have gk := g4.k
    show H _ _ _ _ _ _ _ _ _
    walk_at "Hs"
    refine H_lenTup gk (by rw [List.length_map]; exact Nat.le_trans (kinds_len (hr r hrm)) (by decide)) fun t => ?_
    walk_at "Hs"
    refine ⟨rfl, _, rfl, _, intKind_is _ _ _ _, rfl, ?_, fun z => ?_⟩
    · have := stored_length_le kvs ((r.kinds.map PyData.str).length : Int) (.bool true); walk_at "o"
    · rw [stored_keys, hkeys, List.length_map]
      constructor
      · rintro (⟨j, r', hj, h⟩ | rfl)
        · exact ⟨j, r', by walk_at "o", h⟩
        · exact ⟨i, r, by walk_at "o", hrr, rfl⟩
      · rintro ⟨j, r', hj, h, e⟩
        by_cases q : j = i
        · subst q
          rw [show (ownOf rows nm)[j]? = some r from hrr] at h
          cases h
          exact .inr e
        · exact .inl ⟨j, r', by walk_at "o", h, e⟩
  · obtain ⟨rfl, hkl, hkeys⟩ := hI
    walk_at "Hs"
    refine H_listDict (by assumption) (List.mem_append_left _ (.head _)) hoD lo (by rw [sizeLine_eq]; walk_at "o") (fun a c vs hvl hvs => ?_)
    walk_at "Hs"
    refine H_sortedInt (List.mem_append_left _ (.head _)) (keys_PAll hvl hvs) (by rw [List.length_map]; walk_at "o") (fun v' φ3 ns b3 hp ho hv2 => ?_)
    walk_at "Hs"
    refine ⟨[_, _], [], rfl, rfl, rfl, ns, hv2.mono (by walk_at "sub"), hp.nodup_iff.mpr (IsDictOf.nodup hoD), ho, fun z => ?_⟩
    rw [hp.mem_iff, hkeys]
    constructor
    · rintro ⟨j, r, _, h, e⟩; exact ⟨r, List.mem_of_getElem? h, e⟩
    · rintro ⟨r, h, e⟩
      obtain ⟨j, hj, q⟩ := List.mem_iff_getElem.mp h
      exact ⟨j, r, by rw [hol]; exact hj, by rw [List.getElem?_eq_getElem hj, q], e⟩
theorem set_mems {v : Value} {nm : Str} {t : Tok} {fvs : List Value} {rows : List Row} (C : Cx (Mine.hd.heap_1 w.params) A h₀ L d u) (hd : d ≤ 660) (hu : u ≤ 1600) (hz : rows.length ≤ 4) (hr : ∀ r ∈ rows, RowOk r) (hS : SetIs prog w φ v fvs rows) :
   PureC (model prog w) A h₀ L (call (.ref 92) [v, .str nm t]) m φ (fun v φ' => ∃ ns : List Int, PL φ' v PyData.int ns ∧ ns.Nodup ∧ ns.Pairwise (· ≤ ·) ∧ ∀ z, z ∈ ns ↔ ∃ r ∈ ownOf rows nm, memF r = z ∧ 0 ≤ z) := by
  obtain ⟨x, dx, od, k, F, nF, D1, o1, xs1, D2, o2, xs2, rfl, h1, h2, h3, h4, h5, h6, h7, h8, h9, h10, h11, h12, h13, h14, h15, h16⟩ := hS.ex
  unfold PureC
  walk_at "enter"
  intro g9 L9 C9
  refine H_end_freezeAll ?_
  walk_at "Hs"
  rename_i D loD
  refine H_dictGetM (List.mem_append_right _ h5) h6 ?_
  walk_at "Hs"
  refine H_newListF (fun a0 => ?_) (Nat.zero_le _)
  walk_at "Hs"
  refine H_dictGet (List.mem_append_right _ (.tail _ h5)) h6 h7 (strKind_is _ _ _ _) ?_
  obtain ⟨b, n, e, hb⟩ := bag_get (φ := (a0, lstO [] 0) :: φ) h8 (fun p hp => .tail _ (h9 p hp)) nm (.head _)
  rw [e]
  have hgl := getIts_len (nameIts (fvs.zip rows)) nm
  have hnl : (nameIts (fvs.zip rows)).length ≤ 4 := by simp [nameIts]; walk_at "o"
  have hown := nameIts_sub (P := fun v r => ∃ j, FormAt φ v r j) (fun j v r a b => ⟨j, h16 j v r a b⟩) nm h15
  have hol := hown.length
  refine LoopFor.mk' (fun i m' μ' φ' => ∃ (o : Obj) (kvs : List (Int × Value)), μ' = [(D, o)] ∧ m' (ofs "sizes") = some (.ref D) ∧ o.IsDictOf (PySem.intKind prog w) kvs ∧ kvs.length ≤ i ∧ ∀ z, z ∈ kvs.map (·.1) ↔ ∃ j r, j < i ∧ (ownOf rows nm)[j]? = some r ∧ memF r = z ∧ 0 ≤ z)
    (Src.lst (prog := prog) (w := w) C9.hh hb) ⟨dctO, [], rfl, rfl, dctO_is h₀ _, Nat.le_refl _, fun z => ⟨fun h => (nomatch h), fun ⟨j, r, hj, _⟩ => absurd hj (by walk_at "o")⟩⟩ (fun i v' m' μ' φ2 b2 hi hv hI => ?_) (fun m' μ' φ2 b2 hI => ?_)
  · obtain ⟨o, kvs, rfl, hsz, ho, hkl, hkeys⟩ := hI
    obtain ⟨r, hrr, ⟨jf, hfa⟩, hrm⟩ := hown.get hv
    have hfa := (hfa.mono (φ' := φ2) fun p hp => b2 _ (.tail _ hp))
    have hro := hr r hrm
    have same : ¬ 0 ≤ memF r → ∀ z, z ∈ kvs.map (·.1) ↔ ∃ j r, j < i + 1 ∧ (ownOf rows nm)[j]? = some r ∧ memF r = z ∧ 0 ≤ z := fun hno z => by
      rw [hkeys]
      constructor
      · rintro ⟨j, r', hj, h⟩; exact ⟨j, r', by walk_at "o", h⟩
      · rintro ⟨j, r', hj, h, e, h0⟩
        by_cases q : j = i
        · subst q
          rw [show (ownOf rows nm)[j]? = some r from hrr] at h
          cases h
          exact absurd (e ▸ h0) hno
        · exact ⟨j, r', by walk_at "o", h, e, h0⟩
    obtain ⟨xf, dxf, odf, fa, fk, rfl, g1, g2, g3, g4, g5⟩ := id hfa.ex
    walk_at "Hs"
    refine H_use (memory_size_spec (by assumption) (by walk_at "o") (by walk_at "o") hro hfa) fun v φ3 b3 e => ?_
    obtain ⟨t3, rfl⟩ := e
    walk_at "Hs"
    refine ite_go (fun hge => ?_) (fun hge => ?_)
    · have hge : 0 ≤ memF r := by simpa using hge
      have g1 := b3 _ g1
      have g2 := b3 _ g2
      walk_at "Hs"
      refine H_use (memory_size_spec (by assumption) (by walk_at "o") (by walk_at "o") hro (hfa.mono b3)) fun v φ4 b4 e => ?_
      obtain ⟨t4, rfl⟩ := e
      walk_at "Hs"
      refine H_dictSet (fun _ => Up.head) ho (intKind_is _ _ _ _) (by rw [sizeLine_eq]; walk_at "o") (fun o' ho' => ?_)
      walk_at "Hs"
      refine ⟨o', _, rfl, (upd_ne (by decide)).trans hsz, ho', ?_, fun z => ?_⟩
      · have := stored_length_le kvs (memF r) (.bool true); walk_at "o"
      · rw [stored_keys, hkeys]
        constructor
        · rintro (⟨j, r', hj, h⟩ | rfl)
          · exact ⟨j, r', by walk_at "o", h⟩
          · exact ⟨i, r, by walk_at "o", hrr, rfl, hge⟩
        · rintro ⟨j, r', hj, h, e, h0⟩
          by_cases q : j = i
          · subst q
            rw [show (ownOf rows nm)[j]? = some r from hrr] at h
            cases h
            exact .inr e.symm
          · exact .inl ⟨j, r', by walk_at "o", h, e, h0⟩
    · have hge : ¬ 0 ≤ memF r := by simpa using hge
      walk_at "Hs"
      exact ⟨o, kvs, rfl, (upd_ne (by decide)).trans hsz, ho, by walk_at "o", same hge⟩
  · obtain ⟨o, kvs, rfl, hsz, ho, hkl, hkeys⟩ := hI
    walk_at "Hs"
    refine H_listDict (by assumption) (List.mem_append_left _ (.head _)) ho loD (by rw [sizeLine_eq]; walk_at "o") (fun a c vs hvl hvs => ?_)
    walk_at "Hs"
    refine H_sortedInt (List.mem_append_left _ (.head _)) (keys_PAll hvl hvs) (by rw [List.length_map]; walk_at "o") (fun v' φ3 ns b3 hp ho2 hv2 => ?_)
    walk_at "Hs"
    refine ⟨[_, _], [], rfl, rfl, rfl, ns, hv2.mono (by walk_at "sub"), hp.nodup_iff.mpr (IsDictOf.nodup ho), ho2, fun z => ?_⟩
    rw [hp.mem_iff, hkeys]
    constructor
    · rintro ⟨j, r, _, h, e⟩; exact ⟨r, List.mem_of_getElem? h, e⟩
    · rintro ⟨r, h, e⟩
      obtain ⟨j, hj, q⟩ := List.mem_iff_getElem.mp h
      exact ⟨j, r, by rw [hol]; exact hj, by rw [List.getElem?_eq_getElem hj, q], e⟩
end
-- K11
section
variable {prog : Program} {w : World} {A : Around} {h₀ : Heap} {L : Addr} {m : Loc} {μ φ R : Led} {env : Env} {d u : Nat}
theorem set_right {v : Value} {rows : List Row} (C : Cx (Mine.hd.heap_1 w.params) A h₀ L d u) (hd : d ≤ 640) (hu : u ≤ 1400) (hr : ∀ r ∈ rows, RowOk r) (hz : rows.length ≤ 4) (hne : rows ≠ []) (hv : PL φ v rowP rows) :
   PureC (model prog w) A h₀ L (call (.ref 253) [v]) m φ (fun v φ' => v = .bool true) := by
  obtain ⟨va, vvs, vn, rfl, hva, hvv⟩ : ∃ a vs n, v = .ref a ∧ (a, lstO vs n) ∈ φ ∧ PAll φ vs (rows.map rowP) := by
    cases hv with
    | list hm r => exact ⟨_, _, _, rfl, hm, r⟩
  have hvl := hvv.length
  rw [List.length_map] at hvl
  unfold PureC
  walk_at "enterC"
  intro g9 L9 cells9 C9 Y9
  obtain ⟨oOp, c1, rfl, dOp, Y9⟩ := cells_cons (x := ofs "opcode") Y9
  obtain ⟨oEs, c2, rfl, dEs, Y9⟩ := cells_cons (x := ofs "escape") Y9
  obtain ⟨oMu, c3, rfl, dMu, Y9⟩ := cells_cons (x := ofs "must") Y9
  obtain ⟨oSp, c4, rfl, dSp, Y9⟩ := cells_cons (x := ofs "spans") Y9
  obtain ⟨oNa, c5, rfl, dNa, Y9⟩ := cells_cons (x := ofs "name") Y9
  obtain ⟨oRo, c6, rfl, dRo, Y9⟩ := cells_cons (x := ofs "rows") Y9
  obtain rfl := cells_nil Y9
  replace dOp : oOp.data = .cell none := dOp
  replace dEs : oEs.data = .cell none := dEs
  replace dMu : oMu.data = .cell none := dMu
  replace dSp : oSp.data = .cell none := dSp
  replace dNa : oNa.data = .cell none := dNa
  replace dRo : oRo.data = .cell (some (.ref va)) := dRo
  refine H_perm (μ' := (L9 + 1, oRo) :: (L9 + 6, oOp) :: (L9 + 5, oEs) :: (L9 + 4, oMu) :: (L9 + 3, oSp) :: (L9 + 2, oNa) :: []) (List.perm_append_comm (l₁ := [_, _, _, _, _]) (l₂ := [_])) ?_
  refine H_freeze ?_
  walk_at "Hs"
  walk_at "acomp"
  walk_at "Hs"
  obtain ⟨ws, hwl, hws, src⟩ := Src.ofLst (prog := prog) (w := w) (A := A.deeper _) (φ := (L9 + 1, oRo) :: φ) C9.hh (hv.mono fun _ h => .tail _ h)
  have hU := hws.unMap
  rw [List.length_map] at hwl
  refine CompOver.forms src (by rw [sizeLine_eq]; walk_at "o") hU (fun v' r c oC m₂ μ' φ' Q b hrm pv hN hx hQ => ?_) (fun D ys ds φ1 b1 hM => ?_)
  · walk_at "Hs"
    exact law_form_spec (by assumption) (by walk_at "o") (by walk_at "o") (hr r hrm) pv hQ
  · walk_at "Hs"
    refine H_freeze ?_
    refine set_make (by assumption) (by walk_at "o") (by walk_at "o") (.head _) (hM.mono fun _ h => .tail _ h) hr hz (fun x φ2 b2 hS => ?_)
    walk_at "Hs"
    walk_at "comp"
    walk_at "Hs"
    have gRo : (L9 + 1, oRo) ∈ φ2 := b2 _ (.tail _ (b1 _ (.head _)))
    have gF : (D, LCg.lst ys) ∈ φ2 := b2 _ (.head _)
    have hv2 : PL φ2 (.ref va) rowP rows := hv.mono fun p hp => b2 _ (.tail _ (b1 _ (.tail _ hp)))
    have hyl := hM.length
    obtain ⟨dxs, oX, sA1, sA2, sA3, kA, sx, sdx, hsA⟩ : ∃ (dxs : Addr) (oX : Obj) (f1 f2 f3 : Value) (k : Nat), (x, instObj 95 dxs) ∈ φ2 ∧ (dxs, oX) ∈ φ2 ∧ Attrs oX (setF f1 f2 f3) k := hS.obj
    have gva2 : (va, lstO vvs vn) ∈ φ2 := b2 _ (.tail _ (b1 _ (.tail _ hva)))
    have hvv2 : PAll φ2 vvs (rows.map rowP) := hvv.mono fun p hp => b2 _ (.tail _ (b1 _ (.tail _ hp)))
    have hfa : ∀ (j : Nat) (v : Value) (r : Row), ys[j]? = some v → rows[j]? = some r → FormAt φ2 v r j := hS.forms
    refine CompOver.mapG (as := List.range rows.length) (T := fun φ v (z : Nat) => PIn φ v (.int (z : Int))) id (Src.lst (prog := prog) (w := w) C9.hh gF) (by rw [List.length_range]; exact hyl) (by rw [sizeLine_eq]; walk_at "o") (fun _ _ _ _ b h => h.mono b) (fun i v' k c oC m₂ φ3 b3 ha hv' hN hx => ?_) (fun Dn ns φ3 b3 hns => ?_)
    · obtain ⟨hi, rfl⟩ := List.getElem?_eq_some_iff.mp ha
      rw [List.length_range] at hi
      rw [List.getElem_range]
      have hfi := (hfa i v' rows[i] hv' (List.getElem?_eq_getElem hi)).mono b3
      obtain ⟨xf, dxf, odf, fa, fk, rfl, g1, g2, g3, g4, g5⟩ := hfi.ex
      walk_at "Hs"
      exact ⟨rfl, rfl, g5⟩
    · walk_at "Hs"
      refine H_freeze ?_
      rw [List.map_id] at hns
      have gRo3 := b3 _ gRo
      have gva3 : (va, lstO vvs vn) ∈ φ3 := b3 _ (b2 _ (.tail _ (b1 _ (.tail _ hva))))
      walk_at "Hs"
      refine H_lenList (List.mem_append_right _ (.tail _ gva3)) (by rw [sizeLine_eq]; walk_at "o") fun t => ?_
      walk_at "Hs"
      refine H_listRange (by assumption) (List.mem_append_right _ (.head _)) (range_small (by walk_at "o") (by walk_at "o") (by walk_at "o") (by walk_at "o")) (range_size (n := rows.length) (by walk_at "o")) (by walk_at "o") (fun Dr cr rs hrl hrs => ?_)
      refine H_freeze ?_
      refine H_neL (x := upTo rows.length) (y := upTo rows.length) Enc.int (by walk_at "o") (by assumption) (by unfold cLine; walk_at "o") (.list (.tail _ (.tail _ (.head _))) ((upTo_of hns).mono (by walk_at "sub"))) (.list (.head _) (range_of hrl hrs)) (fun _ _ => trivial) (fun _ _ => trivial) ?_
      rw [show (!decide (upTo rows.length = upTo rows.length)) = false by simp]
      have sx3 := b3 _ sx
      have sdx3 := b3 _ sdx
      walk_at "Hs"
      refine H_use (set_told (by assumption) (by walk_at "o") (by walk_at "o") hz (hS.mono fun p hp => .tail _ (.tail _ (.tail _ (b3 _ hp))))) fun vt φ4 b4 ht => ?_
      have B4 : Sub φ2 φ4 := fun p hp => b4 _ (.tail _ (.tail _ (.tail _ (b3 _ hp))))
      have gRo4 := B4 _ gRo
      have gva4 := B4 _ gva2
      walk_at "Hs"
      refine H_tupleOf (List.mem_append_right _ gva4) (by rw [sizeLine_eq]; walk_at "o") fun Dt => ?_
      refine H_neT (x := rows) (y := rows) rowEnc (by walk_at "o") (by assumption) (by unfold cLine; walk_at "o") (ht.mono (by walk_at "sub")) (.tuple (.head _) (hvv2.mono B4.tl)) hr hr ?_
      rw [show (!decide (rows = rows)) = false by simp]
      have gF4 := B4 _ gF
      walk_at "Hs"
      walk_at "comp"
      walk_at "Hs"
      refine CompOver.mapG (as := rows) (T := fun φ v cs => PL φ v intsP cs) codesF (Src.lst (prog := prog) (w := w) C9.hh (.tail _ gF4)) hyl (by rw [sizeLine_eq]; walk_at "o") (fun _ _ _ _ b h => h.mono b) (fun i v' r c oC m₂ φ5 b5 ha hv' hN hx => ?_) (fun Dc cs φ5 b5 hcs => ?_)
      · have hfi := (hfa i v' r hv' ha).mono (B4.tl.tr b5)
        walk_at "Hs"
        refine H_use (codes_of_spec (by assumption) (by walk_at "o") (by walk_at "o") (hr r (List.mem_of_getElem? ha)) hfi) fun v φ6 b6 e => ?_
        exact ⟨rfl, rfl, e⟩
      · have B5 : Sub φ2 φ5 := B4.tl.tr b5
        have gRo5 := B5 _ gRo
        refine H_freeze ?_
        walk_at "Hs"
        walk_at "comp"
        walk_at "Hs"
        obtain ⟨ws2, hwl2, hws2, src2⟩ := Src.ofLst (prog := prog) (w := w) (A := A.deeper _) (φ := (Dc, LCg.lst cs) :: φ5) C9.hh (hv2.mono B5.tl)
        rw [List.length_map] at hwl2
        refine CompOver.map (as := rows) (S := fun φ v r => PIn φ v (rowP r)) (T := fun φ v cs => PL φ v intsP cs) spanF src2 (by rw [sizeLine_eq]; walk_at "o") hws2.unMap (fun _ _ _ _ b h => h.mono b) (fun _ _ _ _ b h => h.mono b) (fun v' r c oC m₂ φ6 b6 hrm hv' hN hx => ?_) (fun Ds ss φ6 b6 hss => ?_)
        · walk_at "Hs"
          refine H_use (span_spec (by assumption) (by walk_at "o") (by walk_at "o") (hr r hrm) hv') fun v φ7 b7 e => ?_
          exact ⟨rfl, rfl, e⟩
        · refine H_freeze ?_
          have e2 : rows.map codesF = rows.map spanF := List.map_congr_left fun r hrm => codes_span (hr r hrm)
          refine H_neL (x := rows.map codesF) (y := rows.map spanF) spanEnc (by walk_at "o") (by assumption) (by unfold cLine; walk_at "o") (.list (.tail _ (b6 _ (.head _))) ((hcs.pMap (enc := fun cs : List (List Int) => PyData.list (cs.map intsP))).mono fun p hp => .tail _ (b6 _ (.tail _ hp)))) (.list (.head _) ((hss.pMap (enc := fun cs : List (List Int) => PyData.list (cs.map intsP))).mono fun p hp => .tail _ hp)) (fun _ _ => trivial) (fun _ _ => trivial) ?_
          rw [e2, show (!decide (rows.map spanF = rows.map spanF)) = false by simp]
          have B6 : Sub φ2 φ6 := B5.tl.tr b6
          walk_at "Hs"
          obtain ⟨wn, hwnl, hwn, srcn⟩ := Src.ofTup (prog := prog) (w := w) (A := A.deeper _) (φ := _) (ds := lawNames.map .str) C9.hh (PIn.tuple (.head _) (.cons (.str _ _) (.cons (.str _ _) (.cons (.str _ _) (.cons (.str _ _) (.cons (.str _ _) (.cons (.str _ _) .nil)))))))
          have hwU := hwn.unMap
          refine LoopFor.mk' (fun i m' μ' φ' => ∃ oN v0, μ' = [(L9 + 6, oOp), (L9 + 5, oEs), (L9 + 4, oMu), (L9 + 3, oSp), (L9 + 2, oN)] ∧ oN.data = .cell v0 ∧ m' (ofs "made") = some (.ref x)) srcn ⟨oNa, _, rfl, dNa, rfl⟩ (fun i v' m' μ' φ7 b7 hi hv' hI => ?_) (fun m' μ' φ7 b7 hI => ?_)
          · obtain ⟨oN, v0, rfl, dN, hmade⟩ := hI
            obtain ⟨nm, hnm, pn⟩ := hwU.get hv'
            obtain ⟨tn, rfl⟩ : ∃ t, v' = .str nm t := by cases pn; exact ⟨_, rfl⟩
            have B7 : Sub φ2 φ7 := (B6.tl.tl).tr b7
            have gRo7 := B7 _ gRo
            walk_at "Hs"
            rename_i oN' dN'
            walk_at "acomp"
            walk_at "Hs"
            obtain ⟨w7, hwl7, hw7, src7⟩ := Src.ofLst (prog := prog) (w := w) (A := A.deeper _) (φ := φ7) C9.hh (hv2.mono B7)
            rw [List.length_map] at hwl7
            refine CompOver.filter (as := rows) (S := fun φ v r => PIn φ v (rowP r)) (T := fun φ v r => PIn φ v (rowP r)) (fun r => decide (r.name = nm)) id src7 (by rw [sizeLine_eq]; walk_at "o") hw7.unMap (fun _ _ _ _ b h => h.mono b) (fun _ _ _ _ b h => h.mono b) (fun v' r c oC m₂ φ8 b8 hrm hv' hN hx => ?_) (fun Dw ow φ8 b8 how => ?_)
            · walk_at "Hs"
              refine H_itemTupP hv' (by decide) (by decide) rfl (fun v1 p1 => ?_)
              obtain ⟨t1, rfl⟩ : ∃ t, v1 = .str r.name t := by cases p1; exact ⟨_, rfl⟩
              walk_at "Hs"
              refine ⟨rfl, rfl, rfl, fun _ => ?_⟩
              walk_at "Hs"
              exact ⟨rfl, rfl, hv'⟩
            · rw [List.map_id] at how
              have B8 : Sub φ2 φ8 := B7.tr b8
              have how : PAll φ8 ow ((ownOf rows nm).map rowP) := how.pMap
              have hownr := own_ok hr nm
              have hownl := own_len rows nm
              have sx8 := B8 _ sx
              have sdx8 := B8 _ sdx
              walk_at "Hs"
              refine H_perm (List.Perm.refl _) (H_freeze ?_)
              walk_at "Hs"
              have hgl := getIts_len (nameIts (ys.zip rows)) nm
              have hnl : (nameIts (ys.zip rows)).length ≤ 4 := by simp [nameIts]; walk_at "o"
              refine set_find (by assumption) (by walk_at "o") (by walk_at "o") hz (hS.mono B8.tl) (fun af cf φ9 b9 => ?_)
              walk_at "Hs"
              refine emptied_spec (by assumption) (by walk_at "o") (by walk_at "o") (by rw [sizeLine_eq]; walk_at "o") (fun φ10 b10 => ?_)
              walk_at "Hs"
              refine ite_no rfl ?_
              walk_at "Hs"
              walk_at "comp"
              have gOwX : (Dw, LCg.lst ow) ∈ φ10 := b10 _ (b9 _ (.head _))
              have b10 : Sub φ8 φ10 := fun p hp => b10 _ (b9 _ (.tail _ hp))
              have B10 : Sub φ2 φ10 := B8.tr b10
              have sx10 := B10 _ sx
              have sdx10 := B10 _ sdx
              have gOw10 : (Dw, LCg.lst ow) ∈ φ10 := gOwX
              have how10 : PAll φ10 ow ((ownOf rows nm).map rowP) := how.mono b10
              walk_at "Hs"
              refine H_end_freeze ?_
              refine set_find (by assumption) (by walk_at "o") (by walk_at "o") hz (hS.mono B10) (fun af2 cf2 φ11 b11 => ⟨_, _, rfl, ?_⟩)
              have B11 : Sub φ2 φ11 := B10.tr b11
              have hownA := nameIts_sub (P := fun v r => ∃ j, FormAt ((af2, lstO (getIts (nameIts (ys.zip rows)) nm) cf2) :: φ11) v r j) (fun j v r a b => ⟨j, (hfa j v r a b).mono B11.tl⟩) nm hyl
              refine CompOver.map (as := ownOf rows nm) (S := fun φ v r => (∃ j, FormAt φ v r j) ∧ r ∈ rows) (T := fun φ v r => PIn φ v (rowP r)) id (Src.lst (prog := prog) (w := w) C9.hh (.head _)) (by rw [sizeLine_eq]; walk_at "o") hownA (fun _ _ _ _ b h => ⟨h.1.imp fun _ h => h.mono b, h.2⟩) (fun _ _ _ _ b h => h.mono b) (fun v' r c oC m₂ φ12 b12 hrm hv' hN hx => ?_) (fun Dz oz φ12 b12 hoz => ?_)
              · obtain ⟨⟨jf, hfi⟩, _⟩ := hv'
                obtain ⟨xf, dxf, odf, fa, fk, rfl, g1, g2, g3, g4, g5⟩ := id hfi.ex
                walk_at "Hs"
                refine H_use (told_spec (by assumption) (by walk_at "o") (by walk_at "o") hfi) fun v φ3 b3 e => ?_
                exact ⟨rfl, rfl, e⟩
              · rw [List.map_id] at hoz
                have b12' : Sub φ10 φ12 := fun p hp => b12 _ (.tail _ (b11 _ hp))
                have B12 : Sub φ2 φ12 := B10.tr b12'
                have sx12 := B12 _ sx
                have sdx12 := B12 _ sdx
                have how12 : PAll φ12 ow ((ownOf rows nm).map rowP) := how10.mono b12'
                have gOw12 : (Dw, LCg.lst ow) ∈ φ12 := b12' _ gOw10
                refine H_freeze ?_
                walk_at "Hs"
                refine H_neL (x := ownOf rows nm) (y := ownOf rows nm) rowEnc (by walk_at "o") (by assumption) (by unfold cLine; walk_at "o") (.list (.head _) ((hoz.pMap).mono fun p hp => .tail _ hp)) (.list (.tail _ gOw12) (how12.mono fun p hp => .tail _ hp)) hownr hownr ?_
                rw [show (!decide (ownOf rows nm = ownOf rows nm)) = false by simp]
                walk_at "Hs"
                refine H_use (set_has (by assumption) (by walk_at "o") (by walk_at "o") hz (hS.mono B12.tl)) fun vh φ13 b13 e => ?_
                subst e
                have b13' : Sub φ10 φ13 := (b12'.tl).tr b13
                walk_at "Hs"
                have B13 : Sub φ2 φ13 := B10.tr b13'
                have gOw13 : (Dw, LCg.lst ow) ∈ φ13 := b13' _ gOw10
                have how13 : PAll φ13 ow ((ownOf rows nm).map rowP) := how10.mono b13'
                have sx13 := B13 _ sx
                have sdx13 := B13 _ sdx
                refine H_newListF (fun a0 => ?_) (Nat.zero_le _)
                refine H_neNil (x := ownOf rows nm) rowEnc (by walk_at "o") (by assumption) (by unfold cLine; walk_at "o") (.list (.tail _ gOw13) (how13.mono fun p hp => .tail _ hp)) (.head _) hownr ?_
                walk_at "Hs"
                refine ite_no (own_nil rows nm) ?_
                walk_at "Hs"
                refine H_use (set_counts (by assumption) (by walk_at "o") (by walk_at "o") hz hr (hS.mono B13.tl)) fun vc φ14 b14 hcn => ?_
                obtain ⟨ns1, hns1, nd1, so1, me1⟩ := hcn
                have b14' : Sub φ10 φ14 := (b13'.tl).tr b14
                have B14 : Sub φ2 φ14 := B10.tr b14'
                have gOw14 : (Dw, LCg.lst ow) ∈ φ14 := b14' _ gOw10
                have how14 : PAll φ14 ow ((ownOf rows nm).map rowP) := how10.mono b14'
                have sx14 := B14 _ sx
                have sdx14 := B14 _ sdx
                walk_at "Hs"
                refine H_use (law_counts_spec (by assumption) (by walk_at "o") (by walk_at "o") hownr (by walk_at "o") (.list gOw14 how14)) fun vd φ15 b15 hcl => ?_
                obtain ⟨nd2, so2, me2⟩ := counts_ok hownr
                refine H_neL (x := ns1) (y := countsF (ownOf rows nm)) Enc.int (by walk_at "o") (by assumption) (by unfold cLine; walk_at "o") (hns1.mono b15) hcl (fun _ _ => trivial) (fun _ _ => trivial) ?_
                rw [ints_same nd1 so1 nd2 so2 fun z => (me1 z).trans (me2 z).symm, show (!decide (countsF (ownOf rows nm) = countsF (ownOf rows nm))) = false by simp]
                have b15' : Sub φ10 φ15 := b14'.tr b15
                have B15 : Sub φ2 φ15 := B10.tr b15'
                have sx15 := B15 _ sx
                have sdx15 := B15 _ sdx
                walk_at "Hs"
                refine H_use (set_mems (by assumption) (by walk_at "o") (by walk_at "o") hz hr (hS.mono B15)) fun ve φ16 b16 hmm => ?_
                obtain ⟨ms1, hms1, md1, ms2, mm1⟩ := hmm
                have b16' : Sub φ10 φ16 := b15'.tr b16
                have B16 : Sub φ2 φ16 := B10.tr b16'
                walk_at "Hs"
                refine H_use (law_sizes_spec (by assumption) (by walk_at "o") (by walk_at "o") hownr (by walk_at "o") (.list (b16' _ gOw10) (how10.mono b16'))) fun vf φ17 b17 hls => ?_
                obtain ⟨ls1, hls1, ld1, ls2, lm1⟩ := hls
                refine H_neL (x := ms1) (y := ls1) Enc.int (by walk_at "o") (by assumption) (by unfold cLine; walk_at "o") (hms1.mono b17) hls1 (fun _ _ => trivial) (fun _ _ => trivial) ?_
                rw [ints_same md1 ms2 ld1 ls2 fun z => (mm1 z).trans ((lm1 z).trans (sizes_ok hownr z)).symm, show (!decide (ls1 = ls1)) = false by simp]
                walk_at "Hs"
                exact ⟨oN', _, rfl, dN', (upd_ne (by decide)).trans hmade⟩
          · obtain ⟨oN, v0, rfl, dN, hmade⟩ := hI
            have B7 : Sub φ2 φ7 := (B6.tl.tl).tr b7
            have gRo7 := B7 _ gRo
            have sx7 := B7 _ sx
            have sdx7 := B7 _ sdx
            walk_at "Hs"
            refine H_use (set_names (by assumption) (by walk_at "o") (by walk_at "o") hz (hS.mono B7)) fun vn1 φ8 b8 hnn => ?_
            obtain ⟨ns, hns1, nd1, so1, me1⟩ := hnn
            have B8 : Sub φ2 φ8 := B7.tr b8
            have gRo8 := B8 _ gRo
            walk_at "Hs"
            walk_at "comp"
            walk_at "Hs"
            obtain ⟨w8, hwl8, hw8, src8⟩ := Src.ofTup (prog := prog) (w := w) (A := A.deeper _) (φ := _) (ds := lawNames5.map .str) C9.hh (PIn.tuple (.head _) (.cons (.str _ _) (.cons (.str _ _) (.cons (.str _ _) (.cons (.str _ _) (.cons (.str _ _) .nil))))))
            refine CompOver.filter (as := lawNames5) (S := fun φ v r => PIn φ v (.str r)) (T := fun φ v r => PIn φ v (.str r)) (fun n => decide (n ∈ rows.map (·.name))) id src8 (by rw [hwl8]; decide) hw8.unMap (fun _ _ _ _ b h => h.mono b) (fun _ _ _ _ b h => h.mono b) (fun v' n5 c oC m₂ φ9 b9 hnm hv' hN hx => ?_) (fun Dw ow φ9 b9 how => ?_)
            · obtain ⟨t5, rfl⟩ : ∃ t, v' = .str n5 t := by cases hv'; exact ⟨_, rfl⟩
              have B9 : Sub φ2 φ9 := B8.tl.tr b9
              have gRo9 := B9 _ gRo
              walk_at "Hs"
              walk_at "comp"
              walk_at "Hs"
              obtain ⟨w9, hwl9, hw9, src9⟩ := Src.ofLst (prog := prog) (w := w) (A := A.deeper _) (φ := φ9) C9.hh (hv2.mono B9)
              rw [List.length_map] at hwl9
              refine CompOver.map (as := rows) (S := fun φ v r => PIn φ v (rowP r)) (T := fun φ v n => PIn φ v (.str n)) (fun r : Row => r.name) src9 (by rw [sizeLine_eq]; walk_at "o") hw9.unMap (fun _ _ _ _ b h => h.mono b) (fun _ _ _ _ b h => h.mono b) (fun v' r c oC m₂ φ10 b10 hrm hv' hN hx => ?_) (fun Dq oq φ10 b10 hoq => ?_)
              · walk_at "Hs"
                refine H_itemTupP hv' (by decide) (by decide) rfl (fun v1 p1 => ?_)
                exact ⟨rfl, rfl, p1⟩
              · refine H_freeze ?_
                refine H_inList (x := n5) (ys := rows.map (·.name)) Enc.str (by assumption) (by unfold cLine; walk_at "o") (.str _ _) (.list (.head _) (hoq.pMap.mono fun _ h => .tail _ h)) (names5_ok _ hnm) (fun y hy => by obtain ⟨r, h1, rfl⟩ := List.mem_map.mp hy; exact row_strOk (hr r h1)) ?_
                walk_at "Hs"
                refine ⟨rfl, rfl, rfl, fun _ => ?_⟩
                walk_at "Hs"
                exact ⟨rfl, rfl, .str _ _⟩
            · rw [List.map_id] at how
              have B9 : Sub φ2 φ9 := B8.tl.tr b9
              walk_at "Hs"
              refine H_sortedStr (List.mem_append_left _ (.head _)) how.pMap (by have := List.length_filter_le (fun n => decide (n ∈ rows.map (·.name))) lawNames5; have e : lawNames5.length = 5 := (rfl); walk_at "o") (fun v' φ10 ns2 b10 hp2 ho2 hns2 => ?_)
              have B10 : Sub φ2 φ10 := B9.tr b10
              have en : ns = ns2 := strs_same nd1 so1 (hp2.nodup_iff.mpr (names5_nd.sublist List.filter_sublist)) ho2 fun z => by
                rw [me1, hp2.mem_iff, List.mem_filter, decide_eq_true_eq]
                refine ⟨fun h => ⟨?_, h⟩, fun h => h.2⟩
                obtain ⟨r, h1, rfl⟩ := List.mem_map.mp h
                exact names5 _ (hr r h1).name
              have nok : ∀ z ∈ ns, PyData.strOk z = true := fun z hz' => by
                obtain ⟨r, h1, rfl⟩ := List.mem_map.mp ((me1 z).mp hz')
                exact row_strOk (hr r h1)
              refine H_neL (x := ns) (y := ns2) Enc.str (by walk_at "o") (by assumption) (by unfold cLine; walk_at "o") (hns1.mono fun p hp => b10 _ (b9 _ (.tail _ hp))) hns2 nok (fun z hz' => nok z (en ▸ hz')) ?_
              rw [en, show (!decide (ns2 = ns2)) = false by simp]
              have gRo10 := B10 _ gRo
              refine H_forget (List.sublist_cons_self ..) ?_
              walk_at "Hs"
              (refine' H_Assign_Tup ?_ ?zs ?zw); (case zs => rfl); (case zw => rfl)
              walk_at "Hs"
              refine H_newList (fun Dk => ?_) (Nat.zero_le _)
              walk_at "Hs"
              walk_at "comp"
              walk_at "Hs"
              obtain ⟨w10, hwl10, hw10, src10⟩ := Src.ofLst (prog := prog) (w := w) (A := A.deeper _) (φ := φ10) C9.hh (hv2.mono B10)
              rw [List.length_map] at hwl10
              refine CompOver.map (as := rows) (S := fun φ v r => PIn φ v (rowP r)) (T := fun φ v cs => PL φ v intsP cs) spanF src10 (by rw [sizeLine_eq]; walk_at "o") hw10.unMap (fun _ _ _ _ b h => h.mono b) (fun _ _ _ _ b h => h.mono b) (fun v' r c oC m₂ φ11 b11 hrm hv' hN hx => ?_) (fun Ds2 ss2 φ11 b11 hss2 => ?_)
              · walk_at "Hs"
                refine H_use (span_spec (by assumption) (by walk_at "o") (by walk_at "o") (hr r hrm) hv') fun v φ7 b7 e => ?_
                exact ⟨rfl, rfl, e⟩
              · have B11 : Sub φ2 φ11 := B10.tr b11
                refine H_freeze ?_
                walk_at "Hs"
                refine H_newList (fun Dh => ?_) (by size_fits)
                walk_at "Hs"
                refine H_assign_Tuple3 C9.hh (List.mem_append_right _ (.head _)) ?_
                have gRo11 := B11 _ gRo
                walk_at "Hs"
                rename_i ta tb oS' dS'
                obtain ⟨w11, hwl11, hw11, src11⟩ := Src.ofLst (prog := prog) (w := w) (A := A.deeper _) (φ := _) C9.hh (hv2.mono ((B11.tl.tl).tl))
                rw [List.length_map] at hwl11
                have hU11 := hw11.unMap
                refine LoopFor.mk' (fun i m' μ' φ' => ∃ (hs : List (List Int)) (hvs : List Value) (c : Nat), μ' = [(Dh, lstO hvs c), (Dk, lstO [] 0), (L9 + 6, oOp), (L9 + 5, oEs), (L9 + 4, oMu), (L9 + 3, oS'), (L9 + 2, oN)] ∧ m' (ofs "heads") = some (.ref Dh) ∧ m' (ofs "known") = some (.ref Dk) ∧ m' (ofs "made") = some (.ref x) ∧
                    PAll φ' hvs (hs.map intsP) ∧ hs.Nodup ∧ hs.length ≤ 1 + i ∧ (∀ p ∈ hs, p.length = 2) ∧ ∀ j r, j < i → rows[j]? = some r → [r.must, r.escape] ∈ hs) src11
                  ⟨[[242, 1]], _, _, rfl, rfl, rfl, hmade, .cons (.tuple (.tail _ (.head _)) (.cons (.int _ _) (.cons (.int _ _) .nil))) .nil, by simp, by simp, by simp, fun j r hj => absurd hj (by walk_at "o")⟩ (fun i v' m' μ' φ13 b13 hi hv' hI => ?_) (fun m' μ' φ13 b13 hI => ?_)
                · obtain ⟨hs, hvs, c, rfl, hheads, hknown, hmade2, hpa, hnd, hln, h2, hcov⟩ := hI
                  obtain ⟨r, hrr, pv⟩ := hU11.get hv'
                  have pv := pv.mono b13
                  have hhl := hpa.length
                  rw [List.length_map] at hhl
                  walk_at "Hs"
                  refine H_itemTupP pv (by decide) (by decide) rfl (fun v6 p6 => ?_)
                  walk_at "Hs"
                  refine H_itemTupP pv (by decide) (by decide) rfl (fun v3 p3 => ?_)
                  walk_at "Hs"
                  refine H_notInListM (x := [r.must, r.escape]) (ys := hs) codesEnc (by assumption) (by unfold cLine; walk_at "o") (.tuple (List.mem_append_right _ (.head _)) (PAll.mono (fun p hp => List.mem_append_right _ (.tail _ hp)) (.cons p6 (.cons p3 .nil)))) (.list (.head _) (hpa.mono fun p hp => List.mem_append_right _ (.tail _ hp))) trivial (fun _ _ => trivial) ?_
                  walk_at "Hs"
                  refine ite_go (fun hc => ?_) (fun hc => ?_)
                  · have hc : ¬ [r.must, r.escape] ∈ hs := by simpa using hc
                    walk_at "Hs"
                    refine H_itemTupP (pv.mono (by walk_at "sub")) (by decide) (by decide) rfl (fun v6 p6 => ?_)
                    walk_at "Hs"
                    refine H_itemTupP (pv.mono (by walk_at "sub")) (by decide) (by decide) rfl (fun v3 p3 => ?_)
                    walk_at "Hs"
                    refine H_append (by walk_at "up") (by rw [hhl, sizeLine_eq]; walk_at "o") ?_
                    walk_at "Hs"
                    refine ⟨hs ++ [[r.must, r.escape]], _, _, rfl, (upd_ne (by decide)).trans hheads, (upd_ne (by decide)).trans hknown, (upd_ne (by decide)).trans hmade2, ?_, ?_, ?_, ?_, ?_⟩
                    · rw [List.map_append]
                      exact (hpa.mono (by walk_at "sub")).snoc (.tuple (.head _) (PAll.mono (by walk_at "sub") (.cons p6 (.cons p3 .nil))))
                    · rw [List.nodup_append]
                      refine ⟨hnd, by simp, fun a ha b hb => ?_⟩
                      rw [List.mem_singleton] at hb
                      exact fun e => hc (hb ▸ e ▸ ha)
                    · rw [List.length_append, List.length_singleton]; walk_at "o"
                    · intro p hp
                      rcases List.mem_append.mp hp with hp | hp
                      · exact h2 p hp
                      · rw [List.mem_singleton] at hp; rw [hp]; rfl
                    · intro j r' hj hr'
                      by_cases e : j = i
                      · rw [e, hrr] at hr'; cases hr'; simp
                      · exact List.mem_append_left _ (hcov j r' (by walk_at "o") hr')
                  · have hc : [r.must, r.escape] ∈ hs := by simpa using hc
                    walk_at "Hs"
                    refine ⟨hs, _, _, rfl, (upd_ne (by decide)).trans hheads, (upd_ne (by decide)).trans hknown, (upd_ne (by decide)).trans hmade2, hpa.mono (by walk_at "sub"), hnd, by walk_at "o", h2, fun j r' hj hr' => ?_⟩
                    by_cases e : j = i
                    · rw [e, hrr] at hr'; cases hr'; exact hc
                    · exact hcov j r' (by walk_at "o") hr'
                · obtain ⟨hs, hvs, ch, rfl, hheads, hknown, hmade2, hpa, hnd, hln, h2, hcov⟩ := hI
                  have hhl := hpa.length
                  rw [List.length_map] at hhl
                  refine After.next ?_
                  have B13 : Sub φ2 φ13 := ((B11.tl.tl).tl).tr b13
                  have gSp : PIn φ13 (.ref Ds2) (.list ((rows.map spanF).map fun cs : List (List Int) => PyData.list (cs.map intsP))) :=
                    .list (b13 _ (.tail _ (.tail _ (.head _)))) ((hss2.pMap (enc := fun cs : List (List Int) => PyData.list (cs.map intsP))).mono fun p hp => b13 _ (.tail _ (.tail _ (.tail _ hp))))
                  have gRo13 := B13 _ gRo
                  refine H_freeze ?_
                  walk_at "Hs"
                  refine LoopFor.mk' (fun i m' μ' φ' => ∃ (o1 o2 o3 : Obj) (c1 c2 c3 : Option Value) (ks : List (List Int)) (kv : List Value) (c : Nat), μ' = [(Dk, lstO kv c), (L9 + 6, o1), (L9 + 5, o2), (L9 + 4, o3), (L9 + 3, oS'), (L9 + 2, oN)] ∧ o1.data = .cell c1 ∧ o2.data = .cell c2 ∧ o3.data = .cell c3 ∧
                      m' (ofs "known") = some (.ref Dk) ∧ m' (ofs "made") = some (.ref x) ∧ PAll φ' kv (ks.map intsP) ∧ ks.Nodup ∧ (∀ c ∈ ks, c ∈ rows.flatMap codesF ∧ c.take 2 ∈ hs.take i) ∧ ∀ c ∈ rows.flatMap codesF, c.take 2 ∈ hs.take i → c ∈ ks)
                    (Src.lst (prog := prog) (w := w) C9.hh (.head _)) ⟨oOp, oEs, oMu, _, _, _, [], [], _, rfl, dOp, dEs, dMu, hknown, hmade2, .nil, .nil, fun c h => (nomatch h), fun c _ h => by simp at h⟩ (fun i v' m' μ' φ14 b14 hi hv' hI => ?_) (fun m' μ' φ14 b14 hI => ?_)
                  · obtain ⟨o1, o2, o3, c1, c2, c3, ks, kv, ck, rfl, d1, d2, d3, hkn, hmd, hkp, hknd, hk1, hk2⟩ := hI
                    obtain ⟨pp, hpp, ppin⟩ := hpa.unMap.get hv'
                    have hppl := h2 pp (List.mem_of_getElem? hpp)
                    have B14 : Sub φ2 φ14 := (B13.tl).tr b14
                    have gRo14 := B14 _ gRo
                    have ppin := ppin.mono (φ' := φ14) fun p hp => b14 _ (.tail _ hp)
                    have gSp14 := gSp.mono (φ' := φ14) fun p hp => b14 _ (.tail _ hp)
                    obtain ⟨m0, e0, rfl⟩ : ∃ a b, pp = [a, b] := by
                      match pp, hppl with
                      | [a, b], _ => exact ⟨a, b, rfl⟩
                    obtain ⟨tp, np, tm, te, rfl, htp⟩ : ∃ t n tm te, v' = .ref t ∧ (t, tupN [.int m0 tm, .int e0 te] n) ∈ φ14 := by
                      cases ppin with
                      | tuple hm r =>
                        cases r with
                        | cons h1 r => cases r with
                          | cons h2 r => cases r; cases h1; cases h2; exact ⟨_, _, _, _, rfl, hm⟩
                    refine H_assign_Tuple2 C9.hh (List.mem_append_right _ htp) ?_
                    walk_at "Hs"
                    rename_i oM' dM' oE' dE'
                    refine H_use (asked_spec (by assumption) (by walk_at "o") (by walk_at "o") hr hz (hv2.mono B14)) fun vo φ15 b15 hos => ?_
                    obtain ⟨os, hosp, hosn, hosl, hosc⟩ := hos
                    obtain ⟨wo, hwol, hwo, srco⟩ := Src.ofLst (prog := prog) (w := w) (A := A.deeper _) (φ := φ15) C9.hh hosp
                    rw [List.length_map] at hwol
                    refine LoopFor.mk' (fun k m' μ' φ' => ∃ (o1 : Obj) (c1 : Option Value) (ks : List (List Int)) (kv : List Value) (c : Nat), μ' = [(Dk, lstO kv c), (L9 + 6, o1), (L9 + 5, oE'), (L9 + 4, oM'), (L9 + 3, oS'), (L9 + 2, oN)] ∧ o1.data = .cell c1 ∧
                        m' (ofs "known") = some (.ref Dk) ∧ m' (ofs "made") = some (.ref x) ∧ PAll φ' kv (ks.map intsP) ∧ ks.Nodup ∧ (∀ c ∈ ks, c ∈ rows.flatMap codesF ∧ (c.take 2 ∈ hs.take i ∨ ∃ j o, j < k ∧ os[j]? = some o ∧ c = [m0, e0, o])) ∧ (∀ c ∈ rows.flatMap codesF, c.take 2 ∈ hs.take i → c ∈ ks) ∧
                        ∀ j o, j < k → os[j]? = some o → [m0, e0, o] ∈ rows.flatMap codesF → [m0, e0, o] ∈ ks) srco
                      ⟨o1, _, ks, kv, ck, rfl, d1, hkn, hmd, hkp.mono b15, hknd, fun c hc => ⟨(hk1 c hc).1, .inl (hk1 c hc).2⟩, hk2, fun j o hj => absurd hj (by walk_at "o")⟩ (fun k v' m' μ' φ16 b16 hk hv' hJ => ?_) (fun m' μ' φ16 b16 hJ => ?_)
                    · obtain ⟨o1, c1, ks, kv, ck, rfl, d1, hkn, hmd, hkp, hknd, hk1, hk2, hk3⟩ := hJ
                      obtain ⟨o, hoo, po⟩ := hwo.unMap.get hv'
                      obtain ⟨to, rfl⟩ : ∃ t, v' = .int o t := by cases po; exact ⟨_, rfl⟩
                      have B15 : Sub φ14 φ16 := b15.tr b16
                      have B16 : Sub φ2 φ16 := B14.tr B15
                      have gRo16 := B16 _ gRo
                      have gva16 := B16 _ gva2
                      have gSp16 := gSp14.mono B15
                      have hkl := hkp.length
                      rw [List.length_map] at hkl
                      have hkle : ks.length ≤ 32 := by
                        have h1 := nd_len hknd (fun c hc => (hk1 c hc).1)
                        have h2 := flat_len rows
                        walk_at "o"
                      walk_at "Hs"
                      rename_i oO' dO'
                      walk_at "acomp"
                      walk_at "Hs"
                      refine H_lenList (List.mem_append_right _ gva16) (by rw [sizeLine_eq]; walk_at "o") fun tl => ?_
                      walk_at "Hs"
                      refine CompOver.filterG (as := List.range rows.length) (T := fun φ v (z : Nat) => PIn φ v (.int (z : Int))) (fun p => decide ([m0, e0, o] ∈ spanAt rows p)) id (Src.range (prog := prog) (w := w) (n := rows.length) C9.hh (.head _) (range_small (by walk_at "o") (by walk_at "o") (by walk_at "o") (by walk_at "o")) (range_size (by walk_at "o"))) (by rw [List.length_range]) (by rw [sizeLine_eq]; walk_at "o") (fun _ _ _ _ b h => h.mono b) (fun q v' pq c oC m₂ φ17 b17 ha hP hN hx => ?_) (fun Du us φ17 b17 hus => ?_)
                      · obtain ⟨tq, rfl⟩ := hP
                        obtain ⟨hq, rfl⟩ := List.getElem?_eq_some_iff.mp ha
                        rw [List.length_range] at hq
                        rw [List.getElem_range]
                        have gSp17 := gSp16.mono (φ' := φ17) fun p hp => b17 _ (.tail _ hp)
                        walk_at "Hs"
                        refine H_itemListP (gSp17.mono (by walk_at "sub")) (by walk_at "o") (by walk_at "o") (d := .list ((spanF rows[q]).map intsP)) (by rw [show (0 + (q : Int)).toNat = q by walk_at "o", List.getElem?_map, List.getElem?_map, List.getElem?_eq_getElem hq]; rfl) (fun vq pq => ?_)
                        refine H_inList (x := [m0, e0, o]) (ys := spanF rows[q]) codesEnc (by assumption) (by unfold cLine; walk_at "o") (.tuple (.head _) (.cons (.int _ _) (.cons (.int _ _) (.cons (.int _ _) .nil)))) pq trivial (fun _ _ => trivial) ?_
                        have es : spanAt rows q = spanF rows[q] := by unfold spanAt; rw [List.getElem?_eq_getElem hq]
                        walk_at "Hs"
                        refine ⟨by rw [es]; exact decide_eq_decide.mpr Iff.rfl, rfl, rfl, fun _ => ?_⟩
                        walk_at "Hs"
                        exact ⟨rfl, rfl, by rw [show ((id q : Nat) : Int) = 0 + (q : Int) by simp]; exact .int _ _⟩
                      · rw [List.map_id] at hus
                        have B17 : Sub φ2 φ17 := B16.tl.tr b17
                        have sx17 := B17 _ sx
                        have sdx17 := B17 _ sdx
                        refine After.next ?_
                        refine H_freeze ?_
                        walk_at "Hs"
                        walk_at "comp"
                        walk_at "Hs"
                        refine H_end_freeze ?_
                        refine set_at (by assumption) (by walk_at "o") (by walk_at "o") hz (hS.mono B17.tl) (fun af2 cf2 φ18 b18 => ⟨_, _, rfl, ?_⟩)
                        have B18 : Sub φ2 φ18 := (B17.tl).tr b18
                        have hnums := codeIts_num (P := fun v p => ∃ r, FormAt ((af2, lstO (getIts (codeIts (ys.zip rows)) [m0, e0, o]) cf2) :: φ18) v r (p : Int)) [m0, e0, o] ys rows 0 hyl (fun j v r a b => ⟨r, by rw [Nat.zero_add]; exact (hfa j v r a b).mono B18.tl⟩)
                        rw [under_zip hr] at hnums
                        have hul : (underF rows [m0, e0, o]).length ≤ 4 := by unfold underF; have := List.length_filter_le (fun p => decide ([m0, e0, o] ∈ spanAt rows p)) (List.range rows.length); rw [List.length_range] at this; walk_at "o"
                        have hnumsl := hnums.length
                        refine CompOver.map (as := underF rows [m0, e0, o]) (S := fun φ v (p : Nat) => ∃ r, FormAt φ v r (p : Int)) (T := fun φ v (p : Nat) => PIn φ v (.int (p : Int))) id (Src.lst (prog := prog) (w := w) C9.hh (.head _)) (by rw [sizeLine_eq]; walk_at "o") hnums (fun _ _ _ _ b h => h.imp fun _ h => h.mono b) (fun _ _ _ _ b h => h.mono b) (fun v' r c oC m₂ φ19 b19 hrm hv' hN hx => ?_) (fun Dz oz φ19 b19 hoz => ?_)
                        · obtain ⟨rf, hfi⟩ := hv'
                          obtain ⟨xf, dxf, odf, fa, fk, rfl, g1, g2, g3, g4, g5⟩ := id hfi.ex
                          walk_at "Hs"
                          exact ⟨rfl, rfl, g5⟩
                        · rw [List.map_id] at hoz
                          have b19' : Sub φ17 φ19 := fun p hp => b19 _ (.tail _ (b18 _ (.tail _ hp)))
                          have gDu : (Du, LCg.lst us) ∈ φ19 := b19 _ (.tail _ (b18 _ (.head _)))
                          have hus19 := hus.mono fun v a h => PIn.mono b19' h
                          have pu : PL φ19 (.ref Du) PyData.int ((underF rows [m0, e0, o]).map fun p : Nat => (p : Int)) := .list gDu ((hus19.map (R := fun v (c : Int) => PIn φ19 v (.int c)) (f := fun k : Nat => (k : Int))).pMap)
                          refine H_freeze ?_
                          walk_at "Hs"
                          refine H_neL (x := (underF rows [m0, e0, o]).map fun p : Nat => (p : Int)) (y := (underF rows [m0, e0, o]).map fun p : Nat => (p : Int)) Enc.int (by walk_at "o") (by assumption) (by unfold cLine; walk_at "o") (.list (.head _) (((hoz.map (R := fun v (c : Int) => PIn φ19 v (.int c)) (f := fun k : Nat => (k : Int))).pMap).mono fun p hp => .tail _ hp)) (pu.mono fun p hp => .tail _ hp) (fun _ _ => trivial) (fun _ _ => trivial) ?_
                          rw [show ∀ l : List Int, (!decide (l = l)) = false from fun l => by simp]
                          walk_at "Hs"
                          refine H_newListF (fun a0 => ?_) (Nat.zero_le _)
                          refine H_neNil (x := (underF rows [m0, e0, o]).map fun p : Nat => (p : Int)) Enc.int (by walk_at "o") (by assumption) (by unfold cLine; walk_at "o") (pu.mono (by walk_at "sub")) (.head _) (fun _ _ => trivial) ?_
                          walk_at "Hs"
                          have b16' : Sub φ16 φ19 := fun p hp => b19' _ (b17 _ (.tail _ hp))
                          have hun := under_nil hr [m0, e0, o]
                          refine ite_go (fun hc => ?_) (fun hc => ?_)
                          · have hc : [m0, e0, o] ∈ rows.flatMap codesF := by
                              simp only [Bool.not_eq_true', decide_eq_false_iff_not, List.map_eq_nil_iff, hun] at hc
                              exact Classical.not_not.mp hc
                            walk_at "Hs"
                            refine H_append (by walk_at "up") (by rw [hkl, sizeLine_eq]; walk_at "o") ?_
                            walk_at "Hs"
                            refine ⟨oO', _, ks ++ [[m0, e0, o]], _, _, rfl, dO', (upd_ne (by decide)).trans hkn, (upd_ne (by decide)).trans hmd, ?_, ?_, ?_, ?_, ?_⟩
                            · rw [List.map_append]
                              exact (hkp.mono fun p hp => .tail _ (.tail _ (.tail _ (b16' _ hp)))).snoc (.tuple (.head _) (.cons (.int _ _) (.cons (.int _ _) (.cons (.int _ _) .nil))))
                            · rw [List.nodup_append]
                              refine ⟨hknd, by simp, fun a ha b hb => ?_⟩
                              rw [List.mem_singleton] at hb
                              subst hb
                              intro e
                              subst e
                              rcases (hk1 _ ha).2 with h | ⟨j, o', hj, ho', e⟩
                              · have hpn := hnd
                                obtain ⟨j, hj, e⟩ := List.mem_iff_getElem.mp h
                                rw [List.getElem_take] at e
                                rw [List.length_take] at hj
                                have hpp2 := (List.getElem?_eq_some_iff.mp hpp)
                                obtain ⟨hi2, e2⟩ := hpp2
                                have : j = i := (List.getElem_inj hpn).mp (e.trans e2.symm)
                                walk_at "o"
                              · simp only [List.cons.injEq, true_and, and_true] at e
                                subst e
                                have h1 := List.getElem?_eq_some_iff.mp ho'
                                have h2 := List.getElem?_eq_some_iff.mp hoo
                                obtain ⟨hj1, e1⟩ := h1
                                obtain ⟨hj2, e2⟩ := h2
                                have : j = k := (List.getElem_inj hosn).mp (e1.trans e2.symm)
                                walk_at "o"
                            · intro c hc'
                              rcases List.mem_append.mp hc' with h | h
                              · obtain ⟨h1, h2⟩ := hk1 c h
                                exact ⟨h1, h2.imp id fun ⟨j, o', hj, h⟩ => ⟨j, o', by walk_at "o", h⟩⟩
                              · rw [List.mem_singleton] at h
                                subst h
                                exact ⟨hc, .inr ⟨k, o, by walk_at "o", hoo, rfl⟩⟩
                            · exact fun c h1 h2 => List.mem_append_left _ (hk2 c h1 h2)
                            · intro j o' hj ho' hin
                              by_cases e : j = k
                              · rw [e, hoo] at ho'; cases ho'; simp
                              · exact List.mem_append_left _ (hk3 j o' (by walk_at "o") ho' hin)
                          · have hc : ¬ [m0, e0, o] ∈ rows.flatMap codesF := by
                              simp only [Bool.not_eq_true', decide_eq_false_iff_not, List.map_eq_nil_iff, hun] at hc
                              exact fun q => hc (fun r => r q)
                            walk_at "Hs"
                            refine ⟨oO', _, ks, _, _, rfl, dO', (upd_ne (by decide)).trans hkn, (upd_ne (by decide)).trans hmd, hkp.mono (fun p hp => .tail _ (.tail _ (b16' _ hp))), hknd, ?_, hk2, ?_⟩
                            · intro c h
                              obtain ⟨h1, h2⟩ := hk1 c h
                              exact ⟨h1, h2.imp id fun ⟨j, o', hj, h⟩ => ⟨j, o', by walk_at "o", h⟩⟩
                            · intro j o' hj ho' hin
                              by_cases e : j = k
                              · rw [e, hoo] at ho'; cases ho'; exact absurd hin hc
                              · exact hk3 j o' (by walk_at "o") ho' hin
                    · obtain ⟨o1, c1, ks, kv, ck, rfl, d1, hkn, hmd, hkp, hknd, hk1, hk2, hk3⟩ := hJ
                      have et : hs.take (i + 1) = hs.take i ++ [[m0, e0]] := by rw [List.take_add_one, hpp]; rfl
                      walk_at "Hs"
                      refine ⟨o1, oE', oM', c1, _, _, ks, kv, ck, rfl, d1, dE', dM', hkn, hmd, hkp, hknd, fun c hc => ?_, fun c hc h2 => ?_⟩
                      · obtain ⟨h1, h3⟩ := hk1 c hc
                        refine ⟨h1, ?_⟩
                        rw [et, List.mem_append]
                        rcases h3 with h | ⟨j, o, _, _, rfl⟩
                        · exact .inl h
                        · exact .inr (by simp)
                      · rw [et, List.mem_append] at h2
                        rcases h2 with h | h
                        · exact hk2 c hc h
                        · rw [List.mem_singleton] at h
                          obtain ⟨r, hrm, hcr⟩ := List.mem_flatMap.mp hc
                          obtain ⟨o, rfl, ho1, ho2⟩ := code_shape hcr
                          simp only [List.take_succ_cons, List.take_zero, List.cons.injEq, and_true] at h
                          obtain ⟨e1, e2⟩ := h
                          obtain ⟨j, hj, e⟩ := List.mem_iff_getElem.mp (hosc r hrm o (by walk_at "o") (by walk_at "o"))
                          rw [e1, e2]
                          refine hk3 j o (by walk_at "o") (by rw [List.getElem?_eq_getElem hj, e]) ?_
                          rw [← e1, ← e2]
                          exact hc
                  · obtain ⟨o1, o2, o3, c1, c2, c3, ks, kv, ck, rfl, d1, d2, d3, hkn, hmd, hkp, hknd, hk1, hk2⟩ := hI
                    have B14 : Sub φ2 φ14 := (B13.tl).tr b14
                    have sx14 := B14 _ sx
                    have sdx14 := B14 _ sdx
                    have gRo14 := B14 _ gRo
                    have hkle : ks.length ≤ 32 := by
                      have h1 := nd_len hknd (fun c hc => (hk1 c hc).1)
                      have h2 := flat_len rows
                      walk_at "o"
                    have hkall : ∀ c, c ∈ ks ↔ c ∈ rows.flatMap codesF := fun c => ⟨fun h => (hk1 c h).1, fun h => hk2 c h (by
                      rw [hhl, List.take_length]
                      obtain ⟨r, hrm, hcr⟩ := List.mem_flatMap.mp h
                      obtain ⟨o, rfl, _, _⟩ := code_shape hcr
                      obtain ⟨j, hj, e⟩ := List.mem_iff_getElem.mp hrm
                      have := hcov j r (by walk_at "o") (by rw [List.getElem?_eq_getElem hj, e])
                      simpa using this)⟩
                    obtain ⟨r0, rest0, er⟩ : ∃ r0 rs, rows = r0 :: rs := by
                      cases rows with
                      | nil => exact absurd rfl hne
                      | cons a b => exact ⟨a, b, rfl⟩
                    have hr0 : r0 ∈ rows := by rw [er]; exact .head _
                    have h0 : (rows.map rowP)[(0 : Int).toNat]? = some (rowP r0) := by rw [er]; rfl
                    walk_at "Hs"
                    refine H_use (set_codes (by assumption) (by walk_at "o") (by walk_at "o") hz (hS.mono B14)) fun vcs φ15 b15 hcs2 => ?_
                    obtain ⟨cs2, hcp, hcn, hcso, hcm⟩ := hcs2
                    have B15 : Sub φ2 φ15 := B14.tr b15
                    walk_at "Hs"
                    refine H_sortedTup (List.mem_append_left _ (.head _)) (hkp.mono b15) (fun c hc => by
                      obtain ⟨r, _, hcr⟩ := List.mem_flatMap.mp ((hkall c).mp hc)
                      exact codes3 r c hcr) (by walk_at "o") (fun v' φ16 cs3 b16 hp3 ho3 hcp3 => ?_)
                    have B16 : Sub φ2 φ16 := B15.tr b16
                    have ec : cs2 = cs3 := codes_same hcn hcso (hp3.nodup_iff.mpr hknd) ho3 fun z => (hcm z).trans ((hkall z).symm.trans hp3.mem_iff.symm)
                    refine H_eqL (x := cs2) (y := cs3) codesEnc (by walk_at "o") (by assumption) (by unfold cLine; walk_at "o") (hcp.mono b16) hcp3 (fun _ _ => trivial) (fun _ _ => trivial) ?_
                    rw [ec, show decide (cs3 = cs3) = true by simp]
                    have sx16 := B16 _ sx
                    have sdx16 := B16 _ sdx
                    have gRo16 := B16 _ gRo
                    have hv16 : PL φ16 (.ref va) rowP rows := hv2.mono B16
                    walk_at "Hs"
                    refine H_itemListP (hv16) (by decide) (by decide) h0 (fun vr pr => ?_)
                    walk_at "Hs"
                    refine H_itemTupP pr (by decide) (by decide) rfl (fun vm0 pvm0 => ?_)
                    obtain ⟨tvm0, rfl⟩ : ∃ t, vm0 = .int r0.must t := by cases pvm0; exact ⟨_, rfl⟩
                    walk_at "Hs"
                    refine H_itemListP (hv16) (by decide) (by decide) h0 (fun vr pr => ?_)
                    walk_at "Hs"
                    refine H_itemTupP pr (by decide) (by decide) rfl (fun ve0 pve0 => ?_)
                    obtain ⟨tve0, rfl⟩ : ∃ t, ve0 = .int r0.escape t := by cases pve0; exact ⟨_, rfl⟩
                    walk_at "Hs"
                    refine H_itemListP (hv16) (by decide) (by decide) h0 (fun vr pr => ?_)
                    walk_at "Hs"
                    refine H_itemTupP pr (by decide) (by decide) rfl (fun vo0 pvo0 => ?_)
                    obtain ⟨tvo0, rfl⟩ : ∃ t, vo0 = .int r0.opcode t := by cases pvo0; exact ⟨_, rfl⟩
                    walk_at "Hs"
                    have hat : (getIts (codeIts (ys.zip rows)) [r0.must, r0.escape, r0.opcode]).length ≤ sizeLine := by
                      have h1 := getIts_len (codeIts (ys.zip rows)) [r0.must, r0.escape, r0.opcode]
                      have h2 := codeIts_len (ys.zip rows)
                      rw [List.length_zip] at h2
                      rw [sizeLine_eq]; walk_at "o"
                    have hne2 : getIts (codeIts (ys.zip rows)) [r0.must, r0.escape, r0.opcode] ≠ [] := fun e => by
                      have hnums := codeIts_num (P := fun _ _ => True) [r0.must, r0.escape, r0.opcode] ys rows 0 hyl (fun _ _ _ _ _ => trivial)
                      rw [e, under_zip hr] at hnums
                      have hl := hnums.length
                      have : underF rows [r0.must, r0.escape, r0.opcode] = [] := List.length_eq_zero_iff.mp (by simpa using hl.symm)
                      exact (under_nil hr _).mp this (List.mem_flatMap.mpr ⟨r0, hr0, code_own r0⟩)
                    refine set_at (by assumption) (by walk_at "o") (by walk_at "o") hz (hS.mono B16) (fun af cf φ17 b17 => ?_)
                    walk_at "Hs"
                    refine emptied_spec (by assumption) (by walk_at "o") (by walk_at "o") hat (fun φ18 b18 => ?_)
                    have B18 : Sub φ2 φ18 := (B16.tr b17).tr b18
                    have sx18 := B18 _ sx
                    have sdx18 := B18 _ sdx
                    have gRo18 := B18 _ gRo
                    have hv18 : PL φ18 (.ref va) rowP rows := hv2.mono B18
                    walk_at "Hs"
                    refine H_itemListP (hv18) (by decide) (by decide) h0 (fun vr pr => ?_)
                    walk_at "Hs"
                    refine H_itemTupP pr (by decide) (by decide) rfl (fun vm1 pvm1 => ?_)
                    obtain ⟨tvm1, rfl⟩ : ∃ t, vm1 = .int r0.must t := by cases pvm1; exact ⟨_, rfl⟩
                    walk_at "Hs"
                    refine H_itemListP (hv18) (by decide) (by decide) h0 (fun vr pr => ?_)
                    walk_at "Hs"
                    refine H_itemTupP pr (by decide) (by decide) rfl (fun ve1 pve1 => ?_)
                    obtain ⟨tve1, rfl⟩ : ∃ t, ve1 = .int r0.escape t := by cases pve1; exact ⟨_, rfl⟩
                    walk_at "Hs"
                    refine H_itemListP (hv18) (by decide) (by decide) h0 (fun vr pr => ?_)
                    walk_at "Hs"
                    refine H_itemTupP pr (by decide) (by decide) rfl (fun vo1 pvo1 => ?_)
                    obtain ⟨tvo1, rfl⟩ : ∃ t, vo1 = .int r0.opcode t := by cases pvo1; exact ⟨_, rfl⟩
                    walk_at "Hs"
                    refine set_at (by assumption) (by walk_at "o") (by walk_at "o") hz (hS.mono B18) (fun af2 cf2 φ19 b19 => ?_)
                    walk_at "Hs"
                    refine H_newListF (fun a0 => ?_) (Nat.zero_le _)
                    refine H_neEmpty (by assumption) (by unfold cLine; walk_at "o") (List.mem_append_left _ (.head _)) (List.mem_append_right _ (.head _)) hne2 ?_
                    walk_at "Hs"
                    exact ⟨[], List.nil_sublist _, rfl, rfl, rfl⟩
end
theorem H_with_cx {M : Model} {A' : Around} {h₀ : Heap} {L : Addr} {α : Type} {t : Sem α} {m : Loc} {μ φ : Led} {Q : α → Loc → Led → Led → Prop} {K : Frag} {d u : Nat} (C : Cx K A' h₀ L d u) (h : Cx K A' h₀ L d u → H M A' h₀ L t m μ φ Q) : H M A' h₀ L t m μ φ Q := h C
theorem law_final : PySem.Challenge.rw_pb0414_01.Holds :=
  Mine.hd (by
    w_strict (k_go0; (all_goals try k_fold);
              (rename Frag.In _ _ => KX
               rename Top _ _ _ _ _ _ => T
               rename Heap.IsList _ _ _ => hL
               rename IntsAre _ _ => hI
               rename ¬ (_ : Int) < _ => hn
               rename Fr _ _ _ _ => F
               rename News _ _ _ _ => N0
               rename _ = Data.cell _ => dNa
               rename List Int => ns
               rename Obj => oNa
               rename Shared => s1
               rename World => w
               have hn63 : ns.length ≤ 63 := by have h := hn; simp at h; walk_at "o"
               refine H_run (R := []) (φ := []) (μ := [(s1.heap.objs.size + 1, oNa)]) (Q := fun fl m μ φ => ∃ μ'' : Led, μ''.Sublist μ ∧ retOf fl = .bool true) ?hh9 ⟨F, ?N9, ?D9, ?U9⟩ ?kk9
               case D9 => intro p hp q hq; cases hq
               case U9 => simp
               case N9 => exact N0
               case kk9 =>
                 intro fl h9 tk9 m9 μ9 φ9 S9 _ hq
                 obtain ⟨_, _, hq⟩ := hq
                 cases fl with
                 | ret v =>
                   replace hq : v = .bool true := hq
                   subst hq
                   show GoodW _ _ _ _ _ (.ok (.ret (.bool true))) _
                   exact goodW_bool S9.F (by assumption) (raisesW_false (by wrow_none_raised)) (by wrow_post)
                 | _ => cases hq
               case hh9 =>
                 refine H_with_cx (Cx.deeper (d := 301) (u := 4) KX (by decide) (by decide) rfl (below_caller _) T rfl rfl rfl) (fun C9 => ?_)
                 replace dNa : oNa.data = .cell none := dNa
                 rename List Value => vs
                 have hvl := hI.length
                 walk_at "Hif"
                 walk_at "acomp"
                 walk_at "Hs"
                 refine H_sliceListB hL (List.mem_append_right _ (.head _)) .none (.int _ _) .none (by simp) (by rw [sizeLine_eq]; walk_at "o") (fun Dsl => ?_)
                 have hI4 : IntsAre (slicePick vs.toArray none (some 4) none).toList (ns.take 4) := slice_ints_uptoW hI (by walk_at "o")
                 generalize (slicePick vs.toArray none (some 4) none).toList = sl at hI4
                 have hsl := hI4.length
                 have htl : (ns.take 4).length ≤ 4 := by rw [List.length_take]; walk_at "o"
                 refine CompOver.map (as := ns.take 4) (S := fun φ v i => PIn φ v (.int i)) (T := fun φ v r => PIn φ v (rowP r)) rowOf (Src.lst (prog := PySem.Challenge.rw_pb0414_01.row.prog) (w := w) C9.hh (.head _)) (by rw [sizeLine_eq]; walk_at "o") (ints_PAll hI4).unMap (fun _ _ _ _ b h => h.mono b) (fun _ _ _ _ b h => h.mono b) (fun v' i c oC m₂ φ1 b1 hi hv' hN hx => ?_) (fun D0 rs0 φ1 b1 hrs0 => ?_)
                 · obtain ⟨t, rfl⟩ : ∃ t, v' = .int i t := by cases hv'; exact ⟨_, rfl⟩
                   walk_at "Hs"
                   refine H_use (fields_spec (by assumption) (by walk_at "o") (by walk_at "o")) fun v φ2 b2 e => ?_
                   exact ⟨rfl, rfl, e⟩
                 · refine After.next ?_
                   refine H_freeze ?_
                   have hrs0 : PAll φ1 rs0 (((ns.take 4).map rowOf).map rowP) := hrs0.pMap
                   refine H_mid (fun m' μ' φ' => ∃ (va : Addr) (vvs : List Value) (vn : Nat) (rows : List Row), μ' = [(s1.heap.objs.size + 1, oNa)] ∧ m' (ofs "rows") = some (.ref va) ∧ (va, lstO vvs vn) ∈ φ' ∧ PAll φ' vvs (rows.map rowP) ∧ (∀ r ∈ rows, RowOk r) ∧ rows ≠ [] ∧ rows.length ≤ 4) ?_ (fun m' μ' φ2 b2 hP => ?_)
                   · walk_at "Hs"
                     refine H_newListF (fun a0 => ?_) (Nat.zero_le _)
                     have hok0 : ∀ r ∈ (ns.take 4).map rowOf, RowOk r := fun r hr => by obtain ⟨i, _, rfl⟩ := List.mem_map.mp hr; exact rowOf_ok i
                     refine H_eqL (x := (ns.take 4).map rowOf) (y := []) rowEnc (by walk_at "o") (by assumption) (by unfold cLine; walk_at "o") (.list (.tail _ (.head _)) (hrs0.mono (by walk_at "sub"))) (.list (.head _) .nil) hok0 (by simp) ?_
                     walk_at "Hs"
                     refine ite_go (fun hc => ?_) (fun hc => ?_)
                     · walk_at "Hs"
                       refine H_use (fields_spec (by assumption) (by walk_at "o") (by walk_at "o")) fun v1 φ2 b2 e1 => ?_
                       walk_at "Hs"
                       refine H_use (fields_spec (by assumption) (by walk_at "o") (by walk_at "o")) fun v2 φ3 b3 e2 => ?_
                       walk_at "Hs"
                       refine H_newListF (fun va => ?_) (by size_fits)
                       walk_at "Hs"
                       refine ⟨rfl, va, _, _, [rowOf 11, rowOf 16], rfl, rfl, .head _, .cons ((e1.mono b3).mono (by walk_at "sub")) (.cons (e2.mono (by walk_at "sub")) .nil), fun r hr => ?_, by simp, by simp⟩
                       rcases List.mem_cons.mp hr with rfl | hr
                       · exact rowOf_ok _
                       · rw [List.mem_singleton] at hr; rw [hr]; exact rowOf_ok _
                     · walk_at "Hs"
                       exact ⟨rfl, D0, _, _, _, rfl, rfl, .tail _ (.head _), hrs0.mono (by walk_at "sub"), hok0, by simpa using hc, by rw [List.length_map]; exact htl⟩
                   · obtain ⟨va, vvs, vn, rows, rfl, hrows, gva, hvv, hr, hne, hz⟩ := hP
                     have hvvl := hvv.length
                     rw [List.length_map] at hvvl
                     have hv : PL φ2 (.ref va) rowP rows := .list gva hvv
                     walk_at "Hs"
                     refine H_use (set_right (by assumption) (by walk_at "o") (by walk_at "o") hr hz hne hv) fun v φ3 b3 e => ?_
                     subst e
                     walk_at "Hs"
                     refine ite_no rfl ?_
                     walk_at "Hs"
                     have gva3 := b3 _ gva
                     have hvv3 := hvv.mono b3
                     have hrR : ∀ r ∈ rows.reverse, RowOk r := fun r h => hr r (List.mem_reverse.mp h)
                     have hzR : rows.reverse.length ≤ 4 := by rw [List.length_reverse]; exact hz
                     have hneR : rows.reverse ≠ [] := by simpa using hne
                     refine H_sliceList (List.mem_append_right _ (.tail _ gva3)) (List.mem_append_right _ (.head _)) .none .none (.int _ _) (by simp) (by rw [sizeLine_eq]; walk_at "o") (fun Dr => ?_)
                     rw [slice_rev vvs (by walk_at "o")]
                     have hrev3 : PAll φ3 vvs.reverse (rows.reverse.map rowP) := by rw [List.map_reverse]; exact hvv3.rev
                     walk_at "Hs"
                     refine H_use (set_right (by assumption) (by walk_at "o") (by walk_at "o") hrR hzR hneR (.list (.head _) (hrev3.mono (by walk_at "sub")))) fun v φ4 b4 e => ?_
                     subst e
                     have B4 : Sub φ2 φ4 := fun p hp => b4 _ (.tail _ (.tail _ (b3 _ hp)))
                     have gva4 := B4 _ gva
                     have hvv4 := hvv.mono B4
                     walk_at "Hs"
                     refine ite_no rfl ?_
                     walk_at "Hs"
                     walk_at "comp"
                     walk_at "Hs"
                     refine CompOver.forms (Src.lst (prog := PySem.Challenge.rw_pb0414_01.row.prog) (w := w) C9.hh gva4) (by rw [sizeLine_eq]; walk_at "o") hvv4.unMap (fun v' r c oC m₂ μ' φ' Q b hrm pv hN hx hQ => ?_) (fun D1 ys1 ds1 φ5 b5 hM1 => ?_)
                     · walk_at "Hs"
                       exact law_form_spec (by assumption) (by walk_at "o") (by walk_at "o") (hr r hrm) pv hQ
                     · walk_at "Hs"
                       refine H_freeze ?_
                       refine set_make (by assumption) (by walk_at "o") (by walk_at "o") (.head _) (hM1.mono fun _ h => .tail _ h) hr hz (fun xa φ6 b6 hSa => ?_)
                       have B6 : Sub φ4 φ6 := fun p hp => b6 _ (.tail _ (b5 _ hp))
                       have gva6 := B6 _ gva4
                       have hvv6 := hvv4.mono B6
                       walk_at "Hs"
                       walk_at "comp"
                       walk_at "Hs"
                       refine H_sliceList (List.mem_append_right _ (.tail _ gva6)) (List.mem_append_right _ (.head _)) .none .none (.int _ _) (by simp) (by rw [sizeLine_eq]; walk_at "o") (fun Dr2 => ?_)
                       rw [slice_rev vvs (by walk_at "o")]
                       have hrev6 : PAll φ6 vvs.reverse (rows.reverse.map rowP) := by rw [List.map_reverse]; exact hvv6.rev
                       refine CompOver.forms (rows := rows.reverse) (Src.lst (prog := PySem.Challenge.rw_pb0414_01.row.prog) (w := w) C9.hh (.head _)) (by rw [List.length_reverse, sizeLine_eq]; walk_at "o") (hrev6.mono (by walk_at "sub")).unMap (fun v' r c oC m₂ μ' φ' Q b hrm pv hN hx hQ => ?_) (fun D2 ys2 ds2 φ7 b7 hM2 => ?_)
                       · walk_at "Hs"
                         exact law_form_spec (by assumption) (by walk_at "o") (by walk_at "o") (hrR r hrm) pv hQ
                       · walk_at "Hs"
                         refine H_freeze ?_
                         refine set_make (by assumption) (by walk_at "o") (by walk_at "o") (.head _) (hM2.mono fun _ h => .tail _ h) hrR hzR (fun xb φ8 b8 hSb => ?_)
                         have B8 : Sub φ6 φ8 := fun p hp => b8 _ (.tail _ (b7 _ (.tail _ (.tail _ hp))))
                         have hSa8 := hSa.mono B8
                         have gva8 := B8 _ gva6
                         have hvv8 := hvv6.mono B8
                         obtain ⟨dxa, oXa, a1, a2, a3, ka, sxa, sdxa, hsAa⟩ : ∃ (dxs : Addr) (oX : Obj) (f1 f2 f3 : Value) (k : Nat), (xa, instObj 95 dxs) ∈ φ8 ∧ (dxs, oX) ∈ φ8 ∧ Attrs oX (setF f1 f2 f3) k := hSa8.obj
                         obtain ⟨dxb, oXb, c1, c2, c3, kb, sxb, sdxb, hsAb⟩ : ∃ (dxs : Addr) (oX : Obj) (f1 f2 f3 : Value) (k : Nat), (xb, instObj 95 dxs) ∈ φ8 ∧ (dxs, oX) ∈ φ8 ∧ Attrs oX (setF f1 f2 f3) k := hSb.obj
                         have hfa : ∀ (j : Nat) (v : Value) (r : Row), ys1[j]? = some v → rows[j]? = some r → FormAt φ8 v r j := hSa8.forms
                         have hfb : ∀ (j : Nat) (v : Value) (r : Row), ys2[j]? = some v → rows.reverse[j]? = some r → FormAt φ8 v r j := hSb.forms
                         have hyl1 := hM1.length
                         have hyl2 := hM2.length
                         have nok : ∀ z ∈ rows.map (·.name), PyData.strOk z = true := fun z h => by
                           obtain ⟨r, h1, rfl⟩ := List.mem_map.mp h
                           exact row_strOk (hr r h1)
                         walk_at "Hs"
                         refine H_use (set_names (by assumption) (by walk_at "o") (by walk_at "o") hz hSa8) fun vn1 φ9 b9 hnn => ?_
                         obtain ⟨na, hna, nda, soa, mea⟩ := hnn
                         have sxb9 := b9 _ sxb
                         have sdxb9 := b9 _ sdxb
                         walk_at "Hs"
                         refine H_use (set_names (by assumption) (by walk_at "o") (by walk_at "o") hzR (hSb.mono b9)) fun vn2 φ10 b10 hnn => ?_
                         obtain ⟨nb, hnb, ndb, sob, meb⟩ := hnn
                         have e1 : na = nb := strs_same nda soa ndb sob fun z => (mea z).trans ((meb z).trans (by rw [List.map_reverse, List.mem_reverse])).symm
                         refine H_neL (x := na) (y := nb) Enc.str (by walk_at "o") (by assumption) (by unfold cLine; walk_at "o") (hna.mono b10) hnb (fun z h => nok z ((mea z).mp h)) (fun z h => nok z ((mea z).mp (e1 ▸ h))) ?_
                         rw [e1, show (!decide (nb = nb)) = false by simp]
                         have B10 : Sub φ8 φ10 := b9.tr b10
                         have sxa10 := B10 _ sxa
                         have sdxa10 := B10 _ sdxa
                         walk_at "Hs"
                         refine H_use (set_codes (by assumption) (by walk_at "o") (by walk_at "o") hz (hSa8.mono B10)) fun vc1 φ11 b11 hcc => ?_
                         obtain ⟨ca, hca, cda, csa, cma⟩ := hcc
                         have B11 : Sub φ8 φ11 := B10.tr b11
                         have sxb11 := B11 _ sxb
                         have sdxb11 := B11 _ sdxb
                         walk_at "Hs"
                         refine H_use (set_codes (by assumption) (by walk_at "o") (by walk_at "o") hzR (hSb.mono B11)) fun vc2 φ12 b12 hcc => ?_
                         obtain ⟨cb, hcb, cdb, csb, cmb⟩ := hcc
                         have e2 : ca = cb := codes_same cda csa cdb csb fun z => (cma z).trans ((cmb z).trans (by simp only [List.mem_flatMap, List.mem_reverse])).symm
                         refine H_neL (x := ca) (y := cb) codesEnc (by walk_at "o") (by assumption) (by unfold cLine; walk_at "o") (hca.mono b12) hcb (fun _ _ => trivial) (fun _ _ => trivial) ?_
                         rw [e2, show (!decide (cb = cb)) = false by simp]
                         have B12 : Sub φ8 φ12 := B11.tr b12
                         have sxa12 := B12 _ sxa
                         have sdxa12 := B12 _ sdxa
                         walk_at "Hs"
                         refine H_use (set_names (by assumption) (by walk_at "o") (by walk_at "o") hz (hSa8.mono B12)) fun vn3 φ13 b13 hnn => ?_
                         obtain ⟨nc, hnc, ndc, soc, mec⟩ := hnn
                         have B13 : Sub φ8 φ13 := B12.tr b13
                         obtain ⟨wn, hwnl, hwn, srcn⟩ := Src.ofLst (prog := PySem.Challenge.rw_pb0414_01.row.prog) (w := w) (A := callerA.deeper _) (φ := φ13) C9.hh hnc
                         have hwU := hwn.unMap
                         refine LoopFor.mk' (fun i m' μ' φ' => ∃ oN v0, μ' = [(s1.heap.objs.size + 1, oN)] ∧ oN.data = .cell v0 ∧ m' (ofs "rows") = some (.ref va) ∧ m' (ofs "first_set") = some (.ref xa) ∧ m' (ofs "other_set") = some (.ref xb)) srcn ⟨oNa, _, rfl, dNa, hrows, rfl, rfl⟩ (fun i v' m' μ' φ14 b14 hi hv' hI => ?_) (fun m' μ' φ14 b14 hI => ?_)
                         · obtain ⟨oN, v0, rfl, dN, hrows, hfirst, hother⟩ := hI
                           obtain ⟨nm, hnm, pn⟩ := hwU.get hv'
                           obtain ⟨tn, rfl⟩ : ∃ t, v' = .str nm t := by cases pn; exact ⟨_, rfl⟩
                           have hnm2 : nm ∈ rows.map (·.name) := (mec nm).mp (List.mem_of_getElem? hnm)
                           have B14 : Sub φ8 φ14 := B13.tr b14
                           have gva14 := B14 _ gva8
                           have hvv14 := hvv8.mono B14
                           walk_at "Hs"
                           rename_i oN' dN'
                           walk_at "comp"
                           walk_at "Hs"
                           refine CompOver.formsIf (fun r => decide (r.name = nm)) (Src.lst (prog := PySem.Challenge.rw_pb0414_01.row.prog) (w := w) C9.hh gva14) (by rw [sizeLine_eq]; walk_at "o") hvv14.unMap (fun v' r c oC m₂ dsI φ' b hrm pv hN hx => ?_) (fun v' r c oC m₂ μ' φ' Q b hrm pv hN hx hQ => ?_) (fun D3 ys3 ds3 φ15 b15 hM3 => ?_)
                           · walk_at "Hs"
                             refine H_itemTupP pv (by decide) (by decide) rfl (fun v1 p1 => ?_)
                             obtain ⟨t1, rfl⟩ : ∃ t, v1 = .str r.name t := by cases p1; exact ⟨_, rfl⟩
                             walk_at "Hs"
                             exact ⟨rfl, rfl, rfl⟩
                           · walk_at "Hs"
                             exact law_form_spec (by assumption) (by walk_at "o") (by walk_at "o") (hr r hrm) pv hQ
                           · have hM3 : FormsM φ15 ys3 ds3 (ownOf rows nm) := hM3
                             have hrO := own_ok hr nm
                             have hzO : (ownOf rows nm).length ≤ 4 := Nat.le_trans (own_len rows nm) hz
                             walk_at "Hs"
                             refine H_freeze ?_
                             refine set_make (by assumption) (by walk_at "o") (by walk_at "o") (.head _) (hM3.mono fun _ h => .tail _ h) hrO hzO (fun xc φ16 b16 hSc => ?_)
                             have B16 : Sub φ8 φ16 := fun p hp => b16 _ (.tail _ (b15 _ (B14 _ hp)))
                             have hSa16 := hSa8.mono B16
                             have hSb16 := hSb.mono B16
                             obtain ⟨dxc, oXc, f1, f2, f3, kc, sxc, sdxc, hsAc⟩ : ∃ (dxs : Addr) (oX : Obj) (f1 f2 f3 : Value) (k : Nat), (xc, instObj 95 dxs) ∈ φ16 ∧ (dxs, oX) ∈ φ16 ∧ Attrs oX (setF f1 f2 f3) k := hSc.obj
                             have hfc : ∀ (j : Nat) (v : Value) (r : Row), ys3[j]? = some v → (ownOf rows nm)[j]? = some r → FormAt φ16 v r j := hSc.forms
                             have hyl3 := hM3.length
                             have sxa16 := B16 _ sxa
                             have sdxa16 := B16 _ sdxa
                             have sxb16 := B16 _ sxb
                             have sdxb16 := B16 _ sdxb
                             have hfa16 := fun j v r a b => (hfa j v r a b).mono B16
                             have hfb16 := fun j v r a b => (hfb j v r a b).mono B16
                             have nmok := nok nm hnm2
                             walk_at "Hs"
                             refine H_use (set_names (by assumption) (by walk_at "o") (by walk_at "o") hzO hSc) fun vnn φ17 B17 hnn => ?_
                             obtain ⟨nd, hnd, ndd, sod, med⟩ := hnn
                             walk_at "Hs"
                             refine H_newListF (fun ad => ?_) (by size_fits)
                             have e3 : nd = [nm] := strs_same ndd sod (by simp) rfl fun z => (med z).trans (own_name hnm2 z)
                             refine H_neL (x := nd) (y := [nm]) Enc.str (by walk_at "o") (by assumption) (by unfold cLine; walk_at "o") (hnd.mono (by walk_at "sub")) (.list (.head _) (.cons (.str _ _) .nil)) (fun z h => by rw [e3, List.mem_singleton] at h; rw [h]; exact nmok) (fun z h => by rw [List.mem_singleton] at h; rw [h]; exact nmok) ?_
                             rw [e3, show (!decide ([nm] = [nm])) = false by simp]
                             have Bd : Sub φ16 ((ad, lstO [Value.str nm tn] 0) :: φ17) := B17.tl
                             have sxaBd := Bd _ sxa16
                             have sdxaBd := Bd _ sdxa16
                             have sxbBd := Bd _ sxb16
                             have sdxbBd := Bd _ sdxb16
                             have sxcBd := Bd _ sxc
                             have sdxcBd := Bd _ sdxc
                             walk_at "Hs"
                             walk_at "comp"
                             walk_at "Hs"
                             refine H_end_freeze ?_
                             have hgl20 := getIts_len (nameIts (ys3.zip (ownOf rows nm))) nm
                             have hnl20 : (nameIts (ys3.zip (ownOf rows nm))).length ≤ 4 := by have := hzO; simp only [nameIts, List.length_map, List.length_zip]; walk_at "o"
                             refine set_find (by assumption) (by walk_at "o") (by walk_at "o") hzO (hSc.mono Bd) (fun af20 cf20 φf20 bf20 => ⟨_, _, rfl, ?_⟩)
                             have Bf20 : Sub φ16 φf20 := Bd.tr bf20
                             have hownA20 := nameIts_sub (P := fun v r => ∃ j, FormAt ((af20, lstO (getIts (nameIts (ys3.zip (ownOf rows nm))) nm) cf20) :: φf20) v r j) (fun j v r a b => ⟨j, (hfc j v r a b).mono Bf20.tl⟩) nm hyl3
                             refine CompOver.map (as := ownOf (ownOf rows nm) nm) (S := fun φ v r => (∃ j, FormAt φ v r j) ∧ r ∈ (ownOf rows nm)) (T := fun φ v r => PIn φ v (rowP r)) id (Src.lst (prog := PySem.Challenge.rw_pb0414_01.row.prog) (w := w) C9.hh (.head _)) (by rw [sizeLine_eq]; walk_at "o") hownA20 (fun _ _ _ _ b h => ⟨h.1.imp fun _ h => h.mono b, h.2⟩) (fun _ _ _ _ b h => h.mono b) (fun v' r c oC m₂ φ12 b12 hrm hv' hN hx => ?_) (fun D20 o20 φ20 b20 hoz20 => ?_)
                             · obtain ⟨⟨jf, hfi⟩, _⟩ := hv'
                               obtain ⟨xf, dxf, odf, fa, fk, rfl, g1, g2, g3, g4, g5⟩ := id hfi.ex
                               walk_at "Hs"
                               refine H_use (told_spec (by assumption) (by walk_at "o") (by walk_at "o") hfi) fun v φ3 b3 e => ?_
                               exact ⟨rfl, rfl, e⟩
                             · rw [List.map_id] at hoz20
                               have hoz20 : PAll φ20 o20 ((ownOf (ownOf rows nm) nm).map rowP) := hoz20.pMap
                               have bb20 : Sub _ φ20 := bf20.tr (fun p hp => b20 _ (List.Mem.tail _ hp))
                               have B20 : Sub φ16 φ20 := fun p hp => b20 _ (.tail _ (Bf20 _ hp))
                               refine H_freeze ?_
                               have sxaB20 := B20 _ sxa16
                               have sdxaB20 := B20 _ sdxa16
                               have sxbB20 := B20 _ sxb16
                               have sdxbB20 := B20 _ sdxb16
                               have sxcB20 := B20 _ sxc
                               have sdxcB20 := B20 _ sdxc
                               walk_at "Hs"
                               walk_at "comp"
                               walk_at "Hs"
                               refine H_end_freeze ?_
                               have hgl21 := getIts_len (nameIts (ys1.zip rows)) nm
                               have hnl21 : (nameIts (ys1.zip rows)).length ≤ 4 := by have := hz; simp only [nameIts, List.length_map, List.length_zip]; walk_at "o"
                               refine set_find (by assumption) (by walk_at "o") (by walk_at "o") hz (hSa16.mono B20.tl) (fun af21 cf21 φf21 bf21 => ⟨_, _, rfl, ?_⟩)
                               have Bf21 : Sub φ16 φf21 := B20.tl.tr bf21
                               have hownA21 := nameIts_sub (P := fun v r => ∃ j, FormAt ((af21, lstO (getIts (nameIts (ys1.zip rows)) nm) cf21) :: φf21) v r j) (fun j v r a b => ⟨j, (hfa16 j v r a b).mono Bf21.tl⟩) nm hyl1
                               refine CompOver.map (as := ownOf rows nm) (S := fun φ v r => (∃ j, FormAt φ v r j) ∧ r ∈ rows) (T := fun φ v r => PIn φ v (rowP r)) id (Src.lst (prog := PySem.Challenge.rw_pb0414_01.row.prog) (w := w) C9.hh (.head _)) (by rw [sizeLine_eq]; walk_at "o") hownA21 (fun _ _ _ _ b h => ⟨h.1.imp fun _ h => h.mono b, h.2⟩) (fun _ _ _ _ b h => h.mono b) (fun v' r c oC m₂ φ12 b12 hrm hv' hN hx => ?_) (fun D21 o21 φ21 b21 hoz21 => ?_)
                               · obtain ⟨⟨jf, hfi⟩, _⟩ := hv'
                                 obtain ⟨xf, dxf, odf, fa, fk, rfl, g1, g2, g3, g4, g5⟩ := id hfi.ex
                                 walk_at "Hs"
                                 refine H_use (told_spec (by assumption) (by walk_at "o") (by walk_at "o") hfi) fun v φ3 b3 e => ?_
                                 exact ⟨rfl, rfl, e⟩
                               · rw [List.map_id] at hoz21
                                 have hoz21 : PAll φ21 o21 ((ownOf rows nm).map rowP) := hoz21.pMap
                                 have bb21 : Sub _ φ21 := bf21.tr (fun p hp => b21 _ (List.Mem.tail _ hp))
                                 have B21 : Sub φ16 φ21 := fun p hp => b21 _ (.tail _ (Bf21 _ hp))
                                 refine H_freeze ?_
                                 refine H_neL (x := ownOf (ownOf rows nm) nm) (y := ownOf rows nm) rowEnc (by walk_at "o") (by assumption) (by unfold cLine; walk_at "o") (.list (.tail _ (bb21 _ (.head _))) (hoz20.mono fun p hp => .tail _ (bb21 _ (.tail _ hp)))) (.list (.head _) (hoz21.mono fun p hp => .tail _ hp)) (own_ok hrO nm) hrO ?_
                                 rw [own_self, show (!decide (ownOf rows nm = ownOf rows nm)) = false by simp]
                                 have sxaB21 := B21 _ sxa16
                                 have sdxaB21 := B21 _ sdxa16
                                 have sxbB21 := B21 _ sxb16
                                 have sdxbB21 := B21 _ sdxb16
                                 have sxcB21 := B21 _ sxc
                                 have sdxcB21 := B21 _ sdxc
                                 walk_at "Hs"
                                 walk_at "comp"
                                 walk_at "Hs"
                                 refine H_end_freeze ?_
                                 have hgl22 := getIts_len (nameIts (ys2.zip rows.reverse)) nm
                                 have hnl22 : (nameIts (ys2.zip rows.reverse)).length ≤ 4 := by have := hzR; simp only [nameIts, List.length_map, List.length_zip]; walk_at "o"
                                 refine set_find (by assumption) (by walk_at "o") (by walk_at "o") hzR (hSb16.mono B21.tl) (fun af22 cf22 φf22 bf22 => ⟨_, _, rfl, ?_⟩)
                                 have Bf22 : Sub φ16 φf22 := B21.tl.tr bf22
                                 have hownA22 := nameIts_sub (P := fun v r => ∃ j, FormAt ((af22, lstO (getIts (nameIts (ys2.zip rows.reverse)) nm) cf22) :: φf22) v r j) (fun j v r a b => ⟨j, (hfb16 j v r a b).mono Bf22.tl⟩) nm hyl2
                                 refine CompOver.map (as := ownOf rows.reverse nm) (S := fun φ v r => (∃ j, FormAt φ v r j) ∧ r ∈ rows.reverse) (T := fun φ v r => PIn φ v (rowP r)) id (Src.lst (prog := PySem.Challenge.rw_pb0414_01.row.prog) (w := w) C9.hh (.head _)) (by rw [sizeLine_eq]; walk_at "o") hownA22 (fun _ _ _ _ b h => ⟨h.1.imp fun _ h => h.mono b, h.2⟩) (fun _ _ _ _ b h => h.mono b) (fun v' r c oC m₂ φ12 b12 hrm hv' hN hx => ?_) (fun D22 o22 φ22 b22 hoz22 => ?_)
                                 · obtain ⟨⟨jf, hfi⟩, _⟩ := hv'
                                   obtain ⟨xf, dxf, odf, fa, fk, rfl, g1, g2, g3, g4, g5⟩ := id hfi.ex
                                   walk_at "Hs"
                                   refine H_use (told_spec (by assumption) (by walk_at "o") (by walk_at "o") hfi) fun v φ3 b3 e => ?_
                                   exact ⟨rfl, rfl, e⟩
                                 · rw [List.map_id] at hoz22
                                   have hoz22 : PAll φ22 o22 ((ownOf rows.reverse nm).map rowP) := hoz22.pMap
                                   have bb22 : Sub _ φ22 := bf22.tr (fun p hp => b22 _ (List.Mem.tail _ hp))
                                   have B22 : Sub φ16 φ22 := fun p hp => b22 _ (.tail _ (Bf22 _ hp))
                                   refine H_freeze ?_
                                   have sxaB22 := B22 _ sxa16
                                   have sdxaB22 := B22 _ sdxa16
                                   have sxbB22 := B22 _ sxb16
                                   have sdxbB22 := B22 _ sdxb16
                                   have sxcB22 := B22 _ sxc
                                   have sdxcB22 := B22 _ sdxc
                                   walk_at "Hs"
                                   walk_at "comp"
                                   walk_at "Hs"
                                   refine H_end_freeze ?_
                                   have hgl23 := getIts_len (nameIts (ys1.zip rows)) nm
                                   have hnl23 : (nameIts (ys1.zip rows)).length ≤ 4 := by have := hz; simp only [nameIts, List.length_map, List.length_zip]; walk_at "o"
                                   refine set_find (by assumption) (by walk_at "o") (by walk_at "o") hz (hSa16.mono B22.tl) (fun af23 cf23 φf23 bf23 => ⟨_, _, rfl, ?_⟩)
                                   have Bf23 : Sub φ16 φf23 := B22.tl.tr bf23
                                   have hownA23 := nameIts_sub (P := fun v r => ∃ j, FormAt ((af23, lstO (getIts (nameIts (ys1.zip rows)) nm) cf23) :: φf23) v r j) (fun j v r a b => ⟨j, (hfa16 j v r a b).mono Bf23.tl⟩) nm hyl1
                                   refine CompOver.map (as := ownOf rows nm) (S := fun φ v r => (∃ j, FormAt φ v r j) ∧ r ∈ rows) (T := fun φ v r => PIn φ v (rowP r)) id (Src.lst (prog := PySem.Challenge.rw_pb0414_01.row.prog) (w := w) C9.hh (.head _)) (by rw [sizeLine_eq]; walk_at "o") hownA23 (fun _ _ _ _ b h => ⟨h.1.imp fun _ h => h.mono b, h.2⟩) (fun _ _ _ _ b h => h.mono b) (fun v' r c oC m₂ φ12 b12 hrm hv' hN hx => ?_) (fun D23 o23 φ23 b23 hoz23 => ?_)
                                   · obtain ⟨⟨jf, hfi⟩, _⟩ := hv'
                                     obtain ⟨xf, dxf, odf, fa, fk, rfl, g1, g2, g3, g4, g5⟩ := id hfi.ex
                                     walk_at "Hs"
                                     refine H_use (told_spec (by assumption) (by walk_at "o") (by walk_at "o") hfi) fun v φ3 b3 e => ?_
                                     exact ⟨rfl, rfl, e⟩
                                   · rw [List.map_id] at hoz23
                                     have hoz23 : PAll φ23 o23 ((ownOf rows nm).map rowP) := hoz23.pMap
                                     have bb23 : Sub _ φ23 := bf23.tr (fun p hp => b23 _ (List.Mem.tail _ hp))
                                     have B23 : Sub φ16 φ23 := fun p hp => b23 _ (.tail _ (Bf23 _ hp))
                                     refine H_freeze ?_
                                     walk_at "Hs"
                                     have ho23 := hoz23.length
                                     rw [List.length_map] at ho23
                                     refine H_sliceList (List.mem_append_right _ (.tail _ (.head _))) (List.mem_append_right _ (.head _)) .none .none (.int _ _) (by simp) (by rw [sizeLine_eq]; walk_at "o") (fun Dr4 => ?_)
                                     rw [slice_rev o23 (by walk_at "o")]
                                     have hrv : PAll φ23 o23.reverse ((ownOf rows nm).reverse.map rowP) := by rw [List.map_reverse]; exact hoz23.rev
                                     have hrvok : ∀ r ∈ (ownOf rows nm).reverse, RowOk r := fun r h => hrO r (List.mem_reverse.mp h)
                                     rw [own_rev] at hoz22
                                     refine H_neL (x := (ownOf rows nm).reverse) (y := (ownOf rows nm).reverse) rowEnc (by walk_at "o") (by assumption) (by unfold cLine; walk_at "o") (.list (.tail _ (.tail _ (.tail _ (bb23 _ (.head _))))) (hoz22.mono fun p hp => .tail _ (.tail _ (.tail _ (bb23 _ (.tail _ hp)))))) (.list (.head _) (hrv.mono (by walk_at "sub"))) hrvok hrvok ?_
                                     rw [show (!decide ((ownOf rows nm).reverse = (ownOf rows nm).reverse)) = false by simp]
                                     have sxaB23 := B23 _ sxa16
                                     have sdxaB23 := B23 _ sdxa16
                                     have sxbB23 := B23 _ sxb16
                                     have sdxbB23 := B23 _ sdxb16
                                     have sxcB23 := B23 _ sxc
                                     have sdxcB23 := B23 _ sdxc
                                     walk_at "Hs"
                                     refine H_isTrue_chain ?_
                                     walk_at "Hs"
                                     refine H_use (set_counts (by assumption) (by walk_at "o") (by walk_at "o") hzO hrO (hSc.mono fun p hp => .tail _ (.tail _ (.tail _ (B23 _ hp))))) fun vv31 φ31 b31 h31 => ?_
                                     obtain ⟨n31, p31, nd31, so31, me31⟩ := h31
                                     have B31 : Sub φ16 φ31 := fun p hp => b31 _ (.tail _ (.tail _ (.tail _ (B23 _ hp))))
                                     have sxb31 := B31 _ sxb16
                                     have sdxb31 := B31 _ sdxb16
                                     walk_at "Hs"
                                     refine H_use (set_counts (by assumption) (by walk_at "o") (by walk_at "o") hzR hrR (hSb16.mono B31)) fun vv32 φ32 b32 h32 => ?_
                                     obtain ⟨n32, p32, nd32, so32, me32⟩ := h32
                                     have B32 : Sub φ16 φ32 := B31.tr b32
                                     have q31 : n31 = n32 := ints_same nd31 so31 nd32 so32 fun z => by rw [me31, me32, own_self, own_rev]; simp only [List.mem_reverse]
                                     refine H_eqL (x := n31) (y := n32) Enc.int (by walk_at "o") (by assumption) (by unfold cLine; walk_at "o") (p31.mono b32) p32 (fun _ _ => trivial) (fun _ _ => trivial) ?_
                                     rw [q31, show decide (n32 = n32) = true by simp]
                                     have sxa32 := B32 _ sxa16
                                     have sdxa32 := B32 _ sdxa16
                                     walk_at "Hs"
                                     refine H_use (set_counts (by assumption) (by walk_at "o") (by walk_at "o") hz hr (hSa16.mono B32)) fun vv33 φ33 b33 h33 => ?_
                                     obtain ⟨n33, p33, nd33, so33, me33⟩ := h33
                                     have B33 : Sub φ16 φ33 := B32.tr b33
                                     have q32 : n32 = n33 := ints_same nd32 so32 nd33 so33 fun z => by rw [me32, me33, own_rev]; simp only [List.mem_reverse]
                                     refine H_eqL (x := n32) (y := n33) Enc.int (by walk_at "o") (by assumption) (by unfold cLine; walk_at "o") (p32.mono b33) p33 (fun _ _ => trivial) (fun _ _ => trivial) ?_
                                     rw [q32, show decide (n33 = n33) = true by simp]
                                     have sxc33 := B33 _ sxc
                                     have sdxc33 := B33 _ sdxc
                                     walk_at "Hs"
                                     refine ite_no rfl ?_
                                     walk_at "Hs"
                                     refine H_isTrue_chain ?_
                                     walk_at "Hs"
                                     refine H_use (set_mems (by assumption) (by walk_at "o") (by walk_at "o") hzO hrO (hSc.mono B33)) fun vv41 φ41 b41 h41 => ?_
                                     obtain ⟨n41, p41, nd41, so41, me41⟩ := h41
                                     have B41 : Sub φ16 φ41 := B33.tr b41
                                     have sxb41 := B41 _ sxb16
                                     have sdxb41 := B41 _ sdxb16
                                     walk_at "Hs"
                                     refine H_use (set_mems (by assumption) (by walk_at "o") (by walk_at "o") hzR hrR (hSb16.mono B41)) fun vv42 φ42 b42 h42 => ?_
                                     obtain ⟨n42, p42, nd42, so42, me42⟩ := h42
                                     have B42 : Sub φ16 φ42 := B41.tr b42
                                     have q41 : n41 = n42 := ints_same nd41 so41 nd42 so42 fun z => by rw [me41, me42, own_self, own_rev]; simp only [List.mem_reverse]
                                     refine H_eqL (x := n41) (y := n42) Enc.int (by walk_at "o") (by assumption) (by unfold cLine; walk_at "o") (p41.mono b42) p42 (fun _ _ => trivial) (fun _ _ => trivial) ?_
                                     rw [q41, show decide (n42 = n42) = true by simp]
                                     have sxa42 := B42 _ sxa16
                                     have sdxa42 := B42 _ sdxa16
                                     walk_at "Hs"
                                     refine H_use (set_mems (by assumption) (by walk_at "o") (by walk_at "o") hz hr (hSa16.mono B42)) fun vv43 φ43 b43 h43 => ?_
                                     obtain ⟨n43, p43, nd43, so43, me43⟩ := h43
                                     have B43 : Sub φ16 φ43 := B42.tr b43
                                     have q42 : n42 = n43 := ints_same nd42 so42 nd43 so43 fun z => by rw [me42, me43, own_rev]; simp only [List.mem_reverse]
                                     refine H_eqL (x := n42) (y := n43) Enc.int (by walk_at "o") (by assumption) (by unfold cLine; walk_at "o") (p42.mono b43) p43 (fun _ _ => trivial) (fun _ _ => trivial) ?_
                                     rw [q42, show decide (n43 = n43) = true by simp]
                                     have sxc43 := B43 _ sxc
                                     have sdxc43 := B43 _ sdxc
                                     walk_at "Hs"
                                     refine ite_no rfl ?_
                                     walk_at "Hs"
                                     exact ⟨oN', _, rfl, dN', (upd_ne (by decide)).trans hrows, (upd_ne (by decide)).trans hfirst, (upd_ne (by decide)).trans hother⟩
                         · obtain ⟨oN, v0, rfl, dN, hrows, hfirst, hother⟩ := hI
                           walk_at "Hs"
                           exact ⟨[], List.nil_sublist _, rfl⟩)))
end Mine
theorem PySem.Challenge.cw_pb0414_01_holds : PySem.Challenge.rw_pb0414_01.Holds :=
  Mine.law_final
