import PyProof.Rows.All
import Wide.All
import OpenK.AllK
import Wide.FinOn
import HandS.ForMost
import HandS.ForExc
import HandS.Flow
import HandS.IsInst
import HandS.Style
import HandS.TupAny
import HandS.TupMul
import HandS.Conv
import HandS.Zip
import HandS.Rev
import HandS.DictComp
import HandS.EndBits
import HandS.Wide
import HandS.Star
import HandS.SortOrd
import HandS.SetFor
import KE.GoesEnum
import HandS.NoneIn
import PyProof.Rows.SortKeyStr
import PySem.Challenge.RW_loopgates_k17_derivations_judged
set_option Elab.async false
set_option linter.all false
set_option maxRecDepth 100000
namespace GG
open PySem PySem.Spec PyProof.Rows L2

/-! ## data -/
/-- data of the interpreter: everything is a value; a stream is a name -/
inductive D where
  | non
  | bl (b : Bool)
  | int (i : Int)
  | str (x : Str)
  | tup (ds : List D)
  | lst (ds : List D)
  | rol (ds : List D)
  | dct (kvs : List (Key × D))
  | stm (k : Nat)
  | wdt (kvs : List (Key × D))
mutual
def D.beq : D → D → Bool
  | .non, .non => true
  | .bl x, .bl y => decide (x = y)
  | .int x, .int y => decide (x = y)
  | .str x, .str y => decide (x = y)
  | .stm x, .stm y => decide (x = y)
  | .tup x, .tup y => D.beqs x y
  | .lst x, .lst y => D.beqs x y
  | .rol x, .rol y => D.beqs x y
  | .dct x, .dct y => D.beqk x y
  | .wdt x, .wdt y => D.beqk x y
  | _, _ => false
def D.beqs : List D → List D → Bool
  | [], [] => true
  | x :: xs, y :: ys => D.beq x y && D.beqs xs ys
  | _, _ => false
def D.beqk : List (Key × D) → List (Key × D) → Bool
  | [], [] => true
  | (k, x) :: xs, (l, y) :: ys => decide (k = l) && D.beq x y && D.beqk xs ys
  | _, _ => false
end
mutual
theorem D.beq_iff : ∀ a b : D, D.beq a b = true ↔ a = b
  | .non, b => by cases b <;> simp [D.beq]
  | .bl _, b => by cases b <;> simp [D.beq]
  | .int _, b => by cases b <;> simp [D.beq]
  | .str _, b => by cases b <;> simp [D.beq]
  | .stm _, b => by cases b <;> simp [D.beq]
  | .tup x, b => by
    cases b <;> simp only [D.beq, reduceCtorEq, D.tup.injEq, Bool.false_eq_true, iff_self]
    exact D.beqs_iff x _
  | .lst x, b => by
    cases b <;> simp only [D.beq, reduceCtorEq, D.lst.injEq, Bool.false_eq_true, iff_self]
    exact D.beqs_iff x _
  | .rol x, b => by
    cases b <;> simp only [D.beq, reduceCtorEq, D.rol.injEq, Bool.false_eq_true, iff_self]
    exact D.beqs_iff x _
  | .dct x, b => by
    cases b <;> simp only [D.beq, reduceCtorEq, D.dct.injEq, Bool.false_eq_true, iff_self]
    exact D.beqk_iff x _
  | .wdt x, b => by
    cases b <;> simp only [D.beq, reduceCtorEq, D.wdt.injEq, Bool.false_eq_true, iff_self]
    exact D.beqk_iff x _
theorem D.beqs_iff : ∀ a b : List D, D.beqs a b = true ↔ a = b
  | [], [] => by simp [D.beqs]
  | [], _ :: _ => by simp [D.beqs]
  | _ :: _, [] => by simp [D.beqs]
  | x :: xs, y :: ys => by simp [D.beqs, D.beq_iff x y, D.beqs_iff xs ys]
theorem D.beqk_iff : ∀ a b : List (Key × D), D.beqk a b = true ↔ a = b
  | [], [] => by simp [D.beqk]
  | [], _ :: _ => by simp [D.beqk]
  | _ :: _, [] => by simp [D.beqk]
  | (k, x) :: xs, (l, y) :: ys => by simp [D.beqk, D.beq_iff x y, D.beqk_iff xs ys]
end
instance : DecidableEq D := fun a b => if h : D.beq a b = true then Decidable.isTrue ((D.beq_iff a b).mp h) else Decidable.isFalse fun e => h ((D.beq_iff a b).mpr e)
mutual
/-- nothing in it can change -/
def D.still : D → Bool
  | .non => true
  | .bl _ => true
  | .int _ => true
  | .str _ => true
  | .tup ds => D.stills ds
  | .rol ds => D.stills ds
  | .lst _ => false
  | .dct _ => false
  | .stm _ => true
  | .wdt _ => false
def D.stills : List D → Bool
  | [] => true
  | d :: ds => D.still d && D.stills ds
end
/-- .. but for itself -/
def D.still1 : D → Bool
  | .lst ds => D.stills ds
  | .dct kvs => D.stills (kvs.map (·.2))
  | d => D.still d
abbrev Sto := List (Int × Int × Int)
/-- a slot: without a value, a value, a list or dict of its own -/
inductive Sl where
  | u
  | v (d : D)
  | o (d : D)
abbrev Env := List Sl
inductive Out (α : Type) where
  | ok (a : α) (S : Sto)
  | exc (c : Str) (v : Option (Str × D)) (S : Sto)
  | bad
def Out.bind {α β : Type} (r : Out α) (g : α → Sto → Out β) : Out β :=
  match r with
  | .ok a S => g a S
  | .exc c v S => .exc c v S
  | .bad => .bad
@[simp] theorem Out.bind_ok {α β : Type} (a : α) (S : Sto) (g : α → Sto → Out β) : (Out.ok a S).bind g = g a S := rfl
@[simp] theorem Out.bind_exc {α β : Type} (c : Str) (v : Option (Str × D)) (S : Sto) (g : α → Sto → Out β) : (Out.exc c v S : Out α).bind g = .exc c v S := rfl
@[simp] theorem Out.bind_bad {α β : Type} (g : α → Sto → Out β) : (Out.bad : Out α).bind g = .bad := rfl
/-- a pure operation's answer -/
def Out.of {α : Type} (S : Sto) : Option α → Out α
  | some a => .ok a S
  | none => .bad

/-! ## how data lie in the abstract heap -/
/-- the written part, and the world's settings -/
structure KW where
  K : PySem.W.Frag
  w : World
instance : Coe KW PySem.W.Frag := ⟨KW.K⟩
abbrev kw (X : Cx) : KW := ⟨X.K, X.w⟩
/-- a dict of the written part -/
def WD (K : KW) (d : Addr) (kvs : List (Key × V)) : Prop :=
  ∃ o, K.K.lookup d = some o ∧ (d == sysModules) = false ∧ ∀ (P : Program) (h : Heap), h.get? d = some o → ∃ vs, KV kvs vs ∧ h.DictOf (mixKind P K.w) d vs
/-- where the streams stand, and what is not to be met -/
structure Fx where
  l : List Addr
  n : Addr → Prop
def Fx.to (ρ : Fx) (l : List Addr) : Fx := ⟨l, ρ.n⟩
def Fx.w (ρ : Fx) (n : Addr → Prop) : Fx := ⟨ρ.l, n⟩
section
variable (K : KW)
/-- a list that nobody writes -/
def RoL (H : Hp) (a : Addr) (vs : List V) : Prop :=
  (∃ o, H a = some (.frz o (.lst vs))) ∨
    ∃ (o : Obj) (its : Array Value) (n : Nat), K.K.lookup a = some o ∧ o.cls = .type "list" ∧ o.dict = none ∧ o.data = .seq its n ∧ its.size ≤ sizeLine ∧ Vals vs its.toList
mutual
def RV (ρ : Fx) (H : Hp) : D → V → Prop
  | .non, v => v = .non
  | .bl b, v => v = .bl b
  | .int i, v => v = .int i
  | .str x, v => v = .str x
  | .tup ds, v => ∃ a vs, v = .ref a ∧ ds.length ≤ sizeLine ∧ SqT K H a vs ∧ RVs ρ H ds vs
  | .lst ds, v => ∃ a vs, v = .ref a ∧ ds.length ≤ sizeLine ∧ H a = some (.lst vs) ∧ a ∉ ρ.l ∧ ¬ ρ.n a ∧ RVs ρ H ds vs
  | .rol ds, v => ∃ a vs, v = .ref a ∧ ds.length ≤ sizeLine ∧ RoL K H a vs ∧ RVs ρ H ds vs
  | .dct kvs, v => ∃ a ws, v = .ref a ∧ Rd H a (.dK ws) ∧ a ∉ ρ.l ∧ ¬ ρ.n a ∧ RKV ρ H kvs ws
  | .stm k, v => ∃ a, ρ.l[k]? = some a ∧ v = .ref a
  | .wdt kvs, v => ∃ a ws, v = .ref a ∧ WD K a ws ∧ RKV ρ H kvs ws
def RVs (ρ : Fx) (H : Hp) : List D → List V → Prop
  | [], vs => vs = []
  | d :: ds, vs => ∃ v r, vs = v :: r ∧ RV ρ H d v ∧ RVs ρ H ds r
def RKV (ρ : Fx) (H : Hp) : List (Key × D) → List (Key × V) → Prop
  | [], vs => vs = []
  | (k, d) :: ds, vs => ∃ v r, vs = (k, v) :: r ∧ RV ρ H d v ∧ RKV ρ H ds r
end
/-- the streams stand -/
structure Rp (ρ : Fx) (S : Sto) (H : Hp) : Prop where
  len : ρ.l.length = S.length
  nd : ρ.l.Nodup
  obj : ∀ (i : Nat) a t, ρ.l[i]? = some a → S[i]? = some t → H a = some (.lst [.int t.1, .int t.2.1, .int t.2.2])
  dom : ∀ a, ρ.n a → H a ≠ none
end
/-- from one state of the abstract heap to a later one: only streams change -/
structure Sx (l : List Addr) (H : Hp) (l' : List Addr) (H' : Hp) : Prop where
  pre : l <+: l'
  kp : ∀ b u, H b = some u → b ∉ l → H' b = some u
  nw : ∀ b, b ∈ l' → b ∉ l → H b = none
  dm : ∀ b, H b ≠ none → H' b ≠ none
section
variable {K : KW} {ρ : Fx} {l l1 l2 : List Addr} {H H1 H2 : Hp} {S : Sto}
theorem pre_refl {α : Type} (l : List α) : l <+: l := ⟨[], List.append_nil l⟩
theorem get_pre {α : Type} {l l' : List α} (p : l <+: l') {i : Nat} {x : α} (h : l[i]? = some x) : l'[i]? = some x := by
  obtain ⟨t, rfl⟩ := p
  rw [List.getElem?_append_left (List.getElem?_eq_some_iff.mp h).1]
  exact h
theorem Sx.refl : Sx l H l H := ⟨pre_refl _, fun _ _ a _ => a, fun _ a b => absurd a b, fun _ a => a⟩
theorem Sx.trans (a : Sx l H l1 H1) (b : Sx l1 H1 l2 H2) : Sx l H l2 H2 := by
  refine ⟨a.pre.trans b.pre, fun c u e n => ?_, fun c e n => ?_, fun c e => b.dm c (a.dm c e)⟩
  · by_cases h : c ∈ l1
    · have := a.nw c h n; rw [e] at this; cases this
    · exact b.kp c u (a.kp c u e n) h
  · by_cases h : c ∈ l1
    · exact a.nw c h n
    · have := b.nw c e h
      cases q : H c with
      | none => rfl
      | some u => rw [a.kp c u q n] at this; cases this
theorem Sx.fresh {p : Addr} {o : HO} (h : H p = none) : Sx l H l (upd H p o) :=
  ⟨pre_refl _, fun b u e n => by rw [upd_ne (ne_of_none e h)]; exact e, fun _ a b => absurd a b, fun b e => by
    by_cases hb : b = p
    · rw [hb, upd_same]; exact fun z => nomatch z
    · rw [upd_ne hb]; exact e⟩
theorem Sx.out (s : Sx l H l1 H1) {b : Addr} {u : HO} (e : H b = some u) (n : b ∉ l) : b ∉ l1 := fun h => by
  have := s.nw b h n; rw [e] at this; cases this
theorem Rp.tup_out (rp : Rp ρ S H) {b : Addr} {u : HO} (e : H b = some u) (h : ∀ a b c : Int, u ≠ .lst [.int a, .int b, .int c]) : b ∉ ρ.l := fun m => by
  obtain ⟨i, hi⟩ := List.getElem?_of_mem m
  have hl : i < S.length := by rw [← rp.len]; exact (List.getElem?_eq_some_iff.mp hi).1
  have := rp.obj i b S[i] hi (List.getElem?_eq_getElem hl)
  rw [e] at this
  cases this
  exact h _ _ _ rfl
end
end GG
namespace GG
open PySem PySem.Spec PyProof.Rows L2
/-- what data lean on stays -/
structure Kq (ρ : Fx) (H : Hp) (l' : List Addr) (H' : Hp) : Prop where
  pre : ρ.l <+: l'
  tup : ∀ b xs, H b = some (.tup xs) → H' b = some (.tup xs)
  frz : ∀ b o u, H b = some (.frz o u) → H' b = some (.frz o u)
  kp : ∀ b u, H b = some u → b ∉ ρ.l → ¬ ρ.n b → H' b = some u ∧ b ∉ l'
section
variable {K : KW} {ρ : Fx} {l' : List Addr} {H H' : Hp} {S : Sto}
theorem Kq.rdT (k : Kq ρ H l' H') {a : Addr} {xs : List V} (h : SqT K H a xs) : SqT K H' a xs := by
  rcases h with (h | ⟨o, h⟩) | h
  · exact .inl (.inl (k.tup _ _ h))
  · exact .inl (.inr ⟨o, k.frz _ _ _ h⟩)
  · exact .inr h
theorem RoL.gen (k : Kq ρ H l' H') {a : Addr} {vs : List V} (h : RoL K H a vs) : RoL K H' a vs := by
  rcases h with ⟨o, h⟩ | h
  · exact .inl ⟨o, k.frz _ _ _ h⟩
  · exact .inr h
mutual
theorem RV.gen (k : Kq ρ H l' H') : ∀ (d : D) (v : V), RV K ρ H d v → RV K (ρ.to l') H' d v
  | .non, _, h => by simp only [RV] at h ⊢; exact h
  | .bl _, _, h => by simp only [RV] at h ⊢; exact h
  | .int _, _, h => by simp only [RV] at h ⊢; exact h
  | .str _, _, h => by simp only [RV] at h ⊢; exact h
  | .stm l, _, h => by
    simp only [RV] at h ⊢
    obtain ⟨a, e, q⟩ := h
    exact ⟨a, get_pre k.pre e, q⟩
  | .tup ds, _, h => by
    simp only [RV] at h ⊢
    obtain ⟨a, vs, e, z, q, r⟩ := h
    exact ⟨a, vs, e, z, k.rdT q, RVs.gen k ds vs r⟩
  | .rol ds, _, h => by
    simp only [RV] at h ⊢
    obtain ⟨a, vs, e, z, q, r⟩ := h
    exact ⟨a, vs, e, z, q.gen k, RVs.gen k ds vs r⟩
  | .lst ds, _, h => by
    simp only [RV] at h ⊢
    obtain ⟨a, vs, e, z, q, n1, n2, r⟩ := h
    obtain ⟨q', n1'⟩ := k.kp a _ q n1 n2
    exact ⟨a, vs, e, z, q', n1', n2, RVs.gen k ds vs r⟩
  | .dct kvs, _, h => by
    simp only [RV] at h ⊢
    obtain ⟨a, vs, e, q, n1, n2, r⟩ := h
    rcases q with q | ⟨o, q⟩
    · obtain ⟨q', n1'⟩ := k.kp a _ q n1 n2
      exact ⟨a, vs, e, .inl q', n1', n2, RKV.gen k kvs vs r⟩
    · obtain ⟨q', n1'⟩ := k.kp a _ q n1 n2
      exact ⟨a, vs, e, .inr ⟨o, q'⟩, n1', n2, RKV.gen k kvs vs r⟩
  | .wdt kvs, _, h => by
    simp only [RV] at h ⊢
    obtain ⟨a, vs, e, q, r⟩ := h
    exact ⟨a, vs, e, q, RKV.gen k kvs vs r⟩
theorem RVs.gen (k : Kq ρ H l' H') : ∀ (ds : List D) (vs : List V), RVs K ρ H ds vs → RVs K (ρ.to l') H' ds vs
  | [], _, h => by simp only [RVs] at h ⊢; exact h
  | d :: ds, _, h => by
    simp only [RVs] at h ⊢
    obtain ⟨v, r, e, q, t⟩ := h
    exact ⟨v, r, e, RV.gen k d v q, RVs.gen k ds r t⟩
theorem RKV.gen (k : Kq ρ H l' H') : ∀ (ds : List (Key × D)) (vs : List (Key × V)), RKV K ρ H ds vs → RKV K (ρ.to l') H' ds vs
  | [], _, h => by simp only [RKV] at h ⊢; exact h
  | (kk, d) :: ds, _, h => by
    simp only [RKV] at h ⊢
    obtain ⟨v, r, e, q, t⟩ := h
    exact ⟨v, r, e, RV.gen k d v q, RKV.gen k ds r t⟩
end

mutual
theorem RV.anti {n : Addr → Prop} (hn : ∀ a, n a → ρ.n a) : ∀ (d : D) (v : V), RV K ρ H d v → RV K (ρ.w n) H d v
  | .non, _, h => by simp only [RV] at h ⊢; exact h
  | .bl _, _, h => by simp only [RV] at h ⊢; exact h
  | .int _, _, h => by simp only [RV] at h ⊢; exact h
  | .str _, _, h => by simp only [RV] at h ⊢; exact h
  | .stm l, _, h => by simp only [RV] at h ⊢; exact h
  | .tup ds, _, h => by
    simp only [RV] at h ⊢
    obtain ⟨a, vs, e, z, q, r⟩ := h
    exact ⟨a, vs, e, z, q, RVs.anti hn ds vs r⟩
  | .rol ds, _, h => by
    simp only [RV] at h ⊢
    obtain ⟨a, vs, e, z, q, r⟩ := h
    exact ⟨a, vs, e, z, q, RVs.anti hn ds vs r⟩
  | .lst ds, _, h => by
    simp only [RV] at h ⊢
    obtain ⟨a, vs, e, z, q, n1, n2, r⟩ := h
    exact ⟨a, vs, e, z, q, n1, fun x => n2 (hn a x), RVs.anti hn ds vs r⟩
  | .dct kvs, _, h => by
    simp only [RV] at h ⊢
    obtain ⟨a, vs, e, q, n1, n2, r⟩ := h
    exact ⟨a, vs, e, q, n1, fun x => n2 (hn a x), RKV.anti hn kvs vs r⟩
  | .wdt kvs, _, h => by
    simp only [RV] at h ⊢
    obtain ⟨a, vs, e, q, r⟩ := h
    exact ⟨a, vs, e, q, RKV.anti hn kvs vs r⟩
theorem RVs.anti {n : Addr → Prop} (hn : ∀ a, n a → ρ.n a) : ∀ (ds : List D) (vs : List V), RVs K ρ H ds vs → RVs K (ρ.w n) H ds vs
  | [], _, h => by simp only [RVs] at h ⊢; exact h
  | d :: ds, _, h => by
    simp only [RVs] at h ⊢
    obtain ⟨v, r, e, q, t⟩ := h
    exact ⟨v, r, e, RV.anti hn d v q, RVs.anti hn ds r t⟩
theorem RKV.anti {n : Addr → Prop} (hn : ∀ a, n a → ρ.n a) : ∀ (ds : List (Key × D)) (vs : List (Key × V)), RKV K ρ H ds vs → RKV K (ρ.w n) H ds vs
  | [], _, h => by simp only [RKV] at h ⊢; exact h
  | (kk, d) :: ds, _, h => by
    simp only [RKV] at h ⊢
    obtain ⟨v, r, e, q, t⟩ := h
    exact ⟨v, r, e, RV.anti hn d v q, RKV.anti hn ds r t⟩
end

mutual
theorem RV.still {n : Addr → Prop} : ∀ (d : D) (v : V), D.still d = true → RV K ρ H d v → RV K (ρ.w n) H d v
  | .non, _, _, h => by simp only [RV] at h ⊢; exact h
  | .bl _, _, _, h => by simp only [RV] at h ⊢; exact h
  | .int _, _, _, h => by simp only [RV] at h ⊢; exact h
  | .str _, _, _, h => by simp only [RV] at h ⊢; exact h
  | .stm l, _, _, h => by simp only [RV] at h ⊢; exact h
  | .tup ds, _, s, h => by
    simp only [RV, D.still] at h s ⊢
    obtain ⟨a, vs, e, z, q, r⟩ := h
    exact ⟨a, vs, e, z, q, RVs.still ds vs s r⟩
  | .rol ds, _, s, h => by
    simp only [RV, D.still] at h s ⊢
    obtain ⟨a, vs, e, z, q, r⟩ := h
    exact ⟨a, vs, e, z, q, RVs.still ds vs s r⟩
  | .lst ds, _, s, h => by simp [D.still] at s
  | .dct kvs, _, s, h => by simp [D.still] at s
  | .wdt kvs, _, s, h => by simp [D.still] at s
theorem RVs.still {n : Addr → Prop} : ∀ (ds : List D) (vs : List V), D.stills ds = true → RVs K ρ H ds vs → RVs K (ρ.w n) H ds vs
  | [], _, _, h => by simp only [RVs] at h ⊢; exact h
  | d :: ds, _, s, h => by
    simp only [RVs, D.stills, Bool.and_eq_true] at h s ⊢
    obtain ⟨v, r, e, q, t⟩ := h
    exact ⟨v, r, e, RV.still d v s.1 q, RVs.still ds r s.2 t⟩
end
theorem RKV.still {n : Addr → Prop} : ∀ (ds : List (Key × D)) (vs : List (Key × V)), D.stills (ds.map (·.2)) = true → RKV K ρ H ds vs → RKV K (ρ.w n) H ds vs
  | [], _, _, h => by simp only [RKV] at h ⊢; exact h
  | (kk, d) :: ds, _, s, h => by
    simp only [RKV, List.map_cons, D.stills, Bool.and_eq_true] at h s ⊢
    obtain ⟨v, r, e, q, t⟩ := h
    exact ⟨v, r, e, RV.still d v s.1 q, RKV.still ds r s.2 t⟩
theorem Sx.kq {l : List Addr} (s : Sx ρ.l H l H') (rp : Rp ρ S H) : Kq ρ H l H' :=
  ⟨s.pre, fun b xs e => s.kp b _ e (rp.tup_out e fun _ _ _ z => nomatch z), fun b o u e => s.kp b _ e (rp.tup_out e fun _ _ _ z => nomatch z), fun b u e n _ => ⟨s.kp b u e n, s.out e n⟩⟩
theorem RV.mono {l : List Addr} {d : D} {v : V} (h : RV K ρ H d v) (rp : Rp ρ S H) (s : Sx ρ.l H l H') : RV K (ρ.to l) H' d v := RV.gen (s.kq rp) d v h
theorem RVs.mono {l : List Addr} {d : List D} {v : List V} (h : RVs K ρ H d v) (rp : Rp ρ S H) (s : Sx ρ.l H l H') : RVs K (ρ.to l) H' d v := RVs.gen (s.kq rp) d v h
theorem RKV.mono {l : List Addr} {d : List (Key × D)} {v : List (Key × V)} (h : RKV K ρ H d v) (rp : Rp ρ S H) (s : Sx ρ.l H l H') : RKV K (ρ.to l) H' d v := RKV.gen (s.kq rp) d v h
theorem Rp.fresh {p : Addr} {o : HO} (h : Rp ρ S H) (hp : H p = none) : Rp ρ S (upd H p o) :=
  ⟨h.len, h.nd, fun i a t e1 e2 => by
    have e := h.obj i a t e1 e2
    rw [upd_ne (ne_of_none e hp)]; exact e, fun a ha => by
    by_cases e : a = p
    · rw [e, upd_same]; exact fun z => nomatch z
    · rw [upd_ne e]; exact h.dom a ha⟩
theorem Rp.nin (h : Rp ρ S H) {p : Addr} (hp : H p = none) : p ∉ ρ.l ∧ ¬ ρ.n p := by
  refine ⟨fun m => ?_, fun m => h.dom p m hp⟩
  obtain ⟨i, hi⟩ := List.getElem?_of_mem m
  have hl : i < S.length := by rw [← h.len]; exact (List.getElem?_eq_some_iff.mp hi).1
  have := h.obj i p S[i] hi (List.getElem?_eq_getElem hl)
  rw [hp] at this; cases this
theorem Rp.to_self (ρ : Fx) : ρ.to ρ.l = ρ := rfl
theorem Rp.w (h : Rp ρ S H) {n : Addr → Prop} (hn : ∀ a, n a → H a ≠ none) : Rp (ρ.w n) S H := ⟨h.len, h.nd, h.obj, hn⟩
theorem RoL.sq {a : Addr} {vs : List V} (h : RoL K H a vs) : SqL K H a vs := by
  rcases h with ⟨o, h⟩ | h
  · exact .inl (.inr ⟨o, h⟩)
  · exact .inr h
theorem RVs.len : ∀ {ds : List D} {vs : List V}, RVs K ρ H ds vs → ds.length = vs.length
  | [], _, h => by simp only [RVs] at h; subst h; rfl
  | d :: ds, _, h => by
    simp only [RVs] at h
    obtain ⟨v, r, rfl, _, t⟩ := h
    simp [t.len]
theorem RKV.len : ∀ {ds : List (Key × D)} {vs : List (Key × V)}, RKV K ρ H ds vs → ds.length = vs.length
  | [], _, h => by simp only [RKV] at h; subst h; rfl
  | (kk, d) :: ds, _, h => by
    simp only [RKV] at h
    obtain ⟨v, r, rfl, _, t⟩ := h
    simp [t.len]
theorem RVs.get : ∀ {ds : List D} {vs : List V} {i : Nat} {d : D}, RVs K ρ H ds vs → ds[i]? = some d → ∃ v, vs[i]? = some v ∧ RV K ρ H d v
  | [], _, _, _, _, e => by simp at e
  | d :: ds, _, 0, _, h, e => by
    simp only [RVs] at h
    obtain ⟨v, r, rfl, q, _⟩ := h
    simp at e; subst e
    exact ⟨v, rfl, q⟩
  | d :: ds, _, i + 1, x, h, e => by
    simp only [RVs] at h
    obtain ⟨v, r, rfl, _, t⟩ := h
    simpa using RVs.get (i := i) (d := x) t (by simpa using e)
theorem RVs.append : ∀ {ds es : List D} {vs us : List V}, RVs K ρ H ds vs → RVs K ρ H es us → RVs K ρ H (ds ++ es) (vs ++ us)
  | [], _, _, _, h, t => by simp only [RVs] at h; subst h; exact t
  | d :: ds, _, _, _, h, t => by
    simp only [RVs] at h
    obtain ⟨v, r, rfl, q, t0⟩ := h
    show RVs K ρ H (d :: (ds ++ _)) (v :: (r ++ _))
    simp only [RVs]
    exact ⟨v, _, rfl, q, t0.append t⟩
theorem RVs.one {d : D} {v : V} (h : RV K ρ H d v) : RVs K ρ H [d] [v] := by simp only [RVs]; exact ⟨v, [], rfl, h, rfl⟩
theorem RVs.nil : RVs K ρ H [] [] := by simp only [RVs]
theorem RVs.cons {d : D} {v : V} {ds : List D} {vs : List V} (h : RV K ρ H d v) (t : RVs K ρ H ds vs) : RVs K ρ H (d :: ds) (v :: vs) := by simp only [RVs]; exact ⟨v, vs, rfl, h, t⟩
theorem RVs.uncons {d : D} {ds : List D} {vs : List V} (h : RVs K ρ H (d :: ds) vs) : ∃ v r, vs = v :: r ∧ RV K ρ H d v ∧ RVs K ρ H ds r := by simpa only [RVs] using h
theorem RVs.one' {d : D} {vs : List V} (r : RVs K ρ H [d] vs) : ∃ v, vs = [v] ∧ RV K ρ H d v := by
  obtain ⟨v, vr, rfl, rv, rr⟩ := r.uncons
  simp only [RVs] at rr; subst rr
  exact ⟨v, rfl, rv⟩
theorem RVs.two' {d e : D} {vs : List V} (r : RVs K ρ H [d, e] vs) : ∃ v w, vs = [v, w] ∧ RV K ρ H d v ∧ RV K ρ H e w := by
  obtain ⟨v, vr, rfl, rv, rr⟩ := r.uncons
  obtain ⟨w, rfl, rw'⟩ := rr.one'
  exact ⟨v, w, rfl, rv, rw'⟩
theorem RVs.isNil {ds : List D} {vs : List V} (r : RVs K ρ H ds vs) : ds = [] ↔ vs = [] := by
  have e := r.len
  constructor
  · rintro rfl; exact List.length_eq_zero_iff.mp e.symm
  · rintro rfl; exact List.length_eq_zero_iff.mp e
theorem RV.int {i : Int} {v : V} (h : RV K ρ H (.int i) v) : v = .int i := by simpa only [RV] using h
theorem RV.bl {i : Bool} {v : V} (h : RV K ρ H (.bl i) v) : v = .bl i := by simpa only [RV] using h
theorem RV.str {i : Str} {v : V} (h : RV K ρ H (.str i) v) : v = .str i := by simpa only [RV] using h
theorem RV.non {v : V} (h : RV K ρ H .non v) : v = .non := by simpa only [RV] using h
theorem RV.tup {ds : List D} {v : V} (h : RV K ρ H (.tup ds) v) : ∃ a vs, v = .ref a ∧ ds.length ≤ sizeLine ∧ SqT K H a vs ∧ RVs K ρ H ds vs := by simpa only [RV] using h
theorem RV.rol {ds : List D} {v : V} (h : RV K ρ H (.rol ds) v) : ∃ a vs, v = .ref a ∧ ds.length ≤ sizeLine ∧ RoL K H a vs ∧ RVs K ρ H ds vs := by simpa only [RV] using h
theorem RV.lst {ds : List D} {v : V} (h : RV K ρ H (.lst ds) v) : ∃ a vs, v = .ref a ∧ ds.length ≤ sizeLine ∧ H a = some (.lst vs) ∧ a ∉ ρ.l ∧ ¬ ρ.n a ∧ RVs K ρ H ds vs := by simpa only [RV] using h
theorem RV.dct {kvs : List (Key × D)} {v : V} (h : RV K ρ H (.dct kvs) v) : ∃ a ws, v = .ref a ∧ Rd H a (.dK ws) ∧ a ∉ ρ.l ∧ ¬ ρ.n a ∧ RKV K ρ H kvs ws := by simpa only [RV] using h
theorem RV.stm {k : Nat} {v : V} (h : RV K ρ H (.stm k) v) : ∃ a, ρ.l[k]? = some a ∧ v = .ref a := by simpa only [RV] using h
theorem RV.wdt {kvs : List (Key × D)} {v : V} (h : RV K ρ H (.wdt kvs) v) : ∃ a ws, v = .ref a ∧ WD K a ws ∧ RKV K ρ H kvs ws := by simpa only [RV] using h
theorem RV.mkInt (i : Int) : RV K ρ H (.int i) (.int i) := by simp only [RV]
theorem RV.mkBl (i : Bool) : RV K ρ H (.bl i) (.bl i) := by simp only [RV]
theorem RV.mkStr (i : Str) : RV K ρ H (.str i) (.str i) := by simp only [RV]
theorem RV.mkNon : RV K ρ H .non .non := by simp only [RV]
theorem RV.mkTup {a : Addr} {ds : List D} {vs : List V} (z : ds.length ≤ sizeLine) (h : SqT K H a vs) (r : RVs K ρ H ds vs) : RV K ρ H (.tup ds) (.ref a) := by simp only [RV]; exact ⟨a, vs, rfl, z, h, r⟩
theorem RV.mkLst {a : Addr} {ds : List D} {vs : List V} (z : ds.length ≤ sizeLine) (h : H a = some (.lst vs)) (n1 : a ∉ ρ.l) (n2 : ¬ ρ.n a) (r : RVs K ρ H ds vs) : RV K ρ H (.lst ds) (.ref a) := by simp only [RV]; exact ⟨a, vs, rfl, z, h, n1, n2, r⟩
theorem RV.mkDct {a : Addr} {ds : List (Key × D)} {vs : List (Key × V)} (h : H a = some (.dK vs)) (n1 : a ∉ ρ.l) (n2 : ¬ ρ.n a) (r : RKV K ρ H ds vs) : RV K ρ H (.dct ds) (.ref a) := by simp only [RV]; exact ⟨a, vs, rfl, .inl h, n1, n2, r⟩
theorem RV.mkStm {a : Addr} {k : Nat} (h : ρ.l[k]? = some a) : RV K ρ H (.stm k) (.ref a) := by simp only [RV]; exact ⟨a, h, rfl⟩
end
end GG
namespace GG
open PySem PySem.Spec PyProof.Rows L2
/-! ## readings by functions -/
/-- how an error lies -/
def RX (K : KW) (mg : Str → Option Value) (ρ : Fx) (H : Hp) (c : Str) (v : Option (Str × D)) (cls : Value) (d : Option Addr) : Prop :=
  ∃ C, mg c = some (.ref C) ∧ cls = .ref C ∧ match v with
    | none => d = none
    | some (f, x) => ∃ dd u, d = some dd ∧ H dd = some (.xd [(f, u)]) ∧ RV K ρ H x u
/-- the lists and dicts of the slots' own, but for the slots xs -/
def Av (ε : Env) (σ : L2.St) (xs : List Nat) : Addr → Prop := fun a => ∃ i d, i ∉ xs ∧ ε[i]? = some (.o d) ∧ σ[i]? = some (some (.ref a))
def Fx.plus (ρ : Fx) (n : Addr → Prop) : Fx := ρ.w fun a => ρ.n a ∨ n a
section
variable (K : KW) (mg : Str → Option Value)
def Post {α β : Type} (RA : Fx → Hp → α → β → Prop) (E : XK) (ρ : Fx) (H : Hp) (r : Out α) (Q : β → Hp → Prop) : Prop :=
  match r with
  | .ok d S => ∀ l v H', Sx ρ.l H l H' → Rp (ρ.to l) S H' → RA (ρ.to l) H' d v → Q v H'
  | .exc c x S => ∀ l H' cls dd, Sx ρ.l H l H' → Rp (ρ.to l) S H' → RX K mg (ρ.to l) H' c x cls dd → E cls dd H'
  | .bad => False
/-- what stands at the place of a slot's own thing -/
def Own (ρ : Fx) (H : Hp) (d : D) (a : Addr) : Prop :=
  match d with
  | .lst ds => ∃ vs, ds.length ≤ sizeLine ∧ H a = some (.lst vs) ∧ a ∉ ρ.l ∧ ¬ ρ.n a ∧ RVs K (ρ.plus (· = a)) H ds vs
  | .dct kvs => ∃ ws, H a = some (.dK ws) ∧ a ∉ ρ.l ∧ ¬ ρ.n a ∧ RKV K (ρ.plus (· = a)) H kvs ws
  | _ => False
structure Rs (ρ : Fx) (H : Hp) (ε : Env) (σ : L2.St) : Prop where
  len : ε.length = σ.length
  val : ∀ (i : Nat) d, ε[i]? = some (.v d) → ∃ v, σ[i]? = some (some v) ∧ RV K (ρ.plus (Av ε σ [])) H d v
  own : ∀ (i : Nat) d, ε[i]? = some (.o d) → ∃ a, σ[i]? = some (some (.ref a)) ∧ Own K (ρ.plus (Av ε σ [i])) H d a
end
def RB : Fx → Hp → Bool → Bool → Prop := fun _ _ a b => b = a
def XW (W : WX) (σ : L2.St) : XK := fun cls d H => W cls d σ H
section
variable (K : KW) (mg : Str → Option Value)
def TG0 {α β : Type} (RA : Fx → Hp → α → β → Prop) (W : WX) (xs : List Nat) (f : Env → Sto → Out α) (σ : L2.St) (H : Hp) (Q : β → Hp → Prop) : Prop :=
  ∃ ρ ε S, Rs K ρ H ε σ ∧ Rp ρ S H ∧ Post K mg RA (XW W σ) (ρ.plus (Av ε σ xs)) H (f ε S) Q
def TF (W : WX) (xs : List Nat) (f : Env → Sto → Out D) : TE := TG0 K mg (RV K) W xs f
def TFs (W : WX) (xs : List Nat) (f : Env → Sto → Out (List D)) : TA := TG0 K mg (RVs K) W xs f
def TFt (W : WX) (xs : List Nat) (f : Env → Sto → Out Bool) : TT := TG0 K mg RB W xs f
end
section
variable {K : KW} {mg : Str → Option Value} {α β γ δ : Type} {RA : Fx → Hp → α → β → Prop} {RC : Fx → Hp → γ → δ → Prop} {E : XK} {ρ : Fx} {H H1 : Hp} {W : WX} {S : Sto} {ε : Env} {σ : L2.St}
theorem RX.anti {n : Addr → Prop} {c : Str} {x : Option (Str × D)} {cls : Value} {dd : Option Addr} (hn : ∀ a, n a → ρ.n a) (h : RX K mg ρ H c x cls dd) : RX K mg (ρ.w n) H c x cls dd := by
  obtain ⟨C, a, b, r⟩ := h
  refine ⟨C, a, b, ?_⟩
  cases x with
  | none => exact r
  | some fx => obtain ⟨d, u, e1, e2, e3⟩ := r; exact ⟨d, u, e1, e2, e3.anti hn⟩
theorem Post.weak {l : List Addr} {r : Out α} {Q : β → Hp → Prop} (s : Sx ρ.l H l H1) (h : Post K mg RA E ρ H r Q) : Post K mg RA E (ρ.to l) H1 r Q := by
  cases r with
  | ok d S => exact fun l' v H' s' => h l' v H' (s.trans s')
  | exc c x S => exact fun l' H' cls dd s' => h l' H' cls dd (s.trans s')
  | bad => exact h
theorem Post.imp {r : Out α} {Q Q' : β → Hp → Prop} (h : Post K mg RA E ρ H r Q) (i : ∀ v H', Q v H' → Q' v H') : Post K mg RA E ρ H r Q' := by
  cases r with
  | ok d S => exact fun ρ' v H' s' r' q => i _ _ (h ρ' v H' s' r' q)
  | exc c x S => exact h
  | bad => exact h
/-- the first part is met with more that is not to be met -/
theorem Post.seqN {n : Addr → Prop} {r : Out α} {g : α → Sto → Out γ} {Q : δ → Hp → Prop} {Q1 : β → Hp → Prop} (hn : ∀ a, ρ.n a → n a) (h : Post K mg RC E ρ H (r.bind g) Q)
    (step : ∀ l v H1 d S1, Sx ρ.l H l H1 → Rp (ρ.to l) S1 H1 → Rp ((ρ.w n).to l) S1 H1 → RA ((ρ.w n).to l) H1 d v → Post K mg RC E (ρ.to l) H1 (g d S1) Q → Q1 v H1) : Post K mg RA E (ρ.w n) H r Q1 := by
  have low : ∀ {l : List Addr} {S : Sto} {H' : Hp}, Rp ((ρ.w n).to l) S H' → Rp (ρ.to l) S H' := fun rp => ⟨rp.len, rp.nd, rp.obj, fun a ha => rp.dom a (hn a ha)⟩
  cases r with
  | ok d S => exact fun l' v H' s' r' q => step l' v H' d S s' (low r') r' q (Post.weak s' h)
  | exc c x S => exact fun l' H' cls dd s' r' rx => h l' H' cls dd s' (low r') (RX.anti (n := ρ.n) hn rx)
  | bad => exact h
theorem Post.seq {r : Out α} {g : α → Sto → Out γ} {Q : δ → Hp → Prop} {Q1 : β → Hp → Prop} (h : Post K mg RC E ρ H (r.bind g) Q)
    (step : ∀ l v H1 d S1, Sx ρ.l H l H1 → Rp (ρ.to l) S1 H1 → RA (ρ.to l) H1 d v → Post K mg RC E (ρ.to l) H1 (g d S1) Q → Q1 v H1) : Post K mg RA E ρ H r Q1 :=
  Post.seqN (n := ρ.n) (ρ := ρ) (fun _ a => a) h fun l v H1 d S1 s rp _ ra q => step l v H1 d S1 s rp ra q
/-- the end: a value of the very heap -/
theorem Post.here {d : α} {v : β} {Q : β → Hp → Prop} (h : Post K mg RA E ρ H (.ok d S) Q) (rp : Rp ρ S H) (r : RA ρ H d v) : Q v H := h ρ.l v H Sx.refl rp r
theorem Post.ofH {o : Option α} {Q : β → Hp → Prop} (h : Post K mg RA E ρ H (.of S o) Q) : ∃ d, o = some d ∧ Post K mg RA E ρ H (.ok d S) Q := by
  cases o with
  | none => exact h.elim
  | some d => exact ⟨d, rfl, h⟩
theorem Fx.plus_to (ρ : Fx) (l : List Addr) (n : Addr → Prop) : (ρ.plus n).to l = (ρ.to l).plus n := rfl
theorem Fx.plus_w (ρ : Fx) (n : Addr → Prop) : ρ.plus n = ρ.w fun a => ρ.n a ∨ n a := rfl
theorem Av.anti {xs ys : List Nat} (h : ∀ i, i ∈ xs → i ∈ ys) (a : Addr) : Av ε σ ys a → Av ε σ xs a := fun ⟨i, d, n, e1, e2⟩ => ⟨i, d, fun m => n (h i m), e1, e2⟩
theorem plus_anti {n m : Addr → Prop} (h : ∀ a, m a → n a) {d : D} {v : V} (r : RV K (ρ.plus n) H d v) : RV K (ρ.plus m) H d v := RV.anti (ρ := ρ.plus n) (n := fun a => ρ.n a ∨ m a) (fun a z => z.imp id (h a)) d v r
theorem plus_antis {n m : Addr → Prop} (h : ∀ a, m a → n a) {d : List D} {v : List V} (r : RVs K (ρ.plus n) H d v) : RVs K (ρ.plus m) H d v := RVs.anti (ρ := ρ.plus n) (n := fun a => ρ.n a ∨ m a) (fun a z => z.imp id (h a)) d v r
theorem plus_antik {n m : Addr → Prop} (h : ∀ a, m a → n a) {d : List (Key × D)} {v : List (Key × V)} (r : RKV K (ρ.plus n) H d v) : RKV K (ρ.plus m) H d v := RKV.anti (ρ := ρ.plus n) (n := fun a => ρ.n a ∨ m a) (fun a z => z.imp id (h a)) d v r
theorem Own.dom {d : D} {a : Addr} (h : Own K ρ H d a) : H a ≠ none := by
  unfold Own at h
  split at h
  · obtain ⟨vs, _, e, _⟩ := h; rw [e]; exact fun z => nomatch z
  · obtain ⟨vs, e, _⟩ := h; rw [e]; exact fun z => nomatch z
  · exact h.elim
theorem Rs.dom (h : Rs K ρ H ε σ) {xs : List Nat} {a : Addr} (av : Av ε σ xs a) : H a ≠ none := by
  obtain ⟨i, d, _, e1, e2⟩ := av
  obtain ⟨b, e3, o⟩ := h.own i d e1
  rw [e2] at e3; cases e3
  exact o.dom
theorem Rs.rp (h : Rs K ρ H ε σ) (rp : Rp ρ S H) (xs : List Nat) : Rp (ρ.plus (Av ε σ xs)) S H := rp.w fun a z => z.elim (rp.dom a) fun z => h.dom z
theorem Rp.low {n : Addr → Prop} (rp : Rp (ρ.plus n) S H) : Rp ρ S H := ⟨rp.len, rp.nd, rp.obj, fun a ha => rp.dom a (.inl ha)⟩
theorem Own.mono {l : List Addr} {H' : Hp} {d : D} {a : Addr} (h : Own K ρ H d a) (rp : Rp ρ S H) (s : Sx ρ.l H l H') : Own K (ρ.to l) H' d a := by
  unfold Own at h ⊢
  split at h
  · obtain ⟨vs, z, e, n1, n2, r⟩ := h
    have rp2 : Rp (ρ.plus (· = a)) S H := rp.w fun b z => z.elim (rp.dom b) fun z => by rw [z, e]; exact fun z => nomatch z
    exact ⟨vs, z, s.kp a _ e n1, s.out e n1, n2, r.mono rp2 s⟩
  · obtain ⟨vs, e, n1, n2, r⟩ := h
    have rp2 : Rp (ρ.plus (· = a)) S H := rp.w fun b z => z.elim (rp.dom b) fun z => by rw [z, e]; exact fun z => nomatch z
    exact ⟨vs, s.kp a _ e n1, s.out e n1, n2, r.mono rp2 s⟩
  · exact h
theorem Rs.mono {l : List Addr} {H' : Hp} (h : Rs K ρ H ε σ) (rp : Rp ρ S H) (s : Sx ρ.l H l H') : Rs K (ρ.to l) H' ε σ :=
  ⟨h.len, fun i d e => let ⟨v, a, b⟩ := h.val i d e; ⟨v, a, b.mono (h.rp rp []) s⟩, fun i d e => let ⟨a, e1, o⟩ := h.own i d e; ⟨a, e1, o.mono (h.rp rp [i]) s⟩⟩
/-- a slot's own thing, read -/
theorem Own.rv {d : D} {a : Addr} (h : Own K ρ H d a) : RV K ρ H d (.ref a) := by
  unfold Own at h
  split at h
  · obtain ⟨vs, z, e, n1, n2, r⟩ := h
    exact .mkLst z e n1 n2 (RVs.anti (ρ := ρ.plus (· = a)) (n := ρ.n) (fun b z => .inl z) _ _ r)
  · obtain ⟨vs, e, n1, n2, r⟩ := h
    exact .mkDct e n1 n2 (RKV.anti (ρ := ρ.plus (· = a)) (n := ρ.n) (fun b z => .inl z) _ _ r)
  · exact h.elim
end
/-! ### nothing that is not there is met -/
section
variable {K : KW} {ρ : Fx} {H : Hp} {n : Addr → Prop}
mutual
theorem RV.dom (hn : ∀ a, n a → H a = none) : ∀ (d : D) (v : V), RV K ρ H d v → RV K (ρ.plus n) H d v
  | .non, _, h => by simp only [RV] at h ⊢; exact h
  | .bl _, _, h => by simp only [RV] at h ⊢; exact h
  | .int _, _, h => by simp only [RV] at h ⊢; exact h
  | .str _, _, h => by simp only [RV] at h ⊢; exact h
  | .stm l, _, h => by simp only [RV] at h ⊢; exact h
  | .tup ds, _, h => by
    simp only [RV] at h ⊢
    obtain ⟨a, vs, e, z, q, r⟩ := h
    exact ⟨a, vs, e, z, q, RVs.dom hn ds vs r⟩
  | .rol ds, _, h => by
    simp only [RV] at h ⊢
    obtain ⟨a, vs, e, z, q, r⟩ := h
    exact ⟨a, vs, e, z, q, RVs.dom hn ds vs r⟩
  | .lst ds, _, h => by
    simp only [RV] at h ⊢
    obtain ⟨a, vs, e, z, q, n1, n2, r⟩ := h
    exact ⟨a, vs, e, z, q, n1, (fun x => x.elim n2 fun x => by rw [hn a x] at q; cases q), RVs.dom hn ds vs r⟩
  | .dct kvs, _, h => by
    simp only [RV] at h ⊢
    obtain ⟨a, vs, e, q, n1, n2, r⟩ := h
    exact ⟨a, vs, e, q, n1, (fun x => x.elim n2 fun x => by rcases q with q | ⟨o, q⟩ <;> (rw [hn a x] at q; cases q)), RKV.dom hn kvs vs r⟩
  | .wdt kvs, _, h => by
    simp only [RV] at h ⊢
    obtain ⟨a, vs, e, q, r⟩ := h
    exact ⟨a, vs, e, q, RKV.dom hn kvs vs r⟩
theorem RVs.dom (hn : ∀ a, n a → H a = none) : ∀ (ds : List D) (vs : List V), RVs K ρ H ds vs → RVs K (ρ.plus n) H ds vs
  | [], _, h => by simp only [RVs] at h ⊢; exact h
  | d :: ds, _, h => by
    simp only [RVs] at h ⊢
    obtain ⟨v, r, e, q, t⟩ := h
    exact ⟨v, r, e, RV.dom hn d v q, RVs.dom hn ds r t⟩
theorem RKV.dom (hn : ∀ a, n a → H a = none) : ∀ (ds : List (Key × D)) (vs : List (Key × V)), RKV K ρ H ds vs → RKV K (ρ.plus n) H ds vs
  | [], _, h => by simp only [RKV] at h ⊢; exact h
  | (kk, d) :: ds, _, h => by
    simp only [RKV] at h ⊢
    obtain ⟨v, r, e, q, t⟩ := h
    exact ⟨v, r, e, RV.dom hn d v q, RKV.dom hn ds r t⟩
end
theorem Kq.plus {l : List Addr} {H' : Hp} (k : Kq ρ H l H') : Kq (ρ.plus n) H l H' := ⟨k.pre, k.tup, k.frz, fun b u e n1 n2 => k.kp b u e n1 fun z => n2 (.inl z)⟩
theorem Fx.swap (ρ : Fx) (n m : Addr → Prop) {d : D} {v : V} (r : RV K ((ρ.plus n).plus m) H d v) : RV K ((ρ.plus m).plus n) H d v :=
  RV.anti (ρ := (ρ.plus n).plus m) (n := ((ρ.plus m).plus n).n) (fun a z => by rcases z with (z | z) | z; exact .inl (.inl z); exact .inr z; exact .inl (.inr z)) d v r
def Fx.nw (ρ : Fx) (H : Hp) : Fx := ρ.plus fun a => H a = none
theorem RVs.nw {ds : List D} {vs : List V} (r : RVs K ρ H ds vs) : RVs K (ρ.nw H) H ds vs := RVs.dom (fun _ z => z) ds vs r
theorem Own.plus {d : D} {a : Addr} (hn : ∀ a, n a → H a = none) (o : Own K ρ H d a) : Own K (ρ.plus n) H d a := by
  unfold Own at o ⊢
  split at o
  · obtain ⟨vs, z, e, n1, n2, r⟩ := o
    refine ⟨vs, z, e, n1, (fun q => q.elim n2 fun q => by rw [hn a q] at e; cases e), ?_⟩
    have := RVs.dom (ρ := ρ.plus (· = a)) hn _ _ r
    exact RVs.anti (ρ := (ρ.plus (· = a)).plus n) (n := ((ρ.plus n).plus (· = a)).n) (fun a z => by rcases z with (z | z) | z; exact .inl (.inl z); exact .inr z; exact .inl (.inr z)) _ _ this
  · obtain ⟨vs, e, n1, n2, r⟩ := o
    refine ⟨vs, e, n1, (fun q => q.elim n2 fun q => by rw [hn a q] at e; cases e), ?_⟩
    have := RKV.dom (ρ := ρ.plus (· = a)) hn _ _ r
    exact RKV.anti (ρ := (ρ.plus (· = a)).plus n) (n := ((ρ.plus n).plus (· = a)).n) (fun a z => by rcases z with (z | z) | z; exact .inl (.inl z); exact .inr z; exact .inl (.inr z)) _ _ this
  · exact o
theorem Own.swap {n m : Addr → Prop} {d : D} {a : Addr} (o : Own K ((ρ.plus n).plus m) H d a) : Own K ((ρ.plus m).plus n) H d a := by
  have e : ((ρ.plus n).plus m) = ((ρ.plus m).plus n) := by
    unfold Fx.plus Fx.w
    congr 1
    funext a
    apply propext
    constructor
    · rintro ((z | z) | z); exact .inl (.inl z); exact .inr z; exact .inl (.inr z)
    · rintro ((z | z) | z); exact .inl (.inl z); exact .inr z; exact .inl (.inr z)
  rw [← e]; exact o
theorem Rs.plus {ε : Env} {σ : L2.St} (hn : ∀ a, n a → H a = none) (h : Rs K ρ H ε σ) : Rs K (ρ.plus n) H ε σ :=
  ⟨h.len, fun i d e => let ⟨v, a, b⟩ := h.val i d e; ⟨v, a, Fx.swap _ _ _ (RV.dom hn d v b)⟩, fun i d e => let ⟨a, e1, o⟩ := h.own i d e; ⟨a, e1, Own.swap (Own.plus hn o)⟩⟩
theorem Own.gen {l : List Addr} {H' : Hp} {d : D} {a : Addr} (h : Own K ρ H d a) (k : Kq ρ H l H') : Own K (ρ.to l) H' d a := by
  unfold Own at h ⊢
  split at h
  · obtain ⟨vs, z, e, n1, n2, r⟩ := h
    obtain ⟨e', n1'⟩ := k.kp a _ e n1 n2
    exact ⟨vs, z, e', n1', n2, RVs.gen (Kq.plus k) _ _ r⟩
  · obtain ⟨vs, e, n1, n2, r⟩ := h
    obtain ⟨e', n1'⟩ := k.kp a _ e n1 n2
    exact ⟨vs, e', n1', n2, RKV.gen (Kq.plus k) _ _ r⟩
  · exact h
theorem Rs.gen {l : List Addr} {H' : Hp} {ε : Env} {σ : L2.St} (h : Rs K ρ H ε σ) (k : Kq ρ H l H') : Rs K (ρ.to l) H' ε σ :=
  ⟨h.len, fun i d e => let ⟨v, a, b⟩ := h.val i d e; ⟨v, a, RV.gen (Kq.plus k) d v b⟩, fun i d e => let ⟨a, e1, o⟩ := h.own i d e; ⟨a, e1, Own.gen o (Kq.plus k)⟩⟩
end
/-! ### rules by values serve functions -/
section
variable (K : KW) (mg : Str → Option Value)
def VR2 (r : R2) (h : D → D → Option D) : Prop :=
  ∀ (E : XK) (ρ : Fx) (S : Sto) (H : Hp) (x y : D) (vx vy : V) (Q : VK), Rp ρ S H → RV K ρ H x vx → RV K ρ H y vy → Post K mg (RV K) E ρ H (.of S (h x y)) Q → r vx vy H Q
def VR1 (r : V → Hp → VK → Prop) (h : D → Option D) : Prop :=
  ∀ (E : XK) (ρ : Fx) (S : Sto) (H : Hp) (x : D) (vx : V) (Q : VK), Rp ρ S H → RV K ρ H x vx → Post K mg (RV K) E ρ H (.of S (h x)) Q → r vx H Q
def VRn (r : List V → Hp → VK → Prop) (h : List D → Option D) : Prop :=
  ∀ (E : XK) (ρ : Fx) (S : Sto) (H : Hp) (xs : List D) (vs : List V) (Q : VK), Rp ρ S H → RVs K ρ H xs vs → Post K mg (RV K) E ρ H (.of S (h xs)) Q → r vs H Q
end
section
variable {K : KW} {mg : Str → Option Value} {E : XK} {ρ : Fx} {H : Hp} {W : WX} {S : Sto}
theorem PE.imp {X : Cx} {e : Expr} {t t' : TE} (h : PE X e t) (i : ∀ σ H Q, t' σ H Q → t σ H Q) : PE X e t' := ⟨fun pins s σ H Q I q => h.run pins s σ H Q I (i σ H Q q)⟩
theorem PA.imp {X : Cx} {e : List Expr} {t t' : TA} (h : PA X e t) (i : ∀ σ H Q, t' σ H Q → t σ H Q) : PA X e t' := ⟨fun pos pins s σ H Q I q => h.run pos pins s σ H Q I (i σ H Q q)⟩
theorem PT.imp {X : Cx} {e : Expr} {t t' : TT} (h : PT X e t) (i : ∀ σ H Q, t' σ H Q → t σ H Q) : PT X e t' := ⟨fun pins s σ H Q I q => h.run pins s σ H Q I (i σ H Q q)⟩
theorem PW.imp {X : Cx} {e : Expr} {t t' : TT} (h : PW X e t) (i : ∀ σ H Q, t' σ H Q → t σ H Q) : PW X e t' := ⟨fun w pins s σ H Q I q => h.run w pins s σ H Q I (i σ H Q q)⟩
theorem PS.imp {X : Cx} {e : Stmt} {t t' : TS} (h : PS X e t) (i : ∀ D σ H, t' D σ H → t D σ H) : PS X e t' := ⟨fun pins s σ H D I q => h.run pins s σ H D I (i D σ H q)⟩
theorem PSs.imp {X : Cx} {e : List Stmt} {t t' : TS} (h : PSs X e t) (i : ∀ D σ H, t' D σ H → t D σ H) : PSs X e t' := ⟨fun pins s σ H D I q => h.run pins s σ H D I (i D σ H q)⟩
theorem TG0.go {γ δ : Type} {RC : Fx → Hp → γ → δ → Prop} {xs ys : List Nat} {ρ : Fx} {ε : Env} {S : Sto} {σ : L2.St} {r : Env → Sto → Out γ} {Q : δ → Hp → Prop} (hs : Rs K ρ H ε σ) (rp : Rp ρ S H) (q : Post K mg RC (XW W σ) (ρ.plus (Av ε σ xs)) H (r ε S) Q) : TG0 K mg RC W xs r σ H Q :=
  ⟨ρ, ε, S, hs, rp, q⟩
theorem TG0.go2 {γ δ α β : Type} {RA : Fx → Hp → α → β → Prop} {RC : Fx → Hp → γ → δ → Prop} {xs ys : List Nat} {ρ : Fx} {ε : Env} {S : Sto} {σ : L2.St} {f : Env → Sto → Out α} {g : α → Sto → Out γ} {Q : δ → Hp → Prop} {Q1 : β → Hp → Prop} (hx : ∀ i, i ∈ ys → i ∈ xs)
    (hs : Rs K ρ H ε σ) (rp : Rp ρ S H) (q : Post K mg RC (XW W σ) (ρ.plus (Av ε σ xs)) H ((f ε S).bind g) Q)
    (step : ∀ l v H1 d S1, Sx ρ.l H l H1 → Rs K (ρ.to l) H1 ε σ → Rp (ρ.to l) S1 H1 → RA ((ρ.to l).plus (Av ε σ ys)) H1 d v → Post K mg RC (XW W σ) ((ρ.to l).plus (Av ε σ xs)) H1 (g d S1) Q → Q1 v H1) : TG0 K mg RA W ys f σ H Q1 :=
  ⟨ρ, ε, S, hs, rp, Post.seqN (ρ := ρ.plus (Av ε σ xs)) (n := (ρ.plus (Av ε σ ys)).n) (fun a z => z.imp id (Av.anti hx a)) q fun l v H1 d S1 s rp1 rp2 ra q1 =>
    step l v H1 d S1 s (hs.mono rp s) (Rp.low (ρ := ρ.to l) (n := Av ε σ xs) rp1) ra q1⟩
theorem tf_op {r : R2} {xa xb : List Nat} {fa fb : Env → Sto → Out D} {h : D → D → Option D} (v : VR2 K mg r h) (σ : L2.St) (H : Hp) (Q : VK)
    (q : TF K mg W (xa ++ xb) (fun ε S => (fa ε S).bind fun x S1 => (fb ε S1).bind fun y S2 => .of S2 (h x y)) σ H Q) : tOp r (TF K mg W xa fa) (TF K mg W xb fb) σ H Q := by
  obtain ⟨ρ, ε, S, hs, hp, q⟩ := q
  refine TG0.go2 (xs := xa ++ xb) (fun i m => List.mem_append_left _ m) hs hp q fun l vx H1 x S1 s1 hs1 rp1 rx q1 => ?_
  refine TG0.go2 (xs := xa ++ xb) (fun i m => List.mem_append_right _ m) hs1 rp1 q1 fun l2 vy H2 y S2 s2 hs2 rp2 ry q2 => ?_
  refine v _ _ _ _ _ _ _ _ _ (hs2.rp rp2 _) ?_ ?_ q2
  · exact plus_anti (Av.anti fun i m => List.mem_append_left _ m) (rx.mono (hs1.rp rp1 _) s2)
  · exact plus_anti (Av.anti fun i m => List.mem_append_right _ m) ry
theorem tf_un {r : V → Hp → VK → Prop} {xa : List Nat} {fa : Env → Sto → Out D} {h : D → Option D} (v : VR1 K mg r h) (σ : L2.St) (H : Hp) (Q : VK)
    (q : TF K mg W xa (fun ε S => (fa ε S).bind fun x S1 => .of S1 (h x)) σ H Q) : tUn r (TF K mg W xa fa) σ H Q := by
  obtain ⟨ρ, ε, S, hs, hp, q⟩ := q
  exact TG0.go2 (xs := xa) (fun i m => m) hs hp q fun l vx H1 x S1 s1 hs1 rp1 rx q1 => v _ _ _ _ _ _ _ (hs1.rp rp1 _) rx q1
theorem tf_cb {r : List V → Hp → VK → Prop} {xa : List Nat} {fa : Env → Sto → Out (List D)} {h : List D → Option D} (v : VRn K mg r h) (σ : L2.St) (H : Hp) (Q : VK)
    (q : TF K mg W xa (fun ε S => (fa ε S).bind fun x S1 => .of S1 (h x)) σ H Q) : tCB r (TFs K mg W xa fa) σ H Q := by
  obtain ⟨ρ, ε, S, hs, hp, q⟩ := q
  exact TG0.go2 (xs := xa) (fun i m => m) hs hp q fun l vx H1 x S1 s1 hs1 rp1 rx q1 => v _ _ _ _ _ _ _ (hs1.rp rp1 _) rx q1
theorem tf_nil (σ : L2.St) (H : Hp) (Q : List V → Hp → Prop) (q : TFs K mg W [] (fun _ S => .ok [] S) σ H Q) : tNil σ H Q := by
  obtain ⟨ρ, ε, S, hs, hp, q⟩ := q
  exact q.here (hs.rp hp _) RVs.nil
theorem tf_cons {xa xb : List Nat} {fa : Env → Sto → Out D} {fr : Env → Sto → Out (List D)} (σ : L2.St) (H : Hp) (Q : List V → Hp → Prop)
    (q : TFs K mg W (xa ++ xb) (fun ε S => (fa ε S).bind fun x S1 => (fr ε S1).bind fun xs S2 => .ok (x :: xs) S2) σ H Q) : tCons (TF K mg W xa fa) (TFs K mg W xb fr) σ H Q := by
  obtain ⟨ρ, ε, S, hs, hp, q⟩ := q
  refine TG0.go2 (xs := xa ++ xb) (fun i m => List.mem_append_left _ m) hs hp q fun l vx H1 x S1 s1 hs1 rp1 rx q1 => ?_
  refine TG0.go2 (xs := xa ++ xb) (fun i m => List.mem_append_right _ m) hs1 rp1 q1 fun l2 vy H2 y S2 s2 hs2 rp2 ry q2 => ?_
  exact q2.here (hs2.rp rp2 _) (.cons (plus_anti (Av.anti fun i m => List.mem_append_left _ m) (rx.mono (hs1.rp rp1 _) s2)) (plus_antis (Av.anti fun i m => List.mem_append_right _ m) ry))
def rdE (ε : Env) (i : Nat) : Option D := match ε[i]? with
  | some (.v d) => some d
  | some (.o d) => some d
  | _ => none
theorem Rs.rd {ε : Env} {σ : L2.St} {i : Nat} {d : D} (hs : Rs K ρ H ε σ) (e : rdE ε i = some d) : ∃ v, σ[i]? = some (some v) ∧ RV K (ρ.plus (Av ε σ [i])) H d v := by
  unfold rdE at e
  split at e
  · rename_i d' e'; cases e
    obtain ⟨v, e1, r⟩ := hs.val i d e'
    exact ⟨v, e1, plus_anti (Av.anti fun i m => by cases m) r⟩
  · rename_i d' e'; cases e
    obtain ⟨a, e1, o⟩ := hs.own i d e'
    exact ⟨.ref a, e1, o.rv⟩
  · cases e
theorem tf_var {i : Nat} (σ : L2.St) (H : Hp) (Q : VK) (q : TF K mg W [i] (fun ε S => .of S (rdE ε i)) σ H Q) : tVar i σ H Q := by
  obtain ⟨ρ, ε, S, hs, hp, q⟩ := q
  obtain ⟨d, e, q⟩ := q.ofH
  obtain ⟨v, e1, r⟩ := hs.rd e
  exact ⟨v, e1, q.here (hs.rp hp _) r⟩
theorem tf_c {d : D} {v : V} (r : ∀ ρ H, RV K ρ H d v) (σ : L2.St) (H : Hp) (Q : VK) (q : TF K mg W [] (fun _ S => .ok d S) σ H Q) : tC v σ H Q := by
  obtain ⟨ρ, ε, S, hs, hp, q⟩ := q
  exact q.here (hs.rp hp _) (r _ _)
/-- a new tuple -/
theorem post_tup {Q : VK} {ds : List D} {vs : List V} (rp : Rp ρ S H) (z : ds.length ≤ sizeLine) (r : RVs K ρ H ds vs) (q : Post K mg (RV K) E ρ H (.ok (.tup ds) S) Q) (p : Addr) (hp : H p = none) : Q (.ref p) (upd H p (.tup vs)) :=
  q ρ.l (.ref p) _ (Sx.fresh hp) (rp.fresh hp) (.mkTup z (.inl (.inl upd_same)) (r.mono rp (Sx.fresh hp)))
/-- a new list -/
theorem post_lst {Q : VK} {ds : List D} {vs : List V} (rp : Rp ρ S H) (z : ds.length ≤ sizeLine) (r : RVs K ρ H ds vs) (q : Post K mg (RV K) E ρ H (.ok (.lst ds) S) Q) (p : Addr) (hp : H p = none) : Q (.ref p) (upd H p (.lst vs)) :=
  q ρ.l (.ref p) _ (Sx.fresh hp) (rp.fresh hp) (.mkLst z upd_same (rp.nin hp).1 (rp.nin hp).2 (r.mono rp (Sx.fresh hp)))
theorem post_dict {Q : VK} {ds : List (Key × D)} {vs : List (Key × V)} (rp : Rp ρ S H) (r : RKV K ρ H ds vs) (q : Post K mg (RV K) E ρ H (.ok (.dct ds) S) Q) (p : Addr) (hp : H p = none) : Q (.ref p) (upd H p (.dK vs)) :=
  q ρ.l (.ref p) _ (Sx.fresh hp) (rp.fresh hp) (.mkDct upd_same (rp.nin hp).1 (rp.nin hp).2 (r.mono rp (Sx.fresh hp)))
end
end GG
namespace GG
open PySem PySem.Spec PyProof.Rows L2
/-! ## operations on data -/
def tru : D → Option Bool
  | .non => some false
  | .bl b => some b
  | .int i => some (i != 0)
  | .str x => if x.length ≤ sizeLine then some ((x.length : Int) != 0) else none
  | .tup ds => some (!ds.isEmpty)
  | .rol ds => some (!ds.isEmpty)
  | .lst ds => some (!ds.isEmpty)
  | .dct _ => none
  | .stm _ => none
  | .wdt _ => none
/-- the items of a list or a tuple -/
def seqOf : D → Option (List D)
  | .tup ds => some ds
  | .rol ds => some ds
  | .lst ds => some ds
  | _ => none
def opAdd (x y : D) : Option D :=
  match x, y with
  | .int i, .int j => some (.int (i + j))
  | .str i, .str j => if i.length + j.length ≤ sizeLine then some (.str (i ++ j)) else none
  | .tup xs, .tup ys => if xs.length + ys.length ≤ sizeLine then some (.tup (xs ++ ys)) else none
  | .lst xs, .lst ys => if xs.length + ys.length ≤ sizeLine then some (.lst (xs ++ ys)) else none
  | _, _ => none
def opSub (x y : D) : Option D :=
  match x, y with
  | .int i, .int j => some (.int (i - j))
  | _, _ => none
def rep {α : Type} (k : Int) (xs : List α) : List α := (List.replicate k.toNat xs).flatten
def opMul (x y : D) : Option D :=
  match x, y with
  | .int i, .int j => if (-(2 ^ 64) < i ∧ i < 2 ^ 64) ∨ (-(2 ^ 64) < j ∧ j < 2 ^ 64) then some (.int (i * j)) else none
  | .lst xs, .int k => if -(2 ^ 63) ≤ k ∧ k < 2 ^ 63 ∧ xs.length * k.toNat ≤ sizeLine then some (.lst (rep k xs)) else none
  | .tup xs, .int k => if k ≤ 1000 ∧ -(2 ^ 63) ≤ k ∧ xs.length ≤ 1000 then some (.tup (rep k xs)) else none
  | _, _ => none
def opDiv (x y : D) : Option D :=
  match x, y with
  | .int i, .int j => if 0 < j ∧ j < 1073741824 then some (.int (i / j)) else none
  | _, _ => none
def opMod (x y : D) : Option D :=
  match x, y with
  | .int i, .int j => if 0 < j then some (.int (i % j)) else none
  | _, _ => none
theorem rep_len {α : Type} (k : Int) (xs : List α) : (rep k xs).length = xs.length * k.toNat := by
  unfold rep
  induction k.toNat with
  | zero => simp
  | succ n ih => rw [List.replicate_succ, List.flatten_cons, List.length_append, ih, Nat.mul_succ]; omega
section
variable {K : KW} {mg : Str → Option Value} {ρ : Fx} {H : Hp} {S : Sto}
theorem seqOf_ok {d : D} {v : V} {ds : List D} (r : RV K ρ H d v) (h : seqOf d = some ds) : ∃ a vs, v = .ref a ∧ ds.length ≤ sizeLine ∧ (SqL K H a vs ∨ SqT K H a vs) ∧ RVs K ρ H ds vs := by
  cases d with
  | tup xs => cases h; obtain ⟨a, vs, e, z, q, t⟩ := r.tup; exact ⟨a, vs, e, z, .inr q, t⟩
  | rol xs => cases h; obtain ⟨a, vs, e, z, q, t⟩ := r.rol; exact ⟨a, vs, e, z, .inl q.sq, t⟩
  | lst xs => cases h; obtain ⟨a, vs, e, z, q, _, _, t⟩ := r.lst; exact ⟨a, vs, e, z, .inl (SqL.of q), t⟩
  | _ => simp [seqOf] at h
theorem RVs.rep {ds : List D} {vs : List V} (r : RVs K ρ H ds vs) (k : Int) : RVs K ρ H (GG.rep k ds) (List.replicate k.toNat vs).flatten := by
  unfold GG.rep
  induction k.toNat with
  | zero => exact RVs.nil
  | succ n ih =>
    rw [List.replicate_succ, List.replicate_succ, List.flatten_cons, List.flatten_cons]
    exact r.append ih
theorem emp_eq {ds : List D} {vs : List V} (t : RVs K ρ H ds vs) : (!ds.isEmpty) = !vs.isEmpty := by
  have e := t.len
  cases ds <;> cases vs <;> simp_all
theorem tru_V {d : D} {v : V} {b : Bool} (r : RV K ρ H d v) (h : tru d = some b) : TruV K v H b := by
  cases d with
  | non => rw [r.non]; cases h; rfl
  | bl x => rw [r.bl]; cases h; rfl
  | int i => rw [r.int]; cases h; rfl
  | str x =>
    rw [r.str]
    simp only [tru] at h
    split at h
    · rename_i z; cases h; exact ⟨z, rfl⟩
    · cases h
  | tup ds =>
    obtain ⟨a, vs, rfl, z, q, t⟩ := r.tup
    cases h
    exact .inr (.inl ⟨vs, q, emp_eq t⟩)
  | rol ds =>
    obtain ⟨a, vs, rfl, z, q, t⟩ := r.rol
    cases h
    exact .inl ⟨vs, q.sq, emp_eq t⟩
  | lst ds =>
    obtain ⟨a, vs, rfl, z, q, _, _, t⟩ := r.lst
    cases h
    exact .inl ⟨vs, SqL.of q, emp_eq t⟩
  | dct kvs => cases h
  | stm k => simp [tru] at h
  | wdt k => simp [tru] at h
/-! ### the operators' rules, joined -/
abbrev rAddA (K : KW) : R2 := fun x y H Q => (rI0 (fun i j => .int (i + j)) x y H Q ∨ (fun x y (H : Hp) (Q : VK) => ∃ i j, x = .str i ∧ y = .str j ∧ i.length + j.length ≤ sizeLine ∧ Q (.str (i ++ j)) H) x y H Q) ∨ (rCatA K x y H Q ∨ rCat x y H Q)
theorem op_addA {X : Cx} : OpR X (binaryOp .Add) (rAddA (kw X)) := (op_add.or op_add_str).or (op_catA.or op_cat)
theorem vr_add : VR2 K mg (rAddA K) opAdd := by
  intro E ρ S H x y vx vy Q rp rx ry q
  obtain ⟨d, e, q⟩ := q.ofH
  unfold opAdd at e
  split at e
  · cases e; rw [rx.int, ry.int]; exact .inl (.inl ⟨_, _, rfl, rfl, q.here rp (.mkInt _)⟩)
  · split at e
    · rename_i z; cases e; rw [rx.str, ry.str]; exact .inl (.inr ⟨_, _, rfl, rfl, z, q.here rp (.mkStr _)⟩)
    · cases e
  · rename_i xs ys
    split at e
    · rename_i z
      cases e
      obtain ⟨a, us, rfl, za, qa, ta⟩ := rx.tup
      obtain ⟨b, ws, rfl, zb, qb, tb⟩ := ry.tup
      refine .inr (.inl ⟨a, b, us, ws, rfl, rfl, qa, qb, ?_, fun e => ?_, fun e f => ?_, fun e f p hp => post_tup rp (by rw [List.length_append]; exact z) (ta.append tb) q p hp⟩)
      · rw [← ta.len, ← tb.len]; exact z
      · subst e
        have e : xs = [] := ta.isNil.mpr rfl
        subst e
        exact q.here rp (.mkTup zb qb tb)
      · subst f
        have e : ys = [] := tb.isNil.mpr rfl
        subst e
        rw [List.append_nil] at q
        exact q.here rp (.mkTup za qa ta)
    · cases e
  · split at e
    · rename_i z
      cases e
      obtain ⟨a, us, rfl, za, qa, _, _, ta⟩ := rx.lst
      obtain ⟨b, ws, rfl, zb, qb, _, _, tb⟩ := ry.lst
      exact .inr (.inr ⟨a, b, us, ws, rfl, rfl, qa, qb, by rw [← ta.len, ← tb.len]; exact z, fun p hp => post_lst rp (by rw [List.length_append]; exact z) (ta.append tb) q p hp⟩)
    · cases e
  · cases e
theorem vr_sub : VR2 K mg (rI0 fun i j => .int (i - j)) opSub := by
  intro E ρ S H x y vx vy Q rp rx ry q
  obtain ⟨d, e, q⟩ := q.ofH
  unfold opSub at e
  split at e
  · cases e; rw [rx.int, ry.int]; exact ⟨_, _, rfl, rfl, q.here rp (.mkInt _)⟩
  · cases e
theorem vr_div : VR2 K mg (rI CDiv fun i j => .int (i / j)) opDiv := by
  intro E ρ S H x y vx vy Q rp rx ry q
  obtain ⟨d, e, q⟩ := q.ofH
  unfold opDiv at e
  split at e
  · split at e
    · rename_i z; cases e; rw [rx.int, ry.int]; exact ⟨_, _, rfl, rfl, z, q.here rp (.mkInt _)⟩
    · cases e
  · cases e
theorem vr_mod : VR2 K mg (rI (fun _ j => 0 < j) fun i j => .int (i % j)) opMod := by
  intro E ρ S H x y vx vy Q rp rx ry q
  obtain ⟨d, e, q⟩ := q.ofH
  unfold opMod at e
  split at e
  · split at e
    · rename_i z; cases e; rw [rx.int, ry.int]; exact ⟨_, _, rfl, rfl, z, q.here rp (.mkInt _)⟩
    · cases e
  · cases e
end
/-! ## t * k for small k -/
/-- t * 1, or an empty t: the same object -/
theorem tuple_mul1 (l : Addr) (items : Array Value) (n : Nat) (dd : Option Addr) (sl : Array (Option Value)) (x : Int) (u : Tok)
    (c0 : (decide (x < -(2 ^ 63)) || decide (x ≥ 2 ^ 63)) = false) (c1 : (items.isEmpty || x == 1) = true) :
    Meets (Builtin.«tuple.__mul__» ⟨[.ref l, .int x u], []⟩) (fun _ R s => s.heap.get? l = some { cls := .type "tuple", dict := dd, data := .seq items n, slots := sl } ∧
      R (.ok (.ret (Value.ref l))) s) :=
  .of_wp fun prog w A R s h => by
    obtain ⟨hp, g, d, tk, os⟩ := s
    obtain ⟨hl, h⟩ := h
    have f1 := AutoSeq1.idx_int
    have z0 := decide_eq_false (p := (decide (x < -(2 ^ 63)) || decide (x ≥ 2 ^ 63)) = true) (by rw [c0]; exact Bool.false_ne_true)
    wp_walk using wpAny_loadPart' hl
    refine wpAny_ite_false z0 ?_
    wp_walk using wpAny_loadPart' hl
    exact ⟨_, rfl, h⟩
/-- t * k, k not positive: an empty tuple -/
theorem tuple_mul0 (l : Addr) (items : Array Value) (n : Nat) (dd : Option Addr) (sl : Array (Option Value)) (x : Int) (u : Tok)
    (c0 : (decide (x < -(2 ^ 63)) || decide (x ≥ 2 ^ 63)) = false) (c1 : (items.isEmpty || x == 1) = false) (c2 : (decide (x ≤ 0) || items.isEmpty) = true) :
    Meets (Builtin.«tuple.__mul__» ⟨[.ref l, .int x u], []⟩) (fun _ R s => s.heap.get? l = some { cls := .type "tuple", dict := dd, data := .seq items n, slots := sl } ∧
      R (.ok (.ret (Value.ref s.heap.objs.size))) { s with heap := s.heap.push { cls := Value.type "tuple", data := Data.seq #[] } }) :=
  .of_wp fun prog w A R s h => by
    obtain ⟨hp, g, d, tk, os⟩ := s
    obtain ⟨hl, h⟩ := h
    have f1 := AutoSeq1.idx_int
    have z0 := decide_eq_false (p := (decide (x < -(2 ^ 63)) || decide (x ≥ 2 ^ 63)) = true) (by rw [c0]; exact Bool.false_ne_true)
    wp_walk using wpAny_loadPart' hl
    refine wpAny_ite_false z0 ?_
    wp_walk using wpAny_loadPart' hl
    exact ⟨_, rfl, h⟩
def rRepS (K : KW) : R2 := fun x y H Q => ∃ l k xs, x = .ref l ∧ y = .int k ∧ SqT K H l xs ∧ -(2 ^ 63) ≤ k ∧ k < 2 ^ 63 ∧
  (((xs = [] ∨ k = 1) ∧ Q (.ref l) H) ∨ (xs ≠ [] ∧ k ≤ 0 ∧ ∀ p, H p = none → Q (.ref p) (upd H p (.tup []))))
theorem op_repS {X : Cx} : OpR X (binaryOp .Mult) (rRepS (kw X)) := by
  intro pins s σ H x y v u Q I rx ry h
  obtain ⟨l, k, xs, rfl, rfl, hT, h1, h2, q⟩ := h
  cases rx
  obtain ⟨t, rfl⟩ := ry
  obtain ⟨its, r, ⟨⟨cls, dd, data, sl⟩, ho, hc, n, hd⟩, hs⟩ := I.tuple hT
  simp only at hc hd
  subst hc hd
  have hle : its.length = xs.length := r.length.symm
  have c0 : (decide (k < -(2 ^ 63)) || decide (k ≥ 2 ^ 63)) = false := by
    rw [decide_eq_false (by omega), decide_eq_false (by omega)]; rfl
  refine wpAny_binaryOp_repeat_ref (T := "tuple") (U := "int") (by decide) ⟨_, ho, rfl⟩
    (fun s' => typeIs_int s' k t) noFill_tuple_mul F.fills_int_mul F.slot_int_rmul repeat_tuple F.slot_int_index.lookup ?_
  refine call_meets F.slot_int_rmul (typeIs_int s k t) F.entry_int_rmul (F.args_int_rmul_2 _ _)
    (int_rmul_tuple k t l its.toArray n dd sl) ⟨ho, rfl, ⟨_, ho, rfl⟩, ?_⟩
  have emp : its.toArray.isEmpty = its.isEmpty := by cases its <;> rfl
  rcases q with ⟨hx, q⟩ | ⟨hx, hk, q⟩
  · have c1 : (its.toArray.isEmpty || k == 1) = true := by
      rcases hx with hx | hx
      · have : its = [] := List.eq_nil_of_length_eq_zero (by rw [hle, hx]; rfl)
        subst this; rfl
      · subst hx; simp
    exact call_meets F.slot_tuple_mul ⟨_, ho, rfl⟩ F.entry_tuple_mul (F.args_tuple_mul_2 _ _)
      (tuple_mul1 l its.toArray n dd sl k t c0 c1) ⟨ho, ⟨.ref l, H, I.tok _, rfl, q⟩⟩
  · have hne : its.isEmpty = false := by
      cases its with
      | nil => exact absurd (List.eq_nil_of_length_eq_zero hle.symm) hx
      | cons a b => rfl
    have c1 : (its.toArray.isEmpty || k == 1) = false := by
      rw [emp, hne, Bool.false_or]; exact beq_eq_false_iff_ne.mpr (by omega)
    have c2 : (decide (k ≤ 0) || its.toArray.isEmpty) = true := by
      rw [decide_eq_true hk]; rfl
    refine call_meets F.slot_tuple_mul ⟨_, ho, rfl⟩ F.entry_tuple_mul (F.args_tuple_mul_2 _ _)
      (tuple_mul0 l its.toArray n dd sl k t c0 c1 c2) ⟨ho, ?_⟩
    have hf : H s.heap.objs.size = none := I.hok.fresh (Nat.le_refl _)
    refine ⟨.ref s.heap.objs.size, upd H s.heap.objs.size (.tup []), I.laid (t' := s.toks) (fun b u e => Heap.get?_push_of_some _ e) (Nat.le_refl _) ?_, rfl, q _ hf⟩
    exact ⟨Nat.zero_le _, [], .nil, IsTup.new s.heap #[]⟩
abbrev rMulA (K : KW) : R2 := fun x y H Q => (rI CMul (fun i j => .int (i * j)) x y H Q ∨ rRep x y H Q) ∨ (rRepT K x y H Q ∨ rRepS K x y H Q)
theorem op_mulA {X : Cx} : OpR X (binaryOp .Mult) (rMulA (kw X)) := (op_mul.or op_rep).or (op_repT.or op_repS)
section
variable {K : KW} {mg : Str → Option Value}
theorem vr_mul : VR2 K mg (rMulA K) opMul := by
  intro E ρ S H x y vx vy Q rp rx ry q
  obtain ⟨d, e, q⟩ := q.ofH
  unfold opMul at e
  split at e
  · split at e
    · rename_i z; cases e; rw [rx.int, ry.int]; exact .inl (.inl ⟨_, _, rfl, rfl, z, q.here rp (.mkInt _)⟩)
    · cases e
  · split at e
    · rename_i z
      cases e
      obtain ⟨a, us, rfl, za, qa, _, _, ta⟩ := rx.lst
      rw [ry.int]
      exact .inl (.inr ⟨a, _, us, rfl, rfl, qa, z.1, z.2.1, by rw [← ta.len]; exact z.2.2, fun p hp => post_lst rp (by rw [rep_len]; exact z.2.2) (ta.rep _) q p hp⟩)
    · cases e
  · rename_i xs k
    split at e
    · rename_i z
      cases e
      obtain ⟨a, us, rfl, za, qa, ta⟩ := rx.tup
      rw [ry.int]
      refine .inr ?_
      by_cases hn : us = []
      · refine .inr ⟨a, k, us, rfl, rfl, qa, z.2.1, by omega, .inl ⟨.inl hn, ?_⟩⟩
        have e : xs = [] := ta.isNil.mpr hn
        subst e
        have e2 : rep k ([] : List D) = [] := by unfold rep; simp
        rw [e2] at q
        exact q.here rp (.mkTup za qa ta)
      · by_cases hk : k = 1
        · subst hk
          refine .inr ⟨a, 1, us, rfl, rfl, qa, z.2.1, by omega, .inl ⟨.inr rfl, ?_⟩⟩
          have e2 : rep 1 xs = xs := by unfold rep; simp
          rw [e2] at q
          exact q.here rp (.mkTup za qa ta)
        · by_cases hk0 : k ≤ 0
          · refine .inr ⟨a, k, us, rfl, rfl, qa, z.2.1, by omega, .inr ⟨hn, hk0, fun p hp => ?_⟩⟩
            have e2 : rep k xs = [] := by
              unfold rep
              rw [show k.toNat = 0 by omega]; rfl
            rw [e2] at q
            exact post_tup rp (Nat.zero_le _) RVs.nil q p hp
          · refine .inl ⟨a, k, us, rfl, rfl, qa, hn, by omega, z.1, by rw [← ta.len]; exact z.2.2, fun p hp => post_tup rp ?_ (ta.rep k) q p hp⟩
            rw [rep_len]
            have h1 : xs.length * k.toNat ≤ 1000 * 1000 := Nat.mul_le_mul z.2.2 (by omega)
            have h2 : 1000 * 1000 ≤ sizeLine := by decide
            omega
    · cases e
  · cases e
end
end GG
namespace GG
open PySem PySem.Spec PyProof.Rows L2
/-! ## data as the library's data -/
def kPy : Key → PyData
  | .inl i => .int i
  | .inr x => .str x
mutual
def py : D → Option PyData
  | .non => some .none
  | .bl b => some (.bool b)
  | .int i => some (.int i)
  | .str x => some (.str x)
  | .tup ds => (pys ds).map .tuple
  | .rol ds => (pys ds).map .list
  | .lst ds => (pys ds).map .list
  | .dct kvs => (pyk kvs).map .dict
  | .stm _ => none
  | .wdt _ => none
def pys : List D → Option (List PyData)
  | [] => some []
  | x :: r => match py x, pys r with
    | some y, some ys => some (y :: ys)
    | _, _ => none
def pyk : List (Key × D) → Option (List (PyData × PyData))
  | [] => some []
  | (k, x) :: r => match py x, pyk r with
    | some y, some ys => some ((kPy k, y) :: ys)
    | _, _ => none
end
section
variable {K : KW} {mg : Str → Option Value} {ρ : Fx} {H : Hp} {S : Sto}
mutual
theorem py_dp : ∀ (d : D) (v : V) (p : PyData), py d = some p → p.canLay0 = true → RV K ρ H d v → Dp K H v p
  | .non, v, p, e, c, r => by simp only [py] at e; cases e; rw [r.non]; exact .non
  | .bl b, v, p, e, c, r => by simp only [py] at e; cases e; rw [r.bl]; exact .bl b
  | .int b, v, p, e, c, r => by simp only [py] at e; cases e; rw [r.int]; exact .int b
  | .str b, v, p, e, c, r => by simp only [py] at e; cases e; rw [r.str]; exact .str b
  | .tup ds, v, p, e, c, r => by
    simp only [py, Option.map_eq_some_iff] at e
    obtain ⟨ps, e, rfl⟩ := e
    obtain ⟨a, vs, rfl, _, q, t⟩ := r.tup
    simp only [PyData.canLay0] at c
    exact .tup q (pys_dp ds vs ps e c t)
  | .rol ds, v, p, e, c, r => by
    simp only [py, Option.map_eq_some_iff] at e
    obtain ⟨ps, e, rfl⟩ := e
    obtain ⟨a, vs, rfl, _, q, t⟩ := r.rol
    simp only [PyData.canLay0] at c
    exact .lst q.sq (pys_dp ds vs ps e c t)
  | .lst ds, v, p, e, c, r => by
    simp only [py, Option.map_eq_some_iff] at e
    obtain ⟨ps, e, rfl⟩ := e
    obtain ⟨a, vs, rfl, _, q, _, _, t⟩ := r.lst
    simp only [PyData.canLay0] at c
    exact .lst (SqL.of q) (pys_dp ds vs ps e c t)
  | .dct kvs, v, p, e, c, r => by
    simp only [py, Option.map_eq_some_iff] at e
    obtain ⟨ps, e, rfl⟩ := e
    simp [PyData.canLay0] at c
  | .stm k, v, p, e, c, r => by simp [py] at e
  | .wdt k, v, p, e, c, r => by simp [py] at e
theorem pys_dp : ∀ (ds : List D) (vs : List V) (ps : List PyData), pys ds = some ps → PyData.canLayAll0 ps = true → RVs K ρ H ds vs → DpAll K H vs ps
  | [], vs, ps, e, _, r => by
    simp only [RVs] at r; subst r
    simp only [pys] at e; cases e
    exact .nil
  | d :: ds, vs, ps, e, c, r => by
    obtain ⟨v, vr, rfl, rv, rr⟩ := r.uncons
    simp only [pys] at e
    split at e
    · rename_i p pr e1 e2
      cases e
      simp only [PyData.canLayAll0, Bool.and_eq_true] at c
      exact .cons (py_dp d v p e1 c.1 rv) (pys_dp ds vr pr e2 c.2 rr)
    · cases e
end
end
/-- == () of a tuple, == [] of a list ask nothing of its things -/
def emT (neg : Bool) (x y : D) : Option D :=
  match x, y with
  | .tup ds, .tup [] => some (.bl (if neg then !ds.isEmpty else ds.isEmpty))
  | .lst ds, .lst [] => some (.bl (if neg then !ds.isEmpty else ds.isEmpty))
  | .rol ds, .lst [] => some (.bl (if neg then !ds.isEmpty else ds.isEmpty))
  | _, _ => none
def opEq (neg : Bool) (x y : D) : Option D :=
  match x, y with
  | .int i, .int j => some (.bl (if neg then !decide (i = j) else decide (i = j)))
  | .str i, .str j => some (.bl (if neg then !decide (i = j) else decide (i = j)))
  | x, y => match py x, py y with
    | some a, some b => if SeqAt.shaped a = true ∧ SeqAt.shaped b = true then some (.bl (if neg then !PyData.eqv a b else PyData.eqv a b)) else emT neg x y
    | _, _ => emT neg x y
def opInt (f : Int → Int → Bool) (g : List Nat → List Nat → Bool) (x y : D) : Option D :=
  match x, y with
  | .int i, .int j => some (.bl (f i j))
  | .str i, .str j => some (.bl (g i.cps.toList j.cps.toList))
  | _, _ => none
def flatD : D → Bool
  | .non | .bl _ | .int _ | .str _ => true
  | _ => false
def eqFD : D → D → Bool
  | .non, .non => true
  | .bl a, .bl b => a == b
  | .bl a, .int b => (if a then 1 else 0) == b
  | .int a, .bl b => a == (if b then 1 else 0)
  | .int a, .int b => a == b
  | .str a, .str b => a == b
  | _, _ => false
/-- written keys of flat data -/
def keyOf : D → Option Key
  | .int i => some (.inl i)
  | .str x => some (.inr x)
  | _ => none
def keysOf : D → Option (List (Key × D))
  | .dct kvs => some kvs
  | .wdt kvs => some kvs
  | _ => none
def getK (kvs : List (Key × D)) (k : Key) : Option D := (kvs.find? fun kv => decide (kv.1 = k)).map (·.2)
def hasK (kvs : List (Key × D)) (k : Key) : Bool := kvs.any fun kv => decide (kv.1 = k)
/-- a tuple is none of some flat things -/
def inT (neg : Bool) (x : D) (ds : List D) : Option D :=
  match x with
  | .tup _ => if ds.all flatD = true then some (.bl neg) else none
  | _ => none
def opIn (neg : Bool) (x y : D) : Option D :=
  match x, y with
  | .str i, .str j => match i.cps.toList with
    | [c] => some (.bl (if neg then !decide (c ∈ j.cps.toList) else decide (c ∈ j.cps.toList)))
    | _ => some (.bl (if neg then !(!(Builtin.Str.occurrences j i 0 j.length 1).isEmpty) else !(Builtin.Str.occurrences j i 0 j.length 1).isEmpty))
  | x, y => match seqOf y with
    | some ds => if flatD x = true ∧ ds.all flatD = true then some (.bl (if neg then !(ds.any fun z => eqFD z x) else ds.any fun z => eqFD z x)) else inT neg x ds
    | none => match keysOf y, keyOf x with
      | some kvs, some k => some (.bl (if neg then !hasK kvs k else hasK kvs k))
      | _, _ => none
def opIs (neg : Bool) (x y : D) : Option D :=
  match y with
  | .non => some (.bl (if neg then !decide (x = .non) else decide (x = .non)))
  | .bl b => match x with
    | .bl a => some (.bl (if neg then !decide (a = b) else decide (a = b)))
    | _ => none
  | _ => none
section
variable {K : KW} {mg : Str → Option Value}
theorem shaped_lay {a : PyData} (h : SeqAt.shaped a = true) : a.canLay0 = true := by
  simp only [SeqAt.shaped, Bool.and_eq_true] at h
  exact h.1
def Sq2 (K : PySem.W.Frag) (H : Hp) (a : Addr) (xs : List V) (b : Addr) : Prop := (SqT K H a xs ∧ SqT K H b []) ∨ (SqL K H a xs ∧ SqL K H b [])
def rEqE (K : PySem.W.Frag) : R2 := fun x y H Q => ∃ a b xs, x = .ref a ∧ y = .ref b ∧ Sq2 K H a xs b ∧ Q (.bl xs.isEmpty) H
def rNeE (K : PySem.W.Frag) : R2 := fun x y H Q => ∃ a b xs, x = .ref a ∧ y = .ref b ∧ Sq2 K H a xs b ∧ Q (.bl (!xs.isEmpty)) H
theorem op_eqE {X : Cx} (hu : X.A.units + 64 < cLine) : OpR X (compareOp .Eq) (rEqE X.K) := by
  intro pins s σ H x y v u Q I rx ry h
  obtain ⟨a, b, xs, rfl, rfl, hab, q⟩ := h
  cases rx
  cases ry
  rcases hab with ⟨ha, hb⟩ | ⟨ha, hb⟩
  · obtain ⟨its, r1, p1, _⟩ := I.tuple ha
    obtain ⟨its2, r2, p2, _⟩ := I.tuple hb
    cases r2
    have hl : s.heap.IsTuple a its.toArray := p1
    have hl2 : s.heap.IsTuple b #[] := p2
    have k := SeqAt.RcAt.tuples (A := X.A) (e := fun _ => true) hl hl2 (by omega) (fun j _ j2 => absurd j2 (Nat.not_lt_zero _))
    refine k X.prog X.w _ _ ?_
    refine ⟨.bl xs.isEmpty, H, I, ?_, q⟩
    cases r1 with
    | nil => rfl
    | cons _ _ =>
      simp
      rfl
  · obtain ⟨its, r1, p1, _⟩ := I.list ha
    obtain ⟨its2, r2, p2, _⟩ := I.list hb
    cases r2
    cases r1 with
    | nil =>
      have k := SeqAt.RcAt.lists (A := X.A) (e := fun _ => true) p1.isList p2.isList rfl (by omega) (fun j _ j2 => absurd j2 (Nat.not_lt_zero _))
      refine k X.prog X.w _ _ ?_
      exact ⟨.bl true, H, I, rfl, q⟩
    | cons _ _ =>
      have k := SeqAt.RcAt.lists_lengths (A := X.A) p1.isList p2.isList (by simp) (by omega)
      refine k X.prog X.w _ _ ?_
      exact ⟨.bl false, H, I, rfl, q⟩
theorem op_neE {X : Cx} (hu : X.A.units + 64 < cLine) : OpR X (compareOp .NotEq) (rNeE X.K) := by
  intro pins s σ H x y v u Q I rx ry h
  obtain ⟨a, b, xs, rfl, rfl, hab, q⟩ := h
  cases rx
  cases ry
  rcases hab with ⟨ha, hb⟩ | ⟨ha, hb⟩
  · obtain ⟨its, r1, p1, _⟩ := I.tuple ha
    obtain ⟨its2, r2, p2, _⟩ := I.tuple hb
    cases r2
    have hl : s.heap.IsTuple a its.toArray := p1
    have hl2 : s.heap.IsTuple b #[] := p2
    have k := SeqAt.RcNeAt.tuples (A := X.A) (e := fun _ => true) hl hl2 (by omega) (fun j _ j2 => absurd j2 (Nat.not_lt_zero _))
    refine k X.prog X.w _ _ ?_
    refine ⟨.bl (!xs.isEmpty), H, I, ?_, q⟩
    cases r1 with
    | nil => rfl
    | cons _ _ =>
      simp
      rfl
  · obtain ⟨its, r1, p1, _⟩ := I.list ha
    obtain ⟨its2, r2, p2, _⟩ := I.list hb
    cases r2
    cases r1 with
    | nil =>
      have k := SeqAt.RcNeAt.lists (A := X.A) (e := fun _ => true) p1.isList p2.isList rfl (by omega) (fun j _ j2 => absurd j2 (Nat.not_lt_zero _))
      refine k X.prog X.w _ _ ?_
      exact ⟨.bl false, H, I, rfl, q⟩
    | cons _ _ =>
      have k := SeqAt.RcNeAt.lists_lengths (A := X.A) p1.isList p2.isList (by simp) (by omega)
      refine k X.prog X.w _ _ ?_
      exact ⟨.bl true, H, I, rfl, q⟩
theorem RVs.emp {ρ : Fx} {H : Hp} {ds : List D} {vs : List V} (r : RVs K ρ H ds vs) : ds.isEmpty = vs.isEmpty := by
  cases ds with
  | nil => simp only [RVs] at r; subst r; rfl
  | cons x t =>
    simp only [RVs] at r
    obtain ⟨v, r', rfl, _⟩ := r
    rfl
theorem emT_some {ρ : Fx} {H : Hp} {neg : Bool} {x y d : D} {vx vy : V} (e : emT neg x y = some d) (rx : RV K ρ H x vx) (ry : RV K ρ H y vy) :
    ∃ a b xs, vx = .ref a ∧ vy = .ref b ∧ Sq2 K H a xs b ∧ d = .bl (if neg then !xs.isEmpty else xs.isEmpty) := by
  have nil : ∀ {ws : List V}, RVs K ρ H [] ws → ws = [] := fun r => by simpa only [RVs] using r
  unfold emT at e
  split at e
  · rename_i ds
    obtain ⟨a, vs, rfl, _, q, r⟩ := rx.tup
    obtain ⟨b, ws, rfl, _, q2, r2⟩ := ry.tup
    rw [nil r2] at q2
    cases e
    exact ⟨a, b, vs, rfl, rfl, .inl ⟨q, q2⟩, by rw [r.emp]⟩
  · rename_i ds
    obtain ⟨a, vs, rfl, _, q, _, _, r⟩ := rx.lst
    obtain ⟨b, ws, rfl, _, q2, _, _, r2⟩ := ry.lst
    rw [nil r2] at q2
    cases e
    exact ⟨a, b, vs, rfl, rfl, .inr ⟨SqL.of q, SqL.of q2⟩, by rw [r.emp]⟩
  · rename_i ds
    obtain ⟨a, vs, rfl, _, q, r⟩ := rx.rol
    obtain ⟨b, ws, rfl, _, q2, _, _, r2⟩ := ry.lst
    rw [nil r2] at q2
    cases e
    exact ⟨a, b, vs, rfl, rfl, .inr ⟨q.sq, SqL.of q2⟩, by rw [r.emp]⟩
  · cases e
theorem vr_eq : VR2 K mg (fun x y H Q => (rEq x y H Q ∨ rEqD K x y H Q) ∨ rEqE K x y H Q) (opEq false) := by
  intro E ρ S H x y vx vy Q rp rx ry q
  obtain ⟨d, e, q⟩ := q.ofH
  unfold opEq at e
  split at e
  · cases e; rw [rx.int, ry.int]
    exact .inl (.inl ⟨rfl, by simp only [V.int.injEq]; exact q.here rp (.mkBl _)⟩)
  · cases e; rw [rx.str, ry.str]
    exact .inl (.inl ⟨rfl, by simp only [V.str.injEq]; exact q.here rp (.mkBl _)⟩)
  · split at e
    · rename_i a b e1 e2
      split at e
      · rename_i z
        cases e
        exact .inl (.inr ⟨a, b, py_dp _ vx a e1 (shaped_lay z.1) rx, py_dp _ vy b e2 (shaped_lay z.2) ry, z.1, z.2, q.here rp (.mkBl _)⟩)
      · obtain ⟨a, b, xs, e1, e2, s1, rfl⟩ := emT_some e rx ry
        exact .inr ⟨a, b, xs, e1, e2, s1, q.here rp (.mkBl _)⟩
    · obtain ⟨a, b, xs, e1, e2, s1, rfl⟩ := emT_some e rx ry
      exact .inr ⟨a, b, xs, e1, e2, s1, q.here rp (.mkBl _)⟩
theorem vr_ne : VR2 K mg (fun x y H Q => (rNe x y H Q ∨ rNeD K x y H Q) ∨ rNeE K x y H Q) (opEq true) := by
  intro E ρ S H x y vx vy Q rp rx ry q
  obtain ⟨d, e, q⟩ := q.ofH
  unfold opEq at e
  split at e
  · cases e; rw [rx.int, ry.int]
    exact .inl (.inl ⟨rfl, by simp only [V.int.injEq]; exact q.here rp (.mkBl _)⟩)
  · cases e; rw [rx.str, ry.str]
    exact .inl (.inl ⟨rfl, by simp only [V.str.injEq]; exact q.here rp (.mkBl _)⟩)
  · split at e
    · rename_i a b e1 e2
      split at e
      · rename_i z
        cases e
        exact .inl (.inr ⟨a, b, py_dp _ vx a e1 (shaped_lay z.1) rx, py_dp _ vy b e2 (shaped_lay z.2) ry, z.1, z.2, q.here rp (.mkBl _)⟩)
      · obtain ⟨a, b, xs, e1, e2, s1, rfl⟩ := emT_some e rx ry
        exact .inr ⟨a, b, xs, e1, e2, s1, q.here rp (.mkBl _)⟩
    · obtain ⟨a, b, xs, e1, e2, s1, rfl⟩ := emT_some e rx ry
      exact .inr ⟨a, b, xs, e1, e2, s1, q.here rp (.mkBl _)⟩
theorem vr_int {f : Int → Int → Bool} {g : List Nat → List Nat → Bool} : VR2 K mg (fun x y H Q => rI0 (fun i j => .bl (f i j)) x y H Q ∨ (∃ i j, x = .str i ∧ y = .str j ∧ Q (.bl (g i.cps.toList j.cps.toList)) H)) (opInt f g) := by
  intro E ρ S H x y vx vy Q rp rx ry q
  obtain ⟨d, e, q⟩ := q.ofH
  unfold opInt at e
  split at e
  · cases e; rw [rx.int, ry.int]; exact .inl ⟨_, _, rfl, rfl, q.here rp (.mkBl _)⟩
  · cases e; rw [rx.str, ry.str]; exact .inr ⟨_, _, rfl, rfl, q.here rp (.mkBl _)⟩
  · cases e
theorem flat_V {ρ : Fx} {H : Hp} {d : D} {v : V} (r : RV K ρ H d v) (h : flatD d = true) : flatV v = true := by
  cases d with
  | non => rw [r.non]; rfl
  | bl b => rw [r.bl]; rfl
  | int b => rw [r.int]; rfl
  | str b => rw [r.str]; rfl
  | _ => simp [flatD] at h
theorem flat_Vs {ρ : Fx} {H : Hp} : ∀ {ds : List D} {vs : List V}, RVs K ρ H ds vs → ds.all flatD = true → vs.all flatV = true
  | [], vs, r, _ => by simp only [RVs] at r; subst r; rfl
  | d :: ds, vs, r, h => by
    obtain ⟨v, vr, rfl, rv, rr⟩ := r.uncons
    simp only [List.all_cons, Bool.and_eq_true] at h ⊢
    exact ⟨flat_V rv h.1, flat_Vs rr h.2⟩
theorem eqF_V {ρ : Fx} {H : Hp} {a b : D} {v w : V} (r : RV K ρ H a v) (t : RV K ρ H b w) (ha : flatD a = true) (hb : flatD b = true) : eqV v w = eqFD a b := by
  cases a <;> cases b <;> simp [flatD] at ha hb <;>
    first
    | (rw [r.non, t.non]; rfl) | (rw [r.non, t.bl]; rfl) | (rw [r.non, t.int]; rfl) | (rw [r.non, t.str]; rfl)
    | (rw [r.bl, t.non]; rfl) | (rw [r.bl, t.bl]; rfl) | (rw [r.bl, t.int]; rfl) | (rw [r.bl, t.str]; rfl)
    | (rw [r.int, t.non]; rfl) | (rw [r.int, t.bl]; rfl) | (rw [r.int, t.int]; rfl) | (rw [r.int, t.str]; rfl)
    | (rw [r.str, t.non]; rfl) | (rw [r.str, t.bl]; rfl) | (rw [r.str, t.int]; rfl) | (rw [r.str, t.str]; rfl)
theorem inF_V {ρ : Fx} {H : Hp} {x : D} {vx : V} (r : RV K ρ H x vx) (hx : flatD x = true) : ∀ {ds : List D} {vs : List V}, RVs K ρ H ds vs → ds.all flatD = true → inV vx vs = ds.any fun z => eqFD z x
  | [], vs, rs, _ => by simp only [RVs] at rs; subst rs; rfl
  | d :: ds, vs, rs, h => by
    obtain ⟨v, vr, rfl, rv, rr⟩ := rs.uncons
    simp only [List.all_cons, Bool.and_eq_true] at h
    show (eqV v vx || inV vx vr) = _
    rw [List.any_cons, eqF_V rv r h.1 hx, inF_V r hx rr h.2]
/-- what a dict, tracked or written, holds at a key -/
def KGet (K : KW) (H : Hp) (a : Addr) (k : Key) (o : Option V) : Prop := (∃ kvs, Rd H a (.dK kvs) ∧ o = valV kvs k) ∨ ∃ kvs, WD K a kvs ∧ o = valV kvs k
def rInD (K : KW) (neg : Bool) : R2 := fun x y H Q => ∃ a k o, x = kV k ∧ y = .ref a ∧ KGet K H a k o ∧ Q (.bl (if neg then !o.isSome else o.isSome)) H
theorem op_inD {X : Cx} : OpR X (compareOp .In) (rInD (kw X) false) := by
  intro pins s σ H x y v u Q I rx ry h
  obtain ⟨a, k, o, rfl, rfl, g, q⟩ := h
  cases ry
  obtain ⟨vs, hd, rel, dd⟩ : ∃ vs, (a == sysModules) = false ∧ RelO o (valueAt vs k) ∧ s.heap.DictOf (mixKind X.prog X.w) a vs := by
    rcases g with ⟨kvs, e, rfl⟩ | ⟨kvs, ⟨ob, e1, e2, e3⟩, rfl⟩
    · obtain ⟨z, hd, vs, rel, dd⟩ := dk_rd I.hok e
      exact ⟨vs, hd, rel.val k, dd⟩
    · obtain ⟨vs, rel, dd⟩ := e3 X.prog s.heap (I.kIn _ _ e1)
      exact ⟨vs, e2, rel.val k, dd⟩
  refine wpAny_in_of (kV_is rx) hd dd.mapOf ?_
  rw [← rel.isSome_eq]
  exact ⟨.bl o.isSome, H, I.tok _, rfl, q⟩
theorem op_notInD {X : Cx} : OpR X (compareOp .NotIn) (rInD (kw X) true) := by
  intro pins s σ H x y v u Q I rx ry h
  obtain ⟨a, k, o, rfl, rfl, g, q⟩ := h
  cases ry
  obtain ⟨vs, hd, rel, dd⟩ : ∃ vs, (a == sysModules) = false ∧ RelO o (valueAt vs k) ∧ s.heap.DictOf (mixKind X.prog X.w) a vs := by
    rcases g with ⟨kvs, e, rfl⟩ | ⟨kvs, ⟨ob, e1, e2, e3⟩, rfl⟩
    · obtain ⟨z, hd, vs, rel, dd⟩ := dk_rd I.hok e
      exact ⟨vs, hd, rel.val k, dd⟩
    · obtain ⟨vs, rel, dd⟩ := e3 X.prog s.heap (I.kIn _ _ e1)
      exact ⟨vs, e2, rel.val k, dd⟩
  refine wpAny_notIn_of (kV_is rx) hd dd.mapOf ?_
  rw [← rel.isSome_eq]
  exact ⟨.bl (!o.isSome), H, I.tok _, rfl, q⟩
theorem RKV.getK {ρ : Fx} {H : Hp} {k : Key} : ∀ {ds : List (Key × D)} {vs : List (Key × V)}, RKV K ρ H ds vs → (GG.getK ds k = none ∧ valV vs k = none) ∨ ∃ d v, GG.getK ds k = some d ∧ valV vs k = some v ∧ RV K ρ H d v
  | [], _, h => by simp only [RKV] at h; subst h; exact .inl ⟨rfl, rfl⟩
  | (kk, d) :: ds, _, h => by
    simp only [RKV] at h
    obtain ⟨v, r, rfl, q, t⟩ := h
    by_cases e : kk = k
    · exact .inr ⟨d, v, by simp [GG.getK, e], by simp [valV, e], q⟩
    · rcases RKV.getK (k := k) t with ⟨h1, h2⟩ | ⟨d', v', h1, h2, h3⟩
      · exact .inl ⟨by simpa [GG.getK, e] using h1, by simpa [valV, e] using h2⟩
      · exact .inr ⟨d', v', by simpa [GG.getK, e] using h1, by simpa [valV, e] using h2, h3⟩
theorem hasK_get (kvs : List (Key × D)) (k : Key) : hasK kvs k = (getK kvs k).isSome := by
  unfold hasK getK
  rw [Option.isSome_map, Bool.eq_iff_iff, List.find?_isSome]
  simp [List.any_eq_true]
theorem keyOf_V {ρ : Fx} {H : Hp} {x : D} {vx : V} {k : Key} (r : RV K ρ H x vx) (e : keyOf x = some k) : vx = kV k := by
  cases x with
  | int i => cases e; rw [r.int]; rfl
  | str i => cases e; rw [r.str]; rfl
  | _ => simp [keyOf] at e
theorem keysOf_V {ρ : Fx} {H : Hp} {y : D} {vy : V} {kvs : List (Key × D)} (r : RV K ρ H y vy) (e : keysOf y = some kvs) (k : Key) : ∃ a ws, vy = .ref a ∧ RKV K ρ H kvs ws ∧ KGet K H a k (valV ws k) := by
  cases y with
  | dct i => cases e; obtain ⟨a, ws, rfl, h, _, _, t⟩ := r.dct; exact ⟨a, ws, rfl, t, .inl ⟨ws, h, rfl⟩⟩
  | wdt i => cases e; obtain ⟨a, ws, rfl, h, t⟩ := r.wdt; exact ⟨a, ws, rfl, t, .inr ⟨ws, h, rfl⟩⟩
  | _ => simp [keysOf] at e
def rInT (K : PySem.W.Frag) (neg : Bool) : R2 := fun x y H Q => ∃ p xs a zs, x = .ref a ∧ y = .ref p ∧ SqT K H a zs ∧ (SqL K H p xs ∨ SqT K H p xs) ∧ xs.all flatV = true ∧ Q (.bl neg) H
theorem tup_neAt {A : Around} {s : Shared} {a : Addr} {its : Array Value} (hl : s.heap.IsTuple a its) (hu : A.units < cLine) : ∀ {xs : List V} {us : List Value}, Vals xs us → xs.all flatV = true → ∀ u ∈ us, SeqAt.EqAt A s u (.ref a) false
  | _, _, .nil, _ => fun u hu => by cases hu
  | y :: xs, u :: us, .cons r t, f => fun u' hm => by
    rw [List.all_cons, Bool.and_eq_true] at f
    rcases List.mem_cons.mp hm with rfl | hm
    · cases y with
      | non => cases r; exact SeqAt.EqAt.none_tuple hl hu
      | bl b => cases r; exact SeqAt.EqAt.bool_tuple b hl hu
      | int b => obtain ⟨t, rfl⟩ := r; exact SeqAt.EqAt.int_tuple b t hl hu
      | str b => obtain ⟨t, rfl⟩ := r; exact SeqAt.EqAt.str_tuple b t hl hu
      | _ => exact absurd (show false = true from f.1) Bool.false_ne_true
    · exact tup_neAt hl hu t f.2 u' hm
theorem op_inT {X : Cx} (hu : X.A.units + 64 < cLine) : OpR X (compareOp .In) (rInT (kw X) false) := by
  intro pins s σ H x y v u Q I rx ry h
  obtain ⟨p, xs, a, zs, rfl, rfl, ha, hq, fs, q⟩ := h
  cases rx
  cases ry
  obtain ⟨itz, _, hl, _⟩ := I.tuple ha
  have hi : X.A.in1.units < cLine := by show X.A.units + 1 < cLine; omega
  rcases hq with hq | hq
  · obtain ⟨its, r, pl, hz⟩ := I.list hq
    refine SeqAt.in_listAt (fun _ => false) pl.isList (fun w hw => tup_neAt hl hi r fs w (by simpa using hw)) ⟨.bl _, H, I, ?_, q⟩
    rw [Array.any_eq_false.mpr (fun _ _ => by simp)]
    rfl
  · obtain ⟨its, r, pl, hz⟩ := I.tuple hq
    refine SeqAt.in_tupleAt (fun _ => false) pl (fun w hw => tup_neAt hl hi r fs w (by simpa using hw)) ⟨.bl _, H, I, ?_, q⟩
    rw [Array.any_eq_false.mpr (fun _ _ => by simp)]
    rfl
theorem op_notInT {X : Cx} (hu : X.A.units + 64 < cLine) : OpR X (compareOp .NotIn) (rInT (kw X) true) := by
  intro pins s σ H x y v u Q I rx ry h
  obtain ⟨p, xs, a, zs, rfl, rfl, ha, hq, fs, q⟩ := h
  cases rx
  cases ry
  obtain ⟨itz, _, hl, _⟩ := I.tuple ha
  have hi : X.A.in1.units < cLine := by show X.A.units + 1 < cLine; omega
  rcases hq with hq | hq
  · obtain ⟨its, r, pl, hz⟩ := I.list hq
    refine SeqAt.notIn_listAt (fun _ => false) pl.isList (fun w hw => tup_neAt hl hi r fs w (by simpa using hw)) ⟨.bl _, H, I, ?_, q⟩
    rw [Array.any_eq_false.mpr (fun _ _ => by simp)]
    rfl
  · obtain ⟨its, r, pl, hz⟩ := I.tuple hq
    refine SeqAt.notIn_tupleAt (fun _ => false) pl (fun w hw => tup_neAt hl hi r fs w (by simpa using hw)) ⟨.bl _, H, I, ?_, q⟩
    rw [Array.any_eq_false.mpr (fun _ _ => by simp)]
    rfl
abbrev rInA (K : KW) (neg : Bool) : R2 := fun x y H Q =>
  ((∃ (c : Nat) (z : Str), x = .str ⟨#[c]⟩ ∧ y = .str z ∧ Q (.bl (if neg then !decide (c ∈ z.cps.toList) else decide (c ∈ z.cps.toList))) H) ∨
    (∃ i j, x = .str i ∧ y = .str j ∧ Q (.bl (if neg then !(!(Builtin.Str.occurrences j i 0 j.length 1).isEmpty) else !(Builtin.Str.occurrences j i 0 j.length 1).isEmpty)) H)) ∨ ((rIn K neg x y H Q ∨ rInD K neg x y H Q) ∨ rInT K neg x y H Q)
theorem op_inA {X : Cx} (hu : X.A.units + 64 < cLine) : OpR X (compareOp .In) (rInA (kw X) false) := (op_in_sign.or op_in_str).or ((op_in_seq.or op_inD).or (op_inT hu))
theorem op_notInA {X : Cx} (hu : X.A.units + 64 < cLine) : OpR X (compareOp .NotIn) (rInA (kw X) true) := (op_notIn_sign.or op_notin_str).or ((op_notIn_seq.or op_notInD).or (op_notInT hu))
theorem vr_in (neg : Bool) : VR2 K mg (rInA K neg) (opIn neg) := by
  intro E ρ S H x y vx vy Q rp rx ry q
  obtain ⟨d, e, q⟩ := q.ofH
  have seq : ∀ {x y : D}, RV K ρ H x vx → RV K ρ H y vy → (match seqOf y with
    | some ds => if flatD x = true ∧ ds.all flatD = true then some (D.bl (if neg then !(ds.any fun z => eqFD z x) else ds.any fun z => eqFD z x)) else inT neg x ds
    | none => match keysOf y, keyOf x with
      | some kvs, some k => some (.bl (if neg then !hasK kvs k else hasK kvs k))
      | _, _ => none) = some d → rInA K neg vx vy H Q := fun {x y} rx ry e => by
    split at e
    · rename_i ds e1
      split at e
      · rename_i z
        cases e
        obtain ⟨a, vs, rfl, _, sq, t⟩ := seqOf_ok ry e1
        refine .inr (.inl (.inl ⟨a, vs, rfl, sq, flat_V rx z.1, flat_Vs t z.2, ?_⟩))
        rw [inF_V rx z.1 t z.2]
        exact q.here rp (.mkBl _)
      · unfold inT at e
        split at e
        · split at e
          · rename_i z
            cases e
            obtain ⟨b, zs, rfl, _, q2, _⟩ := rx.tup
            obtain ⟨a, vs, rfl, _, sq, t⟩ := seqOf_ok ry e1
            exact .inr (.inr ⟨a, vs, b, zs, rfl, rfl, q2, sq, flat_Vs t z, q.here rp (.mkBl _)⟩)
          · cases e
        · cases e
    · split at e
      · rename_i kvs k e1 e2
        cases e
        obtain ⟨a, ws, rfl, t, g⟩ := keysOf_V ry e1 k
        refine .inr (.inl (.inr ⟨a, k, _, keyOf_V rx e2, rfl, g, ?_⟩))
        have hk : hasK kvs k = (valV ws k).isSome := by
          rw [hasK_get]
          rcases t.getK (k := k) with ⟨h1, h2⟩ | ⟨d', v', h1, h2, _⟩
          · rw [h1, h2]; rfl
          · rw [h1, h2]; rfl
        rw [← hk]
        exact q.here rp (.mkBl _)
      · cases e
  unfold opIn at e
  split at e
  · split at e
    · rename_i i j _ c e1
      cases e
      rw [rx.str, ry.str]
      refine .inl (.inl ⟨c, j, ?_, rfl, q.here rp (.mkBl _)⟩)
      obtain ⟨cps⟩ := i
      have : cps = #[c] := by
        apply Array.ext'
        simpa using e1
      rw [this]
    · cases e
      rw [rx.str, ry.str]
      exact .inl (.inr ⟨_, _, rfl, rfl, q.here rp (.mkBl _)⟩)
  · exact seq rx ry e
theorem vr_is (neg : Bool) : VR2 K mg (fun x y H Q => (y = .non ∧ Q (.bl (if neg then !decide (x = .non) else decide (x = .non))) H) ∨ (∃ a b : Bool, x = .bl a ∧ y = .bl b ∧ Q (.bl (if neg then !decide (a = b) else decide (a = b))) H)) (opIs neg) := by
  intro E ρ S H x y vx vy Q rp rx ry q
  obtain ⟨d, e, q⟩ := q.ofH
  unfold opIs at e
  split at e
  · cases e
    refine .inl ⟨ry.non, ?_⟩
    have e : decide (vx = V.non) = decide (x = .non) := by
      cases x with
      | non => rw [rx.non]; rfl
      | bl b => rw [rx.bl]; rfl
      | int b => rw [rx.int]; rfl
      | str b => rw [rx.str]; rfl
      | tup ds => obtain ⟨a, vs, rfl, _⟩ := rx.tup; rfl
      | rol ds => obtain ⟨a, vs, rfl, _⟩ := rx.rol; rfl
      | lst ds => obtain ⟨a, vs, rfl, _⟩ := rx.lst; rfl
      | dct ds => obtain ⟨a, vs, rfl, _⟩ := rx.dct; rfl
      | stm ds => obtain ⟨a, vs, rfl⟩ := rx.stm; rfl
      | wdt ds => obtain ⟨a, vs, rfl, _⟩ := rx.wdt; rfl
    rw [e]
    exact q.here rp (.mkBl _)
  · split at e
    · cases e; rw [rx.bl, ry.bl]; exact .inr ⟨_, _, rfl, rfl, q.here rp (.mkBl _)⟩
    · cases e
  · cases e
theorem opr_no {X : Cx} {f : Value → Value → Sem Value} : OpR X f (fun _ _ _ _ => False) := fun _ _ _ _ _ _ _ _ _ _ _ _ h => h.elim
def cmpF : CmpOp → D → D → Option D
  | .Eq => opEq false
  | .NotEq => opEq true
  | .Lt => opInt (fun i j => decide (i < j)) (fun i j => decide (i < j))
  | .LtE => opInt (fun i j => decide (i ≤ j)) (fun i j => !decide (j < i))
  | .Gt => opInt (fun i j => decide (j < i)) (fun i j => decide (j < i))
  | .GtE => opInt (fun i j => decide (j ≤ i)) (fun i j => !decide (i < j))
  | .In => opIn false
  | .NotIn => opIn true
  | .Is => opIs false
  | .IsNot => opIs true
theorem op_cmp {X : Cx} (hu : X.A.units + 64 < cLine) (o : CmpOp) : ∃ r, OpR X (compareOp o) r ∧ VR2 (kw X) mg r (cmpF o) := by
  cases o with
  | Eq => exact ⟨_, (op_eq.or (op_eqD hu)).or (op_eqE hu), vr_eq⟩
  | NotEq => exact ⟨_, (op_ne.or (op_neD hu)).or (op_neE hu), vr_ne⟩
  | Lt => exact ⟨_, op_lt.or op_lt_str, vr_int (f := fun i j => decide (i < j)) (g := fun i j => decide (i < j))⟩
  | LtE => exact ⟨_, op_le.or op_le_str, vr_int (f := fun i j => decide (i ≤ j)) (g := fun i j => !decide (j < i))⟩
  | Gt => exact ⟨_, op_gt.or op_gt_str, vr_int (f := fun i j => decide (j < i)) (g := fun i j => decide (j < i))⟩
  | GtE => exact ⟨_, op_ge.or op_ge_str, vr_int (f := fun i j => decide (j ≤ i)) (g := fun i j => !decide (i < j))⟩
  | In => exact ⟨_, op_inA hu, vr_in false⟩
  | NotIn => exact ⟨_, op_notInA hu, vr_in true⟩
  | Is => exact ⟨_, op_isN.or op_isBl, vr_is false⟩
  | IsNot => exact ⟨_, op_notN.or op_notBl, vr_is true⟩
def opPow (x y : D) : Option D :=
  match x, y with
  | .int i, .int j => if 0 ≤ j ∧ (Builtin.Int.intBits i : Int) * j ≤ 2 ^ 27 then some (.int (i ^ j.toNat)) else none
  | _, _ => none
theorem op_powA {X : Cx} : OpR X (binaryOp .Pow) (rI (fun i j => 0 ≤ j ∧ (Builtin.Int.intBits i : Int) * j ≤ 2 ^ 27) fun i j => .int (i ^ j.toNat)) := opI fun _ _ _ _ _ _ _ hc q => pow_int hc.1 hc.2 q
theorem vr_pow : VR2 K mg (rI (fun i j => 0 ≤ j ∧ (Builtin.Int.intBits i : Int) * j ≤ 2 ^ 27) fun i j => .int (i ^ j.toNat)) opPow := by
  intro E ρ S H x y vx vy Q rp rx ry q
  obtain ⟨d, e, q⟩ := q.ofH
  unfold opPow at e
  split at e
  · split at e
    · rename_i z; cases e; rw [rx.int, ry.int]; exact ⟨_, _, rfl, rfl, z, q.here rp (.mkInt _)⟩
    · cases e
  · cases e
def opSh (f : Int → Int → Int) (x y : D) : Option D :=
  match x, y with
  | .int i, .int j => if 0 ≤ j ∧ j ≤ 1000000 ∧ i.natAbs < 2 ^ 64 then some (.int (f i j)) else none
  | _, _ => none
def opBit (f : Int → Int → Int) (x y : D) : Option D :=
  match x, y with
  | .int i, .int j => some (.int (f i j))
  | _, _ => none
theorem vr_bit {f : Int → Int → Int} : VR2 K mg (rI0 fun i j => .int (f i j)) (opBit f) := by
  intro E ρ S H x y vx vy Q rp rx ry q
  obtain ⟨d, e, q⟩ := q.ofH
  unfold opBit at e
  split at e
  · cases e; rw [rx.int, ry.int]; exact ⟨_, _, rfl, rfl, q.here rp (.mkInt _)⟩
  · cases e
theorem vr_shl : VR2 K mg (rI CPow fun i j => .int (i * 2 ^ j.toNat)) (opSh fun i j => i * 2 ^ j.toNat) := by
  intro E ρ S H x y vx vy Q rp rx ry q
  obtain ⟨d, e, q⟩ := q.ofH
  unfold opSh at e
  split at e
  · split at e
    · rename_i z; cases e; rw [rx.int, ry.int]; exact ⟨_, _, rfl, rfl, z, q.here rp (.mkInt _)⟩
    · cases e
  · cases e
theorem vr_shr : VR2 K mg (rI (fun _ j => 0 ≤ j) fun i j => .int (i / 2 ^ j.toNat)) (opSh fun i j => i / 2 ^ j.toNat) := by
  intro E ρ S H x y vx vy Q rp rx ry q
  obtain ⟨d, e, q⟩ := q.ofH
  unfold opSh at e
  split at e
  · split at e
    · rename_i z; cases e; rw [rx.int, ry.int]; exact ⟨_, _, rfl, rfl, z.1, q.here rp (.mkInt _)⟩
    · cases e
  · cases e
def binF : Operator → D → D → Option D
  | .Add => opAdd
  | .Sub => opSub
  | .Mult => opMul
  | .FloorDiv => opDiv
  | .Mod => opMod
  | .Pow => opPow
  | .LShift => opSh fun i j => i * 2 ^ j.toNat
  | .RShift => opSh fun i j => i / 2 ^ j.toNat
  | .BitAnd => opBit Builtin.bitAnd
  | .BitOr => opBit Builtin.bitOr
  | .BitXor => opBit Builtin.bitXor
  | _ => fun _ _ => none
theorem op_bin {X : Cx} (o : Operator) : ∃ r, OpR X (binaryOp o) r ∧ VR2 (kw X) mg r (binF o) := by
  cases o with
  | Add => exact ⟨_, op_addA, vr_add⟩
  | Sub => exact ⟨_, op_sub, vr_sub⟩
  | Mult => exact ⟨_, op_mulA, vr_mul⟩
  | FloorDiv => exact ⟨_, op_fdiv, vr_div⟩
  | Mod => exact ⟨_, op_mod, vr_mod⟩
  | Pow => exact ⟨_, op_powA, vr_pow⟩
  | LShift => exact ⟨_, op_shl, vr_shl⟩
  | RShift => exact ⟨_, op_shr, vr_shr⟩
  | BitAnd => exact ⟨_, op_and, vr_bit⟩
  | BitOr => exact ⟨_, op_or, vr_bit⟩
  | BitXor => exact ⟨_, op_xor, vr_bit⟩
  | _ => exact ⟨_, opr_no, fun _ _ _ _ _ _ _ _ _ _ _ _ q => q⟩
end
end GG
namespace GG
open PySem PySem.Spec PyProof.Rows L2
/-! ## repr -/
/-- the dict of the modules stands where it stands -/
def SmOk (base : Heap) : Prop := ∃ o es ep, base.get? sysModules = some o ∧ o.data = .dict es ep
section
variable {X : Cx} {pins : List (Addr × Obj)} {σ : L2.St} {H : Hp} {s : Shared} {ρ : Fx} {S : Sto}
theorem sm_ne (I : Inv X pins σ H s) (sm : SmOk X.base) {a : Addr} {u : HO} (h : H a = some u) : a ≠ sysModules := by
  intro e
  subst e
  obtain ⟨o, es, ep, q, _⟩ := sm
  rw [(I.bs _ _ q).2] at h
  cases h
mutual
theorem py_reads (I : Inv X pins σ H s) (sm : SmOk X.base) : ∀ (d : D) (v : V) (p : PyData) (u : Value), py d = some p → RV (kw X) ρ H d v → RelV v u → ∃ as, Reads s.heap u p as ∧ sysModules ∉ as
  | .non, v, p, u, e, r, t => by simp only [py] at e; cases e; rw [r.non] at t; cases t; exact ⟨_, .none, by simp⟩
  | .bl b, v, p, u, e, r, t => by simp only [py] at e; cases e; rw [r.bl] at t; cases t; exact ⟨_, .bool b, by simp⟩
  | .int b, v, p, u, e, r, t => by simp only [py] at e; cases e; rw [r.int] at t; obtain ⟨tt, rfl⟩ := t; exact ⟨_, .int b tt, by simp⟩
  | .str b, v, p, u, e, r, t => by simp only [py] at e; cases e; rw [r.str] at t; obtain ⟨tt, rfl⟩ := t; exact ⟨_, .str b tt, by simp⟩
  | .tup ds, v, p, u, e, r, t => by
    simp only [py, Option.map_eq_some_iff] at e
    obtain ⟨ps, e, rfl⟩ := e
    obtain ⟨a, vs, rfl, _, q, tt⟩ := r.tup
    cases t
    obtain ⟨its, rv, ⟨o, ho, hc, n, hd⟩, _⟩ := I.tuple q
    obtain ⟨as, hr, hn⟩ := pys_reads I sm ds vs ps its e tt rv
    exact ⟨_, .tuple ho hc hd hr, hn⟩
  | .rol ds, v, p, u, e, r, t => by
    simp only [py, Option.map_eq_some_iff] at e
    obtain ⟨ps, e, rfl⟩ := e
    obtain ⟨a, vs, rfl, _, q, tt⟩ := r.rol
    cases t
    obtain ⟨its, rv, ⟨o, n, ho, hc, _, hd⟩, _⟩ := I.list q.sq
    obtain ⟨as, hr, hn⟩ := pys_reads I sm ds vs ps its e tt rv
    refine ⟨_, .list ho hc hd hr, ?_⟩
    rcases q with ⟨o', q⟩ | ⟨o', its', n', q, qc, _, qd, _⟩
    · have := sm_ne I sm q
      simp only [List.mem_cons, not_or]
      exact ⟨fun z => this z.symm, hn⟩
    · simp only [List.mem_cons, not_or]
      refine ⟨fun z => ?_, hn⟩
      subst z
      obtain ⟨o2, es, ep, hb, hc2⟩ := sm
      have z := I.ok.mod.kin _ _ q
      rw [hb] at z
      cases z
      rw [hc2] at qd
      cases qd
  | .lst ds, v, p, u, e, r, t => by
    simp only [py, Option.map_eq_some_iff] at e
    obtain ⟨ps, e, rfl⟩ := e
    obtain ⟨a, vs, rfl, _, q, _, _, tt⟩ := r.lst
    cases t
    obtain ⟨its, rv, ⟨o, n, ho, hc, _, hd⟩, _⟩ := I.list (SqL.of q)
    obtain ⟨as, hr, hn⟩ := pys_reads I sm ds vs ps its e tt rv
    refine ⟨_, .list ho hc hd hr, ?_⟩
    have := sm_ne I sm q
    simp only [List.mem_cons, not_or]
    exact ⟨fun z => this z.symm, hn⟩
  | .dct ds, v, p, u, e, r, t => by
    simp only [py, Option.map_eq_some_iff] at e
    obtain ⟨ps, e, rfl⟩ := e
    obtain ⟨a, vs, rfl, q, _, _, tt⟩ := r.dct
    cases t
    obtain ⟨_, hne, ws, kv, o, es, ep, ho, hx, hd, _, hp, _⟩ := dk_rd I.hok q
    obtain ⟨as, bs, q1, q2, n1, n2⟩ := pyk_reads I sm ds vs ps ws es.toList e tt kv hp
    refine ⟨_, .dict ho hx.1 hd q1 q2, ?_⟩
    have : a ≠ sysModules := by rcases q with q | ⟨o, q⟩ <;> exact sm_ne I sm q
    simp only [List.cons_append, List.mem_cons, List.mem_append, not_or]
    exact ⟨fun z => this z.symm, n1, n2⟩
  | .stm k, v, p, u, e, r, t => by simp [py] at e
  | .wdt k, v, p, u, e, r, t => by simp [py] at e
theorem pys_reads (I : Inv X pins σ H s) (sm : SmOk X.base) :
    ∀ (ds : List D) (vs : List V) (ps : List PyData) (us : List Value), pys ds = some ps → RVs (kw X) ρ H ds vs → Vals vs us → ∃ as, ReadsAll s.heap us ps as ∧ sysModules ∉ as
  | [], vs, ps, us, e, r, t => by
    simp only [RVs] at r; subst r
    cases t
    simp only [pys] at e; cases e
    exact ⟨_, .nil, by simp⟩
  | d :: ds, vs, ps, us, e, r, t => by
    obtain ⟨v, vr, rfl, rv, rr⟩ := r.uncons
    cases t with
    | cons t1 t2 =>
      simp only [pys] at e
      split at e
      · rename_i p pr e1 e2
        cases e
        obtain ⟨as, q1, n1⟩ := py_reads I sm d v p _ e1 rv t1
        obtain ⟨bs, q2, n2⟩ := pys_reads I sm ds vr pr _ e2 rr t2
        exact ⟨_, .cons q1 q2, by simp [n1, n2]⟩
      · cases e
theorem pyk_reads (I : Inv X pins σ H s) (sm : SmOk X.base) :
    ∀ (ds : List (Key × D)) (vs : List (Key × V)) (ps : List (PyData × PyData)) (ws : List (Key × Value)) (es : List DictEntry), pyk ds = some ps → RKV (kw X) ρ H ds vs → KV vs ws → Pairs (mixKind X.prog X.w) es ws →
      ∃ as bs, ReadsAll s.heap (es.map (·.key)) (ps.map (·.1)) as ∧ ReadsAll s.heap (es.map (·.val)) (ps.map (·.2)) bs ∧ sysModules ∉ as ∧ sysModules ∉ bs
  | [], vs, ps, ws, es, e, r, t, g => by
    simp only [RKV] at r; subst r
    cases t
    cases g
    simp only [pyk] at e; cases e
    exact ⟨_, _, .nil, .nil, by simp, by simp⟩
  | (dk, d) :: ds, vs, ps, ws, es, e, r, t, g => by
    simp only [RKV] at r
    obtain ⟨v, vr, rfl, rv, rr⟩ := r
    cases t with
    | cons t1 t2 =>
      cases g with
      | @cons e0 kv0 es0 kvs0 g1 g2 g3 =>
        simp only [pyk] at e
        split at e
        · rename_i p pr e1 e2
          cases e
          obtain ⟨h1, h2⟩ := t1
          obtain ⟨bs, q1, n1⟩ := py_reads I sm d v p _ e1 rv h2
          obtain ⟨cs, ds', q2, q3, n2, n3⟩ := pyk_reads I sm ds vr pr _ _ e2 rr t2 g3
          have hk : Reads s.heap e0.key (kPy dk) [] := by
            have h1' := h1
            dsimp only at h1'
            rw [h1']
            rcases keyIs_shape (show keyIs _ _ = true from g1) with ⟨i, tt, ei, ev⟩ | ⟨x, tt, ei, ev⟩
            · rw [ei, ev]; exact .int i tt
            · rw [ei, ev]; exact .str x tt
          refine ⟨_, _, .cons hk q2, .cons (g2 ▸ q1) q3, by simpa using n2, by simp [n1, n3]⟩
        · cases e
end
/-- repr of data -/
def rRepr (K : KW) : List V → Hp → VK → Prop := fun xs H Q => ∃ ρ d p x, xs = [x] ∧ RV K ρ H d x ∧ py d = some p ∧ p.showable = true ∧ p.depth ≤ 60 ∧ p.shown.length ≤ sizeLine ∧ Q (.str p.shown) H
theorem call_reprA (sm : SmOk X.base) (hg : X.A.guards = some []) (hu : X.A.units + 64 < cLine) : CallR X (.builtin "repr") (rRepr (kw X)) := by
  intro pins s σ H xs us Q I r h
  obtain ⟨ρ, d, p, x, rfl, rv, e, hs, hd, hz, q⟩ := h
  obtain ⟨u, rfl, ru⟩ := vals1 r
  obtain ⟨as, rd, na⟩ := py_reads I sm d x p u e rv ru
  have fin : ∀ (h' : Heap) (t : Tok) (tk : Nat), (∀ b o, s.heap.get? b = some o → h'.get? b = some o) → EP X pins σ Q (.str p.shown t) { s with heap := h', toks := tk } :=
    fun h' t tk k => ⟨.str p.shown, H, I.kept (t' := tk) k, ⟨t, rfl⟩, q⟩
  cases u with
  | ref a => exact repr_of_reads' rd hs (fun _ => na) hg (by omega) (fun _ _ z => z) (fun h' u tk k => fin h' u tk k) hz
  | none => cases rd; exact PySem.P.repr_of_none (fin _ _ _ fun _ _ z => z)
  | bool b => cases rd; exact PySem.P.repr_of_bool (fin _ _ _ fun _ _ z => z)
  | int i t => cases rd; exact PySem.P.repr_of_int (by simpa [PyData.showable] using hs) (fin _ _ _ fun _ _ z => z)
  | str z t => cases rd; exact PySem.P.repr_of_str (fin _ _ _ fun _ _ z => z) hz
  | _ => cases rd
/-! ## subscripts, slices -/
def opIx (x y : D) : Option D :=
  match keysOf x with
  | some kvs => (keyOf y).bind (getK kvs)
  | none => match y with
    | .int i => match x with
      | .str z => if z.length ≤ sizeLine then (match atI z.cps.toList i with | some c => some (.str ⟨#[c]⟩) | none => none) else none
      | x => (seqOf x).bind fun ds => atI ds i
    | _ => none
def cutD (xs : List D) (lo hi : Option Int) : List D := (xs.drop (HT.sIx xs.length 0 lo)).take (HT.sIx xs.length xs.length hi - HT.sIx xs.length 0 lo)
def opSl (x : D) (lo hi : Option Int) : Option D :=
  match x with
  | .str z => if z.length ≤ sizeLine then some (.str (cutS z lo hi)) else none
  | .tup ds => some (.tup (cutD ds lo hi))
  | .lst ds => some (.lst (cutD ds lo hi))
  | .rol ds => some (.lst (cutD ds lo hi))
  | _ => none
def opRev (x : D) : Option D :=
  match x with
  | .tup ds => some (.tup ds.reverse)
  | .lst ds => some (.lst ds.reverse)
  | .rol ds => some (.lst ds.reverse)
  | _ => none
def rIxK (K : KW) : R2 := fun x y H Q => ∃ a k v, x = .ref a ∧ y = kV k ∧ KGet K H a k (some v) ∧ Q v H
theorem ix_dict : IxR X (rIxK (kw X)) := by
  intro value slice pins s σ H x y v u Q I rx ry h hs
  obtain ⟨a, k, r, rfl, rfl, g, q⟩ := h
  obtain rfl : v = Value.ref a := rx
  obtain ⟨vs, rel, dd⟩ : ∃ vs, RelO (some r) (valueAt vs k) ∧ s.heap.DictOf (mixKind X.prog X.w) a vs := by
    rcases g with ⟨kvs, e, e4⟩ | ⟨kvs, ⟨ob, e1, e2, e3⟩, e4⟩
    · obtain ⟨z, hd, vs, rel, dd⟩ := dk_rd I.hok e
      exact ⟨vs, by rw [e4]; exact rel.val k, dd⟩
    · obtain ⟨vs, rel, dd⟩ := e3 X.prog s.heap (I.kIn _ _ e1)
      exact ⟨vs, by rw [e4]; exact rel.val k, dd⟩
  obtain ⟨w', hw, rw'⟩ := RelO.some_of (v := r) rel
  exact tail_any dd.typeIs slot_dict_getitem.lookup (wpAny_getItem_of (kV_is ry) dd.mapOf hw ⟨r, H, I.tok _, rw', q⟩) hs
theorem IxR.or' {r1 r2 : R2} (h1 : IxR X r1) (h2 : IxR X r2) : IxR X (fun x y H Q => r1 x y H Q ∨ r2 x y H Q) := fun value slice pins s σ H x y v u Q I rx ry h hs =>
  h.elim (fun h => h1 value slice pins s σ H x y v u Q I rx ry h hs) fun h => h2 value slice pins s σ H x y v u Q I rx ry h hs
abbrev rIxA (K : KW) : R2 := fun x y H Q => rIx K x y H Q ∨ rIxK K x y H Q
theorem ix_all : IxR X (rIxA (kw X)) := IxR.or' ix_seq ix_dict
end
section
variable {K : KW} {mg : Str → Option Value} {ρ : Fx} {H : Hp} {S : Sto}
theorem RVs.atI {ds : List D} {vs : List V} {i : Int} {d : D} (r : RVs K ρ H ds vs) (h : L2.atI ds i = some d) : ∃ v, L2.atI vs i = some v ∧ RV K ρ H d v := by
  unfold L2.atI at h ⊢
  rw [← r.len]
  cases e : ixN ds.length i with
  | none => rw [e] at h; cases h
  | some j =>
    rw [e] at h
    exact r.get (i := j) h
theorem RVs.drop : ∀ (n : Nat) {ds : List D} {vs : List V}, RVs K ρ H ds vs → RVs K ρ H (ds.drop n) (vs.drop n)
  | 0, _, _, r => r
  | n + 1, [], vs, r => by simp only [RVs] at r; subst r; exact RVs.nil
  | n + 1, d :: ds, vs, r => by
    obtain ⟨v, vr, rfl, _, rr⟩ := r.uncons
    exact RVs.drop n rr
theorem RVs.take : ∀ (n : Nat) {ds : List D} {vs : List V}, RVs K ρ H ds vs → RVs K ρ H (ds.take n) (vs.take n)
  | 0, _, _, _ => RVs.nil
  | n + 1, [], vs, r => by simp only [RVs] at r; subst r; exact RVs.nil
  | n + 1, d :: ds, vs, r => by
    obtain ⟨v, vr, rfl, rv, rr⟩ := r.uncons
    exact .cons rv (RVs.take n rr)
theorem RVs.cutV {ds : List D} {vs : List V} (r : RVs K ρ H ds vs) (lo hi : Option Int) : RVs K ρ H (cutD ds lo hi) (L2.cutV vs lo hi) := by
  unfold cutD L2.cutV
  rw [← r.len]
  exact (r.drop _).take _
theorem RVs.rev : ∀ {ds : List D} {vs : List V}, RVs K ρ H ds vs → RVs K ρ H ds.reverse vs.reverse
  | [], vs, r => by simp only [RVs] at r; subst r; exact RVs.nil
  | d :: ds, vs, r => by
    obtain ⟨v, vr, rfl, rv, rr⟩ := r.uncons
    rw [List.reverse_cons, List.reverse_cons]
    exact rr.rev.append (.one rv)
theorem cut_len (ds : List D) (lo hi : Option Int) : (cutD ds lo hi).length ≤ ds.length := by
  unfold cutD
  rw [List.length_take, List.length_drop]; omega
theorem vr_ix : VR2 K mg (rIxA K) opIx := by
  intro E ρ S H x y vx vy Q rp rx ry q
  obtain ⟨d, e, q0⟩ := q.ofH; clear q; rename Post K mg (RV K) E ρ H (.ok d S) Q => q
  unfold opIx at e
  split at e
  · rename_i kvs e1
    obtain ⟨k, e2, e3⟩ := Option.bind_eq_some_iff.mp e
    obtain ⟨a, ws, rfl, t, g⟩ := keysOf_V rx e1 k
    rcases t.getK (k := k) with ⟨h1, h2⟩ | ⟨d', v', h1, h2, h3⟩
    · rw [h1] at e3; cases e3
    · rw [h1] at e3; cases e3
      rw [h2] at g
      exact .inr ⟨a, k, v', rfl, keyOf_V ry e2, g, q.here rp h3⟩
  · split at e
    · rename_i i
      have seq : ∀ {x : D}, RV K ρ H x vx → ((seqOf x).bind fun ds => L2.atI ds i) = some d → rIxA K vx vy H Q := fun {x} rx e => by
        obtain ⟨ds, e1, e2⟩ := Option.bind_eq_some_iff.mp e
        obtain ⟨a, vs, rfl, _, sq, t⟩ := seqOf_ok rx e1
        obtain ⟨v, e3, rv⟩ := t.atI e2
        rcases sq with sq | sq
        · exact .inl (.inl ⟨a, vs, i, v, rfl, ry.int, sq, e3, q.here rp rv⟩)
        · exact .inl (.inr (.inl ⟨a, vs, i, v, rfl, ry.int, sq, e3, q.here rp rv⟩))
      split at e
      · split at e
        · rename_i z
          split at e
          · rename_i c e1
            cases e
            rw [rx.str]
            exact .inl (.inr (.inr ⟨_, i, c, rfl, ry.int, z, e1, q.here rp (.mkStr _)⟩))
          · cases e
        · cases e
      · exact seq rx e
    · cases e
def VRsl (K : KW) (mg : Str → Option Value) (r : V → Option Int → Option Int → Hp → VK → Prop) (h : D → Option Int → Option Int → Option D) : Prop :=
  ∀ (E : XK) (ρ : Fx) (S : Sto) (H : Hp) (x : D) (vx : V) (lo hi : Option Int) (Q : VK), Rp ρ S H → RV K ρ H x vx → Post K mg (RV K) E ρ H (.of S (h x lo hi)) Q → r vx lo hi H Q
abbrev rSlX (K : KW) : V → Option Int → Option Int → Hp → VK → Prop := fun x lo hi H Q => rSlA K x lo hi H Q ∨ (rSlL K x lo hi H Q ∨ rSlS x lo hi H Q)
theorem sl_all {X : Cx} : SlR X (rSlX (kw X)) := sl_tupA.or (sl_list.or sl_str)
theorem vr_sl : VRsl K mg (rSlX K) opSl := by
  intro E ρ S H x vx lo hi Q rp rx q
  obtain ⟨d, e, q0⟩ := q.ofH; clear q; rename Post K mg (RV K) E ρ H (.ok d S) Q => q
  unfold opSl at e
  split at e
  · split at e
    · rename_i z; cases e; rw [rx.str]; exact .inr (.inr ⟨_, rfl, z, q.here rp (.mkStr _)⟩)
    · cases e
  · rename_i ds
    cases e
    obtain ⟨a, vs, rfl, z, sq, t⟩ := rx.tup
    refine .inl ⟨a, vs, rfl, sq, fun w => ?_, fun _ p hp => post_tup rp (Nat.le_trans (cut_len _ _ _) z) (t.cutV lo hi) q p hp⟩
    have e : cutD ds lo hi = ds := by
      unfold cutD
      rw [t.len, w.1, w.2, ← t.len]
      simp
    rw [e] at q
    exact q.here rp (.mkTup z sq t)
  · cases e
    obtain ⟨a, vs, rfl, z, sq, _, _, t⟩ := rx.lst
    exact .inr (.inl ⟨a, vs, rfl, SqL.of sq, fun p hp => post_lst rp (Nat.le_trans (cut_len _ _ _) z) (t.cutV lo hi) q p hp⟩)
  · cases e
    obtain ⟨a, vs, rfl, z, sq, t⟩ := rx.rol
    exact .inr (.inl ⟨a, vs, rfl, sq.sq, fun p hp => post_lst rp (Nat.le_trans (cut_len _ _ _) z) (t.cutV lo hi) q p hp⟩)
  · cases e
end
end GG
namespace GG
open PySem PySem.Spec PyProof.Rows L2
/-! ### built-in functions -/
inductive Bi where
  | len | abs | int | max | min | repr | str | list | tuple | all | any | sum | bool
  deriving DecidableEq
def Bi.name : Bi → Str
  | .len => "len" | .abs => "abs" | .int => "int" | .max => "max" | .min => "min" | .repr => "repr" | .str => "str" | .list => "list" | .tuple => "tuple" | .all => "all" | .any => "any" | .sum => "sum" | .bool => "bool"
def Bi.val : Bi → Value
  | .len => .builtin "len" | .abs => .builtin "abs" | .int => .type "int" | .max => .builtin "max" | .min => .builtin "min" | .repr => .builtin "repr" | .str => .type "str" | .list => .type "list" | .tuple => .type "tuple" | .all => .builtin "all" | .any => .builtin "any" | .sum => .builtin "sum" | .bool => .type "bool"
def boolsOf : List D → Option (List Bool)
  | [] => some []
  | .bl b :: r => (boolsOf r).map (b :: ·)
  | _ :: _ => none
def intsOf : List D → Option (List Int)
  | [] => some []
  | .int b :: r => (intsOf r).map (b :: ·)
  | _ :: _ => none
def strsOf : List D → Option (List Str)
  | [] => some []
  | .str b :: r => (strsOf r).map (b :: ·)
  | _ :: _ => none
/-- the items of a list, not of a tuple -/
def lstOf : D → Option (List D)
  | .rol ds => some ds
  | .lst ds => some ds
  | _ => none
def lenOf : D → Option Int
  | .str z => if z.length ≤ sizeLine then some z.length else none
  | .tup ds => some ds.length
  | .lst ds => some ds.length
  | .rol ds => some ds.length
  | .dct kvs => some kvs.length
  | _ => none
def biF : Bi → List D → Option D
  | .len, [d] => (lenOf d).map .int
  | .abs, [.int i] => some (.int (if i < 0 then -i else i))
  | .int, [.int i] => some (.int i)
  | .int, [.bl b] => some (.int (if b then 1 else 0))
  | .bool, [.int i] => some (.bl (i != 0))
  | .bool, [.bl b] => some (.bl b)
  | .max, [.int i, .int j] => some (.int (if j > i then j else i))
  | .min, [.int i, .int j] => some (.int (if j < i then j else i))
  | .repr, [d] => match py d with
    | some p => if p.showable = true ∧ p.depth ≤ 60 ∧ p.shown.length ≤ sizeLine then some (.str p.shown) else none
    | none => none
  | .str, [.int i] => if i.natAbs.log2 < 1920 then some (.str (toString i)) else none
  | .str, [.str x] => some (.str x)
  | .list, [d] => (seqOf d).map .lst
  | .tuple, [d] => (seqOf d).map .tup
  | .all, [d] => ((lstOf d).bind boolsOf).map fun bs => .bl (bs.all id)
  | .any, [d] => ((lstOf d).bind boolsOf).map fun bs => .bl (bs.any id)
  | .sum, [d] => ((lstOf d).bind intsOf).map fun ns => .int ns.sum
  | _, _ => none
section
variable {X : Cx}
theorem call_lenR : CallR X (.builtin "len") (fun xs H Q => ∃ a kvs, xs = [V.ref a] ∧ Rd H a (.dK kvs) ∧ Q (.int kvs.length) H) := by
  intro pins s σ H xs us Q I r h
  obtain ⟨a, kvs, rfl, ha, q⟩ := h
  obtain ⟨u, rfl, ru⟩ := vals1 r
  cases ru
  exact d_len I ha fun t s' I' => ⟨.int kvs.length, H, I', ⟨t, rfl⟩, q⟩
theorem call_str_str' : CallR X (.type "str") (fun xs H Q => ∃ a, xs = [.str a] ∧ Q (.str a) H) := by
  intro pins s σ H xs us Q I r h
  obtain ⟨a, rfl, q⟩ := h
  obtain ⟨u, rfl, tt⟩ := vals1 r
  obtain ⟨t, rfl⟩ := tt
  exact PySem.P.str_of_str ⟨.str a, H, I, ⟨t, rfl⟩, q⟩
end
section
variable {K : KW} {mg : Str → Option Value}
theorem bools_V {ρ : Fx} {H : Hp} : ∀ {ds : List D} {vs : List V} {bs : List Bool}, RVs K ρ H ds vs → boolsOf ds = some bs → vs = bs.map V.bl
  | [], vs, bs, r, e => by simp only [RVs] at r; subst r; cases e; rfl
  | d :: ds, vs, bs, r, e => by
    obtain ⟨v, vr, rfl, rv, rr⟩ := r.uncons
    cases d with
    | bl b =>
      simp only [boolsOf, Option.map_eq_some_iff] at e
      obtain ⟨cs, e, rfl⟩ := e
      rw [rv.bl, bools_V rr e]; rfl
    | _ => simp [boolsOf] at e
theorem ints_V {ρ : Fx} {H : Hp} : ∀ {ds : List D} {vs : List V} {bs : List Int}, RVs K ρ H ds vs → intsOf ds = some bs → vs = bs.map V.int
  | [], vs, bs, r, e => by simp only [RVs] at r; subst r; cases e; rfl
  | d :: ds, vs, bs, r, e => by
    obtain ⟨v, vr, rfl, rv, rr⟩ := r.uncons
    cases d with
    | int b =>
      simp only [intsOf, Option.map_eq_some_iff] at e
      obtain ⟨cs, e, rfl⟩ := e
      rw [rv.int, ints_V rr e]; rfl
    | _ => simp [intsOf] at e
theorem strs_V {ρ : Fx} {H : Hp} : ∀ {ds : List D} {vs : List V} {bs : List Str}, RVs K ρ H ds vs → strsOf ds = some bs → vs = bs.map V.str
  | [], vs, bs, r, e => by simp only [RVs] at r; subst r; cases e; rfl
  | d :: ds, vs, bs, r, e => by
    obtain ⟨v, vr, rfl, rv, rr⟩ := r.uncons
    cases d with
    | str b =>
      simp only [strsOf, Option.map_eq_some_iff] at e
      obtain ⟨cs, e, rfl⟩ := e
      rw [rv.str, strs_V rr e]; rfl
    | _ => simp [strsOf] at e
theorem lstOf_ok {ρ : Fx} {H : Hp} {d : D} {v : V} {ds : List D} (r : RV K ρ H d v) (h : lstOf d = some ds) : ∃ a vs, v = .ref a ∧ SqL K H a vs ∧ RVs K ρ H ds vs := by
  cases d with
  | rol xs => cases h; obtain ⟨a, vs, e, _, q, t⟩ := r.rol; exact ⟨a, vs, e, q.sq, t⟩
  | lst xs => cases h; obtain ⟨a, vs, e, _, q, _, _, t⟩ := r.lst; exact ⟨a, vs, e, SqL.of q, t⟩
  | _ => simp [lstOf] at h
theorem bi_ok {X : Cx} (hc : X.calm = true) (sm : SmOk X.base) (hg : X.A.guards = some []) (hu : X.A.units + 64 < cLine) (b : Bi) :
    ∃ r, CallR X b.val r ∧ VRn (kw X) mg r (biF b) := by
  cases b with
  | len =>
    refine ⟨_, call_len.or call_lenR, fun E ρ S H xs vs Q rp rx q => ?_⟩
    obtain ⟨d, e, q0⟩ := q.ofH; clear q; rename Post (kw X) mg (RV (kw X)) E ρ H (.ok d S) Q => q
    match xs, e, rx with
    | [x], e, rx =>
      obtain ⟨v, rfl, rv⟩ := rx.one'
      simp only [biF, Option.map_eq_some_iff] at e
      obtain ⟨n, e, rfl⟩ := e
      cases x with
      | str z =>
        simp only [lenOf] at e
        split at e
        · rename_i z; cases e; rw [rv.str]
          exact .inl ⟨_, _, rfl, ⟨z, rfl⟩, q.here rp (.mkInt _)⟩
        · cases e
      | tup ds =>
        cases e
        obtain ⟨a, ws, rfl, _, sq, t⟩ := rv.tup
        rw [t.len] at q
        exact .inl ⟨_, _, rfl, .inr ⟨ws, sq, rfl⟩, q.here rp (.mkInt _)⟩
      | rol ds =>
        cases e
        obtain ⟨a, ws, rfl, _, sq, t⟩ := rv.rol
        rw [t.len] at q
        exact .inl ⟨_, _, rfl, .inl ⟨ws, sq.sq, rfl⟩, q.here rp (.mkInt _)⟩
      | lst ds =>
        cases e
        obtain ⟨a, ws, rfl, _, h1, _, _, t⟩ := rv.lst
        rw [t.len] at q
        exact .inl ⟨_, _, rfl, .inl ⟨ws, SqL.of h1, rfl⟩, q.here rp (.mkInt _)⟩
      | dct ds =>
        cases e
        obtain ⟨a, ws, rfl, h1, _, _, t⟩ := rv.dct
        rw [t.len] at q
        exact .inr ⟨a, ws, rfl, h1, q.here rp (.mkInt _)⟩
      | _ => simp [lenOf] at e
    | [], e, rx => simp [biF] at e
    | _ :: _ :: _, e, rx => simp [biF] at e
  | abs =>
    refine ⟨_, call_abs, fun E ρ S H xs vs Q rp rx q => ?_⟩
    obtain ⟨d, e, q0⟩ := q.ofH; clear q; rename Post (kw X) mg (RV (kw X)) E ρ H (.ok d S) Q => q
    match xs, e, rx with
    | [x], e, rx =>
      obtain ⟨v, rfl, rv⟩ := rx.one'
      cases x with
      | int i => simp only [biF, Option.some.injEq] at e; subst e; rw [rv.int]; exact ⟨_, rfl, q.here rp (.mkInt _)⟩
      | _ => simp [biF] at e
    | [], e, rx => simp [biF] at e
    | _ :: _ :: _, e, rx => simp [biF] at e
  | int =>
    refine ⟨_, call_int1, fun E ρ S H xs vs Q rp rx q => ?_⟩
    obtain ⟨d, e, q0⟩ := q.ofH; clear q; rename Post (kw X) mg (RV (kw X)) E ρ H (.ok d S) Q => q
    match xs, e, rx with
    | [x], e, rx =>
      obtain ⟨v, rfl, rv⟩ := rx.one'
      cases x with
      | int i => simp only [biF, Option.some.injEq] at e; subst e; rw [rv.int]; exact .inl ⟨_, rfl, q.here rp (.mkInt _)⟩
      | bl i => simp only [biF, Option.some.injEq] at e; subst e; rw [rv.bl]; exact .inr ⟨_, rfl, q.here rp (.mkInt _)⟩
      | _ => simp [biF] at e
    | [], e, rx => simp [biF] at e
    | _ :: _ :: _, e, rx => simp [biF] at e
  | bool =>
    refine ⟨_, call_bool1, fun E ρ S H xs vs Q rp rx q => ?_⟩
    obtain ⟨d, e, q0⟩ := q.ofH; clear q; rename Post (kw X) mg (RV (kw X)) E ρ H (.ok d S) Q => q
    match xs, e, rx with
    | [x], e, rx =>
      obtain ⟨v, rfl, rv⟩ := rx.one'
      cases x with
      | int i => simp only [biF, Option.some.injEq] at e; subst e; rw [rv.int]; exact .inl ⟨_, rfl, q.here rp (.mkBl _)⟩
      | bl i => simp only [biF, Option.some.injEq] at e; subst e; rw [rv.bl]; exact .inr ⟨_, rfl, q.here rp (.mkBl _)⟩
      | _ => simp [biF] at e
    | [], e, rx => simp [biF] at e
    | _ :: _ :: _, e, rx => simp [biF] at e
  | max =>
    refine ⟨_, call_max2 hc, fun E ρ S H xs vs Q rp rx q => ?_⟩
    obtain ⟨d, e, q0⟩ := q.ofH; clear q; rename Post (kw X) mg (RV (kw X)) E ρ H (.ok d S) Q => q
    match xs, e, rx with
    | [x, y], e, rx =>
      obtain ⟨v, w, rfl, rv, rw'⟩ := rx.two'
      cases x with
      | int i =>
        cases y with
        | int j => simp only [biF, Option.some.injEq] at e; subst e; rw [rv.int, rw'.int]; exact ⟨_, _, rfl, q.here rp (.mkInt _)⟩
        | _ => simp [biF] at e
      | _ => simp [biF] at e
    | [], e, rx => simp [biF] at e
    | [_], e, rx => simp [biF] at e
    | _ :: _ :: _ :: _, e, rx => simp [biF] at e
  | min =>
    refine ⟨_, call_min2 hc, fun E ρ S H xs vs Q rp rx q => ?_⟩
    obtain ⟨d, e, q0⟩ := q.ofH; clear q; rename Post (kw X) mg (RV (kw X)) E ρ H (.ok d S) Q => q
    match xs, e, rx with
    | [x, y], e, rx =>
      obtain ⟨v, w, rfl, rv, rw'⟩ := rx.two'
      cases x with
      | int i =>
        cases y with
        | int j => simp only [biF, Option.some.injEq] at e; subst e; rw [rv.int, rw'.int]; exact ⟨_, _, rfl, q.here rp (.mkInt _)⟩
        | _ => simp [biF] at e
      | _ => simp [biF] at e
    | [], e, rx => simp [biF] at e
    | [_], e, rx => simp [biF] at e
    | _ :: _ :: _ :: _, e, rx => simp [biF] at e
  | repr =>
    refine ⟨_, call_reprA sm hg hu, fun E ρ S H xs vs Q rp rx q => ?_⟩
    obtain ⟨d, e, q0⟩ := q.ofH; clear q; rename Post (kw X) mg (RV (kw X)) E ρ H (.ok d S) Q => q
    match xs, e, rx with
    | [x], e, rx =>
      obtain ⟨v, rfl, rv⟩ := rx.one'
      simp only [biF] at e
      split at e
      · rename_i p e1
        split at e
        · rename_i z
          cases e
          exact ⟨ρ, _, p, v, rfl, rv, e1, z.1, z.2.1, z.2.2, q.here rp (.mkStr _)⟩
        · cases e
      · cases e
    | [], e, rx => simp [biF] at e
    | _ :: _ :: _, e, rx => simp [biF] at e
  | str =>
    refine ⟨_, call_str_int.or call_str_str', fun E ρ S H xs vs Q rp rx q => ?_⟩
    obtain ⟨d, e, q0⟩ := q.ofH; clear q; rename Post (kw X) mg (RV (kw X)) E ρ H (.ok d S) Q => q
    match xs, e, rx with
    | [x], e, rx =>
      obtain ⟨v, rfl, rv⟩ := rx.one'
      cases x with
      | int i =>
        simp only [biF] at e
        split at e
        · rename_i z; cases e; rw [rv.int]; exact .inl ⟨_, rfl, z, q.here rp (.mkStr _)⟩
        · cases e
      | str i => simp only [biF, Option.some.injEq] at e; subst e; rw [rv.str]; exact .inr ⟨_, rfl, q.here rp (.mkStr _)⟩
      | _ => simp [biF] at e
    | [], e, rx => simp [biF] at e
    | _ :: _ :: _, e, rx => simp [biF] at e
  | list =>
    refine ⟨_, call_list_of, fun E ρ S H xs vs Q rp rx q => ?_⟩
    obtain ⟨d, e, q0⟩ := q.ofH; clear q; rename Post (kw X) mg (RV (kw X)) E ρ H (.ok d S) Q => q
    match xs, e, rx with
    | [x], e, rx =>
      obtain ⟨v, rfl, rv⟩ := rx.one'
      simp only [biF, Option.map_eq_some_iff] at e
      obtain ⟨ds, e9, rfl⟩ := e
      obtain ⟨a, ws, rfl, z, sq, t⟩ := seqOf_ok rv e9
      exact ⟨a, ws, rfl, sq, fun p hp => post_lst rp z t q p hp⟩
    | [], e, rx => simp [biF] at e
    | _ :: _ :: _, e, rx => simp [biF] at e
  | tuple =>
    refine ⟨_, call_tuple_of, fun E ρ S H xs vs Q rp rx q => ?_⟩
    obtain ⟨d, e, q0⟩ := q.ofH; clear q; rename Post (kw X) mg (RV (kw X)) E ρ H (.ok d S) Q => q
    match xs, e, rx with
    | [x], e, rx =>
      obtain ⟨v, rfl, rv⟩ := rx.one'
      simp only [biF, Option.map_eq_some_iff] at e
      obtain ⟨ds, e9, rfl⟩ := e
      obtain ⟨a, ws, rfl, z, sq, t⟩ := seqOf_ok rv e9
      refine ⟨a, ws, rfl, ?_⟩
      rcases sq with sq | sq
      · exact .inl ⟨sq, fun p hp => post_tup rp z t q p hp⟩
      · exact .inr ⟨sq, q.here rp (.mkTup z sq t)⟩
    | [], e, rx => simp [biF] at e
    | _ :: _ :: _, e, rx => simp [biF] at e
  | all =>
    refine ⟨_, cr_all hc, fun E ρ S H xs vs Q rp rx q => ?_⟩
    obtain ⟨d, e, q0⟩ := q.ofH; clear q; rename Post (kw X) mg (RV (kw X)) E ρ H (.ok d S) Q => q
    match xs, e, rx with
    | [x], e, rx =>
      obtain ⟨v, rfl, rv⟩ := rx.one'
      simp only [biF, Option.map_eq_some_iff] at e
      obtain ⟨bs, e9, rfl⟩ := e
      obtain ⟨ds, e1, e2⟩ := Option.bind_eq_some_iff.mp e9
      obtain ⟨a, ws, rfl, sq, t⟩ := lstOf_ok rv e1
      have e3 := bools_V t e2
      subst e3
      exact ⟨a, bs, rfl, sq, q.here rp (.mkBl _)⟩
    | [], e, rx => simp [biF] at e
    | _ :: _ :: _, e, rx => simp [biF] at e
  | any =>
    refine ⟨_, cr_any hc, fun E ρ S H xs vs Q rp rx q => ?_⟩
    obtain ⟨d, e, q0⟩ := q.ofH; clear q; rename Post (kw X) mg (RV (kw X)) E ρ H (.ok d S) Q => q
    match xs, e, rx with
    | [x], e, rx =>
      obtain ⟨v, rfl, rv⟩ := rx.one'
      simp only [biF, Option.map_eq_some_iff] at e
      obtain ⟨bs, e9, rfl⟩ := e
      obtain ⟨ds, e1, e2⟩ := Option.bind_eq_some_iff.mp e9
      obtain ⟨a, ws, rfl, sq, t⟩ := lstOf_ok rv e1
      have e3 := bools_V t e2
      subst e3
      exact ⟨a, bs, rfl, sq, q.here rp (.mkBl _)⟩
    | [], e, rx => simp [biF] at e
    | _ :: _ :: _, e, rx => simp [biF] at e
  | sum =>
    refine ⟨_, cr_sum hc, fun E ρ S H xs vs Q rp rx q => ?_⟩
    obtain ⟨d, e, q0⟩ := q.ofH; clear q; rename Post (kw X) mg (RV (kw X)) E ρ H (.ok d S) Q => q
    match xs, e, rx with
    | [x], e, rx =>
      obtain ⟨v, rfl, rv⟩ := rx.one'
      simp only [biF, Option.map_eq_some_iff] at e
      obtain ⟨bs, e9, rfl⟩ := e
      obtain ⟨ds, e1, e2⟩ := Option.bind_eq_some_iff.mp e9
      obtain ⟨a, ws, rfl, sq, t⟩ := lstOf_ok rv e1
      have e3 := ints_V t e2
      subst e3
      exact ⟨a, bs, rfl, sq, q.here rp (.mkInt _)⟩
    | [], e, rx => simp [biF] at e
    | _ :: _ :: _, e, rx => simp [biF] at e
end
end GG
namespace GG
open PySem PySem.Spec PyProof.Rows L2
/-! ## what is walked -/
/-- the same, or one thing more -/
def Gw (H H' : Hp) : Prop := H' = H ∨ ∃ T o, H T = none ∧ H' = upd H T o
structure Wk (K : KW) (ρ : Fx) (H0 : Hp) (ds : List D) (J : It) : Prop where
  sz : ds.length ≤ sizeLine
  go : ∀ (l : List Addr) (H : Hp) (i : Nat) (d : D), Kq ρ H0 l H → ds[i]? = some d → J.go i H
  stop : ∀ (l : List Addr) (H : Hp), Kq ρ H0 l H → J.stop ds.length H
  yld : ∀ (l : List Addr) (H : Hp) (i : Nat) (d : D) (x : V) (H' : Hp), Kq ρ H0 l H → ds[i]? = some d → J.yld i H x H' → Gw H H' ∧ RV K ((ρ.nw H0).to l) H' d x
theorem Gw.sx {H H' : Hp} {l : List Addr} (g : Gw H H') : Sx l H l H' := by
  rcases g with rfl | ⟨T, o, h, rfl⟩
  · exact .refl
  · exact .fresh h
theorem Kq.fresh {ρ : Fx} {H : Hp} {T : Addr} {o : HO} (h : H T = none) : Kq ρ H ρ.l (upd H T o) :=
  ⟨pre_refl _, fun b xs e => by rw [upd_ne (ne_of_none e h)]; exact e, fun b o u e => by rw [upd_ne (ne_of_none e h)]; exact e, fun b u e n _ => ⟨by rw [upd_ne (ne_of_none e h)]; exact e, n⟩⟩
theorem Kq.refl {ρ : Fx} {H : Hp} : Kq ρ H ρ.l H := ⟨pre_refl _, fun _ _ e => e, fun _ _ _ e => e, fun _ _ e n _ => ⟨e, n⟩⟩
theorem Kq.trans {ρ : Fx} {l l2 : List Addr} {H H1 H2 : Hp} (a : Kq ρ H l H1) (b : Kq (ρ.to l) H1 l2 H2) : Kq ρ H l2 H2 :=
  ⟨a.pre.trans b.pre, fun c xs e => b.tup _ _ (a.tup _ _ e), fun c o u e => b.frz _ _ _ (a.frz _ _ _ e), fun c u e n1 n2 => let ⟨e1, n3⟩ := a.kp c u e n1 n2; b.kp c u e1 n3 n2⟩
/-- .. and whatever is written, where nothing of it can change -/
def WkB (K : KW) (ρ : Fx) (H : Hp) (p : List D × Bool) (J : It) : Prop := Wk K ρ H p.1 J ∧ (p.2 = true → ∀ n, Wk K (ρ.w n) H p.1 J)
def TFi (K : KW) (mg : Str → Option Value) (W : WX) (xs : List Nat) (f : Env → Sto → Out (List D × Bool)) : TI := TG0 K mg (WkB K) W xs f
theorem PI.imp {X : Cx} {tg e : Expr} {t t' : TI} (h : PI X tg e t) (i : ∀ σ H Q, t' σ H Q → t σ H Q) : PI X tg e t' := ⟨fun pins s σ H Q I q => h.run pins s σ H Q I (i σ H Q q)⟩
theorem pi_or {X : Cx} {tg e : Expr} {t t' : TI} (h : PI X tg e t) (h' : PI X tg e t') : PI X tg e (fun σ H Q => t σ H Q ∨ t' σ H Q) := ⟨fun pins s σ H Q I q => q.elim (h.run pins s σ H Q I) (h'.run pins s σ H Q I)⟩
def iterV (d : D) : Option (List D) :=
  match d with
  | .str x => if x.length ≤ sizeLine then some (x.cps.toList.map fun c => .str ⟨#[c]⟩) else none
  | d => seqOf d
section
variable {K : KW} {mg : Str → Option Value} {W : WX} {ρ : Fx} {H : Hp}
theorem lst_keep {d : D} {v : V} {ds : List D} (r : RV K ρ H d v) (e : lstOf d = some ds) : ∃ a vs, v = .ref a ∧ ds.length ≤ sizeLine ∧ SqL K H a vs ∧ ∀ l H', Kq ρ H l H' → SqL K H' a vs ∧ RVs K ((ρ.nw H).to l) H' ds vs := by
  cases d with
  | rol xs => cases e; obtain ⟨a, vs, e, z, q, t⟩ := r.rol; exact ⟨a, vs, e, z, q.sq, fun l H' k => ⟨(q.gen k).sq, RVs.gen (Kq.plus k) _ _ t.nw⟩⟩
  | lst xs => cases e; obtain ⟨a, vs, e, z, q, n1, n2, t⟩ := r.lst; exact ⟨a, vs, e, z, SqL.of q, fun l H' k => ⟨SqL.of (k.kp a _ q n1 n2).1, RVs.gen (Kq.plus k) _ _ t.nw⟩⟩
  | _ => simp [lstOf] at e
theorem tup_keep {v : V} {ds : List D} (r : RV K ρ H (.tup ds) v) : ∃ a vs, v = .ref a ∧ ds.length ≤ sizeLine ∧ SqT K H a vs ∧ ∀ l H', Kq ρ H l H' → SqT K H' a vs ∧ RVs K ((ρ.nw H).to l) H' ds vs := by
  obtain ⟨a, vs, e, z, q, t⟩ := r.tup
  exact ⟨a, vs, e, z, q, fun l H' k => ⟨k.rdT q, RVs.gen (Kq.plus k) _ _ t.nw⟩⟩
theorem wk_tup {a : Addr} {ds : List D} {vs : List V} (z : ds.length ≤ sizeLine) (s : ∀ l H', Kq ρ H l H' → SqT K H' a vs ∧ RVs K ((ρ.nw H).to l) H' ds vs) : Wk K ρ H ds (Itt K a) where
  sz := z
  go := fun l H' i d k e => by
    obtain ⟨sq, t⟩ := s l H' k
    obtain ⟨v, e1, _⟩ := t.get e
    exact ⟨vs, v, sq, e1⟩
  stop := fun l H' k => by
    obtain ⟨sq, t⟩ := s l H' k
    exact ⟨vs, sq, by rw [t.len]; exact Nat.le_refl _⟩
  yld := fun l H' i d x H2 k e y => by
    obtain ⟨rfl, y⟩ := y
    obtain ⟨sq, t⟩ := s l _ k
    obtain ⟨v, e1, r⟩ := t.get e
    have e2 := y vs sq
    rw [e1] at e2; cases e2
    exact ⟨.inl rfl, r⟩
theorem wk_lst {a : Addr} {ds : List D} {vs : List V} (z : ds.length ≤ sizeLine) (s : ∀ l H', Kq ρ H l H' → SqL K H' a vs ∧ RVs K ((ρ.nw H).to l) H' ds vs) : Wk K ρ H ds (Itl K a) where
  sz := z
  go := fun l H' i d k e => by
    obtain ⟨sq, t⟩ := s l H' k
    obtain ⟨v, e1, _⟩ := t.get e
    exact ⟨vs, v, sq, e1⟩
  stop := fun l H' k => by
    obtain ⟨sq, t⟩ := s l H' k
    exact ⟨vs, sq, by rw [t.len]; exact Nat.le_refl _⟩
  yld := fun l H' i d x H2 k e y => by
    obtain ⟨rfl, y⟩ := y
    obtain ⟨sq, t⟩ := s l _ k
    obtain ⟨v, e1, r⟩ := t.get e
    have e2 := y vs sq
    rw [e1] at e2; cases e2
    exact ⟨.inl rfl, r⟩
theorem wk_str {x : Str} (z : x.length ≤ sizeLine) : Wk K ρ H (x.cps.toList.map fun c => .str ⟨#[c]⟩) (L2.Its x) where
  sz := by simpa [Str.length] using z
  go := fun l H' i d k e => by
    show i < x.cps.size
    have := (List.getElem?_eq_some_iff.mp e).1
    simpa using this
  stop := fun l H' k => by
    show x.cps.size ≤ _
    simp
  yld := fun l H' i d y H2 k e z => by
    obtain ⟨rfl, c, e1, rfl⟩ := z
    simp only [List.getElem?_map, Option.map_eq_some_iff] at e
    obtain ⟨c', e2, rfl⟩ := e
    rw [Array.getElem?_toList, e1] at e2
    cases e2
    exact ⟨.inl rfl, .mkStr _⟩
theorem wk_rng {lo : Int} {n : Nat} (hz : n ≤ sizeLine) : Wk K ρ H ((List.range n).map fun i => .int (lo + (i : Nat))) (Itr lo n) where
  sz := by simpa using hz
  go := fun l H' i d k e => by
    show i < n
    have := (List.getElem?_eq_some_iff.mp e).1
    simpa using this
  stop := fun l H' k => by
    show n ≤ _
    simp
  yld := fun l H' i d y H2 k e z => by
    obtain ⟨rfl, rfl⟩ := z
    have hi : i < n := by
      have := (List.getElem?_eq_some_iff.mp e).1
      simpa using this
    have e1 : ((List.range n).map fun i => D.int (lo + ((i : Nat) : Int)))[i]? = some (.int (lo + ((i : Nat) : Int))) := by
      rw [List.getElem?_map, List.getElem?_range hi]; rfl
    have e2 := e1.symm.trans e
    cases e2
    exact ⟨.inl rfl, .mkInt _⟩
theorem wk_rngC {lo c : Int} {n : Nat} (hz : n ≤ sizeLine) : Wk K ρ H ((List.range n).map fun i => .int (lo + (i : Nat) * c)) (Itc lo c n) where
  sz := by simpa using hz
  go := fun l H' i d k e => by
    show i < n
    have := (List.getElem?_eq_some_iff.mp e).1
    simpa using this
  stop := fun l H' k => by
    show n ≤ _
    simp
  yld := fun l H' i d y H2 k e z => by
    obtain ⟨rfl, rfl⟩ := z
    have hi : i < n := by
      have := (List.getElem?_eq_some_iff.mp e).1
      simpa using this
    have e1 : ((List.range n).map fun i => D.int (lo + ((i : Nat) : Int) * c))[i]? = some (.int (lo + ((i : Nat) : Int) * c)) := by
      rw [List.getElem?_map, List.getElem?_range hi]; rfl
    have e2 := e1.symm.trans e
    cases e2
    exact ⟨.inl rfl, .mkInt _⟩
theorem pi_val {X : Cx} {tg e : Expr} {xs : List Nat} {fa : Env → Sto → Out D} (he : PE X e (TF (kw X) mg W xs fa)) : PI X tg e (TFi (kw X) mg W xs fun ε S => (fa ε S).bind fun d S1 => .of S1 ((iterV d).map fun its => (its, d.still))) := by
  refine PI.imp (pi_or (pi_list he) (pi_or (pi_tup he) (pi_str he))) fun σ H R q => ?_
  obtain ⟨ρ, ε, S, hs, hp, q⟩ := q
  dsimp only at q
  have hp2 := hs.rp hp xs
  cases h : fa ε S with
  | bad => rw [h] at q; exact q.elim
  | exc c x S1 => rw [h] at q; exact .inl ⟨ρ, ε, S, hs, hp, by rw [h]; exact q⟩
  | ok d S1 =>
    rw [h, Out.bind_ok] at q
    obtain ⟨dp, e0, q⟩ := q.ofH
    obtain ⟨ds, e, rfl⟩ := Option.map_eq_some_iff.mp e0
    by_cases hl : (lstOf d).isSome = true
    · obtain ⟨ds', e'⟩ := Option.isSome_iff_exists.mp hl
      have : ds' = ds := by cases d <;> simp_all [lstOf, iterV, seqOf]
      subst this
      refine .inl ⟨ρ, ε, S, hs, hp, ?_⟩
      rw [h]
      intro l v H1 sx rp r
      obtain ⟨a, vs, rfl, z, sq, s⟩ := lst_keep r e'
      refine ⟨a, rfl, ⟨vs, sq⟩, q l _ H1 sx rp ⟨wk_lst z s, fun st n => ?_⟩⟩
      obtain ⟨a2, vs2, e2, z2, _, s2⟩ := lst_keep (RV.still (n := n) _ _ st r) e'
      cases e2
      exact wk_lst z2 s2
    · cases d with
      | tup ds' =>
        cases e
        refine .inr (.inl ⟨ρ, ε, S, hs, hp, ?_⟩)
        rw [h]
        intro l v H1 sx rp r
        obtain ⟨a, vs, rfl, z, sq, s⟩ := tup_keep r
        refine ⟨a, rfl, ⟨vs, sq⟩, q l _ H1 sx rp ⟨wk_tup z s, fun st n => ?_⟩⟩
        obtain ⟨a2, vs2, e2, z2, _, s2⟩ := tup_keep (RV.still (n := n) _ _ st r)
        cases e2
        exact wk_tup z2 s2
      | str x =>
        simp only [iterV] at e
        split at e
        · rename_i z
          cases e
          refine .inr (.inr ⟨ρ, ε, S, hs, hp, ?_⟩)
          rw [h]
          intro l v H1 sx rp r
          exact ⟨x, r.str, q l _ H1 sx rp ⟨wk_str z, fun _ n => wk_str z⟩⟩
        · cases e
      | lst _ => simp [lstOf] at hl
      | rol _ => simp [lstOf] at hl
      | _ => simp [iterV, seqOf] at e
def iterR (ds : List D) : Option (List D) :=
  match ds with
  | [.int j] => if -(2 ^ 62) ≤ j ∧ j < 2 ^ 62 ∧ j.toNat ≤ sizeLine then some ((List.range j.toNat).map fun i => .int ((0 : Int) + (i : Nat))) else none
  | [.int i, .int j] => if -(2 ^ 62) ≤ i ∧ i < 2 ^ 62 ∧ -(2 ^ 62) ≤ j ∧ j < 2 ^ 62 ∧ (j - i).toNat ≤ sizeLine then some ((List.range (j - i).toNat).map fun k => .int (i + (k : Nat))) else none
  | [.int i, .int j, .int c] => if c ≠ 0 ∧ c.natAbs < 1073741824 ∧ Builtin.Range.small i j c = true ∧ 0 ≤ Builtin.Range.rangeSize i j c ∧ (Builtin.Range.rangeSize i j c).toNat ≤ sizeLine then some ((List.range (Builtin.Range.rangeSize i j c).toNat).map fun k => .int (i + (k : Nat) * c)) else none
  | _ => none
theorem rng_case {xs : List Nat} {fa : Env → Sto → Out (List D)} {σ : L2.St} {R : It → Hp → Prop} {Q1 : List V → Hp → Prop} (n : Nat) (h1 : ∀ ε S ds S1, fa ε S = .ok ds S1 → ds.length = n)
    (q : TFi K mg W xs (fun ε S => (fa ε S).bind fun d S1 => .of S1 ((iterR d).map fun its => (its, true))) σ H R)
    (step : ∀ ρ S1 ds vs its H1, Rp ρ S1 H1 → ds.length = n → iterR ds = some its → RVs K ρ H1 ds vs → (∀ J, (∀ n, Wk K (ρ.w n) H1 its J) → R J H1) → Q1 vs H1) : TFs K mg W xs fa σ H Q1 := by
  obtain ⟨ρ, ε, S, hs, hp, q⟩ := q
  refine ⟨ρ, ε, S, hs, hp, ?_⟩
  dsimp only at q
  cases h : fa ε S with
  | bad => rw [h] at q; exact q.elim
  | exc c x S1 => rw [h] at q; exact q
  | ok ds S1 =>
    rw [h, Out.bind_ok] at q
    obtain ⟨dp, e0, q⟩ := q.ofH
    obtain ⟨its, e, rfl⟩ := Option.map_eq_some_iff.mp e0
    intro l vs H1 sx rp r
    exact step _ S1 ds vs its H1 rp (h1 _ _ _ _ h) e r fun J w => q l J H1 sx rp ⟨w _, fun _ n => w n⟩
theorem pi_rng1 {X : Cx} {tg a : Expr} {p pos : Pos} {xs : List Nat} {fa : Env → Sto → Out (List D)} (hg : Gl X "range") (hm : X.mg "range" = none) (ha : PA X [a] (TFs (kw X) mg W xs fa)) (hs : starEach [a] X.env = [(false, eval a X.env)])
    (h1 : ∀ ε S ds S1, fa ε S = .ok ds S1 → ds.length = 1) : PI X tg (.Call (.Name "range" p) [a] [] pos) (TFi (kw X) mg W xs fun ε S => (fa ε S).bind fun d S1 => .of S1 ((iterR d).map fun its => (its, true))) := by
  refine PI.imp (pi_range1 hg hm ha hs) fun σ H R q => rng_case 1 h1 q fun ρ S1 ds vs its H1 rp hl e r w => ?_
  match ds, hl, e, r with
  | [x], _, e, r =>
    obtain ⟨v, rfl, rv⟩ := r.one'
    cases x with
    | int j =>
      simp only [iterR] at e
      split at e
      · rename_i z; cases e; rw [rv.int]; exact ⟨_, rfl, z.1, z.2.1, w _ fun _ => wk_rng z.2.2⟩
      · cases e
    | _ => simp [iterR] at e
theorem pi_rng2 {X : Cx} {tg a b : Expr} {p pos : Pos} {xs : List Nat} {fa : Env → Sto → Out (List D)} (hg : Gl X "range") (hm : X.mg "range" = none) (ha : PA X [a, b] (TFs (kw X) mg W xs fa)) (hs : starEach [a, b] X.env = [(false, eval a X.env), (false, eval b X.env)])
    (hs2 : starEach [b] X.env = [(false, eval b X.env)]) (h1 : ∀ ε S ds S1, fa ε S = .ok ds S1 → ds.length = 2) : PI X tg (.Call (.Name "range" p) [a, b] [] pos) (TFi (kw X) mg W xs fun ε S => (fa ε S).bind fun d S1 => .of S1 ((iterR d).map fun its => (its, true))) := by
  refine PI.imp (pi_range2 hg hm ha hs hs2) fun σ H R q => rng_case 2 h1 q fun ρ S1 ds vs its H1 rp hl e r w => ?_
  match ds, hl, e, r with
  | [x, y], _, e, r =>
    obtain ⟨v, v2, rfl, rv, rv2⟩ := r.two'
    cases x with
    | int i =>
      cases y with
      | int j =>
        simp only [iterR] at e
        split at e
        · rename_i z; cases e; rw [rv.int, rv2.int]; exact ⟨_, _, rfl, ⟨z.1, z.2.1, z.2.2.1, z.2.2.2.1⟩, w _ fun _ => wk_rng z.2.2.2.2⟩
        · cases e
      | _ => simp [iterR] at e
    | _ => simp [iterR] at e
theorem pi_rng3 {X : Cx} {tg a b c : Expr} {p pos : Pos} {xs : List Nat} {fa : Env → Sto → Out (List D)} (hg : Gl X "range") (hm : X.mg "range" = none) (ha : PA X [a, b, c] (TFs (kw X) mg W xs fa)) (hs : starEach [a, b, c] X.env = (false, eval a X.env) :: starEach [b, c] X.env)
    (hs2 : (backTo pos (starEach [b, c] X.env)).any (·.1) = false) (h1 : ∀ ε S ds S1, fa ε S = .ok ds S1 → ds.length = 3) : PI X tg (.Call (.Name "range" p) [a, b, c] [] pos) (TFi (kw X) mg W xs fun ε S => (fa ε S).bind fun d S1 => .of S1 ((iterR d).map fun its => (its, true))) := by
  refine PI.imp (pi_range3 hg hm ha hs hs2) fun σ H R q => rng_case 3 h1 q fun ρ S1 ds vs its H1 rp hl e r w => ?_
  match ds, hl, e, r with
  | [x, y, y2], _, e, r =>
    obtain ⟨v, vr, rfl, rv, rr⟩ := r.uncons
    obtain ⟨v2, v3, rfl, rv2, rv3⟩ := rr.two'
    cases x with
    | int i =>
      cases y with
      | int j =>
        cases y2 with
        | int k =>
          simp only [iterR] at e
          split at e
          · rename_i z; cases e; rw [rv.int, rv2.int, rv3.int]; exact ⟨_, _, _, _, rfl, ⟨z.1, z.2.1, z.2.2.1, (Int.toNat_of_nonneg z.2.2.2.1).symm⟩, w _ fun _ => wk_rngC z.2.2.2.2⟩
          · cases e
        | _ => simp [iterR] at e
      | _ => simp [iterR] at e
    | _ => simp [iterR] at e
end
def pairUp : Nat → List D → List D
  | _, [] => []
  | n, d :: r => .tup [.int (n : Nat), d] :: pairUp (n + 1) r
def zipUp : List D → List D → List D
  | a :: r, b :: t => .tup [a, b] :: zipUp r t
  | _, _ => []
/-- enumerate -/
def iterN (d : D) : Option (List D) := (seqOf d).map (pairUp 0)
/-- zip of two lists or two tuples -/
def iterZ (d d' : D) : Option (List D) :=
  match d, d' with
  | .tup xs, .tup ys => some (zipUp xs ys)
  | d, d' => match lstOf d, lstOf d' with
    | some xs, some ys => some (zipUp xs ys)
    | _, _ => none
def isTup : Expr → Bool
  | .Tuple _ _ _ => true
  | _ => false
def noStar : Expr → Bool
  | .Starred _ _ => false
  | _ => true
theorem star_cons {e : Expr} {es : List Expr} {env : PySem.Env} (h : noStar e = true) : starEach (e :: es) env = (false, eval e env) :: starEach es env := by
  cases e <;> first | rfl | (simp [noStar] at h)
theorem pairUp_get : ∀ (ds : List D) (n i : Nat) (d : D), (pairUp n ds)[i]? = some d → ∃ x, ds[i]? = some x ∧ d = .tup [.int ((n + i : Nat) : Int), x]
  | [], n, i, d, e => by simp [pairUp] at e
  | a :: r, n, 0, d, e => by simp [pairUp] at e; exact ⟨a, rfl, by rw [← e]; rfl⟩
  | a :: r, n, i + 1, d, e => by
    simp only [pairUp, List.getElem?_cons_succ] at e
    obtain ⟨x, e1, e2⟩ := pairUp_get r (n + 1) i d e
    exact ⟨x, by simpa using e1, by rw [e2]; congr 3; omega⟩
theorem pairUp_len : ∀ (ds : List D) (n : Nat), (pairUp n ds).length = ds.length
  | [], n => rfl
  | a :: r, n => by simp [pairUp, pairUp_len r]
theorem zipUp_get : ∀ (xs ys : List D) (i : Nat) (d : D), (zipUp xs ys)[i]? = some d → ∃ x y, xs[i]? = some x ∧ ys[i]? = some y ∧ d = .tup [x, y]
  | [], ys, i, d, e => by simp [zipUp] at e
  | a :: r, [], i, d, e => by simp [zipUp] at e
  | a :: r, b :: t, 0, d, e => by simp [zipUp] at e; exact ⟨a, b, rfl, rfl, e.symm⟩
  | a :: r, b :: t, i + 1, d, e => by
    simp only [zipUp, List.getElem?_cons_succ] at e
    obtain ⟨x, y, e1, e2, e3⟩ := zipUp_get r t i d e
    exact ⟨x, y, by simpa using e1, by simpa using e2, e3⟩
theorem zipUp_len : ∀ (xs ys : List D), xs.length ≤ (zipUp xs ys).length ∨ ys.length ≤ (zipUp xs ys).length
  | [], ys => .inl (Nat.zero_le _)
  | a :: r, [] => .inr (Nat.zero_le _)
  | a :: r, b :: t => by
    simp only [zipUp, List.length_cons]
    rcases zipUp_len r t with h | h
    · exact .inl (by omega)
    · exact .inr (by omega)
/-! ## enumerate over a tuple -/
set_option maxHeartbeats 1000000 in
theorem meets_enum1 {v : Value} {ob : Obj} {B : Heap → Prop} (bg : Begins v ob B) :
    Meets (Builtin.«enumerate.__new__» ⟨[.type "enumerate", v], []⟩) (fun _ R s => B s.heap ∧
      R (.ok (.ret (.ref (s.heap.push ob).objs.size))) { s with heap := (s.heap.push ob).push { cls := .type "enumerate", data := .fields #[.none, .bool false, .ref s.heap.objs.size, rawInt 0, .none, .none] } }) :=
  .of_wp fun prog w A R s h => by
    obtain ⟨hp, g, d, tk, os⟩ := s; obtain ⟨h1, h⟩ := h; have hsub := sub_enumerate
    have q1 : ∀ {A' : Around} {E : Value → Shared → Prop} {Q : Value → Shared → Prop}, Q (.ref hp.objs.size) ⟨hp.push ob, g, d, tk, os⟩ → wpAny (model prog w) A' (pyIter v) Q E ⟨hp, g, d, tk, os⟩ := fun q => bg.iter prog w _ _ ⟨hp, g, d, tk, os⟩ _ h1 q
    wp_walk using q1
    refine wpAny_stack_any fun st => wpAny_pure ?_
    split
    · rename_i c _ _ _ _ _
      cases (c == Value.type "enumerate") <;> (wp_walk using q1; exact ⟨_, rfl, h⟩)
    · wp_walk using q1; exact ⟨_, rfl, h⟩
section
variable {prog : Program} {w : World} {A : Around} {E : Value → Shared → Prop} {s : Shared}
theorem call_enum1 {v : Value} {ob : Obj} {B : Heap → Prop} {Q : Value → Shared → Prop} (bg : Begins v ob B) (hb : B s.heap)
    (h : ∀ h', IsEnum h' (s.heap.objs.size + 1) s.heap.objs.size 0 .none → h'.get? s.heap.objs.size = some ob → (∀ b o, s.heap.get? b = some o → h'.get? b = some o) → Q (.ref (s.heap.objs.size + 1)) { s with heap := h' }) :
    wpAny (model prog w) A (call (.type "enumerate") [v]) Q E s := by
  refine callType_new F.called_enumerate (by decide) (F.typeCall_enumerate_1 _) (F.newCall_enumerate_1 _) (fun obj => F.args_object_init_2 obj _) F.entry_enumerate_new (meets_enum1 bg) ⟨hb, ?_⟩
  have sz : (s.heap.push ob).objs.size = s.heap.objs.size + 1 := Heap.size_push ..
  show _ ∧ _
  rw [sz]
  have en : IsEnum ((s.heap.push ob).push { cls := .type "enumerate", data := .fields #[.none, .bool false, .ref s.heap.objs.size, rawInt 0, .none, .none] }) (s.heap.objs.size + 1) s.heap.objs.size 0 .none := by
    have z := Heap.get?_push_size (s.heap.push ob) (o := { cls := .type "enumerate", data := .fields #[.none, .bool false, .ref s.heap.objs.size, rawInt 0, .none, .none] }) rfl
    rw [sz] at z; exact z
  exact ⟨⟨_, en, rfl⟩, h _ en (Heap.get?_push_of_some _ (Heap.get?_push_size _ bg.free)) fun b o x => Heap.get?_push_of_some _ (Heap.get?_push_of_some _ x)⟩
end
/-- the tuple at a, its items in new pairs -/
def IteT (K : PySem.W.Frag) (a : Addr) : It :=
  ⟨fun i H => ∃ (xs : List V) (x : V), SqT K H a xs ∧ xs[i]? = some x, fun i H v H' => ∃ T x, v = .ref T ∧ H T = none ∧ H' = upd H T (.tup [.int (i : Nat), x]) ∧ ∀ xs, SqT K H a xs → xs[i]? = some x, fun i H => ∃ xs : List V, SqT K H a xs ∧ i = xs.length⟩
theorem turn_enumT {P : Program} {w : World} {K : PySem.W.Frag} {elts : List Expr} {kk : Nat} {tpos : Pos} (a e it : Addr) :
    Turn P w K (.Tuple elts kk tpos) (IteT K a) [e, it] e (fun i h => (∃ old, IsEnum h e it ((i : Nat) : Int) old) ∧ h.IsTupleIter it a i ∧ e ≠ it) where
  mem := by simp
  obj := fun i h st b hb => by
    obtain ⟨⟨old, he⟩, ⟨o, ho, hc, hd⟩, _⟩ := st
    rcases (show b = e ∨ b = it by simpa using hb) with z | z <;> rw [z]
    · exact ⟨_, he, fun v q => nomatch q⟩
    · exact ⟨o, ho, fun v q => by rw [hd] at q; cases q⟩
  keep := fun i h h' st k => let ⟨⟨old, he⟩, hi, hne⟩ := st; ⟨⟨old, k e (by simp) _ he⟩, hi.at fun o q => k it (by simp) o q, hne⟩
  item := by
    intro X hP hw hK hc i pins s σ H E I hf st hg
    subst hP hw hK
    obtain ⟨⟨old, he⟩, hit, hne⟩ := st
    obtain ⟨xs, x, hq, hx⟩ := hg
    obtain ⟨its, rv, p, hz⟩ := I.tuple hq
    obtain ⟨u, hu, ru⟩ := rv.get hx
    have hel : e < s.heap.objs.size := Heap.lt_size he
    have hil : it < s.heap.objs.size := by obtain ⟨_, q, _⟩ := hit; exact Heap.lt_size q
    have p2 : s.heap.IsTuple a its.toArray := p
    have ne1 : a ≠ it := fun z => by
      obtain ⟨o, e1, c1, _⟩ := hit
      obtain ⟨o', e2, c2, _⟩ := p2
      rw [z, e1] at e2; cases e2; rw [c1] at c2; simp at c2
    have ne2 : e ≠ a := fun z => by
      obtain ⟨o', e2, c2, _⟩ := p2
      have he' := he
      unfold IsEnum at he'
      rw [z, e2] at he'; cases he'; simp at c2
    have lt : i < its.toArray.size := by rw [List.size_toArray]; exact (List.getElem?_eq_some_iff.mp hu).1
    refine wpAny_pyNext_enum_itemD (Draws.tuple (prog := X.prog) (w := X.w) (A := X.A.in1) (I.ok.hd hc) it a ne1 its.toArray) he ⟨hit, p2⟩ lt hne (by simp [hne, ne2]) fun y h' tk hy ho st' hT hsz hk => ?_
    have ey : y = u := by
      have hy2 : its.toArray[i]? = some y := hy
      rw [List.getElem?_toArray, hu] at hy2; cases hy2; rfl
    subst ey
    refine ⟨_, rfl, wpAny_letOwnedTupleGo_enum (s := { s with heap := h', toks := tk + 1 }) ho fun h'' he' sb => ?_⟩
    have hT2 : h''.get? s.heap.objs.size = some { cls := .type "tuple", data := .seq #[.int i tk, y] } := (sb.2 _ (Nat.ne_of_gt hel)).trans hT
    have new : ObjOk X.prog X.w (upd H s.heap.objs.size (.tup [.int (i : Nat), x])) h'' s.heap.objs.size (.tup [.int (i : Nat), x]) :=
      ⟨by show 2 ≤ sizeLine; decide, [.int i tk, y], .cons ⟨_, rfl⟩ (.cons ru .nil), ⟨_, hT2, rfl, _, rfl⟩⟩
    have I1 : Inv X pins σ (upd H s.heap.objs.size (.tup [.int (i : Nat), x])) { s with heap := h'', toks := tk + 1 } :=
      I.turnedNew (ch := [e, it]) (fun b ob hb q => (sb.2 b (fun z => hb (by simp [z]))).trans (hk b ob (fun z => hb (by simp [z])) (fun z => hb (by simp [z])) q)) hf (Nat.le_refl _) new
    refine ⟨.ref s.heap.objs.size, _, I1, rfl, ⟨_, x, rfl, I.hok.fresh (Nat.le_refl _), rfl, fun ys hy => by rw [I.tuple_inj hy hq]; exact hx⟩, ⟨⟨y, ?_⟩, st'.1.at fun o q => (sb.2 it (Ne.symm hne)).trans q, hne⟩, fun b hb => ?_⟩
    · rw [show ((i + 1 : Nat) : Int) = (i : Int) + 1 by omega]; exact he'
    · have hb' : b < s.heap.objs.size := by
        rcases (show b = e ∨ b = it by simpa using hb) with z | z <;> rw [z]
        · exact hel
        · exact hil
      rw [upd_ne (Nat.ne_of_lt hb')]
      exact (hf b hb).1
  done := by
    intro X hP hw hK hc i pins s σ H E I hf st hg
    subst hP hw hK
    obtain ⟨⟨old, he⟩, hit, hne⟩ := st
    obtain ⟨xs, hq, hx⟩ := hg
    obtain ⟨its, rv, p, hz⟩ := I.tuple hq
    obtain ⟨f0, f1, f2, f3, f4, f5⟩ := hf it (by simp)
    have hl := rv.length
    have p2 : s.heap.IsTuple a its.toArray := p
    have ne1 : a ≠ it := fun z => by
      obtain ⟨o, e1, c1, _⟩ := hit
      obtain ⟨o', e2, c2, _⟩ := p2
      rw [z, e1] at e2; cases e2; rw [c1] at c2; simp at c2
    have hi : i = its.toArray.size := by rw [List.size_toArray]; omega
    rw [hi] at hit
    exact wpAny_pyNext_enum_endD (Draws.tuple (prog := X.prog) (w := X.w) (A := X.A.in1) (I.ok.hd hc) it a ne1 its.toArray) he ⟨hit, p2⟩ fun h' eb => ⟨rfl, I.turned (t' := s.toks) (fun b o hb q => eb b o hb q) f0 f1 f3 f4 f5⟩
  self := fun A i s Q E st h => let ⟨⟨_, he⟩, _⟩ := st; wpAny_pyIter_enum he h
def iEnumA (K : PySem.W.Frag) (ta : TA) : TI := fun σ H R => ta σ H fun vs H1 => ∃ a xs, vs = [.ref a] ∧ ((SqL K H1 a xs ∧ R (Ite K a) H1) ∨ (SqT K H1 a xs ∧ R (IteT K a) H1))
theorem pi_enumA {X : Cx} {e : Expr} {ta : TA} {p pos tpos : Pos} {elts : List Expr} {kk : Nat} (hg : Gl X "enumerate") (hm : X.mg "enumerate" = none) (ha : PA X [e] ta) (hs : starEach [e] X.env = [(false, eval e X.env)] := by rfl) :
    PI X (.Tuple elts kk tpos) (.Call (.Name "enumerate" p) [e] [] pos) (iEnumA X.K ta) := by
  refine ⟨fun pins s σ H R I h => ?_⟩
  refine Call_ (ld_blt I hg hm boot_enumerate (PyProof.Rows.callWith_type1 (thn (ha.run pos pins s σ H _ I h) fun us s1 ⟨vs, H1, I1, r1, q1⟩ => ?_) hs rfl))
  obtain ⟨a, xs, ex, q⟩ := q1
  subst ex
  cases r1 with
  | cons r rr =>
    cases rr
    cases r
    have far : ∀ b ∈ [s1.heap.objs.size + 1, s1.heap.objs.size], FpOk X pins H1 b := fun b hb => by
      have hle : s1.heap.objs.size ≤ b := by
        rcases (show b = s1.heap.objs.size + 1 ∨ b = s1.heap.objs.size by simpa using hb) with z | z <;> rw [z]
        · exact Nat.le_add_right _ _
        · exact Nat.le_refl _
      exact I1.fpOk hle (I1.hok.fresh hle)
    rcases q with ⟨hq, q⟩ | ⟨hq, q⟩
    · obtain ⟨its, rv, p', hz⟩ := I1.list hq
      refine call_enum1 (begins_list a its.toArray) p'.isList fun h' he hit hk => wpAny_pyIter_enum he ?_
      exact ⟨s1.heap.objs.size + 1, _, _, _, H1, rfl, I1.kept (t' := s1.toks) hk, turn_enum a (s1.heap.objs.size + 1) s1.heap.objs.size, ⟨⟨.none, he⟩, ⟨_, hit, rfl, rfl⟩, Nat.succ_ne_self _⟩, far, q⟩
    · obtain ⟨its, rv, p', hz⟩ := I1.tuple hq
      refine call_enum1 (begins_tuple a its.toArray) p' fun h' he hit hk => wpAny_pyIter_enum he ?_
      exact ⟨s1.heap.objs.size + 1, _, _, _, H1, rfl, I1.kept (t' := s1.toks) hk, turn_enumT a (s1.heap.objs.size + 1) s1.heap.objs.size, ⟨⟨.none, he⟩, ⟨_, hit, rfl, rfl⟩, Nat.succ_ne_self _⟩, far, q⟩
theorem zipUp_le (xs ys : List D) : (zipUp xs ys).length ≤ xs.length := by
  induction xs generalizing ys with
  | nil => simp [zipUp]
  | cons a r ih =>
    cases ys with
    | nil => simp [zipUp]
    | cons b t => simpa [zipUp] using ih t
section
variable {K : KW} {mg : Str → Option Value} {W : WX} {ρ : Fx} {H : Hp}
theorem two_le : (2 : Nat) ≤ sizeLine := by decide
theorem mk_pair {l : List Addr} {H' : Hp} {T : Addr} {d1 d2 : D} {x y : V} (hT : H' T = none) (r1 : RV K (ρ.to l) H' d1 x) (r2 : RV K (ρ.to l) H' d2 y) : RV K (ρ.to l) (upd H' T (.tup [x, y])) (.tup [d1, d2]) (.ref T) :=
  .mkTup two_le (.inl (.inl upd_same)) (.cons (RV.gen (ρ := ρ.to l) (Kq.fresh hT) _ _ r1) (.one (RV.gen (ρ := ρ.to l) (Kq.fresh hT) _ _ r2)))
theorem wk_enum {a : Addr} {ds : List D} {vs : List V} (z : ds.length ≤ sizeLine) (s : ∀ l H', Kq ρ H l H' → SqL K H' a vs ∧ RVs K ((ρ.nw H).to l) H' ds vs) : Wk K ρ H (pairUp 0 ds) (Ite K a) where
  sz := by rw [pairUp_len]; exact z
  go := fun l H' i d k e => by
    obtain ⟨sq, t⟩ := s l H' k
    obtain ⟨x, e1, _⟩ := pairUp_get ds 0 i d e
    obtain ⟨v, e2, _⟩ := t.get e1
    exact ⟨vs, v, sq, e2⟩
  stop := fun l H' k => by
    obtain ⟨sq, t⟩ := s l H' k
    exact ⟨vs, sq, by rw [pairUp_len, t.len]; exact Nat.le_refl _⟩
  yld := fun l H' i d x H2 k e y => by
    obtain ⟨T, z, rfl, hT, rfl, y⟩ := y
    obtain ⟨sq, t⟩ := s l H' k
    obtain ⟨x, e1, rfl⟩ := pairUp_get ds 0 i d e
    obtain ⟨v, e2, r⟩ := t.get e1
    have e3 := y vs sq
    rw [e2] at e3; cases e3
    refine ⟨.inr ⟨T, _, hT, rfl⟩, mk_pair (ρ := ρ.nw H) hT ?_ r⟩
    rw [Nat.zero_add]
    exact .mkInt _
theorem wk_enumT {a : Addr} {ds : List D} {vs : List V} (z : ds.length ≤ sizeLine) (s : ∀ l H', Kq ρ H l H' → SqT K H' a vs ∧ RVs K ((ρ.nw H).to l) H' ds vs) : Wk K ρ H (pairUp 0 ds) (IteT K a) where
  sz := by rw [pairUp_len]; exact z
  go := fun l H' i d k e => by
    obtain ⟨sq, t⟩ := s l H' k
    obtain ⟨x, e1, _⟩ := pairUp_get ds 0 i d e
    obtain ⟨v, e2, _⟩ := t.get e1
    exact ⟨vs, v, sq, e2⟩
  stop := fun l H' k => by
    obtain ⟨sq, t⟩ := s l H' k
    exact ⟨vs, sq, by rw [pairUp_len, t.len]⟩
  yld := fun l H' i d x H2 k e y => by
    obtain ⟨T, z, rfl, hT, rfl, y⟩ := y
    obtain ⟨sq, t⟩ := s l H' k
    obtain ⟨x, e1, rfl⟩ := pairUp_get ds 0 i d e
    obtain ⟨v, e2, r⟩ := t.get e1
    have e3 := y vs sq
    rw [e2] at e3; cases e3
    refine ⟨.inr ⟨T, _, hT, rfl⟩, mk_pair (ρ := ρ.nw H) hT ?_ r⟩
    rw [Nat.zero_add]
    exact .mkInt _
theorem pi_enumG {X : Cx} {e t : Expr} {p pos : Pos} {xs : List Nat} {fa : Env → Sto → Out D} (ht : isTup t = true) (hg : Gl X "enumerate") (hm : X.mg "enumerate" = none) (ha : PE X e (TF (kw X) mg W xs fa)) (hs : noStar e = true) :
    PI X t (.Call (.Name "enumerate" p) [e] [] pos) (TFi (kw X) mg W xs fun ε S => (fa ε S).bind fun d S1 => .of S1 ((iterN d).map fun its => (its, d.still))) := by
  cases t with
  | Tuple es kk tp =>
    have s1 : starEach [e] X.env = [(false, eval e X.env)] := star_cons hs
    refine PI.imp (pi_enumA hg hm (pa_cons ha pa_nil s1) s1) fun σ H R q => ?_
    obtain ⟨ρ, ε, S, hs, hp, q⟩ := q
    refine TG0.go2 (xs := xs) (fun i m => m) hs hp q fun l v H1 d S1 s hs1 rp1 r q1 => ?_
    obtain ⟨dp, e0, q2⟩ := q1.ofH
    obtain ⟨its, e1, rfl⟩ := Option.map_eq_some_iff.mp e0
    simp only [iterN, Option.map_eq_some_iff] at e1
    obtain ⟨ds, e, rfl⟩ := e1
    have rp2 := hs1.rp rp1 xs
    cases d with
    | tup ds' =>
      cases e
      obtain ⟨a, vs, rfl, z, sq, s⟩ := tup_keep r
      refine ⟨a, vs, rfl, .inr ⟨sq, q2.here rp2 ⟨wk_enumT z s, fun st n => ?_⟩⟩⟩
      obtain ⟨a2, vs2, e2, z2, _, s2⟩ := tup_keep (RV.still (n := n) _ _ st r)
      cases e2
      exact wk_enumT z2 s2
    | lst ds' =>
      obtain ⟨a, vs, rfl, z, sq, s⟩ := lst_keep r e
      refine ⟨a, vs, rfl, .inl ⟨sq, q2.here rp2 ⟨wk_enum z s, fun st n => ?_⟩⟩⟩
      obtain ⟨a2, vs2, e2, z2, _, s2⟩ := lst_keep (RV.still (n := n) _ _ st r) e
      cases e2
      exact wk_enum z2 s2
    | rol ds' =>
      obtain ⟨a, vs, rfl, z, sq, s⟩ := lst_keep r e
      refine ⟨a, vs, rfl, .inl ⟨sq, q2.here rp2 ⟨wk_enum z s, fun st n => ?_⟩⟩⟩
      obtain ⟨a2, vs2, e2, z2, _, s2⟩ := lst_keep (RV.still (n := n) _ _ st r) e
      cases e2
      exact wk_enum z2 s2
    | _ => simp [seqOf] at e
  | _ => simp [isTup] at ht
theorem wk_zip {a b : Addr} {xs ys : List D} {vs ws : List V} (z : xs.length ≤ sizeLine) (s : ∀ l H', Kq ρ H l H' → SqL K H' a vs ∧ RVs K ((ρ.nw H).to l) H' xs vs) (s2 : ∀ l H', Kq ρ H l H' → SqL K H' b ws ∧ RVs K ((ρ.nw H).to l) H' ys ws) : Wk K ρ H (zipUp xs ys) (Itz K a b) where
  sz := Nat.le_trans (zipUp_le xs ys) z
  go := fun l H' i d k e => by
    obtain ⟨sq, t⟩ := s l H' k
    obtain ⟨sq2, t2⟩ := s2 l H' k
    obtain ⟨x, y, e1, e2, _⟩ := zipUp_get xs ys i d e
    obtain ⟨v, e3, _⟩ := t.get e1
    obtain ⟨w, e4, _⟩ := t2.get e2
    exact ⟨vs, ws, v, w, sq, sq2, e3, e4⟩
  stop := fun l H' k => by
    obtain ⟨sq, t⟩ := s l H' k
    obtain ⟨sq2, t2⟩ := s2 l H' k
    refine ⟨vs, ws, sq, sq2, ?_⟩
    rw [← t.len, ← t2.len]
    exact zipUp_len xs ys
  yld := fun l H' i d x H2 k e y => by
    obtain ⟨T, z, z2, rfl, hT, rfl, y, y2⟩ := y
    obtain ⟨sq, t⟩ := s l H' k
    obtain ⟨sq2, t2⟩ := s2 l H' k
    obtain ⟨x, y', e1, e2, rfl⟩ := zipUp_get xs ys i d e
    obtain ⟨v, e3, r⟩ := t.get e1
    obtain ⟨w, e4, r2⟩ := t2.get e2
    have e5 := y vs sq
    rw [e3] at e5; cases e5
    have e6 := y2 ws sq2
    rw [e4] at e6; cases e6
    exact ⟨.inr ⟨T, _, hT, rfl⟩, mk_pair (ρ := ρ.nw H) hT r r2⟩
theorem wk_zipT {a b : Addr} {xs ys : List D} {vs ws : List V} (z : xs.length ≤ sizeLine) (s : ∀ l H', Kq ρ H l H' → SqT K H' a vs ∧ RVs K ((ρ.nw H).to l) H' xs vs) (s2 : ∀ l H', Kq ρ H l H' → SqT K H' b ws ∧ RVs K ((ρ.nw H).to l) H' ys ws) : Wk K ρ H (zipUp xs ys) (RZ.ItzT K a b) where
  sz := Nat.le_trans (zipUp_le xs ys) z
  go := fun l H' i d k e => by
    obtain ⟨sq, t⟩ := s l H' k
    obtain ⟨sq2, t2⟩ := s2 l H' k
    obtain ⟨x, y, e1, e2, _⟩ := zipUp_get xs ys i d e
    obtain ⟨v, e3, _⟩ := t.get e1
    obtain ⟨w, e4, _⟩ := t2.get e2
    exact ⟨vs, ws, v, w, sq, sq2, e3, e4⟩
  stop := fun l H' k => by
    obtain ⟨sq, t⟩ := s l H' k
    obtain ⟨sq2, t2⟩ := s2 l H' k
    refine ⟨vs, ws, sq, sq2, ?_⟩
    rw [← t.len, ← t2.len]
    exact zipUp_len xs ys
  yld := fun l H' i d x H2 k e y => by
    obtain ⟨T, z, z2, rfl, hT, rfl, y, y2⟩ := y
    obtain ⟨sq, t⟩ := s l H' k
    obtain ⟨sq2, t2⟩ := s2 l H' k
    obtain ⟨x, y', e1, e2, rfl⟩ := zipUp_get xs ys i d e
    obtain ⟨v, e3, r⟩ := t.get e1
    obtain ⟨w, e4, r2⟩ := t2.get e2
    have e5 := y vs sq
    rw [e3] at e5; cases e5
    have e6 := y2 ws sq2
    rw [e4] at e6; cases e6
    exact ⟨.inr ⟨T, _, hT, rfl⟩, mk_pair (ρ := ρ.nw H) hT r r2⟩
theorem pi_zipG {X : Cx} {e e2 t : Expr} {p pos : Pos} {xa xb : List Nat} {fa fb : Env → Sto → Out D} (ht : isTup t = true) (hg : Gl X "zip") (hm : X.mg "zip" = none) (ha : PE X e (TF (kw X) mg W xa fa)) (hb : PE X e2 (TF (kw X) mg W xb fb)) (h1 : noStar e = true) (h2 : noStar e2 = true) :
    PI X t (.Call (.Name "zip" p) [e, e2] [] pos) (TFi (kw X) mg W (xa ++ xb) fun ε S => (fa ε S).bind fun d S1 => (fb ε S1).bind fun d' S2 => .of S2 ((iterZ d d').map fun its => (its, d.still && d'.still))) := by
  cases t with
  | Tuple es kk tp =>
    have s2 : starEach [e2] X.env = [(false, eval e2 X.env)] := star_cons h2
    have s1 : starEach [e, e2] X.env = (false, eval e X.env) :: starEach [e2] X.env := star_cons h1
    refine PI.imp (RZ.pi_zipA hg hm (pa_cons ha (pa_cons hb pa_nil s2) s1) s1 (by rw [s2]; rfl)) fun σ H R q => ?_
    obtain ⟨ρ, ε, S, hs, hp, q⟩ := q
    refine TG0.go2 (xs := xa ++ xb) (fun i m => List.mem_append_left _ m) hs hp q fun l v H1 d S1 s hs1 rp1 r q1 => ?_
    refine TG0.go2 (xs := xa ++ xb) (fun i m => List.mem_append_right _ m) hs1 rp1 q1 fun l2 v2 H2 d2 S2 sx2 hs2 rp2 r2 q2 => ?_
    have r' : RV (kw X) ((((ρ.to l).to l2)).plus (Av ε σ (xa ++ xb))) H2 d v := plus_anti (Av.anti (xs := xa) (ys := xa ++ xb) fun i m => List.mem_append_left _ m) (r.mono (hs1.rp rp1 _) sx2)
    have r2' := plus_anti (Av.anti (xs := xb) (ys := xa ++ xb) fun i m => List.mem_append_right _ m) r2
    obtain ⟨dp, e00, q3⟩ := q2.ofH
    obtain ⟨its, e0, rfl⟩ := Option.map_eq_some_iff.mp e00
    have rpx := hs2.rp rp2 (xa ++ xb)
    by_cases ht : ∃ xs ys, d = .tup xs ∧ d2 = .tup ys
    · obtain ⟨xs, ys, rfl, rfl⟩ := ht
      cases e0
      obtain ⟨a, vs, rfl, z, sq, s⟩ := tup_keep r'
      obtain ⟨b, ws, rfl, z2, sq2, s2⟩ := tup_keep r2'
      refine ⟨a, b, vs, ws, rfl, .inr ⟨sq, sq2, q3.here rpx ⟨wk_zipT z s s2, fun st n => ?_⟩⟩⟩
      rw [Bool.and_eq_true] at st
      obtain ⟨a2, vs2, e2, z2, _, s3⟩ := tup_keep (RV.still (n := n) _ _ st.1 r')
      obtain ⟨b2, ws2, e3, z3, _, s4⟩ := tup_keep (RV.still (n := n) _ _ st.2 r2')
      cases e2; cases e3
      exact wk_zipT z2 s3 s4
    · have e1 : ∃ xs ys, lstOf d = some xs ∧ lstOf d2 = some ys ∧ its = zipUp xs ys := by
        unfold iterZ at e0
        split at e0
        · exact absurd ⟨_, _, rfl, rfl⟩ ht
        · split at e0
          · rename_i xs ys e1 e2; cases e0; exact ⟨xs, ys, e1, e2, rfl⟩
          · cases e0
      obtain ⟨xs, ys, e1, e2, rfl⟩ := e1
      obtain ⟨a, vs, rfl, z, sq, s⟩ := lst_keep r' e1
      obtain ⟨b, ws, rfl, z2, sq2, s2⟩ := lst_keep r2' e2
      refine ⟨a, b, vs, ws, rfl, .inl ⟨sq, sq2, q3.here rpx ⟨wk_zip z s s2, fun st n => ?_⟩⟩⟩
      rw [Bool.and_eq_true] at st
      obtain ⟨a2, vs2, e3, z2, _, s3⟩ := lst_keep (RV.still (n := n) _ _ st.1 r') e1
      obtain ⟨b2, ws2, e4, z3, _, s4⟩ := lst_keep (RV.still (n := n) _ _ st.2 r2') e2
      cases e3; cases e4
      exact wk_zip z2 s3 s4
  | _ => simp [isTup] at ht
end
end GG
namespace GG
open PySem PySem.Spec PyProof.Rows L2
/-! ## the language -/
inductive Tg where
  | n (i : Nat)
  | t (ts : List Tg)
inductive Ty where
  | int | bool | str | tuple | list | dict
  deriving DecidableEq
/-- methods that change nothing -/
inductive Me where
  | join | upper | count
  deriving DecidableEq
inductive Dk where
  | keys | vals | items
  deriving DecidableEq
/-- built-in calls that make a new list or dict -/
inductive Mb where
  | list | dict | sorted
  deriving DecidableEq
inductive Ex where
  | v (i : Nat)
  | c (d : D)
  | g (x : Str) (d : D)
  | bop (o : Operator) (a b : Ex)
  | neg (a : Ex)
  | not (a : Ex)
  | cmp (o : CmpOp) (a b : Ex)
  | chain (o o' : CmpOp) (a b c : Ex)
  | and (a : Ex) (es : List Ex)
  | or (a : Ex) (es : List Ex)
  | ife (t a b : Ex)
  | tup (es : List Ex)
  | lst (es : List Ex)
  | dct (ks : List Key) (es : List Ex)
  | ix (a i : Ex)
  | sl (a : Ex) (lo hi : List Ex)
  | rev (a : Ex)
  | call (f : Nat) (es : List Ex)
  | bi (b : Bi) (es : List Ex)
  | isi (a : Ex) (t : Ty)
  | me (m : Me) (o : Ex) (es : List Ex)
  | lc (e : Ex) (own : List Nat) (tg : Tg) (it : Ex) (ifs : List Ex)
  | dc (kx vx : Ex) (own : List Nat) (tg : Tg) (it : Ex) (ifs : List Ex)
  | rng (es : List Ex)
  | enum (e : Ex)
  | zip (a b : Ex)
  | itv (e : Ex)
  | six (i j : Nat)
  | mkS (f : Nat) (es : List Ex)
  | dk (k : Dk) (e : Ex)
  | dget (o k d : Ex)
  | mkB (b : Mb) (e : Ex)
  | cat (sa sb : Bool) (a b : Ex)
mutual
/-- the slots that are read -/
def vs : Ex → List Nat
  | .v i => [i]
  | .c _ => []
  | .g _ _ => []
  | .bop _ a b => vs a ++ vs b
  | .neg a => vs a
  | .not a => vs a
  | .cmp _ a b => vs a ++ vs b
  | .chain _ _ a b c => vs a ++ (vs b ++ vs c)
  | .and a es => vs a ++ vss es
  | .or a es => vs a ++ vss es
  | .ife t a b => vs t ++ (vs a ++ vs b)
  | .tup es => vss es
  | .lst es => vss es
  | .dct _ es => vss es
  | .ix a i => vs a ++ vs i
  | .sl a lo hi => vs a ++ (vss lo ++ vss hi)
  | .rev a => vs a
  | .call _ es => vss es
  | .bi _ es => vss es
  | .isi a _ => vs a
  | .me _ o es => vs o ++ vss es
  | .lc e own _ it ifs => own ++ (vs it ++ (vss ifs ++ vs e))
  | .dc kx vx own _ it ifs => own ++ (vs it ++ (vss ifs ++ (vs kx ++ vs vx)))
  | .rng es => vss es
  | .enum e => vs e
  | .zip a b => vs a ++ vs b
  | .itv e => vs e
  | .six i _ => [i]
  | .mkS _ es => vss es
  | .dk _ e => vs e
  | .dget o k d => vs o ++ (vs k ++ vs d)
  | .mkB _ e => vs e
  | .cat _ _ a b => vs a ++ vs b
def vss : List Ex → List Nat
  | [] => []
  | e :: es => vs e ++ vss es
end
/-! ### its meaning -/
def kD : Key → D
  | .inl i => .int i
  | .inr x => .str x
def iterD (k : Dk) (kvs : List (Key × D)) : List D := match k with
  | .keys => kvs.map fun kv => kD kv.1
  | .vals => kvs.map (·.2)
  | .items => kvs.map fun kv => .tup [kD kv.1, kv.2]
def isDk : Ex → Bool
  | .dk _ _ => true
  | _ => false

mutual
def tgS : Tg → D → Env → Option Env
  | .n i, d, ε => if i < ε.length then some (ε.set i (.v d)) else none
  | .t ts, d, ε => match d with
    | .tup ds => tgsS ts ds ε
    | .lst ds => tgsS ts ds ε
    | _ => none
def tgsS : List Tg → List D → Env → Option Env
  | [], [], ε => some ε
  | t :: ts, d :: ds, ε => match tgS t d ε with
    | some ε1 => tgsS ts ds ε1
    | none => none
  | _, _, _ => none
end
def wipeE (ε : Env) : List Nat → Env
  | [] => ε
  | v :: vs => (wipeE ε vs).set v .u
def Sl.frz : Sl → Sl
  | .o d => .v d
  | s => s
def fzF (xs : List Nat) : Nat → Env → Env
  | _, [] => []
  | k, s :: r => (if xs.contains k then s.frz else s) :: fzF xs (k + 1) r
/-- the slots xs have nothing of their own any more -/
def fz (xs : List Nat) (ε : Env) : Env := fzF xs 0 ε
def noX {α : Type} : Out α → Out α
  | .exc _ _ _ => .bad
  | r => r
def lcLoop (tgt : D → Option Env) (cond : Env → Sto → Out Bool) (elt : Env → Sto → Out D) : List D → Sto → Out (List D)
  | [], S => .ok [] S
  | d :: r, S => match tgt d with
    | none => .bad
    | some ε => (noX (cond ε S)).bind fun b S1 =>
      if b = true then (noX (elt ε S1)).bind fun y S2 => (lcLoop tgt cond elt r S2).bind fun ys S3 => .ok (y :: ys) S3
      else lcLoop tgt cond elt r S1
def putD (kvs : List (Key × D)) (k : Key) (v : D) : List (Key × D) :=
  if hasK kvs k = true then kvs.map (fun kv => if kv.1 = k then (kv.1, v) else kv) else kvs ++ [(k, v)]
def dcLoop (tgt : D → Option Env) (cond : Env → Sto → Out Bool) (kx vx : Env → Sto → Out D) : List D → List (Key × D) → Sto → Out (List (Key × D))
  | [], acc, S => .ok acc S
  | d :: r, acc, S => match tgt d with
    | none => .bad
    | some ε => (noX (cond ε S)).bind fun b S1 =>
      if b = true then (noX (kx ε S1)).bind fun x S2 => match keyOf x with
        | some k => (noX (vx ε S2)).bind fun y S3 => dcLoop tgt cond kx vx r (putD acc k y) S3
        | none => .bad
      else dcLoop tgt cond kx vx r acc S1
def tyName : D → Option String
  | .non => some "NoneType"
  | .bl _ => some "bool"
  | .int _ => some "int"
  | .str _ => some "str"
  | .tup _ => some "tuple"
  | .rol _ => some "list"
  | .lst _ => some "list"
  | .dct _ => some "dict"
  | .stm _ => some "list"
  | .wdt _ => none
def Ty.name : Ty → String
  | .int => "int" | .bool => "bool" | .str => "str" | .tuple => "tuple" | .list => "list" | .dict => "dict"
def isiF (t : Ty) (d : D) : Option D := (tyName d).map fun n => .bl (decide (n = t.name) || (decide (n = "bool") && decide (t = .int)))
/-- what a method asks of its object -/
def meR : Me → D → Bool
  | .join, .str _ => true
  | .upper, .str _ => true
  | .count, .lst _ => true
  | .count, .rol _ => true
  | _, _ => false
def meF : Me → D → List D → Option D
  | .join, .str a, [d] => match (seqOf d).bind strsOf with
    | some ys => if (ys.map (·.length)).sum + ys.length * a.length ≤ 16777216 then some (.str (Txt.join a ys)) else none
    | none => none
  | .upper, .str a, [] => if a.length ≤ 5592405 then some (.str (Txt.upper a)) else none
  | .count, d, [.int k] => ((lstOf d).bind intsOf).map fun ns => .int (ns.count k)
  | _, _, _ => none
def mergeD (kvs more : List (Key × D)) : List (Key × D) := more.foldl (fun acc kv => putD acc kv.1 kv.2) kvs
/-- the items of a starred value, or the value -/
def itemsF (s : Bool) (d : D) : Option (List D) := if s = true then seqOf d else some [d]
def pairsOf : List D → Option (List (Key × D))
  | [] => some []
  | .tup [k, v] :: r => match keyOf k, pairsOf r with
    | some k, some kvs => some ((k, v) :: kvs)
    | _, _ => none
  | _ :: _ => none
/-- by code points -/
def strLt (a b : Str) : Bool := decide (a.cps.toList < b.cps.toList)
def insS {α : Type} (k : α → Str) (x : α) : List α → List α
  | [] => [x]
  | y :: r => if strLt (k x) (k y) = true then x :: y :: r else y :: insS k x r
def isort {α : Type} (k : α → Str) : List α → List α
  | [] => []
  | x :: r => insS k x (isort k r)
def headK : D → Str
  | .str x => x
  | .tup (.str x :: _) => x
  | _ => ""
def isStrD : D → Bool
  | .str _ => true
  | _ => false
def isTupD : D → Bool
  | .tup (.str _ :: _) => true
  | _ => false
def nodupS : List Str → Bool
  | [] => true
  | x :: r => !(r.contains x) && nodupS r
/-- texts, or tuples whose first texts differ -/
def sortL (ds : List D) : Option (List D) := if ds.all isStrD = true ∧ ds.length < 64 then some (isort headK ds) else if ds.all isTupD = true ∧ nodupS (ds.map headK) = true ∧ ds.length < 64 then some (isort headK ds) else none
def mbF (b : Mb) (d : D) : Option D := match b with
  | .list => match d with
    | .dct kvs => if kvs.length ≤ sizeLine then some (.lst (kvs.map fun kv => kD kv.1)) else none
    | d => (seqOf d).map .lst
  | .dict => match d with
    | .dct kvs => some (.dct kvs)
    | d => ((lstOf d).bind pairsOf).map fun kvs => .dct (mergeD [] kvs)
  | .sorted => ((lstOf d).bind sortL).map .lst
/-- a stream's numbers -/
def t3 (t : Int × Int × Int) : Nat → Option Int
  | 0 => some t.1
  | 1 => some t.2.1
  | 2 => some t.2.2
  | _ => none
def t3set (t : Int × Int × Int) (x : Int) : Nat → Option (Int × Int × Int)
  | 0 => some (x, t.2.1, t.2.2)
  | 1 => some (t.1, x, t.2.2)
  | 2 => some (t.1, t.2.1, x)
  | _ => none
def sixF (d : D) (j : Nat) (S : Sto) : Option D :=
  match d with
  | .stm k => (S[k]?).bind fun t => (t3 t j).map .int
  | _ => none
def mkF (d : D) (S : Sto) : Out D :=
  match d with
  | .lst [.int a, .int b, .int c] => .ok (.stm S.length) (S ++ [(a, b, c)])
  | _ => .bad
def asInt (d : D) : Option (Option Int) :=
  match d with
  | .int i => some (some i)
  | _ => none
section
variable (cl : Nat → List D → Sto → Out D)
mutual
def evE : Ex → Env → Sto → Out D
  | .v i => fun ε S => .of S (rdE ε i)
  | .c d => fun _ S => .ok d S
  | .g _ d => fun _ S => .ok d S
  | .bop o a b => fun ε S => (evE a ε S).bind fun x S1 => (evE b ε S1).bind fun y S2 => .of S2 (binF o x y)
  | .neg a => fun ε S => (evE a ε S).bind fun x S1 => match x with
    | .int i => .ok (.int (-i)) S1
    | _ => .bad
  | .not a => fun ε S => (evE a ε S).bind fun x S1 => (Out.of S1 (tru x)).bind fun b S2 => .ok (.bl (!b)) S2
  | .cmp o a b => fun ε S => (evE a ε S).bind fun x S1 => (evE b ε S1).bind fun y S2 => .of S2 (cmpF o x y)
  | .chain o o' a b c => fun ε S => (evE a ε S).bind fun x S1 => (evE b ε S1).bind fun y S2 => (Out.of S2 (cmpF o x y)).bind fun r S3 => match r with
    | .bl true => (evE c ε S3).bind fun z S4 => .of S4 (cmpF o' y z)
    | .bl false => .ok (.bl false) S3
    | _ => .bad
  | .and a es => fun ε S => (evE a ε S).bind fun x S1 => evAnd es x ε S1
  | .or a es => fun ε S => (evE a ε S).bind fun x S1 => evOr es x ε S1
  | .ife t a b => fun ε S => (evE t ε S).bind fun x S1 => (Out.of S1 (tru x)).bind fun k S2 => if k = true then evE a ε S2 else evE b ε S2
  | .tup es => fun ε S => (evEs es ε S).bind fun ds S1 => if ds.length ≤ sizeLine then .ok (.tup ds) S1 else .bad
  | .lst es => fun ε S => (evEs es ε S).bind fun ds S1 => if ds.length ≤ sizeLine then .ok (.lst ds) S1 else .bad
  | .dct ks es => fun ε S => (evEs es ε S).bind fun ds S1 => if ds.length ≤ 15 then .ok (.dct (mergeD [] (ks.zip ds))) S1 else .bad
  | .ix a i => fun ε S => (evE a ε S).bind fun x S1 => (evE i ε S1).bind fun y S2 => .of S2 (opIx x y)
  | .sl a lo hi => fun ε S => (evE a ε S).bind fun x S1 => (evO lo ε S1).bind fun l S2 => (evO hi ε S2).bind fun h S3 => .of S3 (opSl x l h)
  | .rev a => fun ε S => (evE a ε S).bind fun x S1 => .of S1 (opRev x)
  | .call f es => fun ε S => (evEs es ε S).bind fun ds S1 => cl f ds S1
  | .bi b es => fun ε S => (evEs es ε S).bind fun ds S1 => .of S1 (biF b ds)
  | .isi a t => fun ε S => (evE a ε S).bind fun x S1 => .of S1 (isiF t x)
  | .me m o es => fun ε S => (evE o ε S).bind fun x S1 => if meR m x = true then (evEs es ε S1).bind fun ds S2 => .of S2 (meF m x ds) else .bad
  | .lc e own tg it ifs => fun ε S => (evI it ε S).bind fun p S1 =>
    (lcLoop (fun d => tgS tg d (wipeE (fz (vs (.lc e own tg it ifs)) ε) own)) (evTs ifs) (evE e) p.1 S1).bind fun ys S2 => .ok (.lst ys) S2
  | .dc kx vx own tg it ifs => fun ε S => (evI it ε S).bind fun p S1 =>
    (dcLoop (fun d => tgS tg d (wipeE (fz (vs (.dc kx vx own tg it ifs)) ε) own)) (evTs ifs) (evE kx) (evE vx) p.1 [] S1).bind fun kvs S2 => .ok (.dct kvs) S2
  | .rng _ => fun _ _ => .bad
  | .enum _ => fun _ _ => .bad
  | .zip _ _ => fun _ _ => .bad
  | .itv _ => fun _ _ => .bad
  | .six i j => fun ε S => .of S ((rdE ε i).bind fun d => sixF d j S)
  | .mkS f es => fun ε S => (evEs es ε S).bind fun ds S1 => (cl f ds S1).bind mkF
  | .dk _ _ => fun _ _ => .bad
  | .cat sa sb a b => fun ε S => (evE a ε S).bind fun x S1 => match itemsF sa x with
    | some xs => (evE b ε S1).bind fun y S2 => (match itemsF sb y with
      | some ys => if (xs ++ ys).length ≤ sizeLine then .ok (.tup (xs ++ ys)) S2 else .bad
      | none => .bad)
    | none => .bad
  | .mkB b e => fun ε S => (evE e ε S).bind fun d S1 => .of S1 (mbF b d)
  | .dget o k d => fun ε S => (evE o ε S).bind fun x S1 => match x with
    | .dct kvs => (evE k ε S1).bind fun y S2 => (evE d ε S2).bind fun z S3 => .of S3 ((keyOf y).map fun k => (getK kvs k).getD z)
    | _ => .bad
def evEs : List Ex → Env → Sto → Out (List D)
  | [] => fun _ S => .ok [] S
  | e :: es => fun ε S => (evE e ε S).bind fun x S1 => (evEs es ε S1).bind fun xs S2 => .ok (x :: xs) S2
def evAnd : List Ex → D → Env → Sto → Out D
  | [] => fun x _ S => .ok x S
  | e :: es => fun x ε S => (Out.of S (tru x)).bind fun b S1 => if b = true then (evE e ε S1).bind fun y S2 => evAnd es y ε S2 else .ok x S1
def evOr : List Ex → D → Env → Sto → Out D
  | [] => fun x _ S => .ok x S
  | e :: es => fun x ε S => (Out.of S (tru x)).bind fun b S1 => if b = true then .ok x S1 else (evE e ε S1).bind fun y S2 => evOr es y ε S2
def evO : List Ex → Env → Sto → Out (Option Int)
  | [] => fun _ S => .ok none S
  | e :: _ => fun ε S => (evE e ε S).bind fun d S1 => .of S1 (asInt d)
/-- the tests of a comprehension: none or one -/
def evTs : List Ex → Env → Sto → Out Bool
  | [] => fun _ S => .ok true S
  | e :: _ => fun ε S => (evE e ε S).bind fun d S1 => .of S1 (tru d)
/-- what is walked; that nothing of it can change -/
def evI : Ex → Env → Sto → Out (List D × Bool)
  | .rng es => fun ε S => (evEs es ε S).bind fun ds S1 => .of S1 ((iterR ds).map fun its => (its, true))
  | .enum e => fun ε S => (evE e ε S).bind fun d S1 => .of S1 ((iterN d).map fun its => (its, d.still))
  | .zip a b => fun ε S => (evE a ε S).bind fun d S1 => (evE b ε S1).bind fun d' S2 => .of S2 ((iterZ d d').map fun its => (its, d.still && d'.still))
  | .itv e => fun ε S => (evE e ε S).bind fun d S1 => .of S1 ((iterV d).map fun its => (its, d.still))
  | .dk k e => fun ε S => (evE e ε S).bind fun d S1 => match d with
    | .dct kvs => if kvs.length ≤ sizeLine then .ok (iterD k kvs, false) S1 else .bad
    | _ => .bad
  | _ => fun _ _ => .bad
end
end
/-! ## statements -/
inductive Sm where
  | ret (e : Ex)
  | retN
  | set (tg : Tg) (e : Ex)
  | aug (i : Nat) (o : Operator) (e : Ex)
  | par (i j : Nat) (a b : Ex)
  | pars (is : List Nat) (es : List Ex)
  | put (i : Nat) (k e : Ex)
  | app (i : Nat) (e : Ex)
  | ext (i : Nat) (e : Ex)
  | upd (i : Nat) (e : Ex)
  | apop (i j : Nat) (e : Ex)
  | sput (i j : Nat) (e : Ex)
  | ife (c : Ex) (t e : List Sm)
  | for_ (tg : Tg) (it : Ex) (b : List Sm)
  | forD (tg : Tg) (k : Dk) (e : Ex) (b : List Sm)
  | while_ (c : Ex) (b : List Sm)
  | ex (e : Ex)
  | pass
  | brk
  | cont
  | never
  | setA (i : Nat) (e : Ex)
inductive Fl where
  | nx (ε : Env)
  | rt (d : D)
  | bk (ε : Env)
  | ct (ε : Env)
inductive OutS where
  | ok (f : Fl) (S : Sto)
  | exc (c : Str) (v : Option (Str × D)) (ε : Env) (S : Sto)
  | bad
/-- an expression's outcome within a statement -/
def Out.on {α : Type} (r : Out α) (ε : Env) (g : α → Sto → OutS) : OutS :=
  match r with
  | .ok a S => g a S
  | .exc c v S => .exc c v ε S
  | .bad => .bad
def OutS.seq (r : OutS) (g : Env → Sto → OutS) : OutS :=
  match r with
  | .ok (.nx ε) S => g ε S
  | r => r
def forLoop (tgt : D → Env → Option Env) (body : Env → Sto → OutS) : List D → Env → Sto → OutS
  | [], ε, S => .ok (.nx ε) S
  | d :: r, ε, S => match tgt d ε with
    | none => .bad
    | some ε1 => match body ε1 S with
      | .ok (.nx ε2) S2 => forLoop tgt body r ε2 S2
      | .ok (.ct ε2) S2 => forLoop tgt body r ε2 S2
      | .ok (.bk ε2) S2 => .ok (.nx ε2) S2
      | .ok (.rt v) S2 => .ok (.rt v) S2
      | .exc c v ε2 S2 => .exc c v ε2 S2
      | .bad => .bad
/-- no error in a walk over a dict -/
def noXS : OutS → OutS
  | .exc _ _ _ _ => .bad
  | r => r
def whileLoop (cond : Env → Sto → Out Bool) (body : Env → Sto → OutS) : Nat → Env → Sto → OutS
  | 0, _, _ => .bad
  | n + 1, ε, S => (cond ε S).on ε fun b S1 => if b = true then (match body ε S1 with
      | .ok (.nx ε2) S2 => whileLoop cond body n ε2 S2
      | .ok (.ct ε2) S2 => whileLoop cond body n ε2 S2
      | .ok (.bk ε2) S2 => .ok (.nx ε2) S2
      | .ok (.rt v) S2 => .ok (.rt v) S2
      | .exc c v ε2 S2 => .exc c v ε2 S2
      | .bad => .bad) else .ok (.nx ε) S1
/-- it makes a new list or dict, held by nobody -/
def fresh : Ex → Bool
  | .lst _ => true
  | .lc _ _ _ _ _ => true
  | .dct _ _ => true
  | .dc _ _ _ _ _ _ => true
  | .mkB _ _ => true
  | _ => false
/-- the slots behind a value that comes from e -/
def fzV (e : Ex) (d : D) (ε : Env) : Env := if d.still = true then ε else fz (vs e) ε
def fzN (e : Ex) (d : D) (ε : Env) : Env := if d.still1 = true then ε else fz (vs e) ε
/-- what cannot be the own thing of a slot: it is of the other kind, and holds nothing that can change -/
def apart (d : D) (s : Option Sl) : Bool :=
  match d, s with
  | .lst ds, some (.o (.dct _)) => D.stills ds
  | .dct kvs, some (.o (.lst _)) => D.stills (kvs.map (·.2))
  | _, _ => false
def fzA (e : Ex) (d : D) (ε : Env) : Env := fz ((vs e).filter fun i => !apart d ε[i]?) ε
def setF (tg : Tg) (e : Ex) (d : D) (ε : Env) : Option Env :=
  match tg with
  | .n i => if fresh e = true then (if i < ε.length then some ((fzN e d ε).set i (.o d)) else none) else tgS (.n i) d (fzV e d ε)
  | tg => tgS tg d (fzV e d ε)
def putF (o k d : D) : Option D :=
  match o with
  | .lst ds => match k with
    | .int j => (ixN ds.length j).map fun n => .lst (ds.set n d)
    | _ => none
  | .dct kvs => (keyOf k).bind fun k => if kvs.length < sizeLine then some (.dct (putD kvs k d)) else none
  | _ => none
def appF (o d : D) : Option D :=
  match o with
  | .lst ds => if ds.length < sizeLine then some (.lst (ds ++ [d])) else none
  | _ => none
def extF (o d : D) : Option D :=
  match o, d with
  | .lst ds, .lst es => if ds.length + es.length ≤ sizeLine then some (.lst (ds ++ es)) else none
  | _, _ => none
def updF (o d : D) : Option D :=
  match o, d with
  | .dct ks, .dct ls => if ks.length + ls.length ≤ sizeLine then some (.dct (mergeD ks ls)) else none
  | _, _ => none
/-- the slot's own thing becomes another one -/
def chg (ε : Env) (i : Nat) (f : D → Option D) : Option Env :=
  match ε[i]? with
  | some (.o o) => (f o).map fun o' => ε.set i (.o o')
  | _ => none
def sputF (o : Option D) (d : D) (j : Nat) (S : Sto) : Option Sto :=
  match o, d with
  | some (.stm k), .int x => (S[k]?).bind fun t => (t3set t x j).map fun t' => S.set k t'
  | _, _ => none
def ownB (ε : Env) (i : Nat) : Bool :=
  match ε[i]? with
  | some (.o _) => true
  | _ => false
def ownD (ε : Env) (i : Nat) : Bool :=
  match ε[i]? with
  | some (.o (.dct _)) => true
  | _ => false
def ownL (ε : Env) (i : Nat) : Bool :=
  match ε[i]? with
  | some (.o (.lst _)) => true
  | _ => false
/-- xs.append(ys.pop(k)) -/
def apopF (ε : Env) (i j : Nat) (d : D) : Option Env :=
  match d, ε[i]?, ε[j]? with
  | .int k, some (.o (.lst xs)), some (.o (.lst ys)) => if -(2 ^ 63) ≤ k ∧ k < 2 ^ 63 then (match seqIndex? k ys.length with
    | some m => (match ys[m]? with
      | some y => if xs.length < sizeLine then some ((ε.set j (.o (.lst (ys.eraseIdx m)))).set i (.o (.lst (xs ++ [y])))) else none
      | none => none)
    | none => none) else none
  | _, _, _ => none
def wFuel : Nat := 1000000
def onO {α : Type} (o : Option α) (g : α → OutS) : OutS :=
  match o with
  | some a => g a
  | none => .bad
def setAll : List Nat → List Sl → Env → Env
  | i :: is, s :: G, ε => setAll is G (ε.set i s)
  | _, _, ε => ε
section
variable (cl : Nat → List D → Sto → Out D)
/-- several values, kept aside -/
def evP : List Ex → Env → List Sl → Sto → (Env → List Sl → Sto → OutS) → OutS
  | [], ε, G, S, kk => kk ε G S
  | e :: es, ε, G, S, kk => (evE cl e ε S).on ε fun d S1 => if fresh e = true then evP es (fzN e d ε) (G ++ [.o d]) S1 kk else evP es (fzV e d ε) (G ++ [.v d]) S1 kk
mutual
def evS : Sm → Env → Sto → OutS
  | .ret e => fun ε S => (evE cl e ε S).on ε fun d S1 => .ok (.rt d) S1
  | .retN => fun ε S => .ok (.rt .non) S
  | .set tg e => fun ε S => (evE cl e ε S).on ε fun d S1 => onO (setF tg e d ε) fun ε1 => .ok (.nx ε1) S1
  | .aug i o e => fun ε S => onO (rdE ε i) fun x => (evE cl e ε S).on ε fun y S1 => onO (binF o x y) fun d => if d.still = true ∧ i < ε.length then .ok (.nx (ε.set i (.v d))) S1 else .bad
  | .par i j a b => fun ε S => (evE cl a ε S).on ε fun x S1 => (evE cl b ε S1).on ε fun y S2 => if i < ε.length ∧ j < ε.length then .ok (.nx (((fzV a x (fzV b y ε)).set i (.v x)).set j (.v y))) S2 else .bad
  | .pars is es => fun ε S => evP cl es ε [] S fun ε G S1 => if is.all (· < ε.length) = true then .ok (.nx (setAll is G ε)) S1 else .bad
  | .put i k e => fun ε S => if ownB ε i = true then (evE cl e ε S).on ε fun d S1 => (evE cl k ε S1).on ε fun y S2 => onO (chg (fzV e d ε) i fun o => putF o y d) fun ε1 => .ok (.nx ε1) S2 else .bad
  | .app i e => fun ε S => if ownL ε i = true then (evE cl e ε S).on ε fun d S1 => onO (chg (fzV e d ε) i fun o => appF o d) fun ε1 => .ok (.nx ε1) S1 else .bad
  | .ext i e => fun ε S => if ownL ε i = true then (evE cl e ε S).on ε fun d S1 => onO (chg (fzN e d ε) i fun o => extF o d) fun ε1 => .ok (.nx ε1) S1 else .bad
  | .upd i e => fun ε S => if ownD ε i = true then (evE cl e ε S).on ε fun d S1 => onO (chg (fzN e d ε) i fun o => updF o d) fun ε1 => .ok (.nx ε1) S1 else .bad
  | .apop i j e => fun ε S => if ownL ε i = true ∧ ownL ε j = true then (evE cl e ε S).on ε fun d S1 => onO (apopF ε i j d) fun ε1 => .ok (.nx ε1) S1 else .bad
  | .sput i j e => fun ε S => (evE cl e ε S).on ε fun d S1 => onO (sputF (rdE ε i) d j S1) fun S2 => .ok (.nx ε) S2
  | .ife c t e => fun ε S => ((evE cl c ε S).bind fun d S1 => .of S1 (tru d)).on ε fun b S1 => if b = true then evSs t ε S1 else evSs e ε S1
  | .for_ tg it b => fun ε S => (evI cl it ε S).on ε fun p S1 => forLoop (tgS tg) (evSs b) p.1 (if p.2 = true then ε else fz (vs it) ε) S1
  | .forD tg k e b => fun ε S => (evI cl (.dk k e) ε S).on ε fun p S1 => noXS (forLoop (tgS tg) (evSs b) p.1 (fz (vs e) ε) S1)
  | .while_ c b => fun ε S => whileLoop (fun ε S => (evE cl c ε S).bind fun d S1 => .of S1 (tru d)) (evSs b) wFuel ε S
  | .ex e => fun ε S => (evE cl e ε S).on ε fun _ S1 => .ok (.nx ε) S1
  | .pass => fun ε S => .ok (.nx ε) S
  | .brk => fun ε S => .ok (.bk ε) S
  | .cont => fun ε S => .ok (.ct ε) S
  | .never => fun _ _ => .bad
  | .setA i e => fun ε S => (evE cl e ε S).on ε fun d S1 => onO (tgS (.n i) d (fzA e d ε)) fun ε1 => .ok (.nx ε1) S1
def evSs : List Sm → Env → Sto → OutS
  | [] => fun ε S => .ok (.nx ε) S
  | s :: r => fun ε S => (evS s ε S).seq (evSs r)
end
end
end GG
namespace GG
open PySem PySem.Spec PyProof.Rows L2
/-! ## which syntax a term of the language stands for -/
structure Cn where
  N : List Str
  fns : List (Str × Nat)
  gt : List (Str × D)
  mkr : Nat
def visB (sc : Scope) (x : Str) : Bool := match sc.names.lookup x with
  | some .local => true
  | some .cell => true
  | some .free => true
  | _ => false
def locB (sc : Scope) (x : Str) : Bool := match sc.names.lookup x with
  | some .local => true
  | some .cell => true
  | _ => false
def glB (sc : Scope) (x : Str) : Bool := decide (sc.names.lookup x = some .globalImplicit)
def plainN (x : Str) : Bool := !(x == ("__debug__" : Str)) && !(x == ("__classdict__" : Str)) && !decide (x = ("__name__" : Str))
def noSlice : Expr → Bool
  | .Slice _ _ _ _ => false
  | _ => true
def noCall0 : Expr → Bool
  | .Call _ _ _ _ => false
  | _ => true
def noSet : Expr → Bool
  | .Set _ _ _ => false
  | _ => true
def noComp : Expr → Bool
  | .ListComp _ _ _ _ => false
  | .SetComp _ _ _ _ => false
  | .DictComp _ _ _ _ _ => false
  | _ => true
def constIs : D → Const → Bool
  | .non, .none => true
  | .bl b, .bool b' => decide (b = b')
  | .int i, .int j => decide (i = j)
  | .str x, .str y => decide (x = y)
  | _, _ => false
def Me.name : Me → Str
  | .join => "join" | .upper => "upper" | .count => "count"
def Me.ar : Me → Nat
  | .join => 1 | .upper => 0 | .count => 1
mutual
def mG (okN : Str → Bool) (N : List Str) : Tg → Expr → Bool
  | .n i => fun e => match e with
    | .Name x _ => decide (N[i]? = some x) && okN x
    | _ => false
  | .t ts => fun e => match e with
    | .Tuple es _ _ => mGs okN N ts es
    | _ => false
def mGs (okN : Str → Bool) (N : List Str) : List Tg → List Expr → Bool
  | [] => fun es => match es with
    | [] => true
    | _ => false
  | t :: ts => fun es => match es with
    | e :: es => mG okN N t e && noStar e && mGs okN N ts es
    | _ => false
end
mutual
def tgIn (own : List Nat) : Tg → Bool
  | .n i => decide (i ∈ own)
  | .t ts => tgsIn own ts
def tgsIn (own : List Nat) : List Tg → Bool
  | [] => true
  | t :: ts => tgIn own t && tgsIn own ts
end
def ownOf (N : List Str) (own : List Nat) : List (Str × Nat) := own.map fun i => (N.getD i "", i)
def blkN (scope sc : Scope) (x : Str) : Bool := match (relS scope sc).names.lookup x with
  | some .local => true
  | some .cell => scope.names.lookup x == some .cell
  | _ => false
/-- written keys -/
def keyIsC : Key → Expr → Bool
  | .inl i, .Constant (.int j) _ _ => decide (i = j)
  | .inr x, .Constant (.str y) _ _ => decide (x = y)
  | _, _ => false
def mK : List Key → List (Option Expr) → Bool
  | [], [] => true
  | k :: ks, some e :: es => keyIsC k e && mK ks es
  | _, _ => false
def revStep : Expr → Bool
  | .UnaryOp .USub (.Constant (.int i) _ _) _ => decide (i = 1)
  | _ => false
/-- the syntax of a walk over a dict -/
def mDk (k : Dk) (t x : Expr) : Option Expr := match k with
  | .keys => some x
  | .vals => match x with
    | .Call (.Attribute e nm ap) [] [] cp => if decide (nm = "values") && noCall0 e && (ap.endLine == cp.line) then some e else none
    | _ => none
  | .items => match x with
    | .Call (.Attribute e nm ap) [] [] cp => if decide (nm = "items") && noCall0 e && (ap.endLine == cp.line) && isTup t then some e else none
    | _ => none
def unstar (s : Bool) (e : Expr) : Option Expr := if s = true then (match e with
  | .Starred e _ => some e
  | _ => none) else if noStar e = true then some e else none
def Mb.name : Mb → Str
  | .list => "list" | .dict => "dict" | .sorted => "sorted"
section
variable (cn : Cn)
mutual
def mE : Ex → Scope → Expr → Bool
  | .v i => fun sc e => match e with
    | .Name x _ => decide (cn.N[i]? = some x) && visB sc x && plainN x
    | _ => false
  | .c d => fun sc e => match e with
    | .Constant k _ _ => constIs d k
    | _ => false
  | .g x d => fun sc e => match e with
    | .Name y _ => decide (x = y) && glB sc x && plainN x && decide (cn.gt.lookup x = some d)
    | _ => false
  | .bop o a b => fun sc e => match e with
    | .BinOp l o' r _ => decide (o = o') && mE a sc l && mE b sc r
    | _ => false
  | .neg a => fun sc e => match e with
    | .UnaryOp .USub l _ => mE a sc l
    | _ => false
  | .not a => fun sc e => match e with
    | .UnaryOp .Not l _ => mE a sc l
    | _ => false
  | .cmp o a b => fun sc e => match e with
    | .Compare l [o'] [r] _ => decide (o = o') && mE a sc l && mE b sc r && noSet r
    | _ => false
  | .chain o o2 a b c => fun sc e => match e with
    | .Compare l [p, p2] [m, r] _ => decide (o = p) && decide (o2 = p2) && mE a sc l && mE b sc m && mE c sc r && noSet r
    | _ => false
  | .and a es => fun sc e => match e with
    | .BoolOp .And (l :: vs) _ => mE a sc l && mEs es sc vs && !vs.isEmpty
    | _ => false
  | .or a es => fun sc e => match e with
    | .BoolOp .Or (l :: vs) _ => mE a sc l && mEs es sc vs && !vs.isEmpty
    | _ => false
  | .ife t a b => fun sc e => match e with
    | .IfExp c l r _ => mE t sc c && mE a sc l && mE b sc r
    | _ => false
  | .tup es => fun sc e => match e with
    | .Tuple vs _ _ => mEs es sc vs
    | _ => false
  | .lst es => fun sc e => match e with
    | .List vs _ => mEs es sc vs
    | _ => false
  | .dct ks es => fun sc e => match e with
    | .Dict keys vs _ => mK ks keys && mEs es sc vs && decide (ks.length = es.length) && decide (ks.length ≤ 15)
    | _ => false
  | .ix a i => fun sc e => match e with
    | .Subscript l s _ => mE a sc l && mE i sc s && noSlice s
    | _ => false
  | .sl a lo hi => fun sc e => match e with
    | .Subscript l (.Slice lo' hi' none _) _ => mE a sc l && mO lo sc lo' && mO hi sc hi'
    | _ => false
  | .rev a => fun sc e => match e with
    | .Subscript l (.Slice none none (some st) _) _ => mE a sc l && revStep st
    | _ => false
  | .call f es => fun sc e => match e with
    | .Call (.Name x _) (v :: vs) [] _ => decide (cn.fns[f]? = some (x, es.length)) && glB sc x && plainN x && mEs es sc (v :: vs)
    | _ => false
  | .bi b es => fun sc e => match e with
    | .Call (.Name x _) (v :: vs) [] _ => decide (x = b.name) && glB sc x && mEs es sc (v :: vs)
    | _ => false
  | .isi a t => fun sc e => match e with
    | .Call (.Name x _) [v, .Name y _] [] _ => decide (x = "isinstance") && glB sc x && mE a sc v && noStar v && decide (y = Str.ofString t.name) && glB sc y
    | _ => false
  | .me m o es => fun sc e => match e with
    | .Call (.Attribute v nm ap) vs [] cp => decide (nm = m.name) && mE o sc v && mEs es sc vs && noCall0 v && (ap.endLine == cp.line) && decide (es.length = m.ar)
    | _ => false
  | .lc e own tg it ifs => fun sc e' => match e' with
    | .ListComp el [⟨t, i, fs, 0⟩] scope _ => blkC cn.N sc scope (ownOf cn.N own) && mG (blkN scope sc) cn.N tg t && tgIn own tg && mI it sc i t && noSet i && mTs ifs (relS scope sc) fs && mE e (relS scope sc) el
    | _ => false
  | .dc kx vx own tg it ifs => fun sc e' => match e' with
    | .DictComp ek evx [⟨t, i, fs, 0⟩] scope _ => blkC cn.N sc scope (ownOf cn.N own) && mG (blkN scope sc) cn.N tg t && tgIn own tg && mI it sc i t && noSet i && mTs ifs (relS scope sc) fs && mE kx (relS scope sc) ek && mE vx (relS scope sc) evx
    | _ => false
  | .rng _ => fun sc e => false
  | .enum _ => fun sc e => false
  | .zip _ _ => fun sc e => false
  | .itv _ => fun sc e => false
  | .dk _ _ => fun sc e => false
  | .cat sa sb a b => fun sc e => match e with
    | .Tuple [l, r] _ _ => (match unstar sa l, unstar sb r with
      | some l', some r' => mE a sc l' && mE b sc r'
      | _, _ => false)
    | _ => false
  | .mkB b a => fun sc e => match e with
    | .Call (.Name x _) [v] [] _ => decide (x = b.name) && glB sc x && mE a sc v && noStar v
    | _ => false
  | .dget o k d => fun sc e => match e with
    | .Call (.Attribute v nm ap) [a, b] [] cp => decide (nm = "get") && mE o sc v && mE k sc a && mE d sc b && noStar a && noStar b && noCall0 v && (ap.endLine == cp.line)
    | _ => false
  | .six i j => fun sc e => match e with
    | .Subscript (.Name x p) (.Constant (.int z) _ _) _ => decide (cn.N[i]? = some x) && visB sc x && plainN x && decide (z = (j : Int))
    | _ => false
  | .mkS f es => fun sc e => match e with
    | .Call (.Name x _) (v :: vs) [] _ => decide (f = cn.mkr) && decide (cn.fns[f]? = some (x, es.length)) && glB sc x && plainN x && mEs es sc (v :: vs)
    | _ => false
def mEs : List Ex → Scope → List Expr → Bool
  | [] => fun sc es => match es with
    | [] => true
    | _ => false
  | a :: r => fun sc es => match es with
    | e :: es => mE a sc e && noStar e && mEs r sc es
    | _ => false
def mO : List Ex → Scope → Option Expr → Bool
  | [] => fun sc o => match o with
    | none => true
    | _ => false
  | a :: r => fun sc o => match o with
    | some e => mE a sc e && r.isEmpty
    | _ => false
def mTs : List Ex → Scope → List Expr → Bool
  | [] => fun sc es => match es with
    | [] => true
    | _ => false
  | a :: r => fun sc es => match es with
    | [e] => mE a sc e && r.isEmpty
    | _ => false
def mI : Ex → Scope → Expr → Expr → Bool
  | .itv a => fun sc e t => mE a sc e
  | .dk k a => fun sc e t => match mDk k t e with
    | some e' => mE a sc e'
    | none => false
  | .rng es => fun sc e t => match e with
    | .Call (.Name x _) (v :: vs) [] _ => decide (x = "range") && glB sc x && mEs es sc (v :: vs) && decide (vs.length ≤ 2)
    | _ => false
  | .enum a => fun sc e t => match e with
    | .Call (.Name x _) [v] [] _ => decide (x = "enumerate") && glB sc x && mE a sc v && noStar v && isTup t
    | _ => false
  | .zip a b => fun sc e t => match e with
    | .Call (.Name x _) [v, w] [] _ => decide (x = "zip") && glB sc x && mE a sc v && mE b sc w && noStar v && noStar w && isTup t
    | _ => false
  | _ => fun sc e t => false
end
end
theorem blockK {env : PySem.Env} (h : env.scope.kind = .function) : env.blockKind = .function := by
  unfold Env.blockKind; rw [h]; rfl
theorem sw_two {x y : Str} {px py pt p2 : Pos} {kt k2 : Nat} {a b : Expr} {env : PySem.Env} (hk : env.scope.kind = .function) (hx : env.scope.names.lookup x = some .local) (hy : env.scope.names.lookup y = some .local) (hne : x ≠ y)
    (hl : (py.line == px.line) = true) (ha : noStar a = true) (hb : noStar b = true) (h1 : (foldedForSure 8 a && foldedForSure 8 b) = false) (h2 : (constantsAlone 8 a && constantsAlone 8 b) = false) :
    swappedStores [.Tuple [.Name x px, .Name y py] kt pt] (.Tuple [a, b] k2 p2) env = pure (some [x, y]) := by
  have kx : env.kindOf x = some .local := hx
  have ky : env.kindOf y = some .local := hy
  have hb' : env.blockKind = .function := blockK hk
  have sa : ∀ {e : Expr}, noStar e = true → (match e with | .Starred .. => true | _ => false) = false := fun {e} h => by
    cases e <;> first | rfl | (simp [noStar] at h)
  have st : ([a, b].any fun | .Starred .. => true | _ => false) = false := by
    simp only [List.any_cons, List.any_nil, Bool.or_false, Bool.or_eq_false_iff]
    exact ⟨sa ha, sa hb⟩
  have hl' : py.line = px.line := eq_of_beq hl
  have hd : ([x, y].eraseDups.length != [x, y].length) = false := by
    have : (y == x) = false := beq_eq_false_iff_ne.mpr (Ne.symm hne)
    simp [List.eraseDups_cons, this]
  unfold swappedStores
  simp only [hb']
  refine Eq.trans (if_neg fun q => ?_) ?_
  · have q' : (false : Bool) = true := q
    cases q'
  refine Eq.trans (if_neg fun q => ?_) ?_
  · exact Bool.noConfusion (st.symm.trans q)
  have hn : ([Expr.Name x px, Expr.Name y py].filterMap fun | .Name id pos => if (env.kindOf id == some .local && pos.line == px.line) = true then some id else none | _ => none) = [x, y] := by
    simp [List.filterMap_cons, kx, ky, hl']
  generalize hz : List.filterMap _ _ = z
  have hz' : z = [x, y] := hz.symm.trans hn
  subst hz'
  refine Eq.trans (if_neg fun q => ?_) ?_
  · rw [Bool.or_eq_true] at q
    rcases q with q | q
    · have q' : (false : Bool) = true := q
      cases q'
    · rw [hd] at q; cases q
  refine Eq.trans (if_neg fun q => ?_) ?_
  · simp only [List.all_cons, List.all_nil, Bool.and_true, h1] at q
    cases q
  refine Eq.trans (if_neg fun q => ?_) ?_
  · simp only [List.all_cons, List.all_nil, Bool.and_true, h2] at q
    cases q
  rfl
/-! ### which statements they stand for -/
def isTupE : Expr → Bool
  | .Tuple _ _ _ => true
  | _ => false
def noLT : Expr → Bool
  | .Tuple _ _ _ => false
  | .List _ _ => false
  | _ => true
/-- the store of a comprehension is made within its own frame -/
def swapB (sc : Scope) (y : Str) (py : Pos) : Expr → Bool
  | .ListComp _ _ scope pos => decide (sc.names.lookup y = some .local) && (py.line == pos.line) && !(scope.names.any fun (n, k) => n == y && (k == .local || k == .cell))
  | .DictComp _ _ _ scope pos => decide (sc.names.lookup y = some .local) && (py.line == pos.line) && !(scope.names.any fun (n, k) => n == y && (k == .local || k == .cell))
  | _ => false
def isLC : Expr → Bool
  | .ListComp _ _ _ _ => true
  | _ => false
section
variable (cn : Cn)
mutual
def mS : Sm → Scope → Stmt → Bool
  | .ret e => fun sc st => match st with
    | .Return (some x) _ => mE cn e sc x
    | _ => false
  | .retN => fun sc st => match st with
    | .Return none _ => true
    | _ => false
  | .set tg e => fun sc st => match st with
    | .Assign [t] x p => mG (locB sc) cn.N tg t && mE cn e sc x && (match t with
      | .Name y py => (noComp x || decide (sc.names.lookup y = some .cell)) || swapB sc y py x
      | .Tuple _ _ _ => noComp x && noLT x
      | _ => false)
    | _ => false
  | .setA i e => fun sc st => match st with
    | .Assign [.Name y py] x p => mG (locB sc) cn.N (.n i) (.Name y py) && mE cn e sc x && (noComp x || decide (sc.names.lookup y = some .cell))
    | _ => false
  | .par i j a b => fun sc st => match st with
    | .Assign [.Tuple [.Name x px, .Name y py] kt pt] (.Tuple [l, r] k2 p2) _ => decide (cn.N[i]? = some x) && decide (cn.N[j]? = some y) && decide (i ≠ j) && decide (x ≠ y) && decide (sc.names.lookup x = some .local) && decide (sc.names.lookup y = some .local) &&
        (py.line == px.line) && mEs cn [a, b] sc [l, r] && !(foldedForSure 8 l && foldedForSure 8 r) && !(constantsAlone 8 l && constantsAlone 8 r)
    | _ => false
  | .pars is es => fun sc st => match st with
    | .Assign [.Tuple [.Name x px, .Name y py] kt pt] (.Tuple [l, r] k2 p2) _ => (match is with
      | [i, j] => decide (cn.N[i]? = some x) && decide (cn.N[j]? = some y) && decide (i ≠ j) && decide (x ≠ y) && decide (sc.names.lookup x = some .local) && decide (sc.names.lookup y = some .local) &&
        (py.line == px.line) && mEs cn es sc [l, r] && !(foldedForSure 8 l && foldedForSure 8 r) && !(constantsAlone 8 l && constantsAlone 8 r)
      | _ => false)
    | .Assign [.Tuple [.Name x px, .Name y py, .Name z pz] kt pt] (.Tuple [l, r, u] k2 p2) _ => (match is with
      | [i, j, m] => decide (cn.N[i]? = some x) && decide (cn.N[j]? = some y) && decide (cn.N[m]? = some z) && decide (i ≠ j) && decide (i ≠ m) && decide (j ≠ m) && decide (x ≠ y) && decide (x ≠ z) && decide (y ≠ z) &&
        decide (sc.names.lookup x = some .local) && decide (sc.names.lookup y = some .local) && decide (sc.names.lookup z = some .local) && (py.line == px.line) && (pz.line == px.line) && mEs cn es sc [l, r, u] &&
        !(foldedForSure 8 l && foldedForSure 8 r && foldedForSure 8 u) && !(constantsAlone 8 l && constantsAlone 8 r && constantsAlone 8 u)
      | _ => false)
    | _ => false
  | .put i k e => fun sc st => match st with
    | .Assign [.Subscript (.Name y py) s _] x _ => mE cn (.v i) sc (.Name y py) && mE cn k sc s && mE cn e sc x && noComp x && noSlice s
    | _ => false
  | .app i e => fun sc st => match st with
    | .Expr (.Call (.Attribute (.Name y py) nm ap) [x] [] cp) _ => decide (nm = "append") && mE cn (.v i) sc (.Name y py) && mE cn e sc x && noStar x && (ap.endLine == cp.line)
    | _ => false
  | .ext i e => fun sc st => match st with
    | .Expr (.Call (.Attribute (.Name y py) nm ap) [x] [] cp) _ => decide (nm = "extend") && mE cn (.v i) sc (.Name y py) && mE cn e sc x && noStar x && (ap.endLine == cp.line)
    | _ => false
  | .upd i e => fun sc st => match st with
    | .Expr (.Call (.Attribute (.Name y py) nm ap) [x] [] cp) _ => decide (nm = "update") && mE cn (.v i) sc (.Name y py) && mE cn e sc x && noStar x && (ap.endLine == cp.line) && !(vs e).contains i
    | _ => false
  | .apop i j e => fun sc st => match st with
    | .Expr (.Call (.Attribute (.Name y py) nm ap) [.Call (.Attribute (.Name y2 py2) nm2 ap2) [x] [] cp2] [] cp) _ => decide (nm = "append") && decide (nm2 = "pop") && decide (i ≠ j) && mE cn (.v i) sc (.Name y py) && mE cn (.v j) sc (.Name y2 py2) && mE cn e sc x && noStar x && (ap.endLine == cp.line) && (ap2.endLine == cp2.line)
    | _ => false
  | .sput i j e => fun sc st => match st with
    | .Assign [.Subscript (.Name y py) (.Constant (.int z) kk kp) _] x _ => mE cn (.v i) sc (.Name y py) && decide (z = (j : Int)) && mE cn e sc x && noComp x
    | _ => false
  | .aug i o e => fun sc st => match st with
    | .AugAssign (.Name y py) o' x _ => decide (o = o') && decide (o = .Add) && decide (cn.N[i]? = some y) && locB sc y && mE cn e sc x
    | _ => false
  | .ife c t e => fun sc st => match st with
    | .If x a b _ => mE cn c sc x && mSs t sc a && mSs e sc b
    | _ => false
  | .for_ tg it b => fun sc st => match st with
    | .For t x a [] _ => mG (locB sc) cn.N tg t && mI cn it sc x t && noSet x && mSs b sc a && !isDk it
    | _ => false
  | .forD tg k e b => fun sc st => match st with
    | .For t x a [] _ => mG (locB sc) cn.N tg t && mI cn (.dk k e) sc x t && noSet x && mSs b sc a
    | _ => false
  | .while_ c b => fun sc st => match st with
    | .While x a [] _ => mE cn c sc x && mSs b sc a
    | _ => false
  | .ex e => fun sc st => match st with
    | .Expr x _ => mE cn e sc x && noComp x
    | _ => false
  | .pass => fun sc st => match st with
    | .Pass _ => true
    | _ => false
  | .brk => fun sc st => match st with
    | .Break _ => true
    | _ => false
  | .cont => fun sc st => match st with
    | .Continue _ => true
    | _ => false
  | .never => fun sc st => true
def mSs : List Sm → Scope → List Stmt → Bool
  | [] => fun sc sts => match sts with
    | [] => true
    | _ => false
  | s :: r => fun sc sts => match sts with
    | st :: sts => mS s sc st && mSs r sc sts
    | _ => false
end
end

end GG
namespace GG
open PySem PySem.Spec PyProof.Rows L2
/-! ## calls of the program's own defs -/
def SpF (K : KW) (mg : Str → Option Value) (h : List D → Sto → Out D) : Sp := fun vs H Q E => ∃ ρ S ds, Rp ρ S H ∧ RVs K ρ H ds vs ∧ Post K mg (RV K) E ρ H (h ds S) Q
/-- the def x, of n parameters, does what h says, up to level k -/
def FnG (P : Program) (w : World) (K : PySem.W.Frag) (mg : Str → Option Value) (base : Heap) (k : Nat) (x : Str) (n : Nat) (h : List D → Sto → Out D) : Prop :=
  ∃ (f : Addr) (fd : FuncData) (ps : List Str), mg x = some (.ref f) ∧ PySem.W.keepIn K (.ref f) = true ∧ Binds K fd ps [] ∧ ps.length = n ∧
    ∀ (A : Around) (outer : List PySem.Env) (s : Shared) (H : Hp) (args : Args) (us : List Value) (vs : List V) (Q : VK) (E : XK), Room k A → A.guards = some [] → Env0 P w K mg base A outer s H →
      vs.length = ps.length → BindsTo s fd args (ps.zip us) → Vals vs us → SpF ⟨K, w⟩ mg h vs H Q E → codeAny (model P w) A (.call (.ref f) args) (CR (L2.CX P w) outer P w H s Q E) s
/-- a new list or dict that nobody holds -/
def RN (K : KW) (H0 : Hp) (ρ : Fx) (H : Hp) (d : D) (v : V) : Prop := ∃ a, v = .ref a ∧ H0 a = none ∧ Own K ρ H d a
def SpM (K : KW) (mg : Str → Option Value) (h : List D → Sto → Out D) : Sp := fun vs H Q E => ∃ ρ S ds, Rp ρ S H ∧ RVs K ρ H ds vs ∧ Post K mg (RN K H) E ρ H (h ds S) Q
def FnM (P : Program) (w : World) (K : PySem.W.Frag) (mg : Str → Option Value) (base : Heap) (k : Nat) (x : Str) (n : Nat) (h : List D → Sto → Out D) : Prop :=
  ∃ (f : Addr) (fd : FuncData) (ps : List Str), mg x = some (.ref f) ∧ PySem.W.keepIn K (.ref f) = true ∧ Binds K fd ps [] ∧ ps.length = n ∧
    ∀ (A : Around) (outer : List PySem.Env) (s : Shared) (H : Hp) (args : Args) (us : List Value) (vs : List V) (Q : VK) (E : XK), Room k A → A.guards = some [] → Env0 P w K mg base A outer s H →
      vs.length = ps.length → BindsTo s fd args (ps.zip us) → Vals vs us → SpM ⟨K, w⟩ mg h vs H Q E → codeAny (model P w) A (.call (.ref f) args) (CR (L2.CX P w) outer P w H s Q E) s
def bnames : List Str := ["len", "abs", "int", "max", "min", "repr", "str", "list", "tuple", "all", "any", "sum", "bool", "range", "enumerate", "zip", "isinstance", "dict", "sorted", "reversed"]
structure Good (cn : Cn) (cl : Nat → List D → Sto → Out D) (k : Nat) (W : WX) (X : Cx) : Prop where
  nN : X.N = cn.N
  calm : X.calm = true
  nd : X.N.Nodup
  room : Room k X.A
  gd : X.A.guards = some []
  sm : SmOk X.base
  tk : Takes X W
  blt : ∀ x ∈ bnames, X.mg x = none
  gl : ∀ x d, cn.gt.lookup x = some d → ∃ v u, X.mg x = some u ∧ RelV v u ∧ ∀ ρ H, RV (kw X) ρ H d v
  fn : ∀ (f : Nat) (x : Str) (n : Nat), cn.fns[f]? = some (x, n) → FnG X.prog X.w X.K X.mg X.base k x n (cl f)
  fm : ∀ (x : Str) (n : Nat), cn.fns[cn.mkr]? = some (x, n) → FnM X.prog X.w X.K X.mg X.base k x n (cl cn.mkr)
section
variable {cn : Cn} {cl : Nat → List D → Sto → Out D} {k : Nat} {W : WX} {X : Cx}
theorem Good.blk (g : Good cn cl k W X) (s : Shared) (H : Hp) (scope : Scope) (ce : PySem.Env) (fp : List Addr) : Good cn cl k (fun _ _ _ _ => False) (X.blk s H scope ce fp) :=
  ⟨g.nN, g.calm, g.nd, g.room, g.gd, g.sm, takes0, g.blt, g.gl, g.fn, g.fm⟩
/-! ### small facts of the syntax -/
def noStars : List Expr → Bool
  | [] => true
  | e :: es => noStar e && noStars es
theorem star_any {env : PySem.Env} {pos : Pos} : ∀ {es : List Expr}, noStars es = true → (backTo pos (starEach es env)).any (·.1) = false
  | [], _ => rfl
  | e :: es, h => by
    simp only [noStars, Bool.and_eq_true] at h
    rw [star_cons h.1]
    show (false || (backTo pos (starEach es env)).any (·.1)) = false
    rw [star_any h.2]; rfl
theorem star_all {env : PySem.Env} {pos : Pos} : ∀ {es : List Expr}, noStars es = true → (backTo pos (starEach es env)).all (fun x => !x.1) = true
  | [], _ => rfl
  | e :: es, h => by
    simp only [noStars, Bool.and_eq_true] at h
    rw [star_cons h.1]
    show (true && (backTo pos (starEach es env)).all (fun x => !x.1)) = true
    rw [star_all h.2]; rfl
theorem mEs_stars : ∀ {as : List Ex} {sc : Scope} {es : List Expr}, mEs cn as sc es = true → noStars es = true
  | [], sc, es, h => by
    cases es with
    | nil => rfl
    | cons e es => simp [mEs] at h
  | a :: r, sc, es, h => by
    cases es with
    | nil => simp [mEs] at h
    | cons e es =>
      simp only [mEs, Bool.and_eq_true] at h
      simp only [noStars, Bool.and_eq_true]
      exact ⟨h.1.2, mEs_stars h.2⟩
theorem mEs_len : ∀ {as : List Ex} {sc : Scope} {es : List Expr}, mEs cn as sc es = true → as.length = es.length
  | [], sc, es, h => by
    cases es with
    | nil => rfl
    | cons e es => simp [mEs] at h
  | a :: r, sc, es, h => by
    cases es with
    | nil => simp [mEs] at h
    | cons e es =>
      simp only [mEs, Bool.and_eq_true] at h
      simp [mEs_len h.2]
theorem evEs_len : ∀ {as : List Ex} {ε : Env} {S : Sto} {ds : List D} {S1 : Sto}, evEs cl as ε S = .ok ds S1 → ds.length = as.length
  | [], ε, S, ds, S1, h => by simp only [evEs] at h; cases h; rfl
  | a :: r, ε, S, ds, S1, h => by
    simp only [evEs] at h
    cases e1 : evE cl a ε S with
    | ok x S2 =>
      rw [e1, Out.bind_ok] at h
      cases e2 : evEs cl r ε S2 with
      | ok xs S3 =>
        rw [e2, Out.bind_ok] at h
        cases h
        simp [evEs_len e2]
      | exc c v S3 => rw [e2] at h; cases h
      | bad => rw [e2] at h; cases h
    | exc c v S2 => rw [e1] at h; cases h
    | bad => rw [e1] at h; cases h
theorem vis_of {sc : Scope} {x : Str} (h : visB sc x = true) : Vis sc x := by
  unfold visB at h
  unfold Vis
  split at h <;> first | (rename_i e; exact .inl e) | (rename_i e; exact .inr (.inl e)) | (rename_i e; exact .inr (.inr e)) | cases h
theorem plain_of {x : Str} (h : plainN x = true) : (x == ("__debug__" : Str)) = false ∧ (x == ("__classdict__" : Str)) = false ∧ x ≠ "__name__" := by
  unfold plainN at h
  simp only [Bool.and_eq_true, Bool.not_eq_true', decide_eq_false_iff_not] at h
  exact ⟨h.1.1, h.1.2, h.2⟩
theorem gl_of {x : Str} (h : glB X.env.scope x = true) : Gl X x := by
  unfold glB at h
  have z := of_decide_eq_true h
  exact z
theorem noSet_mark {o : CmpOp} {e : Expr} (h : noSet e = true) : behindInMarks o e = false := by
  cases e <;> first | rfl | (simp [noSet] at h)
theorem noSet_fold {e : Expr} {env : PySem.Env} (h : noSet e = true) (x : Value) : foldedSetIterable e env x = pure x := by
  cases e <;> first | rfl | (simp [noSet] at h)
theorem noSlice_ix {e : Expr} (h : noSlice e = true) : PlainIx e := by
  intro o i
  cases e <;> first | rfl | (simp [noSlice] at h)
theorem noCall_base {e : Expr} {nm : Str} {env : PySem.Env} {w : Sem Value} (h : noCall0 e = true) : attributeBase e nm env w = w := by
  cases e <;> first | rfl | (simp [noCall0] at h)
/-! ### a def of the program called -/
theorem run_g {mg : Str → Option Value} {x : Str} {n : Nat} {h : List D → Sto → Out D} {f : Addr} {fd : FuncData} {ps : List Str} (g : Good cn cl k W X) (hb : Binds X.K fd ps [])
    (run : ∀ (A : Around) (outer : List PySem.Env) (s : Shared) (H : Hp) (args : Args) (us : List Value) (vs : List V) (Q : VK) (E : XK), Room k A → A.guards = some [] → Env0 X.prog X.w X.K X.mg X.base A outer s H →
      vs.length = ps.length → BindsTo s fd args (ps.zip us) → Vals vs us → SpF (kw X) X.mg h vs H Q E → codeAny (model X.prog X.w) A (.call (.ref f) args) (CR (L2.CX X.prog X.w) outer X.prog X.w H s Q E) s)
    {pins : List (Addr × Obj)} {σ : L2.St} {H : Hp} {s : Shared} {Q : VK} {us : List Value} {vs : List V} (I : Inv X pins σ H s) (hl : vs.length = ps.length) (r : Vals vs us) (q : SpF (kw X) X.mg h vs H Q (XW W σ)) :
    wpAny (model X.prog X.w) X.A (call (.ref f) us) (EP X pins σ Q) X.xe s := by
  have hl2 : (us ++ []).length = ps.length := by rw [List.append_nil, ← r.length]; exact hl
  have hbb := hb s us I.kIn hl2
  rw [List.append_nil] at hbb
  refine wpAny_call (codeAny_mono (run X.A X.stack s H ⟨us, []⟩ us vs Q (XW W σ) g.room g.gd I.env0 hl hbb r q) fun r s' hq => ?_)
  cases r with
  | error e => exact g.tk e s' (XE.of_call I (fun _ _ _ z => z) hq)
  | ok fl =>
    cases fl with
    | ret u => exact I.after hq
    | next => exact False.elim hq
    | brk => exact False.elim hq
    | cont => exact False.elim hq
theorem run_m {mg : Str → Option Value} {x : Str} {n : Nat} {h : List D → Sto → Out D} {f : Addr} {fd : FuncData} {ps : List Str} (g : Good cn cl k W X) (hb : Binds X.K fd ps [])
    (run : ∀ (A : Around) (outer : List PySem.Env) (s : Shared) (H : Hp) (args : Args) (us : List Value) (vs : List V) (Q : VK) (E : XK), Room k A → A.guards = some [] → Env0 X.prog X.w X.K X.mg X.base A outer s H →
      vs.length = ps.length → BindsTo s fd args (ps.zip us) → Vals vs us → SpM (kw X) X.mg h vs H Q E → codeAny (model X.prog X.w) A (.call (.ref f) args) (CR (L2.CX X.prog X.w) outer X.prog X.w H s Q E) s)
    {pins : List (Addr × Obj)} {σ : L2.St} {H : Hp} {s : Shared} {Q : VK} {us : List Value} {vs : List V} (I : Inv X pins σ H s) (hl : vs.length = ps.length) (r : Vals vs us) (q : SpM (kw X) X.mg h vs H Q (XW W σ)) :
    wpAny (model X.prog X.w) X.A (call (.ref f) us) (EP X pins σ Q) X.xe s := by
  have hl2 : (us ++ []).length = ps.length := by rw [List.append_nil, ← r.length]; exact hl
  have hbb := hb s us I.kIn hl2
  rw [List.append_nil] at hbb
  refine wpAny_call (codeAny_mono (run X.A X.stack s H ⟨us, []⟩ us vs Q (XW W σ) g.room g.gd I.env0 hl hbb r q) fun r s' hq => ?_)
  cases r with
  | error e => exact g.tk e s' (XE.of_call I (fun _ _ _ z => z) hq)
  | ok fl =>
    cases fl with
    | ret u => exact I.after hq
    | next => exact False.elim hq
    | brk => exact False.elim hq
    | cont => exact False.elim hq
theorem pe_callM {x : Str} {n : Nat} {h : List D → Sto → Out D} {e : Expr} {es : List Expr} {p pos : Pos} {xs : List Nat} {fa : Env → Sto → Out (List D)} (g : Good cn cl k W X) (F : FnM X.prog X.w X.K X.mg X.base k x n h)
    (hg : Gl X x) (hd : (x == ("__debug__" : Str)) = false) (ha : PA X (e :: es) (TFs (kw X) X.mg W xs fa)) (hn : ∀ ε S ds S1, fa ε S = .ok ds S1 → ds.length = n) (hs : noStars (e :: es) = true) :
    PE X (.Call (.Name x p) (e :: es) [] pos) (fun σ H Q => TG0 (kw X) X.mg (RN (kw X) H) W xs (fun ε S => (fa ε S).bind h) σ H Q) := by
  obtain ⟨f, fd, ps, hm, hk, hb, hl, run⟩ := F
  have hs' := hs
  simp only [noStars, Bool.and_eq_true] at hs'
  refine ⟨fun pins s σ H Q I q => ?_⟩
  obtain ⟨ρ, ε, S, r1, r2, q⟩ := q
  refine wpAny_Call_Name_kw (ld_glob I hg hm ?_ hd)
  have q1 : TFs (kw X) X.mg W xs fa σ H fun vs H1 => vs.length = n ∧ SpM (kw X) X.mg h vs H1 Q (XW W σ) := by
    dsimp only at q
    refine ⟨ρ, ε, S, r1, r2, ?_⟩
    cases e1 : fa ε S with
    | ok ds S1 =>
      rw [e1, Out.bind_ok] at q
      have el := hn _ _ _ _ e1
      intro l vs H1 sx rp rv
      refine ⟨by rw [← rv.len]; exact el, _, S1, ds, rp, rv, ?_⟩
      have q9 := Post.weak sx q
      cases e2 : h ds S1 with
      | ok d S2 =>
        rw [e2] at q9
        intro l2 v H2 s2 rp2 rn
        obtain ⟨a, ea, h0, ow⟩ := rn
        refine q9 l2 v H2 s2 rp2 ⟨a, ea, ?_, ow⟩
        cases e3 : H a with
        | none => rfl
        | some u => exact absurd h0 (sx.dm a (by rw [e3]; exact fun z => nomatch z))
      | exc c v S2 => rw [e2] at q9; exact q9
      | bad => rw [e2] at q9; exact q9
    | exc c v S1 => rw [e1] at q; exact q
    | bad => rw [e1] at q; exact q
  refine PySem.W.callWith_K (h₀ := X.base) I.ok.mod.kin hk (thn (ha.run pos pins s σ H _ I q1) fun us s1 hh => ?_) (star_cons hs'.1) (star_any hs'.2)
  obtain ⟨vs, H1, I1, r, el, q2⟩ := hh
  exact ⟨I1.kIn, run_m (mg := X.mg) (x := x) (n := n) g hb run I1 (by rw [el, hl]) r q2⟩
theorem pe_callG {x : Str} {n : Nat} {h : List D → Sto → Out D} {e : Expr} {es : List Expr} {p pos : Pos} {xs : List Nat} {fa : Env → Sto → Out (List D)} (g : Good cn cl k W X) (F : FnG X.prog X.w X.K X.mg X.base k x n h)
    (hg : Gl X x) (hd : (x == ("__debug__" : Str)) = false) (ha : PA X (e :: es) (TFs (kw X) X.mg W xs fa)) (hn : ∀ ε S ds S1, fa ε S = .ok ds S1 → ds.length = n) (hs : noStars (e :: es) = true) :
    PE X (.Call (.Name x p) (e :: es) [] pos) (TF (kw X) X.mg W xs fun ε S => (fa ε S).bind h) := by
  obtain ⟨f, fd, ps, hm, hk, hb, hl, run⟩ := F
  have hs' := hs
  simp only [noStars, Bool.and_eq_true] at hs'
  refine ⟨fun pins s σ H Q I q => ?_⟩
  obtain ⟨ρ, ε, S, r1, r2, q⟩ := q
  refine wpAny_Call_Name_kw (ld_glob I hg hm ?_ hd)
  have q1 : TFs (kw X) X.mg W xs fa σ H fun vs H1 => vs.length = n ∧ SpF (kw X) X.mg h vs H1 Q (XW W σ) := by
    dsimp only at q
    refine ⟨ρ, ε, S, r1, r2, ?_⟩
    cases e1 : fa ε S with
    | ok ds S1 =>
      rw [e1, Out.bind_ok] at q
      have el := hn _ _ _ _ e1
      intro l vs H1 sx rp rv
      exact ⟨by rw [← rv.len]; exact el, _, S1, ds, rp, rv, q.weak sx⟩
    | exc c v S1 => rw [e1] at q; exact q
    | bad => rw [e1] at q; exact q
  refine PySem.W.callWith_K (h₀ := X.base) I.ok.mod.kin hk (thn (ha.run pos pins s σ H _ I q1) fun us s1 hh => ?_) (star_cons hs'.1) (star_any hs'.2)
  obtain ⟨vs, H1, I1, r, el, q2⟩ := hh
  exact ⟨I1.kIn, run_g (mg := X.mg) (x := x) (n := n) g hb run I1 (by rw [el, hl]) r q2⟩
theorem pe_callG0 {x : Str} {h : List D → Sto → Out D} {p pos : Pos} (g : Good cn cl k W X) (F : FnG X.prog X.w X.K X.mg X.base k x 0 h)
    (hg : Gl X x) (hd : (x == ("__debug__" : Str)) = false) : PE X (.Call (.Name x p) [] [] pos) (TF (kw X) X.mg W [] fun ε S => h [] S) := by
  obtain ⟨f, fd, ps, hm, hk, hb, hl, run⟩ := F
  refine ⟨fun pins s σ H Q I q => ?_⟩
  obtain ⟨ρ, ε, S, r1, r2, q⟩ := q
  refine wpAny_Call_Name_kw (ld_glob I hg hm ?_ hd)
  exact PySem.W.callWith_K0 I.kIn hk (run_g (mg := X.mg) (x := x) (n := 0) g hb run (us := []) (vs := []) I (by rw [hl]; rfl) .nil ⟨_, S, [], r1.rp r2 [], RVs.nil, q⟩)
end
/-! ## tests -/
section
variable {K : KW} {mg : Str → Option Value} {cn : Cn} {cl : Nat → List D → Sto → Out D} {k : Nat} {W : WX} {X : Cx}
theorem tf_truth {xs : List Nat} {fa : Env → Sto → Out D} (σ : L2.St) (H : Hp) (Q : Bool → Hp → Prop) (q : TFt K mg W xs (fun ε S => (fa ε S).bind fun d S1 => .of S1 (tru d)) σ H Q) :
    TF K mg W xs fa σ H fun x H' => ∃ b, TruV K x H' b ∧ Q b H' := by
  obtain ⟨ρ, ε, S, hs, hp, q⟩ := q
  refine TG0.go2 (xs := xs) (fun i m => m) hs hp q fun l v H1 d S1 s hs1 rp1 r q1 => ?_
  obtain ⟨b, e, q2⟩ := q1.ofH
  exact ⟨b, tru_V r e, q2.here (hs1.rp rp1 xs) rfl⟩
def plainT : Expr → Bool
  | .UnaryOp .Not _ _ => false
  | .BoolOp _ _ _ => false
  | .IfExp _ _ _ _ => false
  | .Compare _ _ _ _ => false
  | _ => true
theorem plainT_eq {e : Expr} {env : PySem.Env} (h : plainT e = true) : ∀ whole, isTrue e env whole = (do let v ← whole; standAt e.pos; holding [v] (truthy v)) := by
  intro w
  cases e with
  | UnaryOp o a p => cases o <;> first | rfl | (simp [plainT] at h)
  | BoolOp o a p => simp [plainT] at h
  | IfExp a b c p => simp [plainT] at h
  | Compare a b c p => simp [plainT] at h
  | _ => rfl
theorem pt_plain {e : Expr} {xs : List Nat} {fa : Env → Sto → Out D} (he : PE X e (TF (kw X) mg W xs fa)) (h : plainT e = true) : PT X e (TFt (kw X) mg W xs fun ε S => (fa ε S).bind fun d S1 => .of S1 (tru d)) :=
  PT.imp (pt_truth he (plainT_eq h)) fun σ H Q q => tf_truth σ H Q q
/-- a comparison's reading as a test -/
theorem tf_test {xs : List Nat} {fa : Env → Sto → Out D} (hb : ∀ ε S d S1, fa ε S = .ok d S1 → ∃ b, d = .bl b) (σ : L2.St) (H : Hp) (Q : Bool → Hp → Prop) (q : TFt K mg W xs (fun ε S => (fa ε S).bind fun d S1 => .of S1 (tru d)) σ H Q) :
    TF K mg W xs fa σ H fun x H' => ∃ b, x = .bl b ∧ Q b H' := by
  obtain ⟨ρ, ε, S, hs, hp, q⟩ := q
  dsimp only at q
  refine ⟨ρ, ε, S, hs, hp, ?_⟩
  cases e : fa ε S with
  | ok d S1 =>
    obtain ⟨b, rfl⟩ := hb _ _ _ _ e
    rw [e, Out.bind_ok] at q
    intro l v H1 sx rp r
    exact ⟨b, r.bl, q l b H1 sx rp rfl⟩
  | exc c v S1 => rw [e] at q; exact q
  | bad => rw [e] at q; exact q
theorem pt_if {c a b : Expr} {pos : Pos} {tc ta tb : TT} (hc : PT X c tc) (ha : PT X a ta) (hb : PT X b tb) : PT X (.IfExp c a b pos) (fun σ H Q => tc σ H fun k H1 => if k = true then ta σ H1 Q else tb σ H1 Q) := by
  refine ⟨fun pins s σ H Q I q => ?_⟩
  show wpAny _ _ (isTrue c X.env (eval c X.env) >>= fun t => if t = true then isTrue a X.env (eval a X.env) else isTrue b X.env (eval b X.env)) _ _ s
  refine wpAny_bind (thn (hc.run pins s σ H _ I q) fun k s1 ⟨H1, I1, q1⟩ => ?_)
  cases k with
  | true => rw [if_pos rfl] at q1 ⊢; exact ha.run pins s1 σ H1 Q I1 q1
  | false => rw [if_neg Bool.false_ne_true] at q1 ⊢; exact hb.run pins s1 σ H1 Q I1 q1
theorem emT_bl {neg : Bool} {x y d : D} (h : emT neg x y = some d) : ∃ b, d = .bl b := by
  unfold emT at h
  split at h <;> first | (cases h; exact ⟨_, rfl⟩) | cases h
theorem inT_bl {neg : Bool} {x d : D} {ds : List D} (h : inT neg x ds = some d) : ∃ b, d = .bl b := by
  unfold inT at h
  split at h
  · split at h
    · cases h; exact ⟨_, rfl⟩
    · cases h
  · cases h
theorem cmpF_bl {o : CmpOp} {x y d : D} (h : cmpF o x y = some d) : ∃ b, d = .bl b := by
  cases o <;> simp only [cmpF] at h
  all_goals first
    | (unfold opEq at h; split at h <;> (try split at h) <;> (try split at h) <;> first | exact emT_bl h | (cases h; exact ⟨_, rfl⟩) | cases h)
    | (unfold opInt at h; split at h <;> first | (cases h; exact ⟨_, rfl⟩) | cases h)
    | (unfold opIn at h; split at h <;> (try split at h) <;> (try split at h) <;> first | exact inT_bl h | (cases h; exact ⟨_, rfl⟩) | cases h)
    | (unfold opIs at h; split at h <;> (try split at h) <;> first | (cases h; exact ⟨_, rfl⟩) | cases h)
theorem Out.bind_okI {α β : Type} {r : Out α} {g : α → Sto → Out β} {b : β} {S : Sto} (h : r.bind g = .ok b S) : ∃ a S1, r = .ok a S1 ∧ g a S1 = .ok b S := by
  cases r with
  | ok a S1 => exact ⟨a, S1, rfl, h⟩
  | exc c v S1 => cases h
  | bad => cases h
theorem Out.of_okI {α : Type} {S S1 : Sto} {o : Option α} {d : α} (h : Out.of S o = .ok d S1) : o = some d ∧ S1 = S := by
  cases o with
  | none => cases h
  | some a => cases h; exact ⟨rfl, rfl⟩
end
end GG
namespace GG
open PySem PySem.Spec PyProof.Rows L2
/-! ## targets -/
mutual
def gOf (K : PySem.W.Frag) : Tg → TG
  | .n i => gName i
  | .t ts => fun v σ H Q => gTup K ts.length (gsOf K ts) v σ H Q ∨ gUnl K ts.length (gsOf K ts) v σ H Q
def gsOf (K : PySem.W.Frag) : List Tg → TGs
  | [] => gNil
  | t :: ts => gCons (gOf K t) (gsOf K ts)
end
section
variable {K : KW} {mg : Str → Option Value} {cn : Cn} {cl : Nat → List D → Sto → Out D} {k : Nat} {W : WX} {X : Cx}
theorem asg_cons {e : Expr} {es : List Expr} {env : PySem.Env} (h : noStar e = true) : assignEach (e :: es) env = (false, assign e env) :: assignEach es env := by
  cases e <;> first | rfl | (simp [noStar] at h)
theorem mGs_facts {okN : Str → Bool} {N : List Str} {env : PySem.Env} : ∀ {ts : List Tg} {es : List Expr}, mGs okN N ts es = true → (assignEach es env).length = ts.length ∧ (assignEach es env).findIdx? (·.1) = none
  | [], es, h => by
    cases es with
    | nil => exact ⟨rfl, rfl⟩
    | cons e es => simp [mGs] at h
  | t :: ts, es, h => by
    cases es with
    | nil => simp [mGs] at h
    | cons e es =>
      simp only [mGs, Bool.and_eq_true] at h
      obtain ⟨a, b⟩ := mGs_facts (env := env) h.2
      rw [asg_cons h.1.2]
      refine ⟨by simp [a], ?_⟩
      simp [List.findIdx?_cons, b]
mutual
theorem pg_of {okN : Str → Bool} {N : List Str} (hN : X.N = N) (nd : X.N.Nodup) (hc : X.calm = true) (hok : ∀ x, okN x = true → Loc X.env.scope x ∧ (X.fn x = true ∨ X.env.scope.names.lookup x = some .local)) :
    ∀ (t : Tg) (e : Expr), mG okN N t e = true → PG X e (gOf X.K t)
  | .n i, e, h => by
    cases e with
    | Name x p =>
      simp only [mG, Bool.and_eq_true, decide_eq_true_eq] at h
      simp only [gOf]
      obtain ⟨a, b⟩ := hok x h.2
      exact pg_name nd (by rw [hN]; exact h.1) a b
    | _ => simp [mG] at h
  | .t ts, e, h => by
    cases e with
    | Tuple es kk p =>
      simp only [mG] at h
      simp only [gOf]
      obtain ⟨a, b⟩ := mGs_facts (env := X.env) h
      have p := pgs_of hN nd hc hok ts es h
      exact ⟨fun pins s σ H v u Q I r q => q.elim ((pg_tup hc p a b).run pins s σ H v u Q I r) ((pg_unl hc p a b).run pins s σ H v u Q I r)⟩
    | _ => simp [mG] at h
theorem pgs_of {okN : Str → Bool} {N : List Str} (hN : X.N = N) (nd : X.N.Nodup) (hc : X.calm = true) (hok : ∀ x, okN x = true → Loc X.env.scope x ∧ (X.fn x = true ∨ X.env.scope.names.lookup x = some .local)) :
    ∀ (ts : List Tg) (es : List Expr), mGs okN N ts es = true → PGs X es (gsOf X.K ts)
  | [], es, h => by
    cases es with
    | nil => simp only [gsOf]; exact pgs_nil
    | cons e es => simp [mGs] at h
  | t :: ts, es, h => by
    cases es with
    | nil => simp [mGs] at h
    | cons e es =>
      simp only [mGs, Bool.and_eq_true] at h
      simp only [gsOf]
      exact pgs_cons (pg_of hN nd hc hok t e h.1.1) (pgs_of hN nd hc hok ts es h.2) (by rw [asg_cons h.1.2]; rfl)
end
theorem wipe_get {σ : L2.St} {j : Nat} : ∀ {vs : List Nat}, (wipe σ vs)[j]? = if j ∈ vs then (σ[j]?).map (fun _ => none) else σ[j]?
  | [] => by simp [wipe]
  | v :: vs => by
    simp only [wipe]
    by_cases hv : v = j
    · subst hv
      rw [List.getElem?_set]
      simp only [if_true, List.mem_cons, true_or]
      rw [wipe_length]
      by_cases hl : v < σ.length
      · rw [if_pos hl, List.getElem?_eq_getElem hl]; rfl
      · rw [if_neg hl, List.getElem?_eq_none (by omega)]; rfl
    · rw [List.getElem?_set_ne hv, wipe_get]
      by_cases hj : j ∈ vs
      · simp [hj]
      · have : ¬ j = v := fun e => hv e.symm
        simp [hj, this]
theorem wipeE_len {ε : Env} : ∀ {vs : List Nat}, (wipeE ε vs).length = ε.length
  | [] => rfl
  | v :: vs => by simp only [wipeE, List.length_set]; exact wipeE_len
theorem wipeE_get {σ : Env} {j : Nat} : ∀ {vs : List Nat}, (wipeE σ vs)[j]? = if j ∈ vs then (σ[j]?).map (fun _ => .u) else σ[j]?
  | [] => by simp [wipeE]
  | v :: vs => by
    simp only [wipeE]
    by_cases hv : v = j
    · subst hv
      rw [List.getElem?_set]
      simp only [if_true, List.mem_cons, true_or]
      rw [wipeE_len]
      by_cases hl : v < σ.length
      · rw [if_pos hl, List.getElem?_eq_getElem hl]; rfl
      · rw [if_neg hl, List.getElem?_eq_none (by omega)]; rfl
    · rw [List.getElem?_set_ne hv, wipeE_get]
      by_cases hj : j ∈ vs
      · simp [hj]
      · have : ¬ j = v := fun e => hv e.symm
        simp [hj, this]
theorem wipe_set {σ : L2.St} {i : Nat} {x : Option V} {vs : List Nat} (h : i ∈ vs) : wipe (σ.set i x) vs = wipe σ vs := by
  apply List.ext_getElem?
  intro j
  rw [wipe_get, wipe_get]
  by_cases hj : j ∈ vs
  · rw [if_pos hj, if_pos hj]
    by_cases e : i = j
    · subst e
      rw [List.getElem?_set]
      simp only [if_true]
      by_cases hl : i < σ.length
      · rw [if_pos hl, List.getElem?_eq_getElem hl]; rfl
      · rw [if_neg hl, List.getElem?_eq_none (by omega)]
    · rw [List.getElem?_set_ne e]
  · rw [if_neg hj, if_neg hj]
    have e : i ≠ j := fun z => hj (z ▸ h)
    rw [List.getElem?_set_ne e]
theorem fzF_get (xs : List Nat) : ∀ (ε : Env) (k i : Nat), (fzF xs k ε)[i]? = (ε[i]?).map fun s => if xs.contains (k + i) then s.frz else s
  | [], k, i => by simp [fzF]
  | s :: r, k, 0 => by simp [fzF]
  | s :: r, k, i + 1 => by
    simp only [fzF, List.getElem?_cons_succ]
    rw [fzF_get xs r (k + 1) i, show k + 1 + i = k + (i + 1) by omega]
theorem fz_get (xs : List Nat) (ε : Env) (i : Nat) : (fz xs ε)[i]? = (ε[i]?).map fun s => if xs.contains i then s.frz else s := by
  unfold fz; rw [fzF_get, Nat.zero_add]
theorem fzF_len (xs : List Nat) : ∀ (ε : Env) (k : Nat), (fzF xs k ε).length = ε.length
  | [], k => rfl
  | s :: r, k => by simp [fzF, fzF_len xs r]
theorem fz_len (xs : List Nat) (ε : Env) : (fz xs ε).length = ε.length := fzF_len xs ε 0
theorem fz_o {xs : List Nat} {ε : Env} {i : Nat} {d : D} (h : (fz xs ε)[i]? = some (.o d)) : i ∉ xs ∧ ε[i]? = some (.o d) := by
  rw [fz_get] at h
  obtain ⟨s, e, q⟩ := Option.map_eq_some_iff.mp h
  split at q
  · cases s <;> simp [Sl.frz] at q
  · rename_i z
    subst q
    exact ⟨by simpa using z, e⟩
theorem fz_v {xs : List Nat} {ε : Env} {i : Nat} {d : D} (h : (fz xs ε)[i]? = some (.v d)) : ε[i]? = some (.v d) ∨ (i ∈ xs ∧ ε[i]? = some (.o d)) := by
  rw [fz_get] at h
  obtain ⟨s, e, q⟩ := Option.map_eq_some_iff.mp h
  split at q
  · rename_i z
    cases s with
    | u => simp [Sl.frz] at q
    | v x => simp [Sl.frz] at q; subst q; exact .inl e
    | o x => simp [Sl.frz] at q; subst q; exact .inr ⟨by simpa using z, e⟩
  · subst q; exact .inl e
theorem Av.fz {xs ys : List Nat} {ε : Env} {σ : L2.St} (a : Addr) (h : Av (GG.fz xs ε) σ ys a) : Av ε σ (xs ++ ys) a := by
  obtain ⟨i, d, n, e1, e2⟩ := h
  obtain ⟨n2, e3⟩ := fz_o e1
  exact ⟨i, d, by simp [n, n2], e3, e2⟩
theorem Own.anti {ρ : Fx} {H : Hp} {n m : Addr → Prop} (h : ∀ a, m a → n a) {d : D} {a : Addr} (o : Own K (ρ.plus n) H d a) : Own K (ρ.plus m) H d a := by
  unfold Own at o ⊢
  split at o
  · obtain ⟨vs, z, e, n1, n2, r⟩ := o
    refine ⟨vs, z, e, n1, fun q => n2 (q.imp id (h a)), ?_⟩
    exact RVs.anti (ρ := (ρ.plus n).plus (· = a)) (n := ((ρ.plus m).plus (· = a)).n) (fun b z => z.imp (fun z => z.imp id (h b)) id) _ _ r
  · obtain ⟨vs, e, n1, n2, r⟩ := o
    refine ⟨vs, e, n1, fun q => n2 (q.imp id (h a)), ?_⟩
    exact RKV.anti (ρ := (ρ.plus n).plus (· = a)) (n := ((ρ.plus m).plus (· = a)).n) (fun b z => z.imp (fun z => z.imp id (h b)) id) _ _ r
  · exact o
section
variable {ρ : Fx} {H : Hp} {ε : Env} {σ : L2.St}
theorem Rs.fz (h : Rs K ρ H ε σ) (xs : List Nat) : Rs K ρ H (GG.fz xs ε) σ := by
  refine ⟨by rw [fz_len]; exact h.len, fun i d e => ?_, fun i d e => ?_⟩
  · rcases fz_v e with e1 | ⟨m, e1⟩
    · obtain ⟨v, e2, r⟩ := h.val i d e1
      exact ⟨v, e2, plus_anti (fun a z => Av.anti (fun j m => by cases m) a (Av.fz a z)) r⟩
    · obtain ⟨a, e2, o⟩ := h.own i d e1
      exact ⟨.ref a, e2, plus_anti (fun a z => Av.anti (fun j mj => by
        rw [List.mem_singleton] at mj; subst mj; exact List.mem_append_left _ m) a (Av.fz a z)) o.rv⟩
  · obtain ⟨n, e1⟩ := fz_o e
    obtain ⟨a, e2, o⟩ := h.own i d e1
    exact ⟨a, e2, o.anti fun a z => Av.anti (fun j mj => List.mem_append_right _ mj) a (Av.fz a z)⟩
theorem Rs.wipe (h : Rs K ρ H ε σ) (vs : List Nat) : Rs K ρ H (wipeE ε vs) (L2.wipe σ vs) := by
  have back : ∀ {i : Nat} {s : Sl}, s ≠ .u → (wipeE ε vs)[i]? = some s → i ∉ vs ∧ ε[i]? = some s := fun {i s} hs e => by
    rw [wipeE_get] at e
    by_cases hj : i ∈ vs
    · rw [if_pos hj] at e
      obtain ⟨z, _, q⟩ := Option.map_eq_some_iff.mp e
      exact absurd q.symm hs
    · rw [if_neg hj] at e; exact ⟨hj, e⟩
  have av : ∀ ys a, Av (wipeE ε vs) (L2.wipe σ vs) ys a → Av ε σ ys a := fun ys a ⟨i, d, n, e1, e2⟩ => by
    obtain ⟨hj, e3⟩ := back (by simp) e1
    rw [wipe_get, if_neg hj] at e2
    exact ⟨i, d, n, e3, e2⟩
  refine ⟨by rw [wipeE_len, wipe_length]; exact h.len, fun i d e => ?_, fun i d e => ?_⟩
  · obtain ⟨hj, e1⟩ := back (by simp) e
    obtain ⟨v, e2, r⟩ := h.val i d e1
    exact ⟨v, by rw [wipe_get, if_neg hj]; exact e2, plus_anti (av []) r⟩
  · obtain ⟨hj, e1⟩ := back (by simp) e
    obtain ⟨v, e2, r⟩ := h.own i d e1
    exact ⟨v, by rw [wipe_get, if_neg hj]; exact e2, r.anti (av [i])⟩
theorem Av.setV {i : Nat} {d : D} {x : Option V} {ys : List Nat} (a : Addr) (h : Av (ε.set i (.v d)) (σ.set i x) ys a) : Av ε σ (i :: ys) a := by
  obtain ⟨j, d', n, e1, e2⟩ := h
  by_cases hj : i = j
  · subst hj
    rw [List.getElem?_set] at e1
    split at e1
    · split at e1 <;> cases e1
    · exact absurd rfl ‹_›
  · rw [List.getElem?_set_ne hj] at e1 e2
    exact ⟨j, d', by simp [n, Ne.symm hj], e1, e2⟩
theorem Rs.set {i : Nat} {d : D} {v : V} (h : Rs K ρ H ε σ) (hi : i < ε.length) (r : RV K (ρ.plus (Av ε σ [])) H d v) : Rs K ρ H (ε.set i (.v d)) (σ.set i (some v)) := by
  have av : ∀ ys a, Av (ε.set i (.v d)) (σ.set i (some v)) ys a → Av ε σ ys a := fun ys a z => Av.anti (fun j m => List.mem_cons_of_mem _ m) a (Av.setV a z)
  refine ⟨by simp [h.len], fun j d' e => ?_, fun j d' e => ?_⟩
  · by_cases hj : i = j
    · subst hj
      rw [List.getElem?_set, if_pos rfl, if_pos hi] at e
      cases e
      exact ⟨v, by rw [List.getElem?_set, if_pos rfl, if_pos (by rw [← h.len]; exact hi)], plus_anti (av []) r⟩
    · rw [List.getElem?_set_ne hj] at e
      obtain ⟨v', e1, r1⟩ := h.val j d' e
      exact ⟨v', by rw [List.getElem?_set_ne hj]; exact e1, plus_anti (av []) r1⟩
  · by_cases hj : i = j
    · subst hj
      rw [List.getElem?_set, if_pos rfl, if_pos hi] at e
      cases e
    · rw [List.getElem?_set_ne hj] at e
      obtain ⟨v', e1, r1⟩ := h.own j d' e
      exact ⟨v', by rw [List.getElem?_set_ne hj]; exact e1, r1.anti (av [j])⟩
end
mutual
theorem tg_ok {ρ : Fx} {H : Hp} {n : Addr → Prop} : ∀ (t : Tg) (d : D) (v : V) (ε ε' : Env) (σ : L2.St) (Q : L2.St → Hp → Prop), tgS t d ε = some ε' → RV K (ρ.plus n) H d v → (∀ a, Av ε σ [] a → n a) → Rs K ρ H ε σ →
    (∀ σ', Rs K ρ H ε' σ' → (∀ a, Av ε' σ' [] a → Av ε σ [] a) → (∀ vs, tgIn vs t = true → wipe σ' vs = wipe σ vs) → Q σ' H) → gOf K t v σ H Q
  | .n i, d, v, ε, ε', σ, Q, e, r, hn, hs, q => by
    simp only [tgS] at e
    split at e
    · rename_i hi
      cases e
      simp only [gOf]
      exact q _ (hs.set hi (plus_anti hn r)) (fun a z => Av.anti (fun j m => by cases m) a (Av.setV a z)) (fun vs h => by
        simp only [tgIn, decide_eq_true_eq] at h
        exact wipe_set h)
    · cases e
  | .t ts, d, v, ε, ε', σ, Q, e, r, hn, hs, q => by
    simp only [tgS] at e
    split at e
    · rename_i ds
      obtain ⟨a, vs, rfl, _, sq, t⟩ := r.tup
      simp only [gOf]
      have hl : ds.length = ts.length := tgs_len ts ds ε ε' e
      exact .inl ⟨a, vs, rfl, sq, by rw [← t.len, hl], tgs_ok ts ds vs ε ε' σ Q e t hn hs fun σ' h1 h2 h3 => q σ' h1 h2 fun ws hw => h3 ws (by simpa only [tgIn] using hw)⟩
    · rename_i ds
      obtain ⟨a, vs, rfl, _, sq, _, _, t⟩ := r.lst
      simp only [gOf]
      have hl : ds.length = ts.length := tgs_len ts ds ε ε' e
      exact .inr ⟨a, vs, rfl, SqL.of sq, by rw [← t.len, hl], tgs_ok ts ds vs ε ε' σ Q e t hn hs fun σ' h1 h2 h3 => q σ' h1 h2 fun ws hw => h3 ws (by simpa only [tgIn] using hw)⟩
    · cases e
theorem tgs_len : ∀ (ts : List Tg) (ds : List D) (ε ε' : Env), tgsS ts ds ε = some ε' → ds.length = ts.length
  | [], [], ε, ε', e => rfl
  | [], _ :: _, ε, ε', e => by simp [tgsS] at e
  | _ :: _, [], ε, ε', e => by simp [tgsS] at e
  | t :: ts, d :: ds, ε, ε', e => by
    simp only [tgsS] at e
    split at e
    · rename_i ε1 e1
      simp [tgs_len ts ds ε1 ε' e]
    · cases e
theorem tgs_ok {ρ : Fx} {H : Hp} {n : Addr → Prop} : ∀ (ts : List Tg) (ds : List D) (vs : List V) (ε ε' : Env) (σ : L2.St) (Q : L2.St → Hp → Prop), tgsS ts ds ε = some ε' → RVs K (ρ.plus n) H ds vs → (∀ a, Av ε σ [] a → n a) → Rs K ρ H ε σ →
    (∀ σ', Rs K ρ H ε' σ' → (∀ a, Av ε' σ' [] a → Av ε σ [] a) → (∀ ws, tgsIn ws ts = true → wipe σ' ws = wipe σ ws) → Q σ' H) → gsOf K ts vs σ H Q
  | [], [], vs, ε, ε', σ, Q, e, r, hn, hs, q => by
    simp only [RVs] at r; subst r
    simp only [tgsS] at e; cases e
    simp only [gsOf]
    exact ⟨rfl, q σ hs (fun _ z => z) fun _ _ => rfl⟩
  | [], _ :: _, _, ε, ε', _, _, e, _, _, _, _ => by simp [tgsS] at e
  | _ :: _, [], _, ε, ε', _, _, e, _, _, _, _ => by simp [tgsS] at e
  | t :: ts, d :: ds, vs, ε, ε', σ, Q, e, r, hn, hs, q => by
    simp only [tgsS] at e
    split at e
    · rename_i ε1 e1
      obtain ⟨v, vr, rfl, rv, rr⟩ := r.uncons
      simp only [gsOf]
      refine ⟨v, vr, rfl, tg_ok t d v ε ε1 σ _ e1 rv hn hs fun σ1 h1 a1 w1 => tgs_ok ts ds vr ε1 ε' σ1 Q e rr (fun a z => hn a (a1 a z)) h1 fun σ2 h2 a2 w2 => q σ2 h2 (fun a z => a1 a (a2 a z)) fun ws hw => ?_⟩
      simp only [tgsIn, Bool.and_eq_true] at hw
      rw [w2 ws hw.2, w1 ws hw.1]
    · cases e
end
theorem lcLoop_noexc {tgt : D → Option Env} {fc : Env → Sto → Out Bool} {fe : Env → Sto → Out D} : ∀ (ds : List D) (S : Sto) (c : Str) (v : Option (Str × D)) (S1 : Sto), lcLoop tgt fc fe ds S ≠ .exc c v S1
  | [], S, c, v, S1 => by simp [lcLoop]
  | d :: r, S, c, v, S1 => by
    simp only [lcLoop]
    split
    · simp
    · rename_i ε _
      cases e1 : fc ε S with
      | ok b S2 =>
        simp only [noX, Out.bind_ok]
        split
        · cases e2 : fe ε S2 with
          | ok y S3 =>
            simp only [Out.bind_ok]
            cases e3 : lcLoop tgt fc fe r S3 with
            | ok ys S4 => simp
            | exc c' v' S4 => exact absurd e3 (lcLoop_noexc r S3 c' v' S4)
            | bad => simp
          | exc c' v' S3 => simp
          | bad => simp
        · exact lcLoop_noexc r S2 c v S1
      | exc c' v' S2 => simp [noX]
      | bad => simp [noX]
end
end GG
namespace GG
open PySem PySem.Spec PyProof.Rows L2
/-! ## a dict that is locked while it is walked -/
/-- one dict is locked or let go -/
structure Sw (H H' : Hp) (d : Addr) (ws : List (Key × V)) : Prop where
  ne : ∀ b, b ≠ d → H' b = H b
  rd : Rd H d (.dK ws)
  rd' : Rd H' d (.dK ws)
section
variable {K : KW} {ρ : Fx} {H H' : Hp} {d : Addr} {ws : List (Key × V)} {S : Sto}
theorem Sw.lock (h : H d = some (.dK ws)) (o : Obj) : Sw H (upd H d (.frz o (.dK ws))) d ws := ⟨fun _ n => upd_ne n, .inl h, .inr ⟨o, upd_same⟩⟩
theorem Sw.unlock {o : Obj} (h : H d = some (.frz o (.dK ws))) : Sw H (upd H d (.dK ws)) d ws := ⟨fun _ n => upd_ne n, .inr ⟨o, h⟩, .inl upd_same⟩
theorem Sw.keep (w : Sw H H' d ws) {b : Addr} {u : HO} (h : H b = some u) (n : ∀ k, u ≠ .dK k) (n2 : ∀ o k, u ≠ .frz o (.dK k)) : H' b = some u := by
  rw [w.ne b fun e => ?_]
  · exact h
  · subst e
    rcases w.rd with q | ⟨o, q⟩
    · rw [h] at q; cases q; exact n _ rfl
    · rw [h] at q; cases q; exact n2 _ _ rfl
theorem Sw.dct (w : Sw H H' d ws) {b : Addr} {us : List (Key × V)} (h : Rd H b (.dK us)) : Rd H' b (.dK us) := by
  by_cases e : b = d
  · subst e
    have : us = ws := by
      rcases h with h | ⟨o, h⟩ <;> rcases w.rd with q | ⟨o', q⟩ <;> (rw [h] at q; cases q; try rfl)
    rw [this]; exact w.rd'
  · rcases h with h | ⟨o, h⟩
    · exact .inl (by rw [w.ne b e]; exact h)
    · exact .inr ⟨o, by rw [w.ne b e]; exact h⟩
theorem Sw.sqT (w : Sw H H' d ws) {a : Addr} {xs : List V} (h : SqT K H a xs) : SqT K H' a xs := by
  rcases h with (h | ⟨o, h⟩) | h
  · exact .inl (.inl (w.keep h (fun _ z => nomatch z) fun _ _ z => nomatch z))
  · exact .inl (.inr ⟨o, w.keep h (fun _ z => nomatch z) fun _ _ z => nomatch z⟩)
  · exact .inr h
theorem Sw.rol (w : Sw H H' d ws) {a : Addr} {vs : List V} (h : RoL K H a vs) : RoL K H' a vs := by
  rcases h with ⟨o, h⟩ | h
  · exact .inl ⟨o, w.keep h (fun _ z => nomatch z) fun _ _ z => nomatch z⟩
  · exact .inr h
mutual
theorem RV.sw (w : Sw H H' d ws) {ρ : Fx} : ∀ (x : D) (v : V), RV K ρ H x v → RV K ρ H' x v
  | .non, _, h => by simp only [RV] at h ⊢; exact h
  | .bl _, _, h => by simp only [RV] at h ⊢; exact h
  | .int _, _, h => by simp only [RV] at h ⊢; exact h
  | .str _, _, h => by simp only [RV] at h ⊢; exact h
  | .stm l, _, h => by simp only [RV] at h ⊢; exact h
  | .tup ds, _, h => by
    simp only [RV] at h ⊢
    obtain ⟨a, vs, e, z, q, r⟩ := h
    exact ⟨a, vs, e, z, w.sqT q, RVs.sw w ds vs r⟩
  | .rol ds, _, h => by
    simp only [RV] at h ⊢
    obtain ⟨a, vs, e, z, q, r⟩ := h
    exact ⟨a, vs, e, z, w.rol q, RVs.sw w ds vs r⟩
  | .lst ds, _, h => by
    simp only [RV] at h ⊢
    obtain ⟨a, vs, e, z, q, n1, n2, r⟩ := h
    exact ⟨a, vs, e, z, w.keep q (fun _ z => nomatch z) (fun _ _ z => nomatch z), n1, n2, RVs.sw w ds vs r⟩
  | .dct kvs, _, h => by
    simp only [RV] at h ⊢
    obtain ⟨a, vs, e, q, n1, n2, r⟩ := h
    exact ⟨a, vs, e, w.dct q, n1, n2, RKV.sw w kvs vs r⟩
  | .wdt kvs, _, h => by
    simp only [RV] at h ⊢
    obtain ⟨a, vs, e, q, r⟩ := h
    exact ⟨a, vs, e, q, RKV.sw w kvs vs r⟩
theorem RVs.sw (w : Sw H H' d ws) {ρ : Fx} : ∀ (ds : List D) (vs : List V), RVs K ρ H ds vs → RVs K ρ H' ds vs
  | [], _, h => by simp only [RVs] at h ⊢; exact h
  | d :: ds, _, h => by
    simp only [RVs] at h ⊢
    obtain ⟨v, r, e, q, t⟩ := h
    exact ⟨v, r, e, RV.sw w d v q, RVs.sw w ds r t⟩
theorem RKV.sw (w : Sw H H' d ws) {ρ : Fx} : ∀ (ds : List (Key × D)) (vs : List (Key × V)), RKV K ρ H ds vs → RKV K ρ H' ds vs
  | [], _, h => by simp only [RKV] at h ⊢; exact h
  | (kk, d) :: ds, _, h => by
    simp only [RKV] at h ⊢
    obtain ⟨v, r, e, q, t⟩ := h
    exact ⟨v, r, e, RV.sw w d v q, RKV.sw w ds r t⟩
end
theorem Own.sw (w : Sw H H' d ws) {x : D} {a : Addr} (na : a ≠ d) (h : Own K ρ H x a) : Own K ρ H' x a := by
  unfold Own at h ⊢
  split at h
  · obtain ⟨vs, z, e, n1, n2, r⟩ := h
    exact ⟨vs, z, by rw [w.ne a na]; exact e, n1, n2, RVs.sw w _ _ r⟩
  · obtain ⟨vs, e, n1, n2, r⟩ := h
    exact ⟨vs, by rw [w.ne a na]; exact e, n1, n2, RKV.sw w _ _ r⟩
  · exact h
theorem Rs.sw (w : Sw H H' d ws) {ε : Env} {σ : L2.St} (n : ¬ Av ε σ [] d) (h : Rs K ρ H ε σ) : Rs K ρ H' ε σ := by
  refine ⟨h.len, fun i x e => ?_, fun i x e => ?_⟩
  · obtain ⟨v, e1, r⟩ := h.val i x e
    exact ⟨v, e1, RV.sw w _ _ r⟩
  · obtain ⟨a, e1, o⟩ := h.own i x e
    exact ⟨a, e1, o.sw w fun z => n ⟨i, x, (by simp), e, by rw [← z]; exact e1⟩⟩
theorem Rp.sw (w : Sw H H' d ws) (h : Rp ρ S H) : Rp ρ S H' :=
  ⟨h.len, h.nd, fun i a t e1 e2 => w.keep (h.obj i a t e1 e2) (fun _ z => nomatch z) (fun _ _ z => nomatch z), fun a n => by
    by_cases e : a = d
    · subst e; rcases w.rd' with q | ⟨o, q⟩ <;> (rw [q]; exact fun z => nomatch z)
    · rw [w.ne a e]; exact h.dom a n⟩
/-- a step that is done with the dict locked, as a step -/
theorem Sx.unl {l l' : List Addr} {o : Obj} (hd : H d = some (.dK ws)) (nl : d ∉ l) (s : Sx l (upd H d (.frz o (.dK ws))) l' H') : H' d = some (.frz o (.dK ws)) ∧ d ∉ l' ∧ Sx l H l' (upd H' d (.dK ws)) := by
  have e0 : H' d = some (.frz o (.dK ws)) := s.kp d _ upd_same nl
  refine ⟨e0, s.out (upd_same : upd H d (.frz o (.dK ws)) d = some _) nl, s.pre, fun b u e n => ?_, fun b m n => ?_, fun b e => ?_⟩
  · by_cases hb : b = d
    · subst hb; rw [hd] at e; cases e; exact upd_same
    · rw [upd_ne hb]; exact s.kp b u (by rw [upd_ne hb]; exact e) n
  · have := s.nw b m n
    by_cases hb : b = d
    · subst hb; rw [upd_same] at this; cases this
    · rw [upd_ne hb] at this; exact this
  · by_cases hb : b = d
    · subst hb; rw [upd_same]; exact fun z => nomatch z
    · rw [upd_ne hb]; exact s.dm b (by rw [upd_ne hb]; exact e)
end
/-! ### as rules -/
def NF (H0 : Hp) (d : Addr) : Prop := ∀ o' u', H0 d ≠ some (.frz o' u')
section
variable {X : Cx}
theorem pe_lockA {e : Expr} {td : TE} (h : PE X e td) : PE X e (fun σ H Q => td σ H fun x H1 => (∃ d ws, x = .ref d ∧ H1 d = some (.dK ws) ∧ (NF X.H_0 d → ∀ o, Q x (upd H1 d (.frz o (.dK ws))))) ∨ Q x H1) := by
  refine ⟨fun pins s σ H Q I hw => ?_⟩
  refine thn (h.run pins s σ H _ I hw) fun v s1 ⟨x, H1, I1, r, q⟩ => ?_
  rcases q with ⟨d, ws, rfl, hd, q⟩ | q
  · obtain ⟨od, I2⟩ := I1.lock hd (by exact True.intro)
    exact ⟨_, _, I2, r, q (I1.nofrz hd (by exact True.intro)) od⟩
  · exact ⟨_, _, I1, r, q⟩
def Unl (H0 : Hp) (P : Hp → Prop) (H' : Hp) : Prop := P H' ∨ ∃ d o ws, NF H0 d ∧ H' d = some (.frz o (.dK ws)) ∧ P (upd H' d (.dK ws))
theorem ps_unl {st : Stmt} {t : TS} (h : PS X st t) : PS X st (fun D σ H => t ⟨fun σ' H' => Unl X.H_0 (D.nx σ') H', fun v H' => Unl X.H_0 (D.rt v) H', fun σ' H' => Unl X.H_0 (D.bk σ') H', fun σ' H' => Unl X.H_0 (D.ct σ') H'⟩ σ H) := by
  have un : ∀ {pins : List (Addr × Obj)} {σ : L2.St} {H : Hp} {s : Shared} {P : Hp → Prop}, L2.Inv X pins σ H s → Unl X.H_0 P H → ∃ H', L2.Inv X pins σ H' s ∧ P H' := fun I q => by
    rcases q with q | ⟨d, o, ws, nf, hd, q⟩
    · exact ⟨_, I, q⟩
    · exact ⟨_, I.unlock hd nf, q⟩
  refine ⟨fun pins s σ H D I hw => ?_⟩
  refine thn (h.run pins s σ _ _ I hw) fun f s1 q => ?_
  cases f with
  | next => obtain ⟨σ', H', I2, q⟩ := q; obtain ⟨H2, I3, q⟩ := un I2 q; exact ⟨σ', _, I3, q⟩
  | brk => obtain ⟨σ', H', I2, q⟩ := q; obtain ⟨H2, I3, q⟩ := un I2 q; exact ⟨σ', _, I3, q⟩
  | cont => obtain ⟨σ', H', I2, q⟩ := q; obtain ⟨H2, I3, q⟩ := un I2 q; exact ⟨σ', _, I3, q⟩
  | ret v => obtain ⟨x, σ', H', I2, r, q⟩ := q; obtain ⟨H2, I3, q⟩ := un I2 q; exact ⟨x, σ', _, I3, r, q⟩
theorem pe_unl {e : Expr} {t : TE} (h : PE X e t) : PE X e (fun σ H Q => t σ H fun v H' => Unl X.H_0 (Q v) H') := by
  refine ⟨fun pins s σ H Q I hw => ?_⟩
  refine thn (h.run pins s σ H _ I hw) fun v s1 ⟨x, H1, I1, r, q⟩ => ?_
  rcases q with q | ⟨d, o, ws, nf, hd, q⟩
  · exact ⟨x, _, I1, r, q⟩
  · exact ⟨x, _, I1.unlock hd nf, r, q⟩
end
/-! ### the three walks over a dict -/
def JD (k : Dk) (d : Addr) (o : Obj) (ws : List (Key × V)) : It := match k with
  | .keys => Itk d o ws
  | .vals => Itd d o ws
  | .items => Iti d o ws
section
variable {K : KW} {ρ : Fx} {H : Hp}
theorem rv_kD (k : Key) : RV K ρ H (kD k) (kV k) := by
  cases k with
  | inl i => exact .mkInt i
  | inr x => exact .mkStr x
theorem RKV.get : ∀ {ds : List (Key × D)} {vs : List (Key × V)} {i : Nat} {k : Key} {v : V}, RKV K ρ H ds vs → vs[i]? = some (k, v) → ∃ d, ds[i]? = some (k, d) ∧ RV K ρ H d v
  | [], _, _, _, _, h, e => by simp only [RKV] at h; subst h; simp at e
  | (kk, d) :: ds, _, 0, _, _, h, e => by
    simp only [RKV] at h
    obtain ⟨v, r, rfl, q, _⟩ := h
    simp at e
    obtain ⟨rfl, rfl⟩ := e
    exact ⟨d, rfl, q⟩
  | (kk, d) :: ds, _, i + 1, _, _, h, e => by
    simp only [RKV] at h
    obtain ⟨v, r, rfl, _, t⟩ := h
    simpa using RKV.get (i := i) t (by simpa using e)
theorem iterD_len (k : Dk) (kvs : List (Key × D)) : (iterD k kvs).length = kvs.length := by cases k <;> simp [iterD]
theorem wk_dk (k : Dk) {d : Addr} {o : Obj} {kvs : List (Key × D)} {ws : List (Key × V)} (z : kvs.length ≤ sizeLine) (hd : H d = some (.frz o (.dK ws))) (r : RKV K ρ H kvs ws) : Wk K ρ H (iterD k kvs) (JD k d o ws) where
  sz := by rw [iterD_len]; exact z
  go := fun l H' i x q e => by
    have e0 := q.frz _ _ _ hd
    have hi : i < ws.length := by
      have := (List.getElem?_eq_some_iff.mp e).1
      rw [iterD_len, r.len] at this; exact this
    cases k <;> exact ⟨e0, hi⟩
  stop := fun l H' q => by
    have e0 := q.frz _ _ _ hd
    cases k <;> exact ⟨e0, by rw [iterD_len, r.len]; exact Nat.le_refl _⟩
  yld := fun l H' i x y H2 q e w => by
    have r' : RKV K ((ρ.nw H).to l) H' kvs ws := RKV.gen (Kq.plus q) _ _ (RKV.dom (n := fun a => H a = none) (fun _ z => z) _ _ r)
    cases k with
    | keys =>
      obtain ⟨rfl, k, v, e1, rfl⟩ := w
      obtain ⟨dd, e2, r2⟩ := r'.get e1
      simp only [iterD, List.getElem?_map, e2, Option.map_some] at e
      cases e
      exact ⟨.inl rfl, rv_kD k⟩
    | vals =>
      obtain ⟨rfl, k, e1⟩ := w
      obtain ⟨dd, e2, r2⟩ := r'.get e1
      simp only [iterD, List.getElem?_map, e2, Option.map_some] at e
      cases e
      exact ⟨.inl rfl, r2⟩
    | items =>
      obtain ⟨T, k, v, e1, rfl, hT, rfl⟩ := w
      obtain ⟨dd, e2, r2⟩ := r'.get e1
      simp only [iterD, List.getElem?_map, e2, Option.map_some] at e
      cases e
      exact ⟨.inr ⟨T, _, hT, rfl⟩, mk_pair (ρ := ρ.nw H) hT (rv_kD k) r2⟩
end
section
variable {K : KW} {ρ : Fx} {H : Hp}
theorem Wk.anti {n m : Addr → Prop} (h : ∀ a, m a → n a) {ds : List D} {J : It} (w : Wk K (ρ.plus n) H ds J) : Wk K (ρ.plus m) H ds J := by
  have up : ∀ {l : List Addr} {H1 : Hp}, Kq (ρ.plus m) H l H1 → Kq (ρ.plus n) H l H1 := fun k => ⟨k.pre, k.tup, k.frz, fun b u e n1 n2 => k.kp b u e n1 fun z => n2 (z.imp id (h b))⟩
  refine ⟨w.sz, fun l H1 i d k e => w.go l H1 i d (up k) e, fun l H1 k => w.stop l H1 (up k), fun l H1 i d x H2 k e y => ?_⟩
  obtain ⟨g, r⟩ := w.yld l H1 i d x H2 (up k) e y
  exact ⟨g, RV.anti (ρ := ((ρ.plus n).nw H).to l) (n := ((ρ.plus m).nw H).n) (fun a z => z.imp (fun z => z.imp id (h a)) id) _ _ r⟩
end
/-! ### walks that may lock -/
/-- either nothing is locked, or the dict at d, which nobody else may write -/
def LkOk (K : KW) (H0 : Hp) (lk : Bool) (ρ : Fx) (H : Hp) (p : List D × Bool) (jh : It × Hp) : Prop :=
  (jh.2 = H ∧ WkB K ρ H p jh.1) ∨ ∃ d ws o, lk = true ∧ H d = some (.dK ws) ∧ jh.2 = upd H d (.frz o (.dK ws)) ∧ d ∉ ρ.l ∧ ¬ ρ.n d ∧ NF H0 d ∧ p.2 = false ∧ Wk K ρ jh.2 p.1 jh.1
def TFj (K : KW) (mg : Str → Option Value) (H0 : Hp) (lk : Bool) (W : WX) (xs : List Nat) (f : Env → Sto → Out (List D × Bool)) : TI := fun σ H R => TG0 K mg (LkOk K H0 lk) W xs f σ H fun jh _ => R jh.1 jh.2
theorem tfj_of {X : Cx} {lk : Bool} {t e : Expr} {K : KW} {mg : Str → Option Value} {W : WX} {xs : List Nat} {f : Env → Sto → Out (List D × Bool)} (h : PI X t e (TFi K mg W xs f)) : PI X t e (TFj K mg X.H_0 lk W xs f) := by
  refine PI.imp h fun σ H R q => ?_
  obtain ⟨ρ, ε, S, rs, rp, q⟩ := q
  refine ⟨ρ, ε, S, rs, rp, ?_⟩
  cases e : f ε S with
  | ok p S1 => rw [e] at q; exact fun l J H1 sx rp1 w => q l (J, H1) H1 sx rp1 (.inl ⟨rfl, w⟩)
  | exc c v S1 => rw [e] at q; exact q
  | bad => rw [e] at q; exact q
section
variable {X : Cx}
theorem pe_cl {e : Expr} {td : TE} (h : PE X e td) : PE X e (fun σ H Q => ∃ Q', td σ H Q' ∧ ∀ v H', Q' v H' → Q v H') := by
  refine ⟨fun pins s σ H Q I hw => ?_⟩
  obtain ⟨Q', q, m⟩ := hw
  exact thn (h.run pins s σ H _ I q) fun v s1 ⟨x, H1, I1, r, q⟩ => ⟨x, H1, I1, r, m _ _ q⟩
theorem pi_dk (k : Dk) {t x e : Expr} {td : TE} (hm : mDk k t x = some e) (he : PE X e td) : PI X t x (fun σ H R => td σ H fun v H1 => ∃ d o ws, v = .ref d ∧ H1 d = some (.frz o (.dK ws)) ∧ R (JD k d o ws) H1) := by
  cases k with
  | keys =>
    cases hm
    exact PI.imp (pi_keys (pe_cl he)) fun σ H R q => ⟨_, q, fun v H1 ⟨d, o, ws, a, b, c⟩ => ⟨d, o, a, .inl ⟨ws, b, c⟩⟩⟩
  | vals =>
    simp only [mDk] at hm
    split at hm
    · split at hm
      · rename_i h
        cases hm
        simp only [Bool.and_eq_true, decide_eq_true_eq] at h
        obtain ⟨⟨rfl, h2⟩, h3⟩ := h
        exact pi_values he (noCall_base h2) h3
      · cases hm
    · cases hm
  | items =>
    simp only [mDk] at hm
    split at hm
    · split at hm
      · rename_i h
        cases hm
        simp only [Bool.and_eq_true, decide_eq_true_eq] at h
        obtain ⟨⟨⟨rfl, h2⟩, h3⟩, h4⟩ := h
        cases t with
        | Tuple es kk tp => exact pi_items he (noCall_base h2) h3
        | _ => simp [isTup] at h4
      · cases hm
    · cases hm
/-- the walk, with its lock -/
theorem pi_dkL (k : Dk) {t x e : Expr} {W : WX} {xs : List Nat} {fa : Env → Sto → Out D} (hm : mDk k t x = some e) (he : PE X e (TF (kw X) X.mg W xs fa)) :
    PI X t x (TFj (kw X) X.mg X.H_0 true W xs fun ε S => (fa ε S).bind fun d S1 => match d with | .dct kvs => if kvs.length ≤ sizeLine then .ok (iterD k kvs, false) S1 else .bad | _ => .bad) := by
  refine PI.imp (pi_dk k hm (pe_lockA he)) fun σ H R q => ?_
  obtain ⟨ρ, ε, S, hs, hp, q⟩ := q
  refine TG0.go2 (xs := xs) (fun i m => m) hs hp q fun l v H1 d S1 s hs1 rp1 r q1 => ?_
  split at q1
  · rename_i kvs
    split at q1
    · rename_i z
      obtain ⟨a, ws, rfl, rd, n1, n2, t⟩ := r.dct
      have rp2 := hs1.rp rp1 xs
      rcases rd with h | ⟨o, h⟩
      · exact .inl ⟨a, ws, rfl, h, fun nf o => ⟨a, o, ws, rfl, upd_same, q1 l (JD k a o ws, upd H1 a (.frz o (.dK ws))) H1 .refl rp2 (.inr ⟨a, ws, o, rfl, h, rfl, n1, n2, nf, rfl, wk_dk k z upd_same (RKV.sw (Sw.lock h o) _ _ t)⟩)⟩⟩
      · exact .inr ⟨a, o, ws, rfl, h, q1 l (JD k a o ws, H1) H1 .refl rp2 (.inl ⟨rfl, wk_dk k z h t, fun z => nomatch z⟩)⟩
    · exact q1.elim
  · exact q1.elim
end
section
variable {K : KW} {mg : Str → Option Value} {ρ : Fx} {H : Hp} {S : Sto}
theorem RKV.map {k : Key} {d : D} {v : V} (r : RV K ρ H d v) : ∀ {ds : List (Key × D)} {vs : List (Key × V)}, RKV K ρ H ds vs → RKV K ρ H (ds.map fun kv => if kv.1 = k then (kv.1, d) else kv) (vs.map fun kv => if kv.1 = k then (kv.1, v) else kv)
  | [], vs, h => by simp only [RKV] at h; subst h; simp only [List.map_nil, RKV]
  | (kk, x) :: xs, vs, h => by
    simp only [RKV] at h
    obtain ⟨w, wr, rfl, rw', rr⟩ := h
    by_cases e : kk = k
    · simp only [List.map_cons, e, if_true, RKV]
      exact ⟨v, _, rfl, r, RKV.map r rr⟩
    · simp only [List.map_cons, e, if_false, RKV]
      exact ⟨w, _, rfl, rw', RKV.map r rr⟩
theorem RKV.snoc {k : Key} {d : D} {v : V} (r : RV K ρ H d v) : ∀ {ds : List (Key × D)} {vs : List (Key × V)}, RKV K ρ H ds vs → RKV K ρ H (ds ++ [(k, d)]) (vs ++ [(k, v)])
  | [], vs, h => by simp only [RKV] at h; subst h; simp only [List.nil_append, RKV]; exact ⟨v, [], rfl, r, rfl⟩
  | (kk, x) :: xs, vs, h => by
    simp only [RKV] at h
    obtain ⟨w, wr, rfl, rw', rr⟩ := h
    simp only [List.cons_append, RKV]
    exact ⟨w, _, rfl, rw', RKV.snoc r rr⟩
theorem RKV.any {k : Key} : ∀ {ds : List (Key × D)} {vs : List (Key × V)}, RKV K ρ H ds vs → hasK ds k = (vs.any fun kv => decide (kv.1 = k))
  | [], vs, h => by simp only [RKV] at h; subst h; rfl
  | (kk, x) :: xs, vs, h => by
    simp only [RKV] at h
    obtain ⟨w, wr, rfl, rw', rr⟩ := h
    have := RKV.any (k := k) rr
    simp only [hasK, List.any_cons] at this ⊢
    rw [this]
theorem RKV.put {k : Key} {d : D} {v : V} (r : RV K ρ H d v) {ds : List (Key × D)} {vs : List (Key × V)} (h : RKV K ρ H ds vs) : RKV K ρ H (putD ds k d) (putK vs k v) := by
  unfold putD putK
  rw [h.any]
  split
  · exact RKV.map r h
  · exact RKV.snoc r h
theorem RKV.merge : ∀ {more : List (Key × D)} {mv : List (Key × V)} {ds : List (Key × D)} {vs : List (Key × V)}, RKV K ρ H ds vs → RKV K ρ H more mv → RKV K ρ H (mergeD ds more) (mergeK vs mv)
  | [], mv, ds, vs, h, m => by simp only [RKV] at m; subst m; exact h
  | (kk, x) :: xs, mv, ds, vs, h, m => by
    simp only [RKV] at m
    obtain ⟨w, wr, rfl, rw', rr⟩ := m
    exact RKV.merge (more := xs) (mv := wr) (RKV.put rw' h) rr
theorem RKV.zip : ∀ {ks : List Key} {ds : List D} {vs : List V}, RVs K ρ H ds vs → RKV K ρ H (ks.zip ds) (ks.zip vs)
  | [], ds, vs, r => by simp only [List.zip_nil_left, RKV]
  | kk :: ks, [], vs, r => by simp only [RVs] at r; subst r; simp only [List.zip_nil_right, RKV]
  | kk :: ks, d :: ds, vs, r => by
    obtain ⟨v, vr, rfl, rv, rr⟩ := r.uncons
    simp only [List.zip_cons_cons, RKV]
    exact ⟨v, _, rfl, rv, RKV.zip rr⟩
theorem putD_le (kvs : List (Key × D)) (k : Key) (v : D) : (putD kvs k v).length ≤ kvs.length + 1 := by
  unfold putD
  split <;> simp
end
end GG
namespace GG
open PySem PySem.Spec PyProof.Rows L2
abbrev W0 : WX := fun _ _ _ _ => False
def TFn (K : KW) (mg : Str → Option Value) (W : WX) (xs : List Nat) (f : Env → Sto → Out D) : TE := fun σ H Q => TG0 K mg (RN K H) W xs f σ H Q
section
variable {K : KW} {mg : Str → Option Value} {W : WX} {ρ : Fx} {H : Hp} {S : Sto}
theorem RN.rv {H0 : Hp} {d : D} {v : V} (h : RN K H0 ρ H d v) : RV K ρ H d v := by
  obtain ⟨a, rfl, _, o⟩ := h
  exact o.rv
theorem TFn.tf {xs : List Nat} {f : Env → Sto → Out D} {σ : L2.St} {Q : VK} (q : TF K mg W xs f σ H Q) : TFn K mg W xs f σ H Q := by
  obtain ⟨ρ, ε, S, hs, hp, q⟩ := q
  refine ⟨ρ, ε, S, hs, hp, ?_⟩
  cases e : f ε S with
  | ok d S1 => rw [e] at q; exact fun l v H' s rp r => q l v H' s rp r.rv
  | exc c x S1 => rw [e] at q; exact q
  | bad => rw [e] at q; exact q
theorem Rp.gw {H' : Hp} (rp : Rp ρ S H) (g : Gw H H') : Rp ρ S H' := by
  rcases g with rfl | ⟨T, o, h, rfl⟩
  · exact rp
  · exact rp.fresh h
theorem Kq.put {a : Addr} {u o : HO} (h : H a = some u) (hn : ρ.n a) (n1 : ∀ xs, u ≠ .tup xs) (n2 : ∀ o x, u ≠ .frz o x) : Kq ρ H ρ.l (upd H a o) :=
  ⟨pre_refl _, fun b xs e => by rw [upd_ne (ne_of e h fun z => n1 _ z.symm)]; exact e, fun b o u e => by rw [upd_ne (ne_of e h fun z => n2 _ _ z.symm)]; exact e,
    fun b u e m1 m2 => ⟨by rw [upd_ne (fun z : b = a => m2 (by rw [z]; exact hn))]; exact e, m1⟩⟩
mutual
theorem tgS_other {own : List Nat} {i : Nat} (hi : i ∉ own) : ∀ (t : Tg) (d : D) (ε ε' : Env), tgIn own t = true → tgS t d ε = some ε' → ε'[i]? = ε[i]?
  | .n j, d, ε, ε', h, e => by
    simp only [tgIn, decide_eq_true_eq] at h
    simp only [tgS] at e
    split at e
    · cases e; rw [List.getElem?_set_ne (fun z : j = i => hi (by rw [← z]; exact h))]
    · cases e
  | .t ts, d, ε, ε', h, e => by
    simp only [tgIn] at h
    simp only [tgS] at e
    split at e
    · exact tgsS_other hi ts _ ε ε' h e
    · exact tgsS_other hi ts _ ε ε' h e
    · cases e
theorem tgsS_other {own : List Nat} {i : Nat} (hi : i ∉ own) : ∀ (ts : List Tg) (ds : List D) (ε ε' : Env), tgsIn own ts = true → tgsS ts ds ε = some ε' → ε'[i]? = ε[i]?
  | [], [], ε, ε', h, e => by simp only [tgsS] at e; cases e; rfl
  | [], _ :: _, ε, ε', h, e => by simp [tgsS] at e
  | _ :: _, [], ε, ε', h, e => by simp [tgsS] at e
  | t :: ts, d :: ds, ε, ε', h, e => by
    simp only [tgsIn, Bool.and_eq_true] at h
    simp only [tgsS] at e
    split at e
    · rename_i ε1 e1
      rw [tgsS_other hi ts ds ε1 ε' h.2 e, tgS_other hi t d ε ε1 h.1 e1]
    · cases e
end
end
section
variable {X : Cx} {W : WX}
theorem lc_tail {own xi xf xe X0 : List Nat} {tg : Tg} {fc : Env → Sto → Out Bool} {fe : Env → Sto → Out D} (hX : X0 = own ++ (xi ++ (xf ++ xe))) (hin : tgIn own tg = true) {σ : L2.St} {H : Hp} {Q : VK}
    {ρ : Fx} {ε : Env} {l1 : List Addr} {J : It} {H1 : Hp} {p : List D × Bool} {S1 : Sto} (hdm : ∀ a, H a ≠ none → H1 a ≠ none) (rs1 : Rs (kw X) (ρ.to l1) H1 ε σ) (rp1 : Rp (ρ.to l1) S1 H1) (wk : Wk (kw X) ((ρ.to l1).plus (Av ε σ xi)) H1 p.1 J)
    (q1 : Post (kw X) X.mg (RN (kw X) H) (XW W σ) ((ρ.to l1).plus (Av ε σ X0)) H1 ((lcLoop (fun d => tgS tg d (wipeE (fz X0 ε) own)) fc fe p.1 S1).bind fun ys S2 => .ok (.lst ys) S2) Q) :
    ∀ D, H1 D = none → ∃ Wi : Nat → Nat → Hp → Prop, (∃ m, Wi 0 m (upd H1 D (.lst []))) ∧ ∀ i m H, Wi i m H →
      (J.stop i H ∧ Q (.ref D) H) ∨ (J.go i H ∧ ∃ Nx : Hp → Prop, (∀ H', Nx H' → ∃ m', m' < m ∧ Wi (i + 1) m' H') ∧ ∀ x H', J.yld i H x H' → gOf X.K tg x (L2.wipe σ own) H' fun σ2 H2 => L2.wipe σ2 own = L2.wipe σ own ∧ TFt (kw X) X.mg W0 xf fc σ2 H2 fun b H3 =>
        if b = true then TF (kw X) X.mg W0 xe fe σ2 H3 fun y H4 => ∃ acc, H4 D = some (.lst acc) ∧ acc.length < sizeLine ∧ Nx (upd H4 D (.lst (acc ++ [y]))) else Nx H3) := by
  intro Da hD
  have hD0 : H Da = none := by
    cases e : H Da with
    | none => rfl
    | some u => exact absurd hD (hdm Da (by rw [e]; exact fun z => nomatch z))
  have nD1 : Da ∉ l1 := (rp1.nin hD).1
  have rsD : Rs (kw X) ((ρ.to l1).plus (· = Da)) H1 (wipeE (fz X0 ε) own) (wipe σ own) := ((rs1.plus (n := (· = Da)) (fun a z => by rw [z]; exact hD)).fz X0).wipe own
  have av0 : ∀ a, Av (wipeE (fz X0 ε) own) (wipe σ own) [] a → Av ε σ X0 a := fun a ⟨i, d, _, e1, e2⟩ => by
    rw [wipeE_get] at e1
    rw [wipe_get] at e2
    by_cases hi : i ∈ own
    · rw [if_pos hi] at e1
      obtain ⟨_, _, z⟩ := Option.map_eq_some_iff.mp e1
      cases z
    · rw [if_neg hi] at e1 e2
      obtain ⟨n, e3⟩ := fz_o e1
      exact ⟨i, d, n, e3, e2⟩
  let ρX : Fx := (ρ.to l1).plus (Av ε σ X0)
  have rpX : Rp ρX S1 H1 := rs1.rp rp1 X0
  let Iv : Nat → Nat → Hp → Prop := fun i m H2 => m = p.1.length - i ∧ i ≤ p.1.length ∧ ∃ l S2 acc vacc, Sx l1 H1 l H2 ∧ Rp (ρX.to l) S2 H2 ∧ Da ∉ l ∧ H2 Da = some (.lst vacc) ∧ RVs (kw X) ((ρX.plus (· = Da)).to l) H2 acc vacc ∧ acc.length ≤ i ∧
    Post (kw X) X.mg (RN (kw X) H) (XW W σ) ρX H1 ((lcLoop (fun d => tgS tg d (wipeE (fz X0 ε) own)) fc fe (p.1.drop i) S2).bind fun ys S3 => .ok (.lst (acc ++ ys)) S3) Q
  refine ⟨Iv, ⟨p.1.length, by simp, Nat.zero_le _, l1, S1, [], [], Sx.fresh hD, rpX.fresh hD, nD1, upd_same, RVs.nil, Nat.le_refl _, q1⟩, ?_⟩
  rintro i m H2 ⟨rfl, hle, l, S2, acc, vacc, sx2, rp2, nD, hD2, racc, hacc, q2⟩
  have kqW : Kq ((ρ.to l1).plus (Av ε σ xi)) H1 l H2 := Sx.kq (ρ := (ρ.to l1).plus (Av ε σ xi)) sx2 (rs1.rp rp1 xi)
  by_cases hlt : i < p.1.length
  · have ed : p.1[i]? = some p.1[i] := List.getElem?_eq_getElem hlt
    rw [List.drop_eq_getElem_cons hlt] at q2
    simp only [lcLoop] at q2
    split at q2
    · exact q2.elim
    · rename_i ε1 et
      refine .inr ⟨wk.go l H2 i _ kqW ed, fun H' => Iv (i + 1) (p.1.length - (i + 1)) H', fun H' h' => ⟨p.1.length - (i + 1), by omega, h'⟩, fun x H3 hy => ?_⟩
      obtain ⟨gw, rv3⟩ := wk.yld l H2 i _ x H3 kqW ed hy
      have sx23 : Sx l H2 l H3 := gw.sx
      have sx3 : Sx l1 H1 l H3 := sx2.trans sx23
      have hD3 : H3 Da = some (.lst vacc) := sx23.kp Da _ hD2 nD
      have rs3 : Rs (kw X) (((ρ.to l1).plus (· = Da)).to l) H3 (wipeE (fz X0 ε) own) (wipe σ own) := rsD.gen (Kq.plus (Sx.kq (ρ := ρ.to l1) sx3 rp1))
      have rp3 : Rp (ρX.to l) S2 H3 := rp2.gw gw
      have rpD3 : Rp (((ρ.to l1).plus (· = Da)).to l) S2 H3 := ⟨rp3.len, rp3.nd, rp3.obj, fun a z => z.elim (fun z => rp3.dom a (.inl z)) fun z => by rw [z, hD3]; exact fun z => nomatch z⟩
      have rvD : RV (kw X) ((((ρ.to l1).plus (· = Da)).to l).plus (Av (wipeE (fz X0 ε) own) (wipe σ own) [])) H3 p.1[i] x :=
        RV.anti (ρ := (((ρ.to l1).plus (Av ε σ xi)).nw H1).to l) (n := ((((ρ.to l1).plus (· = Da)).to l).plus (Av (wipeE (fz X0 ε) own) (wipe σ own) [])).n) (fun a z => by
          rcases z with (z | z) | z
          · exact .inl (.inl z)
          · exact .inr (by rw [z]; exact hD)
          · exact .inl (.inr (Av.anti (fun j m => by rw [hX]; simp [m]) a (av0 a z)))) _ _ rv3
      refine tg_ok tg _ x _ ε1 _ _ et rvD (fun a z => z) rs3 fun σ1 rs4 av4 hw => ⟨?_, ?_⟩
      · rw [hw own hin]
        apply List.ext_getElem?
        intro j
        rw [wipe_get]
        by_cases hj : j ∈ own
        · rw [if_pos hj, wipe_get, if_pos hj]
          cases σ[j]? <;> rfl
        · rw [if_neg hj]
      · have avI : ∀ a, Av ε σ X0 a → Av ε1 σ1 xe a := fun a ⟨j, d, n, e1, e2⟩ => by
          have nown : j ∉ own := fun m => n (by rw [hX]; simp [m])
          refine ⟨j, d, fun m => n (by rw [hX]; simp [m]), ?_, ?_⟩
          · rw [tgS_other nown tg _ _ ε1 hin et, wipeE_get, if_neg nown, fz_get, e1]
            simp [n]
          · have := congrArg (fun l : L2.St => l[j]?) (hw own hin)
            simp only [wipe_get, if_neg nown] at this
            rw [this]; exact e2
        refine ⟨((ρ.to l1).plus (· = Da)).to l, ε1, S2, rs4, rpD3, ?_⟩
        cases e1 : fc ε1 S2 with
        | bad => rw [e1] at q2; exact q2.elim
        | exc c v S3 => rw [e1] at q2; exact q2.elim
        | ok b S3 =>
          rw [e1] at q2
          simp only [noX, Out.bind_ok] at q2
          intro l3 b' H4 sx4 rp4 eb
          have eb' : b' = b := eb
          subst eb'
          have hD4 : H4 Da = some (.lst vacc) := sx4.kp Da _ hD3 nD
          have nD4 : Da ∉ l3 := sx4.out hD3 nD
          have rp4X : Rp (ρX.to l3) S3 H4 := ⟨rp4.len, rp4.nd, rp4.obj, fun a z => sx4.dm a (rp3.dom a z)⟩
          have racc3 : RVs (kw X) ((ρX.plus (· = Da)).to l) H3 acc vacc := by
            have rpA : Rp ((ρX.plus (· = Da)).to l) S2 H2 := ⟨rp2.len, rp2.nd, rp2.obj, fun a z => z.elim (rp2.dom a) fun z => by rw [z, hD2]; exact fun z => nomatch z⟩
            exact racc.mono rpA sx23
          have racc4 : RVs (kw X) ((ρX.plus (· = Da)).to l3) H4 acc vacc := by
            have rpA : Rp ((ρX.plus (· = Da)).to l) S2 H3 := ⟨rp3.len, rp3.nd, rp3.obj, fun a z => z.elim (rp3.dom a) fun z => by rw [z, hD3]; exact fun z => nomatch z⟩
            exact racc3.mono rpA sx4
          cases b' with
          | false =>
            rw [if_neg Bool.false_ne_true] at q2 ⊢
            exact ⟨rfl, hlt, l3, S3, acc, vacc, sx3.trans sx4, rp4X, nD4, hD4, racc4, by omega, q2⟩
          | true =>
            rw [if_pos rfl] at q2 ⊢
            have rpD4 : Rp (((ρ.to l1).plus (· = Da)).to l3) S3 H4 := ⟨rp4.len, rp4.nd, rp4.obj, fun a z => sx4.dm a (rpD3.dom a z)⟩
            refine ⟨((ρ.to l1).plus (· = Da)).to l3, ε1, S3, rs4.mono rpD3 sx4, rpD4, ?_⟩
            cases e2 : fe ε1 S3 with
            | bad => rw [e2] at q2; exact q2.elim
            | exc c v S4 => rw [e2] at q2; exact q2.elim
            | ok y S4 =>
              rw [e2] at q2
              simp only [noX, Out.bind_ok] at q2
              intro l4 vy H5 sx5 rp5 ry
              have hD5 : H5 Da = some (.lst vacc) := sx5.kp Da _ hD4 nD4
              have nD5 : Da ∉ l4 := sx5.out hD4 nD4
              have racc5 : RVs (kw X) ((ρX.plus (· = Da)).to l4) H5 acc vacc := by
                have rpA : Rp ((ρX.plus (· = Da)).to l3) S3 H4 := ⟨rp4.len, rp4.nd, rp4.obj, fun a z => z.elim (rp4X.dom a) fun z => by rw [z, hD4]; exact fun z => nomatch z⟩
                exact racc4.mono rpA sx5
              have ryA : RV (kw X) ((ρX.plus (· = Da)).to l4) H5 y vy :=
                RV.anti (ρ := ((((ρ.to l1).plus (· = Da)).to l3).plus (Av ε1 σ1 xe)).to l4) (n := (ρX.plus (· = Da)).n) (fun a z => by
                  rcases z with (z | z) | z
                  · exact .inl (.inl z)
                  · exact .inr (avI a z)
                  · exact .inl (.inr z)) _ _ ry
              have ra := racc5.len
              have hz := wk.sz
              refine ⟨vacc, hD5, by rw [← ra]; omega, ?_⟩
              have kqD : Kq ((ρX.plus (· = Da)).to l4) H5 l4 (upd H5 Da (.lst (vacc ++ [vy]))) := Kq.put hD5 (.inr rfl) (fun _ z => nomatch z) (fun _ _ z => nomatch z)
              have rp5X : Rp (ρX.to l4) S4 H5 := ⟨rp5.len, rp5.nd, rp5.obj, fun a z => sx5.dm a (rp4X.dom a z)⟩
              refine ⟨rfl, hlt, l4, S4, acc ++ [y], vacc ++ [vy], ?_, ?_, nD5, upd_same, RVs.gen kqD _ _ (racc5.append (.one ryA)), by rw [List.length_append]; simp; omega, ?_⟩
              · have s15 := (sx3.trans sx4).trans sx5
                refine ⟨s15.pre, fun b u e n => ?_, s15.nw, fun b e => ?_⟩
                · rw [upd_ne (ne_of_none e hD)]; exact s15.kp b u e n
                · by_cases hb : b = Da
                  · rw [hb, upd_same]; exact fun z => nomatch z
                  · rw [upd_ne hb]; exact s15.dm b e
              · refine ⟨rp5X.len, rp5X.nd, fun i a t e1 e2 => ?_, fun a z => ?_⟩
                · rw [upd_ne (fun z : a = Da => nD5 (by rw [← z]; exact List.mem_of_getElem? e1))]; exact rp5X.obj i a t e1 e2
                · by_cases hb : a = Da
                  · rw [hb, upd_same]; exact fun z => nomatch z
                  · rw [upd_ne hb]; exact rp5X.dom a z
              · cases e3 : lcLoop (fun d => tgS tg d (wipeE (fz X0 ε) own)) fc fe (p.1.drop (i + 1)) S4 with
                | bad => rw [e3] at q2; exact q2.elim
                | exc c v S5 => exact absurd e3 (lcLoop_noexc _ _ _ _ _)
                | ok ys S5 =>
                  rw [e3] at q2
                  simp only [Out.bind_ok] at q2 ⊢
                  simpa only [List.append_assoc, List.cons_append, List.nil_append] using q2
  · have hii : i = p.1.length := by omega
    subst hii
    rw [List.drop_length] at q2
    simp only [lcLoop, Out.bind_ok, List.append_nil] at q2
    refine .inl ⟨wk.stop l H2 kqW, q2 l (.ref Da) H2 sx2 rp2 ⟨Da, rfl, hD0, vacc, Nat.le_trans hacc wk.sz, hD2, nD, fun z => rpX.dom Da z hD, racc⟩⟩
/-- what is asked behind a walk that may have locked -/
theorem Post.lock {α β : Type} {RA : Fx → Hp → α → β → Prop} {K : KW} {mg : Str → Option Value} {E : XK} {ρ : Fx} {H H0 : Hp} {d : Addr} {ws : List (Key × V)} {o : Obj} {r : Out α} {Q : β → Hp → Prop} (hd : H d = some (.dK ws)) (nl : d ∉ ρ.l) (nf : NF H0 d) (nex : ∀ c v S, r ≠ .exc c v S)
    (hra : ∀ ρ' H' a b, H' d = some (.frz o (.dK ws)) → RA ρ' H' a b → RA ρ' (upd H' d (.dK ws)) a b) (h : Post K mg RA E ρ H r Q) : Post K mg RA E ρ (upd H d (.frz o (.dK ws))) r (fun v H' => Unl H0 (Q v) H') := by
  cases r with
  | ok a S =>
    intro l v H' sx rp ra
    obtain ⟨e0, _, sx'⟩ := sx.unl hd nl
    exact .inr ⟨d, o, ws, nf, e0, h l v _ sx' (Rp.sw (Sw.unlock e0) rp) (hra _ _ _ _ e0 ra)⟩
  | exc c v S => exact absurd rfl (nex c v S)
  | bad => exact h
theorem RN.unl {K : KW} {H H' : Hp} {ρ : Fx} {d : Addr} {ws : List (Key × V)} {o : Obj} {x : D} {v : V} (e0 : H' d = some (.frz o (.dK ws))) (h : RN K H ρ H' x v) : RN K H ρ (upd H' d (.dK ws)) x v := by
  obtain ⟨a, rfl, h0, ow⟩ := h
  refine ⟨a, rfl, h0, ow.sw (Sw.unlock e0) fun z => ?_⟩
  subst z
  unfold Own at ow
  split at ow
  · obtain ⟨vs, _, e, _⟩ := ow; rw [e0] at e; cases e
  · obtain ⟨vs, e, _⟩ := ow; rw [e0] at e; cases e
  · exact ow
theorem fz_idem (xs : List Nat) (ε : Env) : fz xs (fz xs ε) = fz xs ε := by
  apply List.ext_getElem?
  intro i
  rw [fz_get, fz_get]
  cases ε[i]? with
  | none => rfl
  | some s => by_cases h : i ∈ xs <;> cases s <;> simp [h, Sl.frz]
theorem lc_imp {lk : Bool} {own xi xf xe X0 : List Nat} {tg : Tg} {fi : Env → Sto → Out (List D × Bool)} {fc : Env → Sto → Out Bool} {fe : Env → Sto → Out D} (hX : X0 = own ++ (xi ++ (xf ++ xe))) (hin : tgIn own tg = true) (σ : L2.St) (H : Hp) (Q : VK)
    (q : TFn (kw X) X.mg W X0 (fun ε S => (fi ε S).bind fun p S1 =>
      (lcLoop (fun d => tgS tg d (wipeE (fz X0 ε) own)) fc fe p.1 S1).bind fun ys S2 => .ok (.lst ys) S2) σ H Q) :
    tLc (TFj (kw X) X.mg X.H_0 lk W xi fi) (gOf X.K tg) (TFt (kw X) X.mg W0 xf fc) (TF (kw X) X.mg W0 xe fe) own σ H (fun v H' => Unl X.H_0 (Q v) H') := by
  obtain ⟨ρ, ε, S, rs, rp, q⟩ := q
  refine TG0.go2 (xs := X0) (fun i m => by rw [hX]; simp [m]) rs rp q fun l1 jh H1 p S1 sx1 rs1 rp1 wk q1 => ?_
  rcases wk with ⟨e, wk⟩ | ⟨d, ws, o, _, hd, e, n1, n2, nf, ep, wk⟩
  · rw [e]
    exact lc_tail (Q := fun v H' => Unl X.H_0 (Q v) H') hX hin sx1.dm rs1 rp1 wk.1 (q1.imp fun v H' z => Or.inl z)
  · have nav : ¬ Av ε σ xi d := fun z => n2 (.inr z)
    have sub : ∀ {ys : List Nat} a, Av (fz X0 ε) σ ys a → Av ε σ (X0 ++ ys) a := fun a z => Av.fz a z
    have eav : Av (fz X0 ε) σ X0 = Av ε σ X0 := by
      funext a
      refine propext ⟨fun z => Av.anti (fun j m => List.mem_append_left _ m) a (sub a z), fun ⟨i, x, n, e1, e2⟩ => ⟨i, x, n, ?_, e2⟩⟩
      rw [fz_get, e1]
      simp [n]
    have xiX : ∀ j, j ∈ xi → j ∈ X0 := fun j m => by rw [hX]; simp [m]
    have nav2 : ¬ Av (fz X0 ε) σ [] d := fun z => nav (Av.anti (fun j m => by rw [List.append_nil]; exact xiX j m) d (sub d z))
    have w := Sw.lock hd o
    rw [e]
    rw [e] at wk
    have nex : ∀ c v S, ((lcLoop (fun d => tgS tg d (wipeE (fz X0 ε) own)) fc fe p.1 S1).bind fun ys S2 => Out.ok (D.lst ys) S2) ≠ .exc c v S := fun c v S z => by
      cases e3 : lcLoop (fun d => tgS tg d (wipeE (fz X0 ε) own)) fc fe p.1 S1 with
      | bad => rw [e3] at z; cases z
      | exc c v S5 => exact absurd e3 (lcLoop_noexc _ _ _ _ _)
      | ok ys S5 => rw [e3] at z; cases z
    have q2 := Post.lock (RA := RN (kw X) H) (ρ := (ρ.to l1).plus (Av ε σ X0)) (H0 := X.H_0) (o := o) hd n1 nf nex (fun ρ' H' a b e0 ra => RN.unl e0 ra) q1
    have hdm : ∀ a, H a ≠ none → upd H1 d (.frz o (.dK ws)) a ≠ none := fun a z => by
      by_cases ha : a = d
      · rw [ha, upd_same]; exact fun z => nomatch z
      · rw [upd_ne ha]; exact sx1.dm a z
    refine lc_tail (W := W) (ε := fz X0 ε) (ρ := ρ) (Q := fun v H' => Unl X.H_0 (Q v) H') hX hin hdm (Rs.sw w nav2 (rs1.fz _)) (Rp.sw w rp1) (Wk.anti (fun a z => Av.anti (fun j m => List.mem_append_right _ m) a (sub a z)) wk) ?_
    rw [eav, fz_idem]
    exact q2
theorem pe_lcG {el t it : Expr} {fs : List Expr} {scope : Scope} {pos : Pos} {own xi xf xe X0 : List Nat} {tg : Tg} {fi : Env → Sto → Out (List D × Bool)} {fc : Env → Sto → Out Bool} {fe : Env → Sto → Out D}
    (hX : X0 = own ++ (xi ++ (xf ++ xe))) (hc : X.calm = true) (hN : X.N.Nodup) {lk : Bool} (hi : PI X t it (TFj (kw X) X.mg X.H_0 lk W xi fi)) (ok : BlkOk X.N X.env.scope scope (ownOf X.N own)) (hin : tgIn own tg = true)
    (hg : ∀ (s : Shared) (H : Hp) (C : Addr) (c : List (Str × Addr)) (fp : List Addr), PG (X.blk s H scope (compEnvC scope c C X.env) fp) t (gOf X.K tg))
    (ht : ∀ (s : Shared) (H : Hp) (C : Addr) (c : List (Str × Addr)) (fp : List Addr), PTs (X.blk s H scope (compEnvC scope c C X.env) fp) fs (TFt (kw X) X.mg W0 xf fc))
    (he : ∀ (s : Shared) (H : Hp) (C : Addr) (c : List (Str × Addr)) (fp : List Addr), PE (X.blk s H scope (compEnvC scope c C X.env) fp) el (TF (kw X) X.mg W0 xe fe)) (hs : ∀ x, foldedSetIterable it X.env x = pure x) :
    PE X (.ListComp el [⟨t, it, fs, 0⟩] scope pos) (TFn (kw X) X.mg W X0 fun ε S => (fi ε S).bind fun p S1 =>
      (lcLoop (fun d => tgS tg d (wipeE (fz X0 ε) own)) fc fe p.1 S1).bind fun ys S2 => .ok (.lst ys) S2) := by
  have eown : (ownOf X.N own).map (·.2) = own := by
    unfold ownOf
    rw [List.map_map]
    exact List.map_id' _
  have base := pe_lc (pos := pos) hc hN hi ok hg ht he hs
  rw [eown] at base
  exact PE.imp (pe_unl base) fun σ H Q q => lc_imp hX hin σ H Q q
end
end GG
namespace GG
open PySem PySem.Spec PyProof.Rows L2
section
variable {X : Cx} {W : WX}
theorem dcLoop_noexc {tgt : D → Option Env} {fc : Env → Sto → Out Bool} {fk fe : Env → Sto → Out D} : ∀ (ds : List D) (acc : List (Key × D)) (S : Sto) (c : Str) (v : Option (Str × D)) (S1 : Sto), dcLoop tgt fc fk fe ds acc S ≠ .exc c v S1
  | [], acc, S, c, v, S1 => by simp [dcLoop]
  | d :: r, acc, S, c, v, S1 => by
    simp only [dcLoop]
    split
    · exact fun z => nomatch z
    · rename_i ε _
      cases fc ε S with
      | bad => exact fun z => nomatch z
      | exc _ _ _ => exact fun z => nomatch z
      | ok b S2 =>
        simp only [noX, Out.bind_ok]
        split
        · cases fk ε S2 with
          | bad => exact fun z => nomatch z
          | exc _ _ _ => exact fun z => nomatch z
          | ok x S3 =>
            simp only [noX, Out.bind_ok]
            split
            · cases fe ε S3 with
              | bad => exact fun z => nomatch z
              | exc _ _ _ => exact fun z => nomatch z
              | ok y S4 => exact dcLoop_noexc r _ S4 c v S1
            · exact fun z => nomatch z
        · exact dcLoop_noexc r acc S2 c v S1
theorem dc_tail {own xi xf xk xe X0 : List Nat} {tg : Tg} {fc : Env → Sto → Out Bool} {fk fe : Env → Sto → Out D} (hX : X0 = own ++ (xi ++ (xf ++ (xk ++ xe)))) (hin : tgIn own tg = true) {σ : L2.St} {H : Hp} {Q : VK}
    {ρ : Fx} {ε : Env} {l1 : List Addr} {J : It} {H1 : Hp} {p : List D × Bool} {S1 : Sto} (hdm : ∀ a, H a ≠ none → H1 a ≠ none) (rs1 : Rs (kw X) (ρ.to l1) H1 ε σ) (rp1 : Rp (ρ.to l1) S1 H1) (wk : Wk (kw X) ((ρ.to l1).plus (Av ε σ xi)) H1 p.1 J)
    (q1 : Post (kw X) X.mg (RN (kw X) H) (XW W σ) ((ρ.to l1).plus (Av ε σ X0)) H1 ((dcLoop (fun d => tgS tg d (wipeE (fz X0 ε) own)) fc fk fe p.1 [] S1).bind fun kvs S2 => .ok (.dct kvs) S2) Q) :
    ∀ D, H1 D = none → ∃ Wi : Nat → Nat → Hp → Prop, (∃ m, Wi 0 m (upd H1 D (.dK []))) ∧ ∀ i m H, Wi i m H →
      (J.stop i H ∧ Q (.ref D) H) ∨ (J.go i H ∧ ∃ Nx : Hp → Prop, (∀ H', Nx H' → ∃ m', m' < m ∧ Wi (i + 1) m' H') ∧ ∀ x H', J.yld i H x H' → gOf X.K tg x (L2.wipe σ own) H' fun σ2 H2 => L2.wipe σ2 own = L2.wipe σ own ∧ TFt (kw X) X.mg W0 xf fc σ2 H2 fun b H3 =>
        if b = true then TF (kw X) X.mg W0 xk fk σ2 H3 fun y H4 => TF (kw X) X.mg W0 xe fe σ2 H4 fun z H5 => ∃ kvs k, y = kV k ∧ H5 D = some (.dK kvs) ∧ kvs.length < sizeLine ∧ Nx (upd H5 D (.dK (putK kvs k z))) else Nx H3) := by
  intro Da hD
  have hD0 : H Da = none := by
    cases e : H Da with
    | none => rfl
    | some u => exact absurd hD (hdm Da (by rw [e]; exact fun z => nomatch z))
  have nD1 : Da ∉ l1 := (rp1.nin hD).1
  have rsD : Rs (kw X) ((ρ.to l1).plus (· = Da)) H1 (wipeE (fz X0 ε) own) (wipe σ own) := ((rs1.plus (n := (· = Da)) (fun a z => by rw [z]; exact hD)).fz X0).wipe own
  have av0 : ∀ a, Av (wipeE (fz X0 ε) own) (wipe σ own) [] a → Av ε σ X0 a := fun a ⟨i, d, _, e1, e2⟩ => by
    rw [wipeE_get] at e1
    rw [wipe_get] at e2
    by_cases hi : i ∈ own
    · rw [if_pos hi] at e1
      obtain ⟨_, _, z⟩ := Option.map_eq_some_iff.mp e1
      cases z
    · rw [if_neg hi] at e1 e2
      obtain ⟨n, e3⟩ := fz_o e1
      exact ⟨i, d, n, e3, e2⟩
  let ρX : Fx := (ρ.to l1).plus (Av ε σ X0)
  have rpX : Rp ρX S1 H1 := rs1.rp rp1 X0
  let Iv : Nat → Nat → Hp → Prop := fun i m H2 => m = p.1.length - i ∧ i ≤ p.1.length ∧ ∃ l S2 acc vacc, Sx l1 H1 l H2 ∧ Rp (ρX.to l) S2 H2 ∧ Da ∉ l ∧ H2 Da = some (.dK vacc) ∧ RKV (kw X) ((ρX.plus (· = Da)).to l) H2 acc vacc ∧ acc.length ≤ i ∧
    Post (kw X) X.mg (RN (kw X) H) (XW W σ) ρX H1 ((dcLoop (fun d => tgS tg d (wipeE (fz X0 ε) own)) fc fk fe (p.1.drop i) acc S2).bind fun kvs S3 => .ok (.dct kvs) S3) Q
  refine ⟨Iv, ⟨p.1.length, by simp, Nat.zero_le _, l1, S1, [], [], Sx.fresh hD, rpX.fresh hD, nD1, upd_same, (by simp only [RKV]), Nat.le_refl _, q1⟩, ?_⟩
  rintro i m H2 ⟨rfl, hle, l, S2, acc, vacc, sx2, rp2, nD, hD2, racc, hacc, q2⟩
  have kqW : Kq ((ρ.to l1).plus (Av ε σ xi)) H1 l H2 := Sx.kq (ρ := (ρ.to l1).plus (Av ε σ xi)) sx2 (rs1.rp rp1 xi)
  by_cases hlt : i < p.1.length
  · have ed : p.1[i]? = some p.1[i] := List.getElem?_eq_getElem hlt
    rw [List.drop_eq_getElem_cons hlt] at q2
    simp only [dcLoop] at q2
    split at q2
    · exact q2.elim
    · rename_i ε1 et
      refine .inr ⟨wk.go l H2 i _ kqW ed, fun H' => Iv (i + 1) (p.1.length - (i + 1)) H', fun H' h' => ⟨p.1.length - (i + 1), by omega, h'⟩, fun x H3 hy => ?_⟩
      obtain ⟨gw, rv3⟩ := wk.yld l H2 i _ x H3 kqW ed hy
      have sx23 : Sx l H2 l H3 := gw.sx
      have sx3 : Sx l1 H1 l H3 := sx2.trans sx23
      have hD3 : H3 Da = some (.dK vacc) := sx23.kp Da _ hD2 nD
      have rs3 : Rs (kw X) (((ρ.to l1).plus (· = Da)).to l) H3 (wipeE (fz X0 ε) own) (wipe σ own) := rsD.gen (Kq.plus (Sx.kq (ρ := ρ.to l1) sx3 rp1))
      have rp3 : Rp (ρX.to l) S2 H3 := rp2.gw gw
      have rpD3 : Rp (((ρ.to l1).plus (· = Da)).to l) S2 H3 := ⟨rp3.len, rp3.nd, rp3.obj, fun a z => z.elim (fun z => rp3.dom a (.inl z)) fun z => by rw [z, hD3]; exact fun z => nomatch z⟩
      have rvD : RV (kw X) ((((ρ.to l1).plus (· = Da)).to l).plus (Av (wipeE (fz X0 ε) own) (wipe σ own) [])) H3 p.1[i] x :=
        RV.anti (ρ := (((ρ.to l1).plus (Av ε σ xi)).nw H1).to l) (n := ((((ρ.to l1).plus (· = Da)).to l).plus (Av (wipeE (fz X0 ε) own) (wipe σ own) [])).n) (fun a z => by
          rcases z with (z | z) | z
          · exact .inl (.inl z)
          · exact .inr (by rw [z]; exact hD)
          · exact .inl (.inr (Av.anti (fun j m => by rw [hX]; simp [m]) a (av0 a z)))) _ _ rv3
      refine tg_ok tg _ x _ ε1 _ _ et rvD (fun a z => z) rs3 fun σ1 rs4 av4 hw => ⟨?_, ?_⟩
      · rw [hw own hin]
        apply List.ext_getElem?
        intro j
        rw [wipe_get]
        by_cases hj : j ∈ own
        · rw [if_pos hj, wipe_get, if_pos hj]
          cases σ[j]? <;> rfl
        · rw [if_neg hj]
      · have avG : ∀ ys : List Nat, (∀ j, j ∈ ys → j ∈ X0) → ∀ a, Av ε σ X0 a → Av ε1 σ1 ys a := fun ys hys a ⟨j, d, n, e1, e2⟩ => by
          have nown : j ∉ own := fun m => n (by rw [hX]; simp [m])
          refine ⟨j, d, fun m => n (hys j m), ?_, ?_⟩
          · rw [tgS_other nown tg _ _ ε1 hin et, wipeE_get, if_neg nown, fz_get, e1]
            simp [n]
          · have := congrArg (fun l : L2.St => l[j]?) (hw own hin)
            simp only [wipe_get, if_neg nown] at this
            rw [this]; exact e2
        refine ⟨((ρ.to l1).plus (· = Da)).to l, ε1, S2, rs4, rpD3, ?_⟩
        cases e1 : fc ε1 S2 with
        | bad => rw [e1] at q2; exact q2.elim
        | exc c v S3 => rw [e1] at q2; exact q2.elim
        | ok b S3 =>
          rw [e1] at q2
          simp only [noX, Out.bind_ok] at q2
          intro l3 b' H4 sx4 rp4 eb
          have eb' : b' = b := eb
          subst eb'
          have hD4 : H4 Da = some (.dK vacc) := sx4.kp Da _ hD3 nD
          have nD4 : Da ∉ l3 := sx4.out hD3 nD
          have rp4X : Rp (ρX.to l3) S3 H4 := ⟨rp4.len, rp4.nd, rp4.obj, fun a z => sx4.dm a (rp3.dom a z)⟩
          have racc3 : RKV (kw X) ((ρX.plus (· = Da)).to l) H3 acc vacc := by
            have rpA : Rp ((ρX.plus (· = Da)).to l) S2 H2 := ⟨rp2.len, rp2.nd, rp2.obj, fun a z => z.elim (rp2.dom a) fun z => by rw [z, hD2]; exact fun z => nomatch z⟩
            exact racc.mono rpA sx23
          have racc4 : RKV (kw X) ((ρX.plus (· = Da)).to l3) H4 acc vacc := by
            have rpA : Rp ((ρX.plus (· = Da)).to l) S2 H3 := ⟨rp3.len, rp3.nd, rp3.obj, fun a z => z.elim (rp3.dom a) fun z => by rw [z, hD3]; exact fun z => nomatch z⟩
            exact racc3.mono rpA sx4
          cases b' with
          | false =>
            rw [if_neg Bool.false_ne_true] at q2 ⊢
            exact ⟨rfl, hlt, l3, S3, acc, vacc, sx3.trans sx4, rp4X, nD4, hD4, racc4, by omega, q2⟩
          | true =>
            rw [if_pos rfl] at q2 ⊢
            have avK := avG xk (fun j m => by rw [hX]; simp [m])
            have avE := avG xe (fun j m => by rw [hX]; simp [m])
            have rpD4 : Rp (((ρ.to l1).plus (· = Da)).to l3) S3 H4 := ⟨rp4.len, rp4.nd, rp4.obj, fun a z => sx4.dm a (rpD3.dom a z)⟩
            have rs5 := rs4.mono rpD3 sx4
            refine ⟨((ρ.to l1).plus (· = Da)).to l3, ε1, S3, rs5, rpD4, ?_⟩
            cases e2 : fk ε1 S3 with
            | bad => rw [e2] at q2; exact q2.elim
            | exc c v S4 => rw [e2] at q2; exact q2.elim
            | ok xkey S4 =>
              rw [e2] at q2
              simp only [noX, Out.bind_ok] at q2
              intro l4 vk H5 sx5 rp5 rk
              split at q2
              · rename_i kk ek
                have evk : vk = kV kk := keyOf_V rk ek
                have hD5 : H5 Da = some (.dK vacc) := sx5.kp Da _ hD4 nD4
                have nD5 : Da ∉ l4 := sx5.out hD4 nD4
                have racc5 : RKV (kw X) ((ρX.plus (· = Da)).to l4) H5 acc vacc := by
                  have rpA : Rp ((ρX.plus (· = Da)).to l3) S3 H4 := ⟨rp4.len, rp4.nd, rp4.obj, fun a z => z.elim (rp4X.dom a) fun z => by rw [z, hD4]; exact fun z => nomatch z⟩
                  exact racc4.mono rpA sx5
                have rp5X : Rp (ρX.to l4) S4 H5 := ⟨rp5.len, rp5.nd, rp5.obj, fun a z => sx5.dm a (rp4X.dom a z)⟩
                have rpD5 : Rp (((ρ.to l1).plus (· = Da)).to l4) S4 H5 := ⟨rp5.len, rp5.nd, rp5.obj, fun a z => sx5.dm a (rpD4.dom a z)⟩
                refine ⟨((ρ.to l1).plus (· = Da)).to l4, ε1, S4, rs5.mono rpD4 sx5, rpD5, ?_⟩
                cases e3 : fe ε1 S4 with
                | bad => rw [e3] at q2; exact q2.elim
                | exc c v S5 => rw [e3] at q2; exact q2.elim
                | ok y S5 =>
                  rw [e3] at q2
                  simp only [noX, Out.bind_ok] at q2
                  intro l5 vy H6 sx6 rp6 ry
                  have hD6 : H6 Da = some (.dK vacc) := sx6.kp Da _ hD5 nD5
                  have nD6 : Da ∉ l5 := sx6.out hD5 nD5
                  have racc6 : RKV (kw X) ((ρX.plus (· = Da)).to l5) H6 acc vacc := by
                    have rpA : Rp ((ρX.plus (· = Da)).to l4) S4 H5 := ⟨rp5.len, rp5.nd, rp5.obj, fun a z => z.elim (rp5X.dom a) fun z => by rw [z, hD5]; exact fun z => nomatch z⟩
                    exact racc5.mono rpA sx6
                  have ryA : RV (kw X) ((ρX.plus (· = Da)).to l5) H6 y vy :=
                    RV.anti (ρ := ((((ρ.to l1).plus (· = Da)).to l4).plus (Av ε1 σ1 xe)).to l5) (n := (ρX.plus (· = Da)).n) (fun a z => by
                      rcases z with (z | z) | z
                      · exact .inl (.inl z)
                      · exact .inr (avE a z)
                      · exact .inl (.inr z)) _ _ ry
                  have ra := racc6.len
                  have hz := wk.sz
                  refine ⟨vacc, kk, evk, hD6, by rw [← ra]; omega, ?_⟩
                  have kqD : Kq ((ρX.plus (· = Da)).to l5) H6 l5 (upd H6 Da (.dK (putK vacc kk vy))) := Kq.put hD6 (.inr rfl) (fun _ z => nomatch z) (fun _ _ z => nomatch z)
                  have rp6X : Rp (ρX.to l5) S5 H6 := ⟨rp6.len, rp6.nd, rp6.obj, fun a z => sx6.dm a (rp5X.dom a z)⟩
                  have pl := putD_le acc kk y
                  refine ⟨rfl, hlt, l5, S5, putD acc kk y, putK vacc kk vy, ?_, ?_, nD6, upd_same, RKV.gen kqD _ _ (RKV.put ryA racc6), by omega, q2⟩
                  · have s15 := ((sx3.trans sx4).trans sx5).trans sx6
                    refine ⟨s15.pre, fun b u e n => ?_, s15.nw, fun b e => ?_⟩
                    · rw [upd_ne (ne_of_none e hD)]; exact s15.kp b u e n
                    · by_cases hb : b = Da
                      · rw [hb, upd_same]; exact fun z => nomatch z
                      · rw [upd_ne hb]; exact s15.dm b e
                  · refine ⟨rp6X.len, rp6X.nd, fun i a t e1 e2 => ?_, fun a z => ?_⟩
                    · rw [upd_ne (fun z : a = Da => nD6 (by rw [← z]; exact List.mem_of_getElem? e1))]; exact rp6X.obj i a t e1 e2
                    · by_cases hb : a = Da
                      · rw [hb, upd_same]; exact fun z => nomatch z
                      · rw [upd_ne hb]; exact rp6X.dom a z
              · exact q2.elim
  · have hii : i = p.1.length := by omega
    subst hii
    rw [List.drop_length] at q2
    simp only [dcLoop, Out.bind_ok] at q2
    refine .inl ⟨wk.stop l H2 kqW, q2 l (.ref Da) H2 sx2 rp2 ⟨Da, rfl, hD0, vacc, hD2, nD, fun z => rpX.dom Da z hD, racc⟩⟩
theorem dc_imp {lk : Bool} {own xi xf xk xe X0 : List Nat} {tg : Tg} {fi : Env → Sto → Out (List D × Bool)} {fc : Env → Sto → Out Bool} {fk fe : Env → Sto → Out D} (hX : X0 = own ++ (xi ++ (xf ++ (xk ++ xe)))) (hin : tgIn own tg = true) (σ : L2.St) (H : Hp) (Q : VK)
    (q : TFn (kw X) X.mg W X0 (fun ε S => (fi ε S).bind fun p S1 =>
      (dcLoop (fun d => tgS tg d (wipeE (fz X0 ε) own)) fc fk fe p.1 [] S1).bind fun kvs S2 => .ok (.dct kvs) S2) σ H Q) :
    tDc (TFj (kw X) X.mg X.H_0 lk W xi fi) (gOf X.K tg) (TFt (kw X) X.mg W0 xf fc) (TF (kw X) X.mg W0 xk fk) (TF (kw X) X.mg W0 xe fe) own σ H (fun v H' => Unl X.H_0 (Q v) H') := by
  obtain ⟨ρ, ε, S, rs, rp, q⟩ := q
  refine TG0.go2 (xs := X0) (fun i m => by rw [hX]; simp [m]) rs rp q fun l1 jh H1 p S1 sx1 rs1 rp1 wk q1 => ?_
  rcases wk with ⟨e, wk⟩ | ⟨d, ws, o, _, hd, e, n1, n2, nf, ep, wk⟩
  · rw [e]
    exact dc_tail (Q := fun v H' => Unl X.H_0 (Q v) H') hX hin sx1.dm rs1 rp1 wk.1 (q1.imp fun v H' z => Or.inl z)
  · have nav : ¬ Av ε σ xi d := fun z => n2 (.inr z)
    have sub : ∀ {ys : List Nat} a, Av (fz X0 ε) σ ys a → Av ε σ (X0 ++ ys) a := fun a z => Av.fz a z
    have eav : Av (fz X0 ε) σ X0 = Av ε σ X0 := by
      funext a
      refine propext ⟨fun z => Av.anti (fun j m => List.mem_append_left _ m) a (sub a z), fun ⟨i, x, n, e1, e2⟩ => ⟨i, x, n, ?_, e2⟩⟩
      rw [fz_get, e1]
      simp [n]
    have xiX : ∀ j, j ∈ xi → j ∈ X0 := fun j m => by rw [hX]; simp [m]
    have nav2 : ¬ Av (fz X0 ε) σ [] d := fun z => nav (Av.anti (fun j m => by rw [List.append_nil]; exact xiX j m) d (sub d z))
    have w := Sw.lock hd o
    rw [e]
    rw [e] at wk
    have nex : ∀ c v S, ((dcLoop (fun d => tgS tg d (wipeE (fz X0 ε) own)) fc fk fe p.1 [] S1).bind fun kvs S2 => Out.ok (D.dct kvs) S2) ≠ .exc c v S := fun c v S z => by
      cases e3 : dcLoop (fun d => tgS tg d (wipeE (fz X0 ε) own)) fc fk fe p.1 [] S1 with
      | bad => rw [e3] at z; cases z
      | exc c v S5 => exact absurd e3 (dcLoop_noexc _ _ _ _ _ _)
      | ok ys S5 => rw [e3] at z; cases z
    have q2 := Post.lock (RA := RN (kw X) H) (ρ := (ρ.to l1).plus (Av ε σ X0)) (H0 := X.H_0) (o := o) hd n1 nf nex (fun ρ' H' a b e0 ra => RN.unl e0 ra) q1
    have hdm : ∀ a, H a ≠ none → upd H1 d (.frz o (.dK ws)) a ≠ none := fun a z => by
      by_cases ha : a = d
      · rw [ha, upd_same]; exact fun z => nomatch z
      · rw [upd_ne ha]; exact sx1.dm a z
    refine dc_tail (W := W) (ε := fz X0 ε) (ρ := ρ) (Q := fun v H' => Unl X.H_0 (Q v) H') hX hin hdm (Rs.sw w nav2 (rs1.fz _)) (Rp.sw w rp1) (Wk.anti (fun a z => Av.anti (fun j m => List.mem_append_right _ m) a (sub a z)) wk) ?_
    rw [eav, fz_idem]
    exact q2
theorem pe_dcG {kx el t it : Expr} {fs : List Expr} {scope : Scope} {pos : Pos} {own xi xf xk xe X0 : List Nat} {tg : Tg} {fi : Env → Sto → Out (List D × Bool)} {fc : Env → Sto → Out Bool} {fk fe : Env → Sto → Out D}
    (hX : X0 = own ++ (xi ++ (xf ++ (xk ++ xe)))) (hc : X.calm = true) (hN : X.N.Nodup) {lk : Bool} (hi : PI X t it (TFj (kw X) X.mg X.H_0 lk W xi fi)) (ok : BlkOk X.N X.env.scope scope (ownOf X.N own)) (hin : tgIn own tg = true)
    (hg : ∀ (s : Shared) (H : Hp) (C : Addr) (c : List (Str × Addr)) (fp : List Addr), PG (X.blk s H scope (compEnvC scope c C X.env) fp) t (gOf X.K tg))
    (ht : ∀ (s : Shared) (H : Hp) (C : Addr) (c : List (Str × Addr)) (fp : List Addr), PTs (X.blk s H scope (compEnvC scope c C X.env) fp) fs (TFt (kw X) X.mg W0 xf fc))
    (hk : ∀ (s : Shared) (H : Hp) (C : Addr) (c : List (Str × Addr)) (fp : List Addr), PE (X.blk s H scope (compEnvC scope c C X.env) fp) kx (TF (kw X) X.mg W0 xk fk))
    (he : ∀ (s : Shared) (H : Hp) (C : Addr) (c : List (Str × Addr)) (fp : List Addr), PE (X.blk s H scope (compEnvC scope c C X.env) fp) el (TF (kw X) X.mg W0 xe fe)) (hs : ∀ x, foldedSetIterable it X.env x = pure x) :
    PE X (.DictComp kx el [⟨t, it, fs, 0⟩] scope pos) (TFn (kw X) X.mg W X0 fun ε S => (fi ε S).bind fun p S1 =>
      (dcLoop (fun d => tgS tg d (wipeE (fz X0 ε) own)) fc fk fe p.1 [] S1).bind fun kvs S2 => .ok (.dct kvs) S2) := by
  have eown : (ownOf X.N own).map (·.2) = own := by
    unfold ownOf
    rw [List.map_map]
    exact List.map_id' _
  have base := pe_dc (pos := pos) hc hN hi ok hg ht hk he hs
  rw [eown] at base
  exact PE.imp (pe_unl base) fun σ H Q q => dc_imp hX hin σ H Q q
theorem ps_setDc {i : Nat} {y : Str} {py : Pos} {kx elt tg iter : Expr} {ifs : List Expr} {scope : Scope} {own : List (Str × Nat)} {pos spos : Pos} {wi : TI} {g : TG} {tt : TT} {tk te : TE} (hc : X.calm = true) (hN : X.N.Nodup) (hy : X.N[i]? = some y) (hyl : X.env.scope.names.lookup y = some .local)
    (hsw : swapsWith (.DictComp kx elt [⟨tg, iter, ifs, 0⟩] scope pos) (some (.Name y py)) spos.line X.env = pure true) (hi : PI X tg iter wi) (ok : BlkOk X.N X.env.scope scope own)
    (hg : ∀ (s : Shared) (H : Hp) (C : Addr) (cl : List (Str × Addr)) (fp : List Addr), PG (X.blk s H scope (compEnvC scope cl C X.env) fp) tg g) (ht : ∀ (s : Shared) (H : Hp) (C : Addr) (cl : List (Str × Addr)) (fp : List Addr), PTs (X.blk s H scope (compEnvC scope cl C X.env) fp) ifs tt)
    (hk : ∀ (s : Shared) (H : Hp) (C : Addr) (cl : List (Str × Addr)) (fp : List Addr), PE (X.blk s H scope (compEnvC scope cl C X.env) fp) kx tk)
    (he : ∀ (s : Shared) (H : Hp) (C : Addr) (cl : List (Str × Addr)) (fp : List Addr), PE (X.blk s H scope (compEnvC scope cl C X.env) fp) elt te) (hs : ∀ x, foldedSetIterable iter X.env x = pure x) :
    PS X (.Assign [.Name y py] (.DictComp kx elt [⟨tg, iter, ifs, 0⟩] scope pos) spos) (tAsg (tDc wi g tt tk te (own.map (·.2))) (gName i)) := by
  refine ⟨fun pins s σ H D I h => ?_⟩
  rw [exec_Assign_Name_used _ _ _ _ hsw]
  refine wpAny_bind (wpAny_standAt (wpAny_bind ?_))
  show wpAny _ X.A (do let _ ← comprehension (.DictComp kx elt [⟨tg, iter, ifs, 0⟩] scope pos) scope X.env (firstIterPos [⟨tg, iter, ifs, 0⟩] pos) newDict false (eval iter X.env) (some (assign (.Name y py) X.env))) _ _ s
  have h : tDc wi g tt tk te (own.map (·.2)) σ H (fun x H1 => gName i x σ H1 D.nx) := h
  refine wpAny_bind (thn (dc_core (Qf := fun _ s' => SP X pins D .next s') hc hN I hi ok hg ht hk he hs h fun L C s' m H' I' q hn f => ?_) fun _ s' hq => wpAny_pure (wpAny_pure hq))
  show wpAny _ _ (assign (.Name y py) X.env (.ref L)) _ _ _
  refine wpAny_assign_Name (store_ok2 (v := V.ref L) I' hN hy (.inl hyl) rfl (fun s2 I2 ⟨a, sb, ha⟩ => ?_) (.inr hyl))
  obtain ⟨f0, f1, f2, f3, f4, f5⟩ := f
  have haC : C ≠ a := by
    rcases ha with z | z
    · rw [z]; exact f1
    · exact fun e => f4 y a z e.symm
  refine ⟨m, hn.sameBut sb haC, fun h3 sb3 => ?_⟩
  exact ⟨_, H', I2.turned (t' := s2.toks) (fun b o hb e => (sb3.2 b hb).trans e) f0 f1 f3 f4 f5, q⟩
theorem sw_trueD {kx elt : Expr} {gs : List Comprehension} {scope : Scope} {pos py : Pos} {y : Str} {l : Nat} {env : PySem.Env} (hk : env.scope.kind = .function) (hy : env.scope.names.lookup y = some .local) (hl : (py.line == pos.line) = true)
    (ha : (scope.names.any fun (n, k) => n == y && (k == .local || k == .cell)) = false) : swapsWith (.DictComp kx elt gs scope pos) (some (.Name y py)) l env = pure true := by
  have ky : env.kindOf y = some .local := hy
  have hb : env.blockKind = .function := by unfold Env.blockKind; rw [hk]; rfl
  unfold swapsWith
  simp only [hb, ky, ha, Expr.pos, hl]
  rfl
end
end GG
namespace GG
open PySem PySem.Spec PyProof.Rows L2
/-! ## every expression of the language -/
section
variable {K : KW} {mg : Str → Option Value} {cn : Cn} {cl : Nat → List D → Sto → Out D} {k : Nat} {W : WX} {X : Cx}
theorem Post.up {α β : Type} {RA : Fx → Hp → α → β → Prop} {E : XK} {ρ : Fx} {n : Addr → Prop} {H : Hp} {r : Out α} {Q : β → Hp → Prop} (hn : ∀ a, ρ.n a → n a) (ha : ∀ l H d v, RA ((ρ.w n).to l) H d v → RA (ρ.to l) H d v) (h : Post K mg RA E ρ H r Q) : Post K mg RA E (ρ.w n) H r Q := by
  have low : ∀ {l : List Addr} {S : Sto} {H' : Hp}, Rp ((ρ.w n).to l) S H' → Rp (ρ.to l) S H' := fun rp => ⟨rp.len, rp.nd, rp.obj, fun a ha => rp.dom a (hn a ha)⟩
  cases r with
  | ok d S => exact fun l v H' s rp r => h l v H' s (low rp) (ha l H' d v r)
  | exc c x S => exact fun l H' cls dd s rp rx => h l H' cls dd s (low rp) (RX.anti (n := ρ.n) hn rx)
  | bad => exact h
theorem TF.go {xs ys : List Nat} {ρ : Fx} {ε : Env} {S : Sto} {σ : L2.St} {H : Hp} {r : Env → Sto → Out D} {Q : VK} (hx : ∀ i, i ∈ ys → i ∈ xs) (hs : Rs K ρ H ε σ) (rp : Rp ρ S H) (q : Post K mg (RV K) (XW W σ) (ρ.plus (Av ε σ xs)) H (r ε S) Q) : TF K mg W ys r σ H Q :=
  ⟨ρ, ε, S, hs, rp, Post.up (ρ := ρ.plus (Av ε σ xs)) (n := (ρ.plus (Av ε σ ys)).n) (fun a z => z.imp id (Av.anti hx a)) (fun l H d v r => RV.anti (ρ := (ρ.plus (Av ε σ ys)).to l) (n := (ρ.plus (Av ε σ xs)).n) (fun a z => z.imp id (Av.anti hx a)) d v r) q⟩
theorem TFt.go {xs ys : List Nat} {ρ : Fx} {ε : Env} {S : Sto} {σ : L2.St} {H : Hp} {r : Env → Sto → Out Bool} {Q : Bool → Hp → Prop} (hx : ∀ i, i ∈ ys → i ∈ xs) (hs : Rs K ρ H ε σ) (rp : Rp ρ S H) (q : Post K mg RB (XW W σ) (ρ.plus (Av ε σ xs)) H (r ε S) Q) : TFt K mg W ys r σ H Q :=
  ⟨ρ, ε, S, hs, rp, Post.up (ρ := ρ.plus (Av ε σ xs)) (n := (ρ.plus (Av ε σ ys)).n) (fun a z => z.imp id (Av.anti hx a)) (fun l H d v r => r) q⟩
def TFo (K : KW) (mg : Str → Option Value) (W : WX) (xs : List Nat) (f : Env → Sto → Out (Option Int)) : TO := TG0 K mg (fun _ _ a b => b = a) W xs f
theorem PO.imp {e : Option Expr} {t t' : TO} (h : PO X e t) (i : ∀ σ H Q, t' σ H Q → t σ H Q) : PO X e t' := ⟨fun pins s σ H Q I q => h.run pins s σ H Q I (i σ H Q q)⟩
theorem PTs.imp {e : List Expr} {t t' : TT} (h : PTs X e t) (i : ∀ σ H Q, t' σ H Q → t σ H Q) : PTs X e t' := ⟨fun pins s σ H Q I q => h.run pins s σ H Q I (i σ H Q q)⟩
theorem tf_sl {xa xl xh : List Nat} {fa : Env → Sto → Out D} {fl fh : Env → Sto → Out (Option Int)} (σ : L2.St) (H : Hp) (Q : VK)
    (q : TF K mg W (xa ++ (xl ++ xh)) (fun ε S => (fa ε S).bind fun x S1 => (fl ε S1).bind fun l S2 => (fh ε S2).bind fun h S3 => .of S3 (opSl x l h)) σ H Q) : tSl (rSlX K) (TF K mg W xa fa) (TFo K mg W xl fl) (TFo K mg W xh fh) σ H Q := by
  obtain ⟨ρ, ε, S, hs, hp, q⟩ := q
  refine TG0.go2 (xs := xa ++ (xl ++ xh)) (fun i m => by simp [m]) hs hp q fun l vx H1 x S1 s1 hs1 rp1 rx q1 => ?_
  refine TG0.go2 (xs := xa ++ (xl ++ xh)) (fun i m => by simp [m]) hs1 rp1 q1 fun l2 vl H2 lo S2 s2 hs2 rp2 rl q2 => ?_
  subst rl
  refine TG0.go2 (xs := xa ++ (xl ++ xh)) (fun i m => by simp [m]) hs2 rp2 q2 fun l3 vh H3 hi S3 s3 hs3 rp3 rh q3 => ?_
  subst rh
  refine vr_sl _ _ _ _ _ _ _ _ _ (hs3.rp rp3 _) ?_ q3
  have r2 : RV K (((ρ.to l).to l2).plus (Av ε σ xa)) H2 x vx := rx.mono (hs1.rp rp1 _) s2
  have r3 : RV K ((((ρ.to l).to l2).to l3).plus (Av ε σ xa)) H3 x vx := r2.mono (hs2.rp rp2 _) s3
  exact plus_anti (Av.anti fun i m => by simp [m]) r3
/-- a new list that nobody holds -/
theorem post_lstN {E : XK} {H0 : Hp} {ρ : Fx} {H : Hp} {S : Sto} {Q : VK} {ds : List D} {vs : List V} (rp : Rp ρ S H) (z : ds.length ≤ sizeLine) (r : RVs K ρ H ds vs) (hd : ∀ a, H0 a ≠ none → H a ≠ none) (q : Post K mg (RN K H0) E ρ H (.ok (.lst ds) S) Q) (p : Addr) (hp : H p = none) : Q (.ref p) (upd H p (.lst vs)) := by
  refine q ρ.l (.ref p) _ (Sx.fresh hp) (rp.fresh hp) ⟨p, rfl, ?_, vs, z, upd_same, (rp.nin hp).1, (rp.nin hp).2, ?_⟩
  · cases e : H0 p with
    | none => rfl
    | some u => exact absurd hp (hd p (by rw [e]; exact fun z => nomatch z))
  · have := RVs.dom (ρ := ρ) (n := (· = p)) (fun a z => by rw [z]; exact hp) _ _ r
    exact RVs.gen (Kq.fresh (ρ := ρ.plus (· = p)) hp) _ _ this
theorem post_dictN {E : XK} {H0 : Hp} {ρ : Fx} {H : Hp} {S : Sto} {Q : VK} {ds : List (Key × D)} {vs : List (Key × V)} (rp : Rp ρ S H) (r : RKV K ρ H ds vs) (hd : ∀ a, H0 a ≠ none → H a ≠ none) (q : Post K mg (RN K H0) E ρ H (.ok (.dct ds) S) Q) (p : Addr) (hp : H p = none) : Q (.ref p) (upd H p (.dK vs)) := by
  refine q ρ.l (.ref p) _ (Sx.fresh hp) (rp.fresh hp) ⟨p, rfl, ?_, vs, upd_same, (rp.nin hp).1, (rp.nin hp).2, ?_⟩
  · cases e : H0 p with
    | none => rfl
    | some u => exact absurd hp (hd p (by rw [e]; exact fun z => nomatch z))
  · have := RKV.dom (ρ := ρ) (n := (· = p)) (fun a z => by rw [z]; exact hp) _ _ r
    exact RKV.gen (Kq.fresh (ρ := ρ.plus (· = p)) hp) _ _ this
theorem tf_lst {xs : List Nat} {fs : Env → Sto → Out (List D)} (σ : L2.St) (H : Hp) (Q : VK) (q : TFn K mg W xs (fun ε S => (fs ε S).bind fun ds S1 => if ds.length ≤ sizeLine then .ok (.lst ds) S1 else .bad) σ H Q) : tLst (TFs K mg W xs fs) σ H Q := by
  obtain ⟨ρ, ε, S, hs, hp, q⟩ := q
  refine TG0.go2 (xs := xs) (fun i m => m) hs hp q fun l vs H1 ds S1 s1 hs1 rp1 rv q1 => ?_
  split at q1
  · rename_i z
    exact ⟨by rw [← rv.len]; exact z, fun p hp => post_lstN (hs1.rp rp1 _) z rv s1.dm q1 p hp⟩
  · exact q1.elim
theorem tf_tup {xs : List Nat} {fs : Env → Sto → Out (List D)} (σ : L2.St) (H : Hp) (Q : VK) (q : TF K mg W xs (fun ε S => (fs ε S).bind fun ds S1 => if ds.length ≤ sizeLine then .ok (.tup ds) S1 else .bad) σ H Q) : tTup (TFs K mg W xs fs) σ H Q := by
  obtain ⟨ρ, ε, S, hs, hp, q⟩ := q
  refine TG0.go2 (xs := xs) (fun i m => m) hs hp q fun l vs H1 ds S1 s1 hs1 rp1 rv q1 => ?_
  split at q1
  · rename_i z
    exact ⟨by rw [← rv.len]; exact z, fun p hp => post_tup (hs1.rp rp1 _) z rv q1 p hp⟩
  · exact q1.elim
theorem tf_if {xt xa xb : List Nat} {ft : Env → Sto → Out Bool} {fa fb : Env → Sto → Out D} (σ : L2.St) (H : Hp) (Q : VK) (q : TF K mg W (xt ++ (xa ++ xb)) (fun ε S => (ft ε S).bind fun b S2 => if b = true then fa ε S2 else fb ε S2) σ H Q) :
    tIf (TFt K mg W xt ft) (TF K mg W xa fa) (TF K mg W xb fb) σ H Q := by
  obtain ⟨ρ, ε, S, hs, hp, q⟩ := q
  refine TG0.go2 (xs := xt ++ (xa ++ xb)) (fun i m => by simp [m]) hs hp q fun l b H1 d S1 s1 hs1 rp1 e q1 => ?_
  have e' : b = d := e
  subst e'
  cases b with
  | true => rw [if_pos rfl] at q1 ⊢; exact TF.go (xs := xt ++ (xa ++ xb)) (fun i m => by simp [m]) hs1 rp1 q1
  | false => rw [if_neg Bool.false_ne_true] at q1 ⊢; exact TF.go (xs := xt ++ (xa ++ xb)) (fun i m => by simp [m]) hs1 rp1 q1
theorem ty_V {ρ : Fx} {H : Hp} {S : Sto} {d : D} {v : V} {n : String} (rp : Rp ρ S H) (r : RV K ρ H d v) (h : tyName d = some n) : TyX K H v (.type n) := by
  cases d with
  | non => cases h; rw [r.non]; exact .base .non
  | bl b => cases h; rw [r.bl]; exact .base (.bl b)
  | int b => cases h; rw [r.int]; exact .base (.int b)
  | str b => cases h; rw [r.str]; exact .base (.str b)
  | tup ds =>
    cases h
    obtain ⟨a, vs, rfl, _, sq, _⟩ := r.tup
    rcases sq with (sq | ⟨o, sq⟩) | ⟨o, its, n, hk, hc, _⟩
    · exact .base (.tup sq)
    · exact .fTuple sq
    · exact .kTuple hk hc
  | rol ds =>
    cases h
    obtain ⟨a, vs, rfl, _, sq, _⟩ := r.rol
    rcases sq with ⟨o, sq⟩ | ⟨o, its, n, hk, hc, _⟩
    · exact .base (.frz sq)
    · exact .kList hk hc
  | lst ds => cases h; obtain ⟨a, vs, rfl, _, q, _⟩ := r.lst; exact .base (.lst q)
  | dct ds =>
    cases h
    obtain ⟨a, vs, rfl, q, _⟩ := r.dct
    rcases q with q | ⟨o, q⟩
    · exact .base (.dK q)
    · exact .fDict q
  | stm j =>
    cases h
    obtain ⟨a, e, rfl⟩ := r.stm
    have hl : j < S.length := by rw [← rp.len]; exact (List.getElem?_eq_some_iff.mp e).1
    exact .base (.lst (rp.obj j a S[j] e (List.getElem?_eq_getElem hl)))
  | wdt ds => cases h
theorem kit_isi {K : PySem.W.Frag} {n : String} (d : D) (h : tyName d = some n) (t : Ty) : PySem.W.kitOne K (.type n) (.type t.name) = some (decide (n = t.name) || (decide (n = "bool") && decide (t = .int))) := by
  have hn : n = "NoneType" ∨ n = "bool" ∨ n = "int" ∨ n = "str" ∨ n = "tuple" ∨ n = "list" ∨ n = "dict" := by
    cases d <;> simp only [tyName] at h <;> first | (cases h; done) | (cases h; simp)
  rcases hn with rfl | rfl | rfl | rfl | rfl | rfl | rfl <;> cases t <;> exact kit_ty (by decide +kernel)
theorem tf_isi {xs : List Nat} {fa : Env → Sto → Out D} (t : Ty) (σ : L2.St) (H : Hp) (Q : VK) (q : TF K mg W xs (fun ε S => (fa ε S).bind fun x S1 => .of S1 (isiF t x)) σ H Q) : tCB (rIsi K) (tCons (TF K mg W xs fa) (tCons (tC (.ty t.name)) tNil)) σ H Q := by
  obtain ⟨ρ, ε, S, hs, hp, q⟩ := q
  refine TG0.go2 (xs := xs) (fun i m => m) hs hp q fun l vx H1 x S1 s1 hs1 rp1 rx q1 => ?_
  obtain ⟨d, e, q2⟩ := q1.ofH
  simp only [isiF, Option.map_eq_some_iff] at e
  obtain ⟨n, e, rfl⟩ := e
  exact ⟨vx, .ty t.name, .type n, .type t.name, _, rfl, .ty _, ty_V (hs1.rp rp1 xs) rx e, kit_isi x e t, q2.here (hs1.rp rp1 xs) (.mkBl _)⟩
theorem bi_boot (b : Bi) : bootBuiltins b.name = some b.val := by cases b <;> decide +kernel
theorem bi_name (b : Bi) : b.name ∈ bnames ∧ b.name ≠ "__name__" ∧ (b.name == ("__debug__" : Str)) = false := by
  cases b <;> decide +kernel
theorem pe_bi {b : Bi} {e : Expr} {es : List Expr} {p pos : Pos} {xs : List Nat} {fa : Env → Sto → Out (List D)} (g : Good cn cl k W X) (hg : Gl X b.name) (ha : PA X (e :: es) (TFs (kw X) X.mg W xs fa)) (hs : noStars (e :: es) = true) :
    PE X (.Call (.Name b.name p) (e :: es) [] pos) (TF (kw X) X.mg W xs fun ε S => (fa ε S).bind fun ds S1 => .of S1 (biF b ds)) := by
  obtain ⟨r, hr, vr⟩ := bi_ok (mg := X.mg) g.calm g.sm g.gd g.room.units b
  have hs' := hs
  simp only [noStars, Bool.and_eq_true] at hs'
  obtain ⟨hb, hn, hd⟩ := bi_name b
  have hv := bi_boot b
  have s1 := star_cons (es := es) (env := X.env) hs'.1
  have s2 := star_any (env := X.env) (pos := pos) hs'.2
  cases b <;> first
    | exact PE.imp (pe_callB hr hg (g.blt _ hb) hv ha hn hd s1 s2) fun σ H Q q => tf_cb vr σ H Q q
    | exact PE.imp (pe_callTy hr hg (g.blt _ hb) hv ha hn hd s1 s2) fun σ H Q q => tf_cb vr σ H Q q
/-- a test by a value -/
abbrev trB (f : Env → Sto → Out D) : Env → Sto → Out Bool := fun ε S => (f ε S).bind fun d S1 => .of S1 (tru d)
def PX (cn : Cn) (cl : Nat → List D → Sto → Out D) (k : Nat) (ex : Ex) : Prop :=
  (∀ (X : Cx) (W : WX) (e : Expr), Good cn cl k W X → mE cn ex X.env.scope e = true → PE X e (TF (kw X) X.mg W (vs ex) (evE cl ex)) ∧ PT X e (TFt (kw X) X.mg W (vs ex) (trB (evE cl ex)))) ∧
  (∀ (X : Cx) (W : WX) (e t : Expr), Good cn cl k W X → mI cn ex X.env.scope e t = true → PI X t e (TFj (kw X) X.mg X.H_0 (isDk ex) W (vs ex) (evI cl ex)))
def PXs (cn : Cn) (cl : Nat → List D → Sto → Out D) (k : Nat) (es : List Ex) : Prop :=
  (∀ (X : Cx) (W : WX) (ws : List Expr), Good cn cl k W X → mEs cn es X.env.scope ws = true → PA X ws (TFs (kw X) X.mg W (vss es) (evEs cl es))) ∧
  (∀ (X : Cx) (W : WX) (l : Expr) (ws : List Expr) (pos : Pos) (xa : List Nat) (fa : Env → Sto → Out D), Good cn cl k W X → PE X l (TF (kw X) X.mg W xa fa) → PT X l (TFt (kw X) X.mg W xa (trB fa)) → mEs cn es X.env.scope ws = true →
    PE X (.BoolOp .And (l :: ws) pos) (TF (kw X) X.mg W (xa ++ vss es) fun ε S => (fa ε S).bind fun x S1 => evAnd cl es x ε S1) ∧ PW X (.BoolOp .And (l :: ws) pos) (TFt (kw X) X.mg W (xa ++ vss es) (trB fun ε S => (fa ε S).bind fun x S1 => evAnd cl es x ε S1))) ∧
  (∀ (X : Cx) (W : WX) (l : Expr) (ws : List Expr) (pos : Pos) (xa : List Nat) (fa : Env → Sto → Out D), Good cn cl k W X → PE X l (TF (kw X) X.mg W xa fa) → PT X l (TFt (kw X) X.mg W xa (trB fa)) → mEs cn es X.env.scope ws = true →
    PE X (.BoolOp .Or (l :: ws) pos) (TF (kw X) X.mg W (xa ++ vss es) fun ε S => (fa ε S).bind fun x S1 => evOr cl es x ε S1) ∧ PW X (.BoolOp .Or (l :: ws) pos) (TFt (kw X) X.mg W (xa ++ vss es) (trB fun ε S => (fa ε S).bind fun x S1 => evOr cl es x ε S1))) ∧
  (∀ (X : Cx) (W : WX) (o : Option Expr), Good cn cl k W X → mO cn es X.env.scope o = true → PO X o (TFo (kw X) X.mg W (vss es) (evO cl es))) ∧
  (∀ (X : Cx) (W : WX) (fs : List Expr), Good cn cl k W X → mTs cn es X.env.scope fs = true → PTs X fs (TFt (kw X) X.mg W (vss es) (evTs cl es))) ∧
  ∀ a ∈ es, PX cn cl k a
theorem bind_assoc {α β γ : Type} (r : Out α) (f : α → Sto → Out β) (g : β → Sto → Out γ) : (r.bind f).bind g = r.bind fun a S => (f a S).bind g := by
  cases r <;> rfl
/-- a plain expression: its test by its value -/
theorem both {e : Expr} {ex : Ex} (h : PE X e (TF (kw X) X.mg W (vs ex) (evE cl ex))) (p : plainT e = true) : PE X e (TF (kw X) X.mg W (vs ex) (evE cl ex)) ∧ PT X e (TFt (kw X) X.mg W (vs ex) (trB (evE cl ex))) := ⟨h, pt_plain h p⟩
theorem ofI {α : Type} {S : Sto} {o : Option α} : (o = none ∧ Out.of S o = .bad) ∨ ∃ a, o = some a ∧ Out.of S o = .ok a S := by
  cases o with
  | none => exact .inl ⟨rfl, rfl⟩
  | some a => exact .inr ⟨a, rfl, rfl⟩
theorem pxs_nil : PXs cn cl k [] := by
  refine ⟨fun X W ws g h => ?_, fun X W l ws pos xa fa g he ht h => ?_, fun X W l ws pos xa fa g he ht h => ?_, fun X W o g h => ?_, fun X W fs g h => ?_, fun a h => by simp at h⟩
  · cases ws with
    | nil => exact PA.imp pa_nil fun σ H Q q => tf_nil σ H Q q
    | cons e es => simp [mEs] at h
  · cases ws with
    | nil =>
      have e : (fun (ε : Env) (S : Sto) => (fa ε S).bind fun x S1 => evAnd cl [] x ε S1) = fa := by
        funext ε S
        cases fa ε S <;> rfl
      rw [e, show xa ++ vss [] = xa from List.append_nil xa]
      exact ⟨pe_one he, pw_and1 ht⟩
    | cons e es => simp [mEs] at h
  · cases ws with
    | nil =>
      have e : (fun (ε : Env) (S : Sto) => (fa ε S).bind fun x S1 => evOr cl [] x ε S1) = fa := by
        funext ε S
        cases fa ε S <;> rfl
      rw [e, show xa ++ vss [] = xa from List.append_nil xa]
      exact ⟨pe_one he, pw_or1 ht⟩
    | cons e es => simp [mEs] at h
  · cases o with
    | none =>
      refine PO.imp po_none fun σ H Q q => ?_
      obtain ⟨ρ, ε, S, hs, hp, q⟩ := q
      exact q.here (hs.rp hp _) rfl
    | some e => simp [mO] at h
  · cases fs with
    | nil =>
      refine PTs.imp pts_nil fun σ H Q q => ?_
      obtain ⟨ρ, ε, S, hs, hp, q⟩ := q
      exact q.here (hs.rp hp _) rfl
    | cons e es => simp [mTs] at h
theorem pxs_cons {a : Ex} {r : List Ex} (ha : PX cn cl k a) (hr : PXs cn cl k r) : PXs cn cl k (a :: r) := by
  refine ⟨fun X W ws g h => ?_, fun X W l ws pos xa fa g he ht h => ?_, fun X W l ws pos xa fa g he ht h => ?_, fun X W o g h => ?_, fun X W fs g h => ?_, fun b h => (List.mem_cons.mp h).elim (fun z => z ▸ ha) (hr.2.2.2.2.2 b)⟩
  · cases ws with
    | nil => simp [mEs] at h
    | cons e es =>
      simp only [mEs, Bool.and_eq_true] at h
      exact PA.imp (pa_cons (ha.1 X W e g h.1.1).1 (hr.1 X W es g h.2) (star_cons h.1.2)) fun σ H Q q => tf_cons σ H Q q
  · cases ws with
    | nil => simp [mEs] at h
    | cons e es =>
      simp only [mEs, Bool.and_eq_true] at h
      obtain ⟨h1, h2⟩ := ha.1 X W e g h.1.1
      obtain ⟨b1, b2⟩ := hr.2.1 X W e es pos (vs a) (evE cl a) g h1 h2 h.2
      constructor
      · refine PE.imp (pe_andT he b1) fun σ H Q q => ?_
        obtain ⟨ρ, ε, S, hs, hp, q⟩ := q
        refine TG0.go2 (xs := xa ++ (vs a ++ vss r)) (fun i m => List.mem_append_left _ m) hs hp q fun l1 vx H1 x S1 s1 hs1 rp1 rx q1 => ?_
        simp only [evAnd] at q1
        rcases ofI (S := S1) (o := tru x) with ⟨_, e1⟩ | ⟨b, e2, e1⟩
        · rw [e1] at q1; exact q1.elim
        · rw [e1, Out.bind_ok] at q1
          refine ⟨b, tru_V rx e2, ?_⟩
          cases b with
          | true => rw [if_pos rfl] at q1 ⊢; exact TF.go (xs := xa ++ (vs a ++ vss r)) (fun i m => List.mem_append_right _ m) hs1 rp1 q1
          | false => rw [if_neg Bool.false_ne_true] at q1 ⊢; exact q1.here (hs1.rp rp1 _) (plus_anti (Av.anti fun i m => List.mem_append_left _ m) rx)
      · refine PW.imp (pw_and ht b2) fun σ H Q q => ?_
        obtain ⟨ρ, ε, S, hs, hp, q⟩ := q
        refine ⟨ρ, ε, S, hs, hp, ?_⟩
        unfold trB at q ⊢
        dsimp only at q ⊢
        cases e0 : fa ε S with
        | bad => rw [e0] at q; exact q.elim
        | exc c v S2 =>
          rw [e0] at q
          exact fun l1 H1 cls dd sx rp1 rx => q l1 H1 cls dd sx (Rp.w (ρ := (ρ.plus (Av ε σ xa)).to l1) rp1 fun a z => rp1.dom a (z.imp id (Av.anti (fun i m => List.mem_append_left _ m) a))) (RX.anti (ρ := (ρ.plus (Av ε σ xa)).to l1) (fun a z => z.imp id (Av.anti (fun i m => List.mem_append_left _ m) a)) rx)
        | ok x S1 =>
          rw [e0] at q
          simp only [Out.bind_ok, evAnd] at q ⊢
          rcases ofI (S := S1) (o := tru x) with ⟨_, e1⟩ | ⟨b, e2, e1⟩
          · rw [e1] at q; exact q.elim
          · rw [e1, Out.bind_ok] at q
            rw [e1]
            intro l1 b' H1 sx rp1 eb
            have eb' : b' = b := eb
            subst eb'
            cases b' with
            | true => rw [if_pos rfl] at q ⊢; exact TFt.go (xs := xa ++ (vs a ++ vss r)) (r := trB fun ε S => (evE cl a ε S).bind fun x S1 => evAnd cl r x ε S1) (fun i m => List.mem_append_right _ m) (hs.mono hp sx) (Rp.low (ρ := ρ.to l1) (n := Av ε σ xa) rp1) (Post.weak (ρ := ρ.plus (Av ε σ (xa ++ (vs a ++ vss r)))) sx q)
            | false =>
              rw [if_neg Bool.false_ne_true, Out.bind_ok] at q
              rw [if_neg Bool.false_ne_true]
              rw [e2] at q
              exact q l1 false H1 sx (Rp.w (ρ := (ρ.plus (Av ε σ xa)).to l1) rp1 fun a z => rp1.dom a (z.imp id (Av.anti (fun i m => List.mem_append_left _ m) a))) rfl
  · cases ws with
    | nil => simp [mEs] at h
    | cons e es =>
      simp only [mEs, Bool.and_eq_true] at h
      obtain ⟨h1, h2⟩ := ha.1 X W e g h.1.1
      obtain ⟨b1, b2⟩ := hr.2.2.1 X W e es pos (vs a) (evE cl a) g h1 h2 h.2
      constructor
      · refine PE.imp (pe_orT he b1) fun σ H Q q => ?_
        obtain ⟨ρ, ε, S, hs, hp, q⟩ := q
        refine TG0.go2 (xs := xa ++ (vs a ++ vss r)) (fun i m => List.mem_append_left _ m) hs hp q fun l1 vx H1 x S1 s1 hs1 rp1 rx q1 => ?_
        simp only [evOr] at q1
        rcases ofI (S := S1) (o := tru x) with ⟨_, e1⟩ | ⟨b, e2, e1⟩
        · rw [e1] at q1; exact q1.elim
        · rw [e1, Out.bind_ok] at q1
          refine ⟨b, tru_V rx e2, ?_⟩
          cases b with
          | false => rw [if_neg Bool.false_ne_true] at q1 ⊢; exact TF.go (xs := xa ++ (vs a ++ vss r)) (fun i m => List.mem_append_right _ m) hs1 rp1 q1
          | true => rw [if_pos rfl] at q1 ⊢; exact q1.here (hs1.rp rp1 _) (plus_anti (Av.anti fun i m => List.mem_append_left _ m) rx)
      · refine PW.imp (pw_or ht b2) fun σ H Q q => ?_
        obtain ⟨ρ, ε, S, hs, hp, q⟩ := q
        refine ⟨ρ, ε, S, hs, hp, ?_⟩
        unfold trB at q ⊢
        dsimp only at q ⊢
        cases e0 : fa ε S with
        | bad => rw [e0] at q; exact q.elim
        | exc c v S2 =>
          rw [e0] at q
          exact fun l1 H1 cls dd sx rp1 rx => q l1 H1 cls dd sx (Rp.w (ρ := (ρ.plus (Av ε σ xa)).to l1) rp1 fun a z => rp1.dom a (z.imp id (Av.anti (fun i m => List.mem_append_left _ m) a))) (RX.anti (ρ := (ρ.plus (Av ε σ xa)).to l1) (fun a z => z.imp id (Av.anti (fun i m => List.mem_append_left _ m) a)) rx)
        | ok x S1 =>
          rw [e0] at q
          simp only [Out.bind_ok, evOr] at q ⊢
          rcases ofI (S := S1) (o := tru x) with ⟨_, e1⟩ | ⟨b, e2, e1⟩
          · rw [e1] at q; exact q.elim
          · rw [e1, Out.bind_ok] at q
            rw [e1]
            intro l1 b' H1 sx rp1 eb
            have eb' : b' = b := eb
            subst eb'
            cases b' with
            | false => rw [if_neg Bool.false_ne_true] at q ⊢; exact TFt.go (xs := xa ++ (vs a ++ vss r)) (r := trB fun ε S => (evE cl a ε S).bind fun x S1 => evOr cl r x ε S1) (fun i m => List.mem_append_right _ m) (hs.mono hp sx) (Rp.low (ρ := ρ.to l1) (n := Av ε σ xa) rp1) (Post.weak (ρ := ρ.plus (Av ε σ (xa ++ (vs a ++ vss r)))) sx q)
            | true =>
              rw [if_pos rfl, Out.bind_ok] at q
              rw [if_pos rfl]
              rw [e2] at q
              exact q l1 true H1 sx (Rp.w (ρ := (ρ.plus (Av ε σ xa)).to l1) rp1 fun a z => rp1.dom a (z.imp id (Av.anti (fun i m => List.mem_append_left _ m) a))) rfl
  · cases o with
    | none => simp [mO] at h
    | some e =>
      simp only [mO, Bool.and_eq_true] at h
      refine PO.imp (po_some (ha.1 X W e g h.1).1) fun σ H Q q => ?_
      obtain ⟨ρ, ε, S, hs, hp, q⟩ := q
      refine TG0.go2 (xs := vs a ++ vss r) (fun i m => List.mem_append_left _ m) hs hp q fun l1 vx H1 x S1 s1 hs1 rp1 rx q1 => ?_
      obtain ⟨oi, e1, q2⟩ := q1.ofH
      unfold asInt at e1
      split at e1
      · cases e1; exact ⟨_, rx.int, q2.here (hs1.rp rp1 _) rfl⟩
      · cases e1
  · cases fs with
    | nil => simp [mTs] at h
    | cons e es =>
      cases es with
      | nil =>
        simp only [mTs, Bool.and_eq_true] at h
        refine PTs.imp (pts_one (ha.1 X W e g h.1).2) fun σ H Q q => ?_
        obtain ⟨ρ, ε, S, hs, hp, q⟩ := q
        exact TFt.go (xs := vs a ++ vss r) (fun i m => List.mem_append_left _ m) hs hp q
      | cons e2 es2 => simp [mTs] at h
end
end GG
namespace GG
open PySem PySem.Spec PyProof.Rows L2
/-! ## t[::-1] -/
theorem pick_back (xs : Array Value) : ((List.range xs.size).filterMap fun (m : Nat) => xs[((((xs.size : Nat) : Int) - 1) + (m : Int) * (-1)).toNat]?) = xs.toList.reverse := by
  have e : ((List.range xs.size).filterMap fun (m : Nat) => xs[((((xs.size : Nat) : Int) - 1) + (m : Int) * (-1)).toNat]?) = ((List.range xs.size).map fun m => xs.size - 1 - m).filterMap (xs[·]?) := by
    rw [List.filterMap_map]
    congr 1
    funext m
    show _ = xs[xs.size - 1 - m]?
    rw [show ((((xs.size : Nat) : Int) - 1) + (m : Int) * (-1)).toNat = xs.size - 1 - m by omega]
  rw [e, PySem.W.krv_range, List.filterMap_reverse, PySem.W.krv_all]
section
variable {prog : Program} {w : World} {A : Around} {E : Value → Shared → Prop} {s : Shared}
theorem applied_back {sl : Addr} {vs : Value} {n : Nat} {Q : Int × Int × Nat → Shared → Prop} (hs : s.heap.IsSliceOf sl .none .none vs) (ps : IsPart vs (some (-1)))
    (h : Q (((n : Nat) : Int) - 1, -1, n) s) : wpAny (model prog w) A (Builtin.Slice.sliceApplied (.ref sl) (pure (n : Int))) Q E s := by
  obtain ⟨os, hos, hcs, hds⟩ := id hs
  unfold Builtin.Slice.sliceApplied Builtin.Slice.sliceFields
  refine wpAny_bind (wpAny_bind (wpAny_field hos hds (x := .none) rfl ?_))
  refine wpAny_bind (wpAny_field hos hds (x := .none) rfl ?_)
  refine wpAny_bind (wpAny_field hos hds (x := vs) rfl (wpAny_pure ?_))
  refine wpAny_bind (HT.slicePart_ ps ?_)
  show wpAny _ _ (if ((-1 : Int) == 0) = true then _ else _) _ _ s
  rw [if_neg (by decide)]
  refine wpAny_bind (PyProof.Rows.slicePart_none (wpAny_bind (PyProof.Rows.slicePart_none ?_)))
  refine wpAny_bind (wpAny_pure ?_)
  have e : Builtin.Slice.slicePlaces (((n : Nat) : Int) - 1) (-1) (-1) = n := by
    unfold Builtin.Slice.slicePlaces
    rw [if_neg (by decide)]
    by_cases hn : n = 0
    · subst hn; rfl
    · rw [if_pos (by omega)]
      simp only [Int.neg_neg, Int.ediv_one]
      omega
  show wpAny _ _ (pure (((n : Nat) : Int) - 1, (-1 : Int), Builtin.Slice.slicePlaces (((n : Nat) : Int) - 1) (-1) (-1))) _ _ s
  rw [e]
  exact wpAny_pure h
theorem getItem_tuple_back {t sl : Addr} {items : Array Value} {vs : Value} {Q : Value → Shared → Prop} (ht : IsTup s.heap t items) (hs : s.heap.IsSliceOf sl .none .none vs) (ps : IsPart vs (some (-1)))
    (h : Q (.ref s.heap.objs.size) { s with heap := s.heap.push { cls := .type "tuple", data := .seq items.toList.reverse.toArray } }) (hsz : items.size ≤ sizeLine) :
    wpAny (model prog w) A (getItem (.ref t) (.ref sl)) Q E s := by
  have hok : sizeOk (.seq items.toList.reverse.toArray) := by
    show items.toList.reverse.toArray.size ≤ sizeLine
    simpa using hsz
  obtain ⟨os, hos, hcs, hds⟩ := id hs
  have hTs : s.TypeIs (.ref sl) "slice" := ⟨os, hos, hcs⟩
  unfold getItem
  try with_reducible refine wpAny_holding ?_
  first | refine wpAny_bind (wpAny_pure ?_) | skip
  refine wpAny_bind (wpAny_sequenceKey ht.typeIs (by decide) ?_)
  have sg := PyProof.Rows.slot_tuple_getitem
  refine wpAny_bind (wpAny_callSpecial?_slot (name := Str.ofString "__getitem__") ht.typeIs sg (wpAny_call_entry sg ht.typeIs entry_tuple_getitem ?_ (args_tuple_getitem _ _)))
  show wpAny _ _ (Builtin.Tuple.tupleItemsOf (.ref t) >>= _) _ _ s
  refine wpAny_bind (tupleItemsOf_ ht ?_)
  refine wpAny_bind (wpAny_typeOf hTs ?_)
  rw [if_pos (by decide)]
  refine wpAny_bind (applied_back hs ps ?_)
  have hno : ¬ (((((items.size : Nat) : Int) - 1) == 0 && (-1 : Int) == 1 && items.size == items.size) = true) := by
    intro q
    rw [Bool.and_eq_true, Bool.and_eq_true] at q
    exact absurd q.1.2 (by decide)
  show wpAny _ _ (if ((((items.size : Nat) : Int) - 1) == 0 && (-1 : Int) == 1 && items.size == items.size) = true then _ else _) _ _ s
  rw [if_neg hno, pick_back]
  first
    | exact wpAny_bind (m := Builtin.Tuple.tupleExact _) (wpAny_newObj_type (wpAny_pure ⟨_, rfl, wpAny_pure h⟩) hok)
    | exact wpAny_bind (m := Builtin.Tuple.tupleExact _) (wpAny_newObj_type (wpAny_bind (wpAny_pure (wpAny_pure ⟨_, rfl, wpAny_pure h⟩))) hok)
    | exact wpAny_bind (wpAny_bind (m := Builtin.Tuple.tupleExact _) (wpAny_newObj_type (wpAny_pure (wpAny_pure ⟨_, rfl, wpAny_pure h⟩)) hok))
    | exact wpAny_bind (wpAny_bind (m := Builtin.Tuple.tupleExact _) (wpAny_newObj_type (wpAny_pure ⟨_, rfl, wpAny_pure h⟩) hok))
end
section
variable {X : Cx}
def tRevT (K : PySem.W.Frag) (te : TE) : TE := fun σ H Q => te σ H fun x H1 => ∃ a xs, x = .ref a ∧ SqT K H1 a xs ∧ ∀ p, H1 p = none → Q (.ref p) (upd H1 p (.tup xs.reverse))
theorem pe_revT {e : Expr} {te : TE} {k : Nat} {p1 p2 p3 pos : Pos} (he : PE X e te) : PE X (.Subscript e (.Slice none none (some (.UnaryOp .USub (.Constant (.int 1) k p1) p2)) p3) pos) (tRevT X.K te) := by
  refine ⟨fun pins s σ H Q I h => ?_⟩
  refine Subscript_ (thn (he.run pins s σ H _ I h) fun v s1 hh => ?_)
  obtain ⟨x, H1, I1, r1, a, xs, ex, hx, q⟩ := hh
  subst ex
  cases r1
  have hst : PO X (some (.UnaryOp .USub (.Constant (.int 1) k p1) p2)) (tPart (tUn (rU fun i => .int (-i)) (tC (.int 1)))) := po_some (pe_un un_neg pe_int)
  refine wpAny_Slice (thn (po_none.run pins s1 σ H1 (fun o H2 => o = none ∧ H2 = H1) I1 ⟨rfl, rfl⟩) fun vl s2 hl => ?_)
  obtain ⟨l, H2, I2, pl, rfl, rfl⟩ := hl
  refine thn (po_none.run pins s2 σ H2 (fun o H3 => o = none ∧ H3 = H2) I2 ⟨rfl, rfl⟩) fun vu s3 hl => ?_
  obtain ⟨u, H3, I3, pu, rfl, rfl⟩ := hl
  refine thn (hst.run pins s3 σ H3 (fun o H4 => o = some (-1) ∧ H4 = H3) I3 ⟨1, rfl, -1, rfl, rfl, rfl⟩) fun vs s4 hl => ?_
  obtain ⟨o, H4, I4, ps, rfl, rfl⟩ := hl
  cases pl
  cases pu
  have I5 : Inv X pins σ H4 { s4 with heap := s4.heap.push { cls := .type "slice", data := .fields #[.none, .none, vs] } } :=
    I4.kept (t' := s4.toks) fun b ob q => Heap.get?_push_of_some _ q
  obtain ⟨its, r, ht, hz⟩ := I5.tuple hx
  have hlen := r.length
  show wpAny (model X.prog X.w) X.A (subscriptTail e (.Slice none none (some (.UnaryOp .USub (.Constant (.int 1) k p1) p2)) p3) (.ref a) (.ref s4.heap.objs.size)) (EP X pins σ Q) X.xe
    { s4 with heap := s4.heap.push { cls := .type "slice", data := .fields #[.none, .none, vs] } }
  refine tail_any (ops := [.ref a, .ref s4.heap.objs.size]) ht.typeIs (PyProof.Rows.slot_tuple_getitem.lookup) ?_ (by with_unfolding_all rfl)
  refine getItem_tuple_back ht (Heap.IsSliceOf.new _ .none .none vs) ps ?_ (by rw [List.size_toArray]; omega)
  refine ⟨.ref _, _, I5.laid (t' := s4.toks) (o := .tup xs.reverse) (fun b ob q => Heap.get?_push_of_some _ q) (Nat.le_refl _) ?_, rfl, q _ (I5.hok.fresh (Nat.le_refl _))⟩
  refine ⟨by rw [List.length_reverse]; exact hz, its.reverse, r.reverse, ?_⟩
  exact IsTup.new _ _
end
section
variable {cn : Cn} {cl : Nat → List D → Sto → Out D} {k : Nat}
/-- no way of walking -/
theorem noI {ex : Ex} (h : ∀ sc e t, mI cn ex sc e t = false) : ∀ (X : Cx) (W : WX) (e t : Expr), Good cn cl k W X → mI cn ex X.env.scope e t = true → PI X t e (TFj (kw X) X.mg X.H_0 (isDk ex) W (vs ex) (evI cl ex)) := by
  intro X W e t g q
  rw [h] at q; cases q
theorem px_v (i : Nat) : PX cn cl k (.v i) := by
  refine ⟨fun X W e g h => ?_, noI fun _ _ _ => by simp [mI]⟩
  cases e with
  | Name x p =>
    simp only [mE, Bool.and_eq_true, decide_eq_true_eq] at h
    obtain ⟨a, b, c⟩ := plain_of h.2
    exact both (PE.imp (pe_var (i := i) (by rw [g.nN]; exact h.1.1) (vis_of h.1.2) a b) fun σ H Q q => tf_var σ H Q q) rfl
  | _ => simp [mE] at h
theorem px_c (d : D) : PX cn cl k (.c d) := by
  refine ⟨fun X W e g h => ?_, noI fun _ _ _ => by simp [mI]⟩
  cases e with
  | Constant c i p =>
    simp only [mE] at h
    refine both ?_ rfl
    cases d <;> cases c <;> simp only [constIs, decide_eq_true_eq, Bool.false_eq_true] at h
    · exact PE.imp pe_non fun σ H Q q => tf_c (fun _ _ => .mkNon) σ H Q q
    · subst h; exact PE.imp pe_bl fun σ H Q q => tf_c (fun _ _ => .mkBl _) σ H Q q
    · subst h; exact PE.imp pe_int fun σ H Q q => tf_c (fun _ _ => .mkInt _) σ H Q q
    · subst h; exact PE.imp pe_str fun σ H Q q => tf_c (fun _ _ => .mkStr _) σ H Q q
  | _ => simp [mE] at h
theorem px_g (x : Str) (d : D) : PX cn cl k (.g x d) := by
  refine ⟨fun X W e g h => ?_, noI fun _ _ _ => by simp [mI]⟩
  cases e with
  | Name y p =>
    simp only [mE, Bool.and_eq_true, decide_eq_true_eq] at h
    obtain ⟨⟨⟨rfl, hg⟩, hp⟩, hl⟩ := h
    obtain ⟨a, b, c⟩ := plain_of hp
    obtain ⟨v, u, hm, r, rv⟩ := g.gl x d hl
    exact both (PE.imp (pe_glob (gl_of hg) hm r a) fun σ H Q q => tf_c rv σ H Q q) rfl
  | _ => simp [mE] at h
theorem px_bop (o : Operator) {a b : Ex} (ha : PX cn cl k a) (hb : PX cn cl k b) : PX cn cl k (.bop o a b) := by
  refine ⟨fun X W e g h => ?_, noI fun _ _ _ => by simp [mI]⟩
  cases e with
  | BinOp l o' r p =>
    simp only [mE, Bool.and_eq_true, decide_eq_true_eq] at h
    obtain ⟨⟨rfl, h1⟩, h2⟩ := h
    obtain ⟨rr, op, vr⟩ := op_bin (X := X) (mg := X.mg) o
    exact both (PE.imp (pe_op op (ha.1 X W l g h1).1 (hb.1 X W r g h2).1) fun σ H Q q => tf_op vr σ H Q q) rfl
  | _ => simp [mE] at h
theorem px_negT {K : KW} {mg : Str → Option Value} {W : WX} {xs : List Nat} {fa : Env → Sto → Out D} (σ : L2.St) (H : Hp) (Q : VK)
    (q : TF K mg W xs (fun ε S => (fa ε S).bind fun x S1 => match x with | .int i => .ok (.int (-i)) S1 | _ => .bad) σ H Q) : tUn (rU fun i => .int (-i)) (TF K mg W xs fa) σ H Q := by
  obtain ⟨ρ, ε, S, hs, hp, q⟩ := q
  refine TG0.go2 (xs := xs) (fun i m => m) hs hp q fun l vx H1 x S1 s1 hs1 rp1 rx q1 => ?_
  split at q1
  · rw [rx.int]; exact ⟨_, rfl, q1.here (hs1.rp rp1 _) (.mkInt _)⟩
  · exact q1.elim
theorem px_neg {a : Ex} (ha : PX cn cl k a) : PX cn cl k (.neg a) := by
  refine ⟨fun X W e g h => ?_, noI fun _ _ _ => by simp [mI]⟩
  cases e with
  | UnaryOp o l p =>
    cases o with
    | USub =>
      simp only [mE] at h
      exact both (PE.imp (pe_un un_neg (ha.1 X W l g h).1) fun σ H Q q => px_negT σ H Q q) rfl
    | _ => simp [mE] at h
  | _ => simp [mE] at h
theorem px_not {a : Ex} (ha : PX cn cl k a) : PX cn cl k (.not a) := by
  refine ⟨fun X W e g h => ?_, noI fun _ _ _ => by simp [mI]⟩
  cases e with
  | UnaryOp o l p =>
    cases o with
    | Not =>
      simp only [mE] at h
      obtain ⟨h1, h2⟩ := ha.1 X W l g h
      constructor
      · refine PE.imp (pe_notT h1) fun σ H Q q => ?_
        obtain ⟨ρ, ε, S, hs, hp, q⟩ := q
        simp only [evE] at q
        refine TG0.go2 (xs := vs a) (fun i m => m) hs hp q fun l vx H1 x S1 s1 hs1 rp1 rx q1 => ?_
        rcases ofI (S := S1) (o := tru x) with ⟨_, e1⟩ | ⟨b, e2, e1⟩
        · rw [e1] at q1; exact q1.elim
        · rw [e1, Out.bind_ok] at q1
          exact ⟨b, tru_V rx e2, q1.here (hs1.rp rp1 _) (.mkBl _)⟩
      · refine PT.imp (pt_not h2) fun σ H Q q => ?_
        obtain ⟨ρ, ε, S, hs, hp, q⟩ := q
        refine ⟨ρ, ε, S, hs, hp, ?_⟩
        unfold trB at q ⊢
        simp only [evE] at q
        cases e0 : evE cl a ε S with
        | bad => rw [e0] at q; exact q.elim
        | exc c v S2 => rw [e0] at q; exact q
        | ok x S1 =>
          rw [e0] at q
          simp only [Out.bind_ok] at q ⊢
          rcases ofI (S := S1) (o := tru x) with ⟨_, e1⟩ | ⟨b, e2, e1⟩
          · rw [e1] at q; exact q.elim
          · rw [e1] at q ⊢
            simp only [Out.bind_ok] at q
            intro l b' H1 s1 rp1 eb
            have eb' : b' = b := eb
            subst eb'
            exact q l (!b') H1 s1 rp1 rfl
    | _ => simp [mE] at h
  | _ => simp [mE] at h
theorem px_cmp (o : CmpOp) {a b : Ex} (ha : PX cn cl k a) (hb : PX cn cl k b) : PX cn cl k (.cmp o a b) := by
  refine ⟨fun X W e g h => ?_, noI fun _ _ _ => by simp [mI]⟩
  cases e with
  | Compare l os rs p =>
    match os, rs, h with
    | [o'], [r], h =>
      simp only [mE, Bool.and_eq_true, decide_eq_true_eq] at h
      obtain ⟨⟨⟨rfl, h1⟩, h2⟩, h3⟩ := h
      obtain ⟨rr, op, vr⟩ := op_cmp (X := X) (mg := X.mg) g.room.units o
      constructor
      · exact PE.imp (pe_cmpR op (ha.1 X W l g h1).1 (hb.1 X W r g h2).1 (noSet_mark h3)) fun σ H Q q => tf_op vr σ H Q q
      · refine PT.imp (pt_cmpR op (ha.1 X W l g h1).1 (hb.1 X W r g h2).1 (noSet_mark h3)) fun σ H Q q => ?_
        refine tf_op vr σ H _ (tf_test (fun ε S d S1 e => ?_) σ H Q q)
        obtain ⟨x, S2, e1, e⟩ := Out.bind_okI e
        obtain ⟨y, S3, e2, e⟩ := Out.bind_okI e
        exact cmpF_bl (Out.of_okI e).1
    | [], _, h => simp [mE] at h
    | [_], [], h => simp [mE] at h
    | [_], _ :: _ :: _, h => simp [mE] at h
    | _ :: _ :: _, _, h => simp [mE] at h
  | _ => simp [mE] at h
theorem px_and {a : Ex} {es : List Ex} (ha : PX cn cl k a) (hs : PXs cn cl k es) : PX cn cl k (.and a es) := by
  refine ⟨fun X W e g h => ?_, noI fun _ _ _ => by simp [mI]⟩
  cases e with
  | BoolOp o ws p =>
    cases o with
    | And =>
      cases ws with
      | nil => simp [mE] at h
      | cons l ws =>
        simp only [mE, Bool.and_eq_true] at h
        obtain ⟨h1, h2⟩ := ha.1 X W l g h.1.1
        obtain ⟨b1, b2⟩ := hs.2.1 X W l ws p (vs a) (evE cl a) g h1 h2 h.1.2
        simp only [trB, evE]
        exact ⟨b1, b2.pt⟩
    | Or => simp [mE] at h
  | _ => simp [mE] at h
theorem px_or {a : Ex} {es : List Ex} (ha : PX cn cl k a) (hs : PXs cn cl k es) : PX cn cl k (.or a es) := by
  refine ⟨fun X W e g h => ?_, noI fun _ _ _ => by simp [mI]⟩
  cases e with
  | BoolOp o ws p =>
    cases o with
    | Or =>
      cases ws with
      | nil => simp [mE] at h
      | cons l ws =>
        simp only [mE, Bool.and_eq_true] at h
        obtain ⟨h1, h2⟩ := ha.1 X W l g h.1.1
        obtain ⟨b1, b2⟩ := hs.2.2.1 X W l ws p (vs a) (evE cl a) g h1 h2 h.1.2
        simp only [trB, evE]
        exact ⟨b1, b2.pt⟩
    | And => simp [mE] at h
  | _ => simp [mE] at h
theorem px_ife {t a b : Ex} (ht : PX cn cl k t) (ha : PX cn cl k a) (hb : PX cn cl k b) : PX cn cl k (.ife t a b) := by
  refine ⟨fun X W e g h => ?_, noI fun _ _ _ => by simp [mI]⟩
  cases e with
  | IfExp c l r p =>
    simp only [mE, Bool.and_eq_true] at h
    obtain ⟨t1, t2⟩ := ht.1 X W c g h.1.1
    obtain ⟨a1, a2⟩ := ha.1 X W l g h.1.2
    obtain ⟨b1, b2⟩ := hb.1 X W r g h.2
    have e : evE cl (.ife t a b) = fun ε S => (trB (evE cl t) ε S).bind fun kk S2 => if kk = true then evE cl a ε S2 else evE cl b ε S2 := by
      funext ε S
      simp only [evE, trB]
      rw [bind_assoc]
    constructor
    · rw [e]
      exact PE.imp (pe_ifExp t2 a1 b1) fun σ H Q q => tf_if σ H Q q
    · refine PT.imp (pt_if t2 a2 b2) fun σ H Q q => ?_
      rw [e] at q
      obtain ⟨ρ, ε, S, hs, hp, q⟩ := q
      unfold trB at q
      dsimp only at q
      rw [bind_assoc] at q
      refine TG0.go2 (xs := vs t ++ (vs a ++ vs b)) (fun i m => by simp [m]) hs hp q fun l c H1 d S1 s1 hs1 rp1 ec q1 => ?_
      have ec' : c = d := ec
      subst ec'
      cases c with
      | true => rw [if_pos rfl] at q1 ⊢; exact TFt.go (xs := vs t ++ (vs a ++ vs b)) (fun i m => by simp [m]) hs1 rp1 q1
      | false => rw [if_neg Bool.false_ne_true] at q1 ⊢; exact TFt.go (xs := vs t ++ (vs a ++ vs b)) (fun i m => by simp [m]) hs1 rp1 q1
  | _ => simp [mE] at h
theorem px_tup {es : List Ex} (hs : PXs cn cl k es) : PX cn cl k (.tup es) := by
  refine ⟨fun X W e g h => ?_, noI fun _ _ _ => by simp [mI]⟩
  cases e with
  | Tuple vs kk p =>
    simp only [mE] at h
    exact both (PE.imp (pe_tup (hs.1 X W vs g h)) fun σ H Q q => tf_tup σ H Q q) rfl
  | _ => simp [mE] at h
/-- what makes a new list or dict -/
def PN (cn : Cn) (cl : Nat → List D → Sto → Out D) (k : Nat) (ex : Ex) : Prop := ∀ (X : Cx) (W : WX) (e : Expr), Good cn cl k W X → mE cn ex X.env.scope e = true → PE X e (TFn (kw X) X.mg W (vs ex) (evE cl ex))
theorem PN.pe {ex : Ex} (h : PN cn cl k ex) {X : Cx} {W : WX} {e : Expr} (g : Good cn cl k W X) (m : mE cn ex X.env.scope e = true) : PE X e (TF (kw X) X.mg W (vs ex) (evE cl ex)) := PE.imp (h X W e g m) fun σ H Q q => TFn.tf q
theorem pn_lst {es : List Ex} (hs : PXs cn cl k es) : PN cn cl k (.lst es) := by
  intro X W e g h
  cases e with
  | List ws p =>
    simp only [mE] at h
    exact PE.imp (pe_lst (hs.1 X W ws g h)) fun σ H Q q => tf_lst σ H Q q
  | _ => simp [mE] at h
theorem px_lst {es : List Ex} (hs : PXs cn cl k es) : PX cn cl k (.lst es) := by
  refine ⟨fun X W e g h => ?_, noI fun _ _ _ => by simp [mI]⟩
  have q := (pn_lst hs).pe g h
  cases e with
  | List ws p => exact both q rfl
  | _ => simp [mE] at h
theorem px_ix {a i : Ex} (ha : PX cn cl k a) (hi : PX cn cl k i) : PX cn cl k (.ix a i) := by
  refine ⟨fun X W e g h => ?_, noI fun _ _ _ => by simp [mI]⟩
  cases e with
  | Subscript l s p =>
    simp only [mE, Bool.and_eq_true] at h
    exact both (PE.imp (pe_ix ix_all (ha.1 X W l g h.1.1).1 (hi.1 X W s g h.1.2).1 (noSlice_ix h.2)) fun σ H Q q => tf_op vr_ix σ H Q q) rfl
  | _ => simp [mE] at h
theorem px_sl {a : Ex} {lo hi : List Ex} (ha : PX cn cl k a) (hl : PXs cn cl k lo) (hh : PXs cn cl k hi) : PX cn cl k (.sl a lo hi) := by
  refine ⟨fun X W e g h => ?_, noI fun _ _ _ => by simp [mI]⟩
  cases e with
  | Subscript l s p =>
    cases s with
    | Slice lo' hi' st p2 =>
      cases st with
      | none =>
        simp only [mE, Bool.and_eq_true] at h
        exact both (PE.imp (pe_slice sl_all (ha.1 X W l g h.1.1).1 (hl.2.2.2.1 X W lo' g h.1.2) (hh.2.2.2.1 X W hi' g h.2)) fun σ H Q q => tf_sl σ H Q q) rfl
      | some z => simp [mE] at h
    | _ => simp [mE] at h
  | _ => simp [mE] at h
theorem px_call (f : Nat) {es : List Ex} (hs : PXs cn cl k es) : PX cn cl k (.call f es) := by
  refine ⟨fun X W e g h => ?_, noI fun _ _ _ => by simp [mI]⟩
  cases e with
  | Call fe vs ks p =>
    cases fe with
    | Name x pp =>
      cases vs with
      | nil => cases ks <;> simp [mE] at h
      | cons v vs =>
        cases ks with
        | cons kw ks => simp [mE] at h
        | nil =>
          simp only [mE, Bool.and_eq_true, decide_eq_true_eq] at h
          obtain ⟨a, b, c⟩ := plain_of h.1.2
          exact both (pe_callG g (g.fn f x es.length h.1.1.1) (gl_of h.1.1.2) a (hs.1 X W (v :: vs) g h.2) (fun ε S ds S1 e => evEs_len e) (mEs_stars h.2)) rfl
    | _ => simp [mE] at h
  | _ => simp [mE] at h
theorem px_bi (b : Bi) {es : List Ex} (hs : PXs cn cl k es) : PX cn cl k (.bi b es) := by
  refine ⟨fun X W e g h => ?_, noI fun _ _ _ => by simp [mI]⟩
  cases e with
  | Call fe vs ks p =>
    cases fe with
    | Name x pp =>
      cases vs with
      | nil => cases ks <;> simp [mE] at h
      | cons v vs =>
        cases ks with
        | cons kw ks => simp [mE] at h
        | nil =>
          simp only [mE, Bool.and_eq_true, decide_eq_true_eq] at h
          obtain ⟨⟨rfl, h1⟩, h2⟩ := h
          exact both (pe_bi g (gl_of h1) (hs.1 X W (v :: vs) g h2) (mEs_stars h2)) rfl
    | _ => simp [mE] at h
  | _ => simp [mE] at h
theorem ty_boot (t : Ty) : bootBuiltins (Str.ofString t.name) = some (.type t.name) := by cases t <;> decide +kernel
theorem ty_names (t : Ty) : Str.ofString t.name ∈ bnames ∧ Str.ofString t.name ≠ "__name__" ∧ (Str.ofString t.name == ("__debug__" : Str)) = false := by cases t <;> decide +kernel
theorem px_isi {a : Ex} (t : Ty) (ha : PX cn cl k a) : PX cn cl k (.isi a t) := by
  refine ⟨fun X W e g h => ?_, noI fun _ _ _ => by simp [mI]⟩
  cases e with
  | Call fe vs ks p =>
    cases fe with
    | Name x pp =>
      match vs, ks, h with
      | [v, w], [], h =>
        cases w with
        | Name y py =>
          simp only [mE, Bool.and_eq_true, decide_eq_true_eq] at h
          obtain ⟨⟨⟨⟨⟨rfl, h1⟩, h2⟩, h3⟩, rfl⟩, h4⟩ := h
          obtain ⟨n1, n2, n3⟩ := ty_names t
          have s1 : starEach [v, .Name (Str.ofString t.name) py] X.env = (false, eval v X.env) :: starEach [.Name (Str.ofString t.name) py] X.env := star_cons h3
          exact both (PE.imp (pe_callB call_isi (gl_of h1) (g.blt _ (by decide +kernel)) boot_isinstance
            (pa_cons (ha.1 X W v g h2).1 (pa_cons (pe_bltn (v := .ty t.name) (gl_of h4) (g.blt _ n1) (ty_boot t) rfl n2 n3) pa_nil rfl) s1) (by decide) (by decide) s1 rfl) fun σ H Q q => tf_isi t σ H Q q) rfl
        | _ => simp [mE] at h
      | [], ks, h => cases ks <;> simp [mE] at h
      | [_], ks, h => cases ks <;> simp [mE] at h
      | [v, w], _ :: _, h => cases w <;> simp [mE] at h
      | v :: w :: u :: vs, ks, h => cases ks <;> cases w <;> simp [mE] at h
    | _ => simp [mE] at h
  | _ => simp [mE] at h
theorem px_chain (o o' : CmpOp) {a b c : Ex} (ha : PX cn cl k a) (hb : PX cn cl k b) (hc : PX cn cl k c) : PX cn cl k (.chain o o' a b c) := by
  refine ⟨fun X W e g h => ?_, noI fun _ _ _ => by simp [mI]⟩
  cases e with
  | Compare l os rs p =>
    match os, rs, h with
    | [p1, p2], [m, r], h =>
      simp only [mE, Bool.and_eq_true, decide_eq_true_eq] at h
      obtain ⟨⟨⟨⟨⟨rfl, rfl⟩, h1⟩, h2⟩, h3⟩, h4⟩ := h
      obtain ⟨rr, op, vr⟩ := op_cmp (X := X) (mg := X.mg) g.room.units o
      obtain ⟨rr', op', vr'⟩ := op_cmp (X := X) (mg := X.mg) g.room.units o'
      have key : ∀ σ H Q, TF (kw X) X.mg W (vs (.chain o o' a b c)) (evE cl (.chain o o' a b c)) σ H Q → tChain rr rr' (TF (kw X) X.mg W (vs a) (evE cl a)) (TF (kw X) X.mg W (vs b) (evE cl b)) (TF (kw X) X.mg W (vs c) (evE cl c)) σ H Q := by
        intro σ H Q q
        obtain ⟨ρ, ε, S, hs, hp, q⟩ := q
        simp only [evE] at q
        have e0 : vs (.chain o o' a b c) = vs a ++ (vs b ++ vs c) := by simp only [vs]
        rw [e0] at q
        refine TG0.go2 (xs := vs a ++ (vs b ++ vs c)) (fun i m => by simp [m]) hs hp q fun l1 vx H1 x S1 s1 hs1 rp1 rx q1 => ?_
        refine TG0.go2 (xs := vs a ++ (vs b ++ vs c)) (fun i m => by simp [m]) hs1 rp1 q1 fun l2 vy H2 y S2 s2 hs2 rp2 ry q2 => ?_
        have rx2 : RV (kw X) (((ρ.to l1).to l2).plus (Av ε σ (vs a ++ (vs b ++ vs c)))) H2 x vx := plus_anti (Av.anti fun i m => by simp [m]) (rx.mono (hs1.rp rp1 _) s2)
        have ry2 : RV (kw X) (((ρ.to l1).to l2).plus (Av ε σ (vs a ++ (vs b ++ vs c)))) H2 y vy := plus_anti (Av.anti fun i m => by simp [m]) ry
        refine vr (XW W σ) _ S2 _ x y _ _ _ (hs2.rp rp2 _) rx2 ry2 ?_
        refine Post.seq q2 fun l3 vz H3 z S3 s3 rp3 rz q3 => ?_
        have hs3 := hs2.mono rp2 s3
        have rp3' : Rp (((ρ.to l1).to l2).to l3) S3 H3 := Rp.low (ρ := ((ρ.to l1).to l2).to l3) (n := Av ε σ (vs a ++ (vs b ++ vs c))) rp3
        split at q3
        · refine ⟨true, rz.bl, ?_⟩
          rw [if_pos rfl]
          refine TG0.go2 (ρ := ((ρ.to l1).to l2).to l3) (xs := vs a ++ (vs b ++ vs c)) (fun i m => by simp [m]) hs3 rp3' q3 fun l4 vw H4 w S4 s4 hs4 rp4 rw4 q4 => ?_
          have ry3 : RV (kw X) ((((ρ.to l1).to l2).to l3).plus (Av ε σ (vs a ++ (vs b ++ vs c)))) H3 y vy := ry2.mono (hs2.rp rp2 _) s3
          exact vr' (XW W σ) _ S4 _ y w _ _ _ (hs4.rp rp4 _) (ry3.mono rp3 s4) (plus_anti (Av.anti fun i m => by simp [m]) rw4) q4
        · exact ⟨false, rz.bl, by rw [if_neg Bool.false_ne_true]; exact q3.here rp3 (.mkBl _)⟩
        · exact q3.elim
      have hm : lastMarks [o, o'] [m, r] = false := noSet_mark h4
      constructor
      · exact PE.imp (pe_chain op op' (ha.1 X W l g h1).1 (hb.1 X W m g h2).1 (hc.1 X W r g h3).1 hm) key
      · refine PT.imp (pt_chain op op' (ha.1 X W l g h1).1 (hb.1 X W m g h2).1 (hc.1 X W r g h3).1 hm) fun σ H Q q => ?_
        refine key σ H _ (tf_test (fun ε S d S1 e => ?_) σ H Q q)
        simp only [evE] at e
        obtain ⟨x, S2, e1, e⟩ := Out.bind_okI e
        obtain ⟨y, S3, e2, e⟩ := Out.bind_okI e
        obtain ⟨z, S4, e3, e⟩ := Out.bind_okI e
        split at e
        · obtain ⟨w, S5, e4, e⟩ := Out.bind_okI e
          exact cmpF_bl (Out.of_okI e).1
        · cases e; exact ⟨_, rfl⟩
        · cases e
    | [], _, h => simp [mE] at h
    | [_], _, h => simp [mE] at h
    | [_, _], [], h => simp [mE] at h
    | [_, _], [_], h => simp [mE] at h
    | [_, _], _ :: _ :: _ :: _, h => simp [mE] at h
    | _ :: _ :: _ :: _, _, h => simp [mE] at h
  | _ => simp [mE] at h
theorem px_rev {a : Ex} (ha : PX cn cl k a) : PX cn cl k (.rev a) := by
  refine ⟨fun X W e g h => ?_, noI fun _ _ _ => by simp [mI]⟩
  cases e with
  | Subscript l s p =>
    cases s with
    | Slice lo hi st p2 =>
      match lo, hi, st, h with
      | none, none, some st, h =>
        simp only [mE, Bool.and_eq_true] at h
        obtain ⟨h1, h2⟩ := h
        have he := (ha.1 X W l g h1).1
        obtain ⟨i, pc, pu, rfl⟩ : ∃ i pc pu, st = .UnaryOp .USub (.Constant (.int 1) i pc) pu := by
          unfold revStep at h2
          split at h2
          · have := of_decide_eq_true h2
            subst this
            exact ⟨_, _, _, rfl⟩
          · cases h2
        refine both ?_ rfl
        have h1 := pe_revL (k := i) (p1 := pc) (p2 := pu) (p3 := p2) (pos := p) he
        have h2 := pe_revT (k := i) (p1 := pc) (p2 := pu) (p3 := p2) (pos := p) he
        refine ⟨fun pins s σ H Q I q => ?_⟩
        obtain ⟨ρ, ε, S, hs, hp, q⟩ := q
        simp only [evE] at q
        have e9 : vs (.rev a) = vs a := by simp only [vs]
        rw [e9] at q
        cases e0 : evE cl a ε S with
        | bad => rw [e0] at q; exact q.elim
        | exc c v S2 => rw [e0] at q; exact h1.run pins s σ H Q I ⟨ρ, ε, S, hs, hp, by rw [e0]; exact q⟩
        | ok x S1 =>
          rw [e0, Out.bind_ok] at q
          obtain ⟨d, e, q⟩ := q.ofH
          have rl : ∀ ds, lstOf x = some ds → d = .lst ds.reverse → wpAny (model X.prog X.w) X.A (eval (.Subscript l (.Slice none none (some (.UnaryOp .USub (.Constant (.int 1) i pc) pu)) p2) p) X.env) (EP X pins σ Q) X.xe s := fun ds e' ed => by
            subst ed
            refine h1.run pins s σ H Q I ⟨ρ, ε, S, hs, hp, ?_⟩
            rw [e0]
            intro l3 v H1 sx rp r
            obtain ⟨b, ws, rfl, sq, t⟩ := lstOf_ok r e'
            exact ⟨b, ws, rfl, sq, fun p hp => post_lst rp (by
              obtain ⟨_, _, _, z, _⟩ := lst_keep r e'
              rw [List.length_reverse]; exact z) t.rev (q.weak sx) p hp⟩
          unfold opRev at e
          split at e
          · cases e
            refine h2.run pins s σ H Q I ⟨ρ, ε, S, hs, hp, ?_⟩
            rw [e0]
            intro l3 v H1 sx rp r
            obtain ⟨b, ws, rfl, z, sq, t⟩ := r.tup
            exact ⟨b, ws, rfl, sq, fun p hp => post_tup rp (by rw [List.length_reverse]; exact z) t.rev (q.weak sx) p hp⟩
          · cases e; exact rl _ rfl rfl
          · cases e; exact rl _ rfl rfl
          · cases e
      | some _, _, _, h => simp [mE] at h
      | none, some _, _, h => simp [mE] at h
      | none, none, none, h => simp [mE] at h
    | _ => simp [mE] at h
  | _ => simp [mE] at h
end
end GG
namespace GG
open PySem PySem.Spec PyProof.Rows L2
/-! ## sorted lists of texts, and of tuples by their first texts -/
theorem strLt_swo {α : Type} (k : α → Str) : SrtO.Swo fun v u => strLt (k v) (k u) := by
  refine ⟨fun x y h => ?_, fun x y z h1 h2 => ?_⟩
  · simp only [strLt, decide_eq_true_eq, decide_eq_false_iff_not] at h ⊢
    exact List.lt_asymm h
  · simp only [strLt, decide_eq_false_iff_not] at h1 h2 ⊢
    rw [List.not_lt] at h1 h2 ⊢
    exact List.le_trans h1 h2
theorem str_tri {a b : Str} (h1 : strLt a b = false) (h2 : strLt b a = false) : a = b := by
  simp only [strLt, decide_eq_false_iff_not, List.not_lt] at h1 h2
  have := List.le_antisymm h1 h2
  obtain ⟨⟨x⟩⟩ := a
  obtain ⟨⟨y⟩⟩ := b
  simp at this
  rw [this]
theorem insS_perm {α : Type} (k : α → Str) (x : α) : ∀ l : List α, (insS k x l).Perm (x :: l)
  | [] => .refl _
  | y :: r => by
    unfold insS
    split
    · exact .refl _
    · exact ((insS_perm k x r).cons y).trans (.swap x y r)
theorem isort_perm {α : Type} (k : α → Str) : ∀ l : List α, (isort k l).Perm l
  | [] => .refl _
  | x :: r => (insS_perm k x _).trans ((isort_perm k r).cons x)
/-- none is ahead of an earlier one -/
def Asc {α : Type} (k : α → Str) (l : List α) : Prop := l.Pairwise fun x y => strLt (k y) (k x) = false
theorem insS_asc {α : Type} (k : α → Str) (x : α) : ∀ l : List α, Asc k l → Asc k (insS k x l)
  | [], _ => by simp [insS, Asc]
  | y :: r, h => by
    obtain ⟨h1, h2⟩ := List.pairwise_cons.mp h
    unfold insS
    split
    · rename_i hx
      refine List.pairwise_cons.mpr ⟨fun z hz => ?_, h⟩
      have hyx := (strLt_swo k).asym x y hx
      rcases List.mem_cons.mp hz with rfl | hz
      · exact hyx
      · exact (strLt_swo k).tr x y z hyx (h1 z hz)
    · rename_i hx
      have hx' : strLt (k x) (k y) = false := by simpa using hx
      refine List.pairwise_cons.mpr ⟨fun z hz => ?_, insS_asc k x r h2⟩
      rcases List.mem_cons.mp ((insS_perm k x r).mem_iff.mp hz) with rfl | hz
      · exact hx'
      · exact h1 z hz
theorem isort_asc {α : Type} (k : α → Str) : ∀ l : List α, Asc k (isort k l)
  | [] => .nil
  | x :: r => insS_asc k x _ (isort_asc k r)
theorem asc_uniq {α : Type} {k : α → Str} {l m : List α} (inj : ∀ x ∈ l, ∀ y ∈ l, k x = k y → x = y) (hl : Asc k l) (hm : Asc k m) (p : l.Perm m) : l = m :=
  List.Perm.eq_of_pairwise (le := fun x y => strLt (k y) (k x) = false) (fun x y hx hy h1 h2 => inj x hx y (p.mem_iff.mpr hy) (str_tri h2 h1)) hl hm p
theorem insS_map {α β : Type} (k : β → Str) (f : α → β) (x : α) : ∀ l : List α, insS k (f x) (l.map f) = (insS (fun a => k (f a)) x l).map f
  | [] => rfl
  | y :: r => by
    simp only [List.map_cons, insS]
    split
    · rfl
    · rw [List.map_cons, insS_map k f x r]
theorem isort_map {α β : Type} (k : β → Str) (f : α → β) : ∀ l : List α, isort k (l.map f) = (isort (fun a => k (f a)) l).map f
  | [] => rfl
  | x :: r => by
    simp only [List.map_cons, isort]
    rw [isort_map k f r, insS_map]
/-! ### tuples whose first is a text -/
def IsHd (h : Heap) (v : Value) (z : Str) : Prop := ∃ (a : Addr) (o : Obj) (its : Array Value) (n : Nat) (t : Tok), v = .ref a ∧ h.get? a = some o ∧ o.cls = .type "tuple" ∧ o.data = .seq its n ∧ its[0]? = some (.str z t)
theorem IsHd.keeps {h h' : Heap} {v : Value} {z : Str} (x : IsHd h v z) (k : ∀ b o, h.get? b = some o → o.cls = .type "tuple" → h'.get? b = some o) : IsHd h' v z := by
  obtain ⟨a, o, its, n, t, e, ho, hc, hd, hi⟩ := x
  exact ⟨a, o, its, n, t, e, k a o ho hc, hc, hd, hi⟩
section
variable {prog : Program} {w : World} {A : Around} {s : Shared}
theorem kat_self {Q : Bool → Shared → Prop} {b fin : Bool} (h : Q fin s) : ∀ (l : List Value) (i : Nat), PySem.W.KatLex prog w A b fin Q (l.zip l) i s
  | [], i => PySem.W.kat_nil h
  | v :: r, i => by
    rw [List.zip_cons_cons]
    refine PySem.W.kat_cons (SeqAt.EqAt.same v prog w _ _ ?_)
    exact PySem.W.kat_go (fun _ => PySem.W.kat_yes (kat_self h r (i + 1))) fun e => nomatch e
theorem hd_cmp {vs : List Value} {k : Value → Str} (hp : ∀ v ∈ vs, IsHd s.heap v (k v)) (inj : ∀ v ∈ vs, ∀ u ∈ vs, k v = k u → v = u) : SrtO.Cmp prog w A s (tuples' true) (fun p => p.1 ∈ vs) (SrtO.lt2 fun v u => strLt (k v) (k u)) := by
  intro p q hm hm'
  have h1 := hp _ hm
  have h2 := hp _ hm'
  show wpAny (model prog w) A (keyLt' (tuples' true) p.1 q.1) (fun r s' => s' = s ∧ r = strLt (k p.1) (k q.1)) (fun _ _ => False) s
  have irr : ∀ z : Str, strLt z z = false := fun z => (strLt_swo (fun x : Str => x)).refl z
  by_cases e : p.1 = q.1
  · rw [← e]
    obtain ⟨a, o, its, n, t, e1, ho, hc, hd, hi⟩ := h1
    rw [e1] at hm ⊢
    refine PySem.W.kat_lt ho hd ho hd ?_
    exact kat_self ⟨rfl, by rw [irr]; simp⟩ _ _
  · have ne : k p.1 ≠ k q.1 := fun z => e (inj _ hm _ hm' z)
    generalize k p.1 = z1 at h1 ne ⊢
    generalize k q.1 = z2 at h2 ne ⊢
    obtain ⟨a, o, its, n, t, e1, ho, hc, hd, hi⟩ := h1
    obtain ⟨a', o', its', n', t', e1', ho', hc', hd', hi'⟩ := h2
    rw [e1, e1']
    refine PySem.W.kat_lt ho hd ho' hd' ?_
    obtain ⟨r, er⟩ : ∃ r, its.toList = .str z1 t :: r := by
      cases h : its.toList with
      | nil => rw [← Array.getElem?_toList, h] at hi; cases hi
      | cons x r => rw [← Array.getElem?_toList, h] at hi; cases hi; exact ⟨r, rfl⟩
    obtain ⟨r', er'⟩ : ∃ r, its'.toList = .str z2 t' :: r := by
      cases h : its'.toList with
      | nil => rw [← Array.getElem?_toList, h] at hi'; cases hi'
      | cons x r => rw [← Array.getElem?_toList, h] at hi'; cases hi'; exact ⟨r, rfl⟩
    rw [er, er', List.zip_cons_cons]
    refine PySem.W.kat_cons (SeqAt.EqAt.str_str z1 t z2 t' prog w _ _ ?_)
    refine PySem.W.kat_go (fun e1 => ?_) (fun e1 => ?_)
    · exact absurd (by simpa using e1) ne
    · exact PySem.W.kat_no (PyProof.Rows.oneLt_str ⟨rfl, rfl⟩)
theorem hd_firsts {h : Heap} {k : Value → Str} : ∀ {vs : List Value}, (∀ v ∈ vs, IsHd h v (k v)) → ∃ fs : List Value, PySem.W.KatTups h vs fs ∧ fs.length = vs.length ∧ ∀ f ∈ fs, ∃ x t, f = Value.str x t
  | [], _ => ⟨[], .nil, rfl, fun f m => absurd m List.not_mem_nil⟩
  | v :: vs, hp => by
    obtain ⟨fs, k1, hl, hi⟩ := hd_firsts fun u hu => hp u (List.mem_cons_of_mem _ hu)
    obtain ⟨a, o, its, n, t, e, ho, hc, hd, hi0⟩ := hp v List.mem_cons_self
    subst e
    refine ⟨_ :: fs, .cons ho hc hd hi0 k1, by simp [hl], fun f m => ?_⟩
    rcases List.mem_cons.mp m with rfl | m
    · exact ⟨_, _, rfl⟩
    · exact hi f m
theorem hd_sortable {a : Addr} {vs : List Value} {k : Value → Str} (h0 : 0 < vs.length) (hp : ∀ v ∈ vs, IsHd s.heap v (k v)) (inj : ∀ v ∈ vs, ∀ u ∈ vs, k v = k u → v = u) (ha : ∀ o, s.heap.get? a = some o → o.cls ≠ .type "tuple") : SrtO.SortableO prog w A s a vs fun v u => strLt (k v) (k u) := by
  intro h' keep
  have hp' : ∀ v ∈ vs, IsHd h' v (k v) := fun v hm => (hp v hm).keeps fun b o e c => keep b o (fun z => by subst z; exact ha o e c) e
  obtain ⟨fs, h1, h2, h3⟩ := hd_firsts hp'
  refine ⟨tuples' true, fun Q E hq => ?_, hd_cmp hp' inj⟩
  refine PySem.W.kat_kind (T := .type "str") h1 (by omega) (fun f hm => ?_) (by rfl) ?_
  · obtain ⟨x, t, rfl⟩ := h3 f hm
    exact PySem.W.Looks.now
  · have e : (Value.type "str" != Value.type "tuple") = true := by first | decide +kernel | rfl | decide
    rw [e]
    exact hq
theorem sorted_hds {l : Addr} {vs : List Value} {k : Value → Str} {Q : Value → Shared → Prop} {E : Value → Shared → Prop} (hl : s.heap.IsList l vs.toArray) (hz : vs.length ≤ sizeLine) (hp : ∀ v ∈ vs, IsHd s.heap v (k v)) (inj : ∀ v ∈ vs, ∀ u ∈ vs, k v = k u → v = u)
    (h : ∀ (h' : Heap) (d : Addr), (∀ b o, s.heap.get? b = some o → h'.get? b = some o) → s.heap.objs.size ≤ d → (∃ n, h'.get? d = some (seqObj "list" (isort k vs).toArray n)) → Q (.ref d) { s with heap := h' }) :
    wpAny (model prog w) A (call (.builtin "sorted") [.ref l]) Q E s := by
  refine SrtO.sorted_ord (strLt_swo k) hl hz (fun h2 h₁ a ha kk => ?_) fun out hs hb => ?_
  · refine hd_sortable (s := { s with heap := h₁ }) (by omega) (fun v hm => (hp v hm).keeps fun b o e _ => (kk b o e).2) inj fun o e => ?_
    have e' : some o = some (seqObj "list" vs.toArray 0) := e.symm.trans ha
    cases e'
    intro c
    exact absurd (Value.type.inj c) (by decide)
  · have eo : out = isort k vs := asc_uniq (fun x hx y hy => inj x (hb.perm.mem_iff.mp hx) y (hb.perm.mem_iff.mp hy)) hs (isort_asc k vs) (hb.perm.trans (isort_perm k vs).symm)
    subst eo
    exact h _ _ (fun b o e => sortedAll_old e) (Nat.le_succ _) (sortedAll_at s.heap vs (isort k vs).toArray)
end
/-! ### as rules -/
theorem asc_of_sortedS : ∀ (l : List Str) (p : Str), risingS p l = true → (∀ x ∈ l, strLt x p = false) ∧ Asc (fun x : Str => x) l
  | [], p, _ => ⟨fun x m => absurd m List.not_mem_nil, .nil⟩
  | x :: r, p, h => by
    simp only [risingS, Bool.and_eq_true, Bool.not_eq_true'] at h
    obtain ⟨h1, h2⟩ := h
    have hx : strLt x p = false := by rw [strLt, ← ltCps_eq]; exact h1
    obtain ⟨a, b⟩ := asc_of_sortedS r x h2
    refine ⟨fun y m => ?_, List.pairwise_cons.mpr ⟨fun y m => a y m, b⟩⟩
    rcases List.mem_cons.mp m with rfl | m
    · exact hx
    · exact (strLt_swo fun x : Str => x).tr p x y hx (a y m)
theorem asc_sortedS {l : List Str} (h : sortedS l = true) : Asc (fun x : Str => x) l := by
  cases l with
  | nil => exact .nil
  | cons x r =>
    obtain ⟨a, b⟩ := asc_of_sortedS r x h
    exact List.pairwise_cons.mpr ⟨a, b⟩
/-- the first text of a tuple -/
noncomputable def hdV (h : Heap) (u : Value) : Str := by
  classical
  exact if e : ∃ z, IsHd h u z then e.choose else ""
theorem IsHd.uniq {h : Heap} {v : Value} {z z' : Str} (a : IsHd h v z) (b : IsHd h v z') : z = z' := by
  obtain ⟨a, o, its, n, t, e, ho, hc, hd, hi⟩ := a
  obtain ⟨a', o', its', n', t', e', ho', hc', hd', hi'⟩ := b
  subst e
  cases e'
  rw [ho] at ho'; cases ho'
  rw [hd] at hd'; cases hd'
  rw [hi] at hi'; cases hi'
  rfl
theorem hdV_of {h : Heap} {v : Value} {z : Str} (a : IsHd h v z) : hdV h v = z := by
  have e : ∃ z, IsHd h v z := ⟨z, a⟩
  unfold hdV
  rw [dif_pos e]
  exact e.choose_spec.uniq a
theorem sqT_hd {X : Cx} {pins : List (Addr × Obj)} {σ : L2.St} {H : Hp} {s : Shared} (I : L2.Inv X pins σ H s) {t : Addr} {z : Str} {r : List V} (h : SqT X.K H t (.str z :: r)) : IsHd s.heap (.ref t) z := by
  obtain ⟨its, rv, ⟨o, ho, hc, n, hd⟩, _⟩ := I.tuple h
  cases rv with
  | cons r1 r2 =>
    obtain ⟨tk, rfl⟩ := r1
    exact ⟨t, o, _, n, tk, rfl, ho, hc, hd, rfl⟩
theorem call_sortS {X : Cx} : CallR X (.builtin "sorted") (fun xs H Q => ∃ (a : Addr) (zs : List Str), xs = [.ref a] ∧ SqL X.K H a (zs.map V.str) ∧ zs.length < 64 ∧ ∀ p, H p = none → Q (.ref p) (upd H p (.lst ((isort (fun x : Str => x) zs).map V.str)))) := by
  intro pins s σ H vs us Q I r h
  obtain ⟨a, zs, rfl, hs, hz, q⟩ := h
  refine cr_sortedS pins s σ H _ us Q I r ⟨a, zs, rfl, hs, hz, fun ys p hp hso hn => ?_⟩
  have e : ys = isort (fun x : Str => x) zs := asc_uniq (fun x _ y _ e => e) (asc_sortedS hso) (isort_asc _ zs) (hp.trans (isort_perm _ zs).symm)
  rw [e]
  exact q p hn
theorem call_sortT {X : Cx} : CallR X (.builtin "sorted") (fun xs H Q => ∃ (a : Addr) (zs : List (Str × Addr)), xs = [.ref a] ∧ SqL X.K H a (zs.map fun z => V.ref z.2) ∧ (∀ z ∈ zs, ∃ r, SqT X.K H z.2 (.str z.1 :: r)) ∧ (zs.map (·.1)).Nodup ∧
    ∀ p, H p = none → Q (.ref p) (upd H p (.lst ((isort (·.1) zs).map fun z => V.ref z.2)))) := by
  intro pins s σ H vs us Q I r h
  obtain ⟨a, zs, rfl, hs, hx, nd, q⟩ := h
  obtain ⟨its, rv, hl, hz⟩ := I.list hs
  obtain ⟨u, rfl, ru⟩ := vals1 r
  obtain rfl : u = Value.ref a := ru
  have eits : its = zs.map fun z => Value.ref z.2 := by
    clear hl hz hx nd q hs
    induction zs generalizing its with
    | nil => cases rv; rfl
    | cons z r ih =>
      cases rv with
      | cons r1 r2 =>
        cases r1
        rw [List.map_cons, ih _ r2]
  subst eits
  have hd : ∀ z ∈ zs, hdV s.heap (.ref z.2) = z.1 := fun z m => let ⟨r, e⟩ := hx z m; hdV_of (sqT_hd I e)
  have inj : ∀ z ∈ zs, ∀ z' ∈ zs, z.1 = z'.1 → z = z' := fun z m z' m' e => by
    obtain ⟨i, hi, rfl⟩ := List.getElem_of_mem m
    obtain ⟨j, hj, rfl⟩ := List.getElem_of_mem m'
    have := (List.getElem_inj (i := i) (j := j) (h₀ := by simpa using hi) (h₁ := by simpa using hj) nd).mp (by simpa using e)
    subst this; rfl
  refine sorted_hds (k := hdV s.heap) hl.isList (by simpa using hz) (fun v m => ?_) (fun v m v' m' e => ?_) fun h' d kp hd0 hn => ?_
  · obtain ⟨z, mz, rfl⟩ := List.mem_map.mp m
    rw [hd z mz]
    obtain ⟨r, e⟩ := hx z mz
    exact sqT_hd I e
  · obtain ⟨z, mz, rfl⟩ := List.mem_map.mp m
    obtain ⟨z', mz', rfl⟩ := List.mem_map.mp m'
    rw [hd z mz, hd z' mz'] at e
    rw [inj z mz z' mz' e]
  · have e1 : isort (hdV s.heap) (zs.map fun z => Value.ref z.2) = (isort (·.1) zs).map fun z => Value.ref z.2 := by
      rw [isort_map]
      congr 1
      clear hl hz hx nd q hs rv hn inj
      have ins : ∀ (x : Str × Addr) (l : List (Str × Addr)), hdV s.heap (.ref x.2) = x.1 → (∀ z ∈ l, hdV s.heap (.ref z.2) = z.1) → insS (fun z : Str × Addr => hdV s.heap (.ref z.2)) x l = insS (·.1) x l := by
        intro x l hx
        induction l with
        | nil => intro _; rfl
        | cons y r ih =>
          intro h
          simp only [insS, hx, h y List.mem_cons_self]
          rw [ih fun z m => h z (List.mem_cons_of_mem _ m)]
      induction zs with
      | nil => rfl
      | cons z r ih =>
        have e := ih fun z m => hd z (List.mem_cons_of_mem _ m)
        simp only [isort]
        rw [e]
        exact ins _ _ (hd z List.mem_cons_self) fun z' m' => hd z' (List.mem_cons_of_mem _ ((isort_perm _ r).mem_iff.mp m'))
    rw [e1] at hn
    obtain ⟨n, hn⟩ := hn
    have hf : H d = none := I.hok.fresh hd0
    have lz : (isort (·.1) zs).length = zs.length := (isort_perm _ zs).length_eq
    refine ⟨.ref d, upd H d (.lst ((isort (·.1) zs).map fun z => V.ref z.2)), I.laid (t' := s.toks) kp hd0 ?_, rfl, q d hf⟩
    refine ⟨by rw [List.length_map, lz]; simpa using hz, _, n, ?_, hn⟩
    generalize isort (·.1) zs = l
    induction l with
    | nil => exact .nil
    | cons z r ih => exact .cons rfl ih
theorem isort_congr {α : Type} {k k' : α → Str} : ∀ {l : List α}, (∀ x ∈ l, k x = k' x) → isort k l = isort k' l := by
  have ins : ∀ (x : α) (l : List α), k x = k' x → (∀ z ∈ l, k z = k' z) → insS k x l = insS k' x l := by
    intro x l hx
    induction l with
    | nil => intro _; rfl
    | cons y r ih =>
      intro h
      simp only [insS, hx, h y List.mem_cons_self]
      rw [ih fun z m => h z (List.mem_cons_of_mem _ m)]
  intro l h
  induction l with
  | nil => rfl
  | cons z r ih =>
    have e := ih fun z m => h z (List.mem_cons_of_mem _ m)
    simp only [isort]
    rw [e]
    exact ins _ _ (h z List.mem_cons_self) fun z' m' => h z' (List.mem_cons_of_mem _ ((isort_perm _ r).mem_iff.mp m'))
section
variable {K : KW} {ρ : Fx} {H : Hp}
theorem RVs.each {γ : Type} {f : γ → D} {g : γ → V} : ∀ {l : List γ}, (∀ x ∈ l, RV K ρ H (f x) (g x)) → RVs K ρ H (l.map f) (l.map g)
  | [], _ => RVs.nil
  | x :: r, h => .cons (h x List.mem_cons_self) (RVs.each fun y m => h y (List.mem_cons_of_mem _ m))
theorem strs_all : ∀ {ds : List D}, ds.all isStrD = true → ∃ zs : List Str, ds = zs.map .str
  | [], _ => ⟨[], rfl⟩
  | d :: r, h => by
    simp only [List.all_cons, Bool.and_eq_true] at h
    obtain ⟨zs, rfl⟩ := strs_all h.2
    cases d with
    | str z => exact ⟨z :: zs, rfl⟩
    | _ => simp [isStrD] at h
theorem strs_rvs : ∀ {zs : List Str} {ws : List V}, RVs K ρ H (zs.map .str) ws → ws = zs.map V.str
  | [], ws, h => by simpa only [List.map_nil, RVs] using h
  | z :: r, ws, h => by
    obtain ⟨v, t, rfl, rv, rr⟩ := RVs.uncons (ds := r.map .str) (by simpa using h)
    rw [rv.str, strs_rvs rr]; rfl
theorem tups_all : ∀ {ds : List D} {ws : List V}, ds.all isTupD = true → RVs K ρ H ds ws → ∃ L : List (D × Str × Addr), ds = L.map (·.1) ∧ ws = L.map (fun x => V.ref x.2.2) ∧ ∀ x ∈ L, headK x.1 = x.2.1 ∧ RV K ρ H x.1 (.ref x.2.2) ∧ ∃ r, SqT K H x.2.2 (.str x.2.1 :: r)
  | [], ws, _, h => ⟨[], rfl, by simpa only [List.map_nil, RVs] using h, fun x m => absurd m List.not_mem_nil⟩
  | d :: r, ws, h, t => by
    simp only [List.all_cons, Bool.and_eq_true] at h
    obtain ⟨v, vr, rfl, rv, rr⟩ := t.uncons
    obtain ⟨L, rfl, rfl, q⟩ := tups_all h.2 rr
    cases d with
    | tup es =>
      cases es with
      | nil => simp [isTupD] at h
      | cons e es =>
        cases e with
        | str z =>
          obtain ⟨a, us, rfl, zl, sq, tt⟩ := rv.tup
          obtain ⟨v1, vr, rfl, r1, _⟩ := tt.uncons
          rw [r1.str] at sq
          refine ⟨(.tup (.str z :: es), z, a) :: L, rfl, rfl, fun x m => ?_⟩
          rcases List.mem_cons.mp m with rfl | m
          · exact ⟨rfl, rv, _, sq⟩
          · exact q x m
        | _ => simp [isTupD] at h
    | _ => simp [isTupD] at h
theorem nodupS_iff : ∀ {l : List Str}, nodupS l = true → l.Nodup
  | [], _ => .nil
  | x :: r, h => by
    simp only [nodupS, Bool.and_eq_true, Bool.not_eq_true'] at h
    refine List.nodup_cons.mpr ⟨fun m => ?_, nodupS_iff h.2⟩
    have : r.contains x = true := by simpa using m
    rw [h.1] at this; cases this
end
end GG
namespace GG
open PySem PySem.Spec PyProof.Rows L2
section
variable {cn : Cn} {cl : Nat → List D → Sto → Out D} {k : Nat}
/-- the parts of a comprehension that is matched -/
theorem lc_parts {a it : Ex} {own : List Nat} {tg : Tg} {ifs : List Ex} (ha : PX cn cl k a) (hi : PX cn cl k it) (hf : PXs cn cl k ifs) {X : Cx} {W : WX} {el : Expr} {gs : List Comprehension} {scope : Scope} {p : Pos} (g : Good cn cl k W X)
    (h : mE cn (.lc a own tg it ifs) X.env.scope (.ListComp el gs scope p) = true) : ∃ t i fs, gs = [⟨t, i, fs, 0⟩] ∧ PI X t i (TFj (kw X) X.mg X.H_0 (isDk it) W (vs it) (evI cl it)) ∧ BlkOk X.N X.env.scope scope (ownOf X.N own) ∧ tgIn own tg = true ∧
      (∀ (s : Shared) (H : Hp) (C : Addr) (c : List (Str × Addr)) (fp : List Addr), PG (X.blk s H scope (compEnvC scope c C X.env) fp) t (gOf X.K tg)) ∧
      (∀ (s : Shared) (H : Hp) (C : Addr) (c : List (Str × Addr)) (fp : List Addr), PTs (X.blk s H scope (compEnvC scope c C X.env) fp) fs (TFt (kw X) X.mg W0 (vss ifs) (evTs cl ifs))) ∧
      (∀ (s : Shared) (H : Hp) (C : Addr) (c : List (Str × Addr)) (fp : List Addr), PE (X.blk s H scope (compEnvC scope c C X.env) fp) el (TF (kw X) X.mg W0 (vs a) (evE cl a))) ∧ ∀ x, foldedSetIterable i X.env x = pure x := by
  match gs, h with
  | [⟨t, i, fs, as⟩], h =>
    by_cases hz : as = 0
    · subst hz
      simp only [mE, Bool.and_eq_true] at h
      obtain ⟨⟨⟨⟨⟨⟨h1, h2⟩, h3⟩, h4⟩, h5⟩, h6⟩, h7⟩ := h
      refine ⟨t, i, fs, rfl, hi.2 X W i t g h4, by rw [g.nN]; exact blkOk_by h1, h3, fun s H C c fp => ?_, fun s H C c fp => ?_, fun s H C c fp => ?_, noSet_fold h5⟩
      · refine pg_of (X := X.blk s H scope (compEnvC scope c C X.env) fp) (okN := blkN scope X.env.scope) g.nN g.nd g.calm (fun x hx => ?_) tg t h2
        unfold blkN at hx
        split at hx
        · rename_i e; exact ⟨.inl e, .inr e⟩
        · rename_i e; exact ⟨.inr e, .inl hx⟩
        · cases hx
      · exact hf.2.2.2.2.1 (X.blk s H scope (compEnvC scope c C X.env) fp) W0 fs (g.blk s H scope _ fp) h6
      · exact (ha.1 (X.blk s H scope (compEnvC scope c C X.env) fp) W0 el (g.blk s H scope _ fp) h7).1
    · exfalso
      simp only [mE] at h
      split at h
      · rename_i q; cases q; exact hz rfl
      · cases h
  | [], h => simp [mE] at h
  | _ :: _ :: _, h => simp [mE] at h
theorem pn_lc {a it : Ex} {own : List Nat} {tg : Tg} {ifs : List Ex} (ha : PX cn cl k a) (hi : PX cn cl k it) (hf : PXs cn cl k ifs) : PN cn cl k (.lc a own tg it ifs) := by
  intro X W e g h
  cases e with
  | ListComp el gs scope p =>
    obtain ⟨t, i, fs, rfl, h1, h2, h3, h4, h5, h6, h7⟩ := lc_parts ha hi hf g h
    refine PE.imp (pe_lcG (X0 := vs (.lc a own tg it ifs)) (by simp only [vs]) g.calm g.nd h1 h2 h3 h4 h5 h6 h7) fun σ H Q q => ?_
    simp only [evE] at q
    exact q
  | _ => simp [mE] at h
theorem px_lc {a it : Ex} {own : List Nat} {tg : Tg} {ifs : List Ex} (ha : PX cn cl k a) (hi : PX cn cl k it) (hf : PXs cn cl k ifs) : PX cn cl k (.lc a own tg it ifs) := by
  refine ⟨fun X W e g h => ?_, noI fun _ _ _ => by simp [mI]⟩
  have q := (pn_lc ha hi hf).pe g h
  cases e with
  | ListComp el gs scope p => exact both q rfl
  | _ => simp [mE] at h
theorem dc_parts {kx a it : Ex} {own : List Nat} {tg : Tg} {ifs : List Ex} (hk : PX cn cl k kx) (ha : PX cn cl k a) (hi : PX cn cl k it) (hf : PXs cn cl k ifs) {X : Cx} {W : WX} {ek el : Expr} {gs : List Comprehension} {scope : Scope} {p : Pos} (g : Good cn cl k W X)
    (h : mE cn (.dc kx a own tg it ifs) X.env.scope (.DictComp ek el gs scope p) = true) : ∃ t i fs, gs = [⟨t, i, fs, 0⟩] ∧ PI X t i (TFj (kw X) X.mg X.H_0 (isDk it) W (vs it) (evI cl it)) ∧ BlkOk X.N X.env.scope scope (ownOf X.N own) ∧ tgIn own tg = true ∧
      (∀ (s : Shared) (H : Hp) (C : Addr) (c : List (Str × Addr)) (fp : List Addr), PG (X.blk s H scope (compEnvC scope c C X.env) fp) t (gOf X.K tg)) ∧
      (∀ (s : Shared) (H : Hp) (C : Addr) (c : List (Str × Addr)) (fp : List Addr), PTs (X.blk s H scope (compEnvC scope c C X.env) fp) fs (TFt (kw X) X.mg W0 (vss ifs) (evTs cl ifs))) ∧
      (∀ (s : Shared) (H : Hp) (C : Addr) (c : List (Str × Addr)) (fp : List Addr), PE (X.blk s H scope (compEnvC scope c C X.env) fp) ek (TF (kw X) X.mg W0 (vs kx) (evE cl kx))) ∧
      (∀ (s : Shared) (H : Hp) (C : Addr) (c : List (Str × Addr)) (fp : List Addr), PE (X.blk s H scope (compEnvC scope c C X.env) fp) el (TF (kw X) X.mg W0 (vs a) (evE cl a))) ∧ ∀ x, foldedSetIterable i X.env x = pure x := by
  match gs, h with
  | [⟨t, i, fs, as⟩], h =>
    by_cases hz : as = 0
    · subst hz
      simp only [mE, Bool.and_eq_true] at h
      obtain ⟨⟨⟨⟨⟨⟨⟨h1, h2⟩, h3⟩, h4⟩, h5⟩, h6⟩, hk7⟩, h7⟩ := h
      refine ⟨t, i, fs, rfl, hi.2 X W i t g h4, by rw [g.nN]; exact blkOk_by h1, h3, fun s H C c fp => ?_, fun s H C c fp => ?_, fun s H C c fp => ?_, fun s H C c fp => ?_, noSet_fold h5⟩
      · refine pg_of (X := X.blk s H scope (compEnvC scope c C X.env) fp) (okN := blkN scope X.env.scope) g.nN g.nd g.calm (fun x hx => ?_) tg t h2
        unfold blkN at hx
        split at hx
        · rename_i e; exact ⟨.inl e, .inr e⟩
        · rename_i e; exact ⟨.inr e, .inl hx⟩
        · cases hx
      · exact hf.2.2.2.2.1 (X.blk s H scope (compEnvC scope c C X.env) fp) W0 fs (g.blk s H scope _ fp) h6
      · exact (hk.1 (X.blk s H scope (compEnvC scope c C X.env) fp) W0 ek (g.blk s H scope _ fp) hk7).1
      · exact (ha.1 (X.blk s H scope (compEnvC scope c C X.env) fp) W0 el (g.blk s H scope _ fp) h7).1
    · exfalso
      simp only [mE] at h
      split at h
      · rename_i q; cases q; exact hz rfl
      · cases h
  | [], h => simp [mE] at h
  | _ :: _ :: _, h => simp [mE] at h
theorem pn_dc {kx a it : Ex} {own : List Nat} {tg : Tg} {ifs : List Ex} (hk : PX cn cl k kx) (ha : PX cn cl k a) (hi : PX cn cl k it) (hf : PXs cn cl k ifs) : PN cn cl k (.dc kx a own tg it ifs) := by
  intro X W e g h
  cases e with
  | DictComp ek el gs scope p =>
    obtain ⟨t, i, fs, rfl, h1, h2, h3, h4, h5, hk6, h6, h7⟩ := dc_parts hk ha hi hf g h
    refine PE.imp (pe_dcG (X0 := vs (.dc kx a own tg it ifs)) (by simp only [vs]) g.calm g.nd h1 h2 h3 h4 h5 hk6 h6 h7) fun σ H Q q => ?_
    simp only [evE] at q
    exact q
  | _ => simp [mE] at h
theorem px_dc {kx a it : Ex} {own : List Nat} {tg : Tg} {ifs : List Ex} (hk : PX cn cl k kx) (ha : PX cn cl k a) (hi : PX cn cl k it) (hf : PXs cn cl k ifs) : PX cn cl k (.dc kx a own tg it ifs) := by
  refine ⟨fun X W e g h => ?_, noI fun _ _ _ => by simp [mI]⟩
  have q := (pn_dc hk ha hi hf).pe g h
  cases e with
  | DictComp ek el gs scope p => exact both q rfl
  | _ => simp [mE] at h
theorem px_six (i j : Nat) : PX cn cl k (.six i j) := by
  refine ⟨fun X W e g h => ?_, noI fun _ _ _ => by simp [mI]⟩
  simp only [mE] at h
  split at h
  · rename_i x p z q1 q2 q3
    simp only [Bool.and_eq_true, decide_eq_true_eq] at h
    obtain ⟨⟨⟨h1, h2⟩, h3⟩, rfl⟩ := h
    obtain ⟨a, b, c⟩ := plain_of h3
    refine both (PE.imp (pe_ix ix_all (pe_var (i := i) (by rw [g.nN]; exact h1) (vis_of h2) a b) pe_int (noSlice_ix rfl)) fun σ H Q q => ?_) rfl
    obtain ⟨ρ, ε, S, hs, hp, q⟩ := q
    simp only [evE] at q
    obtain ⟨d, e, q⟩ := q.ofH
    obtain ⟨d0, e0, e1⟩ := Option.bind_eq_some_iff.mp e
    obtain ⟨v, ev, rv⟩ := hs.rd e0
    refine ⟨v, ev, ?_⟩
    unfold sixF at e1
    split at e1
    · rename_i kk
      obtain ⟨t, e2, e3⟩ := Option.bind_eq_some_iff.mp e1
      obtain ⟨n, e4, rfl⟩ := Option.map_eq_some_iff.mp e3
      obtain ⟨ad, ea, rfl⟩ := rv.stm
      have ho := hp.obj kk ad t ea e2
      refine .inl (.inl ⟨ad, _, (j : Nat), .int n, rfl, rfl, SqL.of ho, ?_, q.here (hs.rp hp _) (.mkInt _)⟩)
      match j, e4 with
      | 0, e4 => cases e4; rfl
      | 1, e4 => cases e4; rfl
      | 2, e4 => cases e4; rfl
      | _ + 3, e4 => cases e4
    · cases e1
  · cases h
theorem px_mkS (f : Nat) {es : List Ex} (hs : PXs cn cl k es) : PX cn cl k (.mkS f es) := by
  refine ⟨fun X W e g h => ?_, noI fun _ _ _ => by simp [mI]⟩
  cases e with
  | Call fe ws ks p =>
    cases fe with
    | Name x pp =>
      cases ws with
      | nil => cases ks <;> simp [mE] at h
      | cons v ws =>
        cases ks with
        | cons kw ks => simp [mE] at h
        | nil =>
          simp only [mE, Bool.and_eq_true, decide_eq_true_eq] at h
          obtain ⟨⟨⟨⟨rfl, h1⟩, h2⟩, h3⟩, h4⟩ := h
          obtain ⟨a, b, c⟩ := plain_of h3
          refine both (PE.imp (pe_callM g (g.fm x es.length h1) (gl_of h2) a (hs.1 X W (v :: ws) g h4) (fun ε S ds S1 e => evEs_len e) (mEs_stars h4)) fun σ H Q q => ?_) rfl
          obtain ⟨ρ, ε, S, rs, rp, q⟩ := q
          simp only [evE] at q
          refine ⟨ρ, ε, S, rs, rp, ?_⟩
          rw [← bind_assoc] at q
          have evv : vs (.mkS cn.mkr es) = vss es := by simp only [vs]
          rw [evv] at q
          dsimp only
          cases e1 : (evEs cl es ε S).bind (cl cn.mkr) with
          | bad => rw [e1] at q; exact q
          | exc c v S1 => rw [e1] at q; exact q
          | ok d S1 =>
            rw [e1, Out.bind_ok] at q
            intro l u H1 sx rp1 rn
            obtain ⟨ad, rfl, h0, ow⟩ := rn
            unfold mkF at q
            split at q
            · rename_i a1 b1 c1
              obtain ⟨us, z, hH, n1, n2, t⟩ := ow
              obtain ⟨v1, r1, rfl, t1, t⟩ := t.uncons
              obtain ⟨v2, r2, rfl, t2, t⟩ := t.uncons
              obtain ⟨v3, rfl, t3⟩ := t.one'
              rw [t1.int, t2.int, t3.int] at hH
              have len1 : l.length = S1.length := rp1.len
              refine q (l ++ [ad]) (.ref ad) H1 ⟨sx.pre.trans ⟨[ad], rfl⟩, sx.kp, fun b m n => ?_, sx.dm⟩ ⟨?_, ?_, fun i b t e1 e2 => ?_, rp1.dom⟩ (.mkStm ?_)
              · rcases List.mem_append.mp m with m | m
                · exact sx.nw b m n
                · rw [List.mem_singleton.mp m]; exact h0
              · show (l ++ [ad]).length = (S1 ++ [_]).length
                simp [len1]
              · show (l ++ [ad]).Nodup
                rw [List.nodup_append]
                refine ⟨rp1.nd, by simp, fun x hx y hy => ?_⟩
                rw [List.mem_singleton.mp hy]
                exact fun z => n1 (by rw [← z]; exact hx)
              · have e1 : (l ++ [ad])[i]? = some b := e1
                by_cases hi : i < l.length
                · rw [List.getElem?_append_left hi] at e1
                  rw [List.getElem?_append_left (by rw [← len1]; exact hi)] at e2
                  exact rp1.obj i b t e1 e2
                · rw [List.getElem?_append_right (by omega)] at e1
                  rw [List.getElem?_append_right (by omega)] at e2
                  have hi0 : i - l.length = 0 := by
                    have := (List.getElem?_eq_some_iff.mp e1).1
                    simp at this; omega
                  have hi1 : i - S1.length = 0 := by omega
                  rw [hi0] at e1
                  rw [hi1] at e2
                  cases e1; cases e2
                  exact hH
              · show (l ++ [ad])[S1.length]? = some ad
                rw [← len1]; simp
            · exact q.elim
    | _ => simp [mE] at h
  | _ => simp [mE] at h
theorem px_itv {a : Ex} (ha : PX cn cl k a) : PX cn cl k (.itv a) := by
  refine ⟨fun X W e g h => by simp [mE] at h, fun X W e t g h => ?_⟩
  simp only [mI] at h
  exact tfj_of (pi_val (ha.1 X W e g h).1)
theorem px_dk (k' : Dk) {a : Ex} (ha : PX cn cl k a) : PX cn cl k (.dk k' a) := by
  refine ⟨fun X W e g h => by simp [mE] at h, fun X W e t g h => ?_⟩
  simp only [mI] at h
  split at h
  · rename_i e' he
    refine PI.imp (pi_dkL k' he (ha.1 X W e' g h).1) fun σ H R q => ?_
    have evv : vs (.dk k' a) = vs a := by simp only [vs]
    rw [evv] at q
    simp only [evI] at q
    exact q
  · cases h
theorem px_dget {o kx d : Ex} (ho : PX cn cl k o) (hk : PX cn cl k kx) (hd : PX cn cl k d) : PX cn cl k (.dget o kx d) := by
  refine ⟨fun X W e g h => ?_, noI fun _ _ _ => by simp [mI]⟩
  simp only [mE] at h
  split at h
  · rename_i v nm ap a b cp
    simp only [Bool.and_eq_true, decide_eq_true_eq] at h
    obtain ⟨⟨⟨⟨⟨⟨⟨rfl, h1⟩, h2⟩, h3⟩, h4⟩, h5⟩, h6⟩, h7⟩ := h
    have s1 : starEach [a, b] X.env = [(false, eval a X.env), (false, eval b X.env)] := by rw [star_cons h4, star_cons h5]; rfl
    have m : M2 X v "get" ap a b cp := ⟨noCall_base h6, by rw [star_all (by simp [noStars, h4, h5])]; rfl, h7, by rw [s1]; rfl⟩
    refine both (PE.imp (pe_dget2 (by have := g.room.units; omega) (ho.1 X W v g h1).1 (hk.1 X W a g h2).1 (hd.1 X W b g h3).1 m) fun σ H Q q => ?_) rfl
    obtain ⟨ρ, ε, S, rs, rp, q⟩ := q
    simp only [evE] at q
    have evv : vs (.dget o kx d) = vs o ++ (vs kx ++ vs d) := by simp only [vs]
    rw [evv] at q
    refine TG0.go2 (xs := vs o ++ (vs kx ++ vs d)) (fun i m => by simp [m]) rs rp q fun l vx H1 x S1 s1 rs1 rp1 rx q1 => ?_
    split at q1
    · rename_i kvs
      obtain ⟨ad, ws, rfl, rd, n1, n2, t⟩ := rx.dct
      refine ⟨ad, rfl, .inl ⟨ws, rd⟩, ?_⟩
      refine TG0.go2 (xs := vs o ++ (vs kx ++ vs d)) (fun i m => by simp [m]) rs1 rp1 q1 fun l2 vy H2 y S2 s2 rs2 rp2 ry q2 => ?_
      refine TG0.go2 (xs := vs o ++ (vs kx ++ vs d)) (fun i m => by simp [m]) rs2 rp2 q2 fun l3 vz H3 z S3 s3 rs3 rp3 rz q3 => ?_
      obtain ⟨dd, e0, q4⟩ := q3.ofH
      obtain ⟨key, ek, rfl⟩ := Option.map_eq_some_iff.mp e0
      have rx3 := (rx.mono (rs1.rp rp1 _) s2).mono ((rs2.rp rp2 _)) s3
      obtain ⟨ad3, ws3, ea3, rd3, n13, n23, t3⟩ := rx3.dct
      cases ea3
      have eky := keyOf_V ry ek
      subst eky
      refine ⟨valV ws3 key, .inl ⟨ws3, key, rd3, rfl, rfl⟩, ?_⟩
      have rp4 := rs3.rp rp3 (vs o ++ (vs kx ++ vs d))
      rcases RKV.getK (k := key) t3 with ⟨g1, g2⟩ | ⟨dv, v', g1, g2, g3⟩
      · rw [g1] at q4
        rw [g2]
        exact q4.here rp4 (plus_anti (Av.anti fun i m => by simp [m]) rz)
      · rw [g1] at q4
        rw [g2]
        exact q4.here rp4 (plus_anti (Av.anti fun i m => by simp [m]) g3)
    · exact q1.elim
  · cases h
def Mb.val : Mb → Value
  | .list => .type "list" | .dict => .type "dict" | .sorted => .builtin "sorted"
def MbC (K : KW) (b : Mb) (xs : List V) (H : Hp) (ob : HO) : Prop := match b with
  | .list => (∃ a ws, xs = [.ref a] ∧ (SqL K H a ws ∨ SqT K H a ws) ∧ ob = .lst ws) ∨ ∃ a kvs, xs = [.ref a] ∧ Rd H a (.dK kvs) ∧ ob = .lst (kvs.map fun kv : Key × V => kV kv.1)
  | .dict => (∃ (a : Addr) (ps : List Addr) (kvs : List (Key × V)), xs = [.ref a] ∧ SqL K H a (ps.map V.ref) ∧ Paired (fun p kv => SqT K H p [kV kv.1, kv.2]) ps kvs ∧ ob = .dK (mergeK [] kvs)) ∨ ∃ a kvs, xs = [.ref a] ∧ Rd H a (.dK kvs) ∧ ob = .dK kvs
  | .sorted => (∃ (a : Addr) (zs : List Str), xs = [.ref a] ∧ SqL K H a (zs.map V.str) ∧ zs.length < 64 ∧ ob = .lst ((isort (fun x : Str => x) zs).map V.str)) ∨ ∃ (a : Addr) (zs : List (Str × Addr)), xs = [.ref a] ∧ SqL K H a (zs.map fun z => V.ref z.2) ∧ (∀ z ∈ zs, ∃ r, SqT K H z.2 (.str z.1 :: r)) ∧ (zs.map (·.1)).Nodup ∧ ob = .lst ((isort (·.1) zs).map fun z => V.ref z.2)
theorem call_mb {X : Cx} (hc : X.calm = true) (b : Mb) : CallR X b.val (fun xs H Q => ∃ ob, MbC (kw X) b xs H ob ∧ ∀ p, H p = none → Q (.ref p) (upd H p ob)) := by
  intro pins s σ H xs us Q I r h
  obtain ⟨ob, c, q⟩ := h
  cases b with
  | list =>
    rcases c with ⟨a, ws, rfl, sq, rfl⟩ | ⟨a, kvs, rfl, rd, rfl⟩
    · exact call_list_of pins s σ H _ us Q I r ⟨a, ws, rfl, sq, q⟩
    · exact call_listD hc pins s σ H _ us Q I r ⟨a, kvs, rfl, rd, q⟩
  | dict =>
    rcases c with ⟨a, ps, kvs, rfl, sq, pr, rfl⟩ | ⟨a, kvs, rfl, rd, rfl⟩
    · exact call_dictP hc pins s σ H _ us Q I r ⟨a, ps, kvs, rfl, sq, pr, q⟩
    · exact call_dictD pins s σ H _ us Q I r ⟨a, kvs, rfl, rd, q⟩
  | sorted =>
    rcases c with ⟨a, zs, rfl, sq, hz, rfl⟩ | ⟨a, zs, rfl, sq, hx, nd, rfl⟩
    · exact call_sortS pins s σ H _ us Q I r ⟨a, zs, rfl, sq, hz, q⟩
    · exact call_sortT pins s σ H _ us Q I r ⟨a, zs, rfl, sq, hx, nd, q⟩
def NewOb (K : KW) (ρ : Fx) (H : Hp) (d : D) (ob : HO) : Prop := match d with
  | .lst ds => ∃ vs, ob = .lst vs ∧ ds.length ≤ sizeLine ∧ RVs K ρ H ds vs
  | .dct kvs => ∃ ws, ob = .dK ws ∧ RKV K ρ H kvs ws
  | _ => False
theorem post_new {K : KW} {mg : Str → Option Value} {E : XK} {H0 : Hp} {ρ : Fx} {H : Hp} {S : Sto} {Q : VK} {d : D} {ob : HO} (rp : Rp ρ S H) (n : NewOb K ρ H d ob) (hd : ∀ a, H0 a ≠ none → H a ≠ none) (q : Post K mg (RN K H0) E ρ H (.ok d S) Q) (p : Addr) (hp : H p = none) : Q (.ref p) (upd H p ob) := by
  unfold NewOb at n
  split at n
  · obtain ⟨vs, rfl, z, r⟩ := n; exact post_lstN rp z r hd q p hp
  · obtain ⟨ws, rfl, r⟩ := n; exact post_dictN rp r hd q p hp
  · exact n.elim
theorem keysV {K : KW} {ρ : Fx} {H : Hp} : ∀ {kvs : List (Key × D)} {ws : List (Key × V)}, RKV K ρ H kvs ws → RVs K ρ H (kvs.map fun kv => kD kv.1) (ws.map fun kv => kV kv.1)
  | [], ws, h => by simp only [RKV] at h; subst h; exact RVs.nil
  | (k, d) :: r, ws, h => by
    simp only [RKV] at h
    obtain ⟨v, w, rfl, _, t⟩ := h
    exact .cons (rv_kD k) (keysV t)
theorem pairs_V {K : KW} {ρ : Fx} {H : Hp} : ∀ {ds : List D} {kvs : List (Key × D)} {vs : List V}, pairsOf ds = some kvs → RVs K ρ H ds vs → ∃ (ps : List Addr) (ws : List (Key × V)), vs = ps.map V.ref ∧ Paired (fun p kv => SqT K H p [kV kv.1, kv.2]) ps ws ∧ RKV K ρ H kvs ws
  | [], kvs, vs, e, r => by
    simp only [pairsOf] at e; cases e
    simp only [RVs] at r; subst r
    exact ⟨[], [], rfl, .nil, by simp only [RKV]⟩
  | d :: ds, kvs, vs, e, r => by
    obtain ⟨v, vr, rfl, rv, rr⟩ := r.uncons
    unfold pairsOf at e
    split at e
    · rename_i h; exact absurd h (List.cons_ne_nil _ _)
    · rename_i k x ds' ee
      cases ee
      split at e
      · rename_i key kvs' e1 e2
        cases e
        obtain ⟨ps, ws, rfl, pr, rk⟩ := pairs_V e2 rr
        obtain ⟨a, us, rfl, _, sq, t⟩ := rv.tup
        obtain ⟨vk, vx, rfl, tk, tx⟩ := t.two'
        have := keyOf_V tk e1
        subst this
        exact ⟨a :: ps, (key, vx) :: ws, rfl, .cons sq pr, by simp only [RKV]; exact ⟨vx, ws, rfl, tx, rk⟩⟩
      · cases e
    · cases e
theorem mb_ok {K : KW} {ρ : Fx} {H : Hp} (b : Mb) {x d : D} {vx : V} (r : RV K ρ H x vx) (e : mbF b x = some d) : ∃ ob, MbC K b [vx] H ob ∧ NewOb K ρ H d ob := by
  cases b with
  | list =>
    simp only [mbF] at e
    split at e
    · rename_i kvs
      split at e
      · rename_i z
        cases e
        obtain ⟨a, ws, rfl, rd, _, _, t⟩ := r.dct
        exact ⟨_, .inr ⟨a, ws, rfl, rd, rfl⟩, _, rfl, by rw [List.length_map]; exact z, keysV t⟩
      · cases e
    · obtain ⟨ds, e1, rfl⟩ := Option.map_eq_some_iff.mp e
      obtain ⟨a, ws, rfl, z, sq, t⟩ := seqOf_ok r e1
      exact ⟨_, .inl ⟨a, ws, rfl, sq, rfl⟩, ws, rfl, z, t⟩
  | dict =>
    simp only [mbF] at e
    split at e
    · cases e
      obtain ⟨a, ws, rfl, rd, _, _, t⟩ := r.dct
      exact ⟨_, .inr ⟨a, ws, rfl, rd, rfl⟩, ws, rfl, t⟩
    · obtain ⟨kvs, e1, rfl⟩ := Option.map_eq_some_iff.mp e
      obtain ⟨ds, e2, e3⟩ := Option.bind_eq_some_iff.mp e1
      obtain ⟨a, ws, rfl, sq, t⟩ := lstOf_ok r e2
      obtain ⟨ps, us, rfl, pr, rk⟩ := pairs_V e3 t
      exact ⟨_, .inl ⟨a, ps, us, rfl, sq, pr, rfl⟩, _, rfl, RKV.merge (by simp only [RKV]) rk⟩
  | sorted =>
    obtain ⟨rs, e1, rfl⟩ := Option.map_eq_some_iff.mp e
    obtain ⟨ds, e2, e3⟩ := Option.bind_eq_some_iff.mp e1
    obtain ⟨a, ws, rfl, sq, t⟩ := lstOf_ok r e2
    unfold sortL at e3
    have s64 : 64 ≤ sizeLine := by decide
    split at e3
    · rename_i hc
      cases e3
      obtain ⟨zs, rfl⟩ := strs_all hc.1
      have := strs_rvs t
      subst this
      have hz : zs.length < 64 := by simpa using hc.2
      have el : isort headK (zs.map D.str) = (isort (fun x : Str => x) zs).map D.str := isort_map headK D.str zs
      refine ⟨_, .inl ⟨a, zs, rfl, sq, hz, rfl⟩, _, rfl, ?_, ?_⟩
      · rw [(isort_perm _ _).length_eq]; simp; omega
      · rw [el]; exact RVs.each fun x _ => .mkStr x
    · split at e3
      · rename_i hc
        cases e3
        obtain ⟨L, rfl, rfl, q⟩ := tups_all hc.1 t
        have el : isort headK (L.map (·.1)) = (isort (fun x : D × Str × Addr => x.2.1) L).map (·.1) := by
          rw [isort_map]
          congr 1
          exact isort_congr fun x m => (q x m).1
        have el2 : isort (·.1) (L.map (·.2)) = (isort (fun x : D × Str × Addr => x.2.1) L).map (·.2) := isort_map (fun z : Str × Addr => z.1) (·.2) L
        have nd : ((L.map (·.2)).map (·.1)).Nodup := by
          have := nodupS_iff hc.2.1
          rw [List.map_map] at this ⊢
          have e : L.map (headK ∘ fun x => x.1) = L.map ((fun z : Str × Addr => z.1) ∘ fun x => x.2) := List.map_congr_left fun x m => (q x m).1
          rw [← e]; exact this
        refine ⟨_, .inr ⟨a, L.map (·.2), rfl, by rw [List.map_map]; exact sq, fun z m => ?_, nd, rfl⟩, _, rfl, ?_, ?_⟩
        · obtain ⟨x, mx, rfl⟩ := List.mem_map.mp m
          exact (q x mx).2.2
        · rw [(isort_perm _ _).length_eq]
          have := hc.2.2
          omega
        · rw [el, el2, List.map_map]
          exact RVs.each fun x m => (q x ((isort_perm _ L).mem_iff.mp m)).2.1
      · cases e3
theorem mb_boot (b : Mb) : bootBuiltins b.name = some b.val := by cases b <;> decide +kernel
theorem mb_name (b : Mb) : b.name ∈ bnames ∧ b.name ≠ "__name__" ∧ (b.name == ("__debug__" : Str)) = false := by cases b <;> decide +kernel
theorem pn_mkB (b : Mb) {a : Ex} (ha : PX cn cl k a) : PN cn cl k (.mkB b a) := by
  intro X W e g h
  simp only [mE] at h
  split at h
  · rename_i x p v cp
    simp only [Bool.and_eq_true, decide_eq_true_eq] at h
    obtain ⟨⟨⟨rfl, h1⟩, h2⟩, h3⟩ := h
    obtain ⟨hb, hn, hd⟩ := mb_name b
    have s1 : starEach [v] X.env = [(false, eval v X.env)] := star_cons h3
    have hpa := pa_cons (ha.1 X W v g h2).1 pa_nil s1
    have key : ∀ (σ : L2.St) (H : Hp) (Q : VK), TFn (kw X) X.mg W (vs (.mkB b a)) (evE cl (.mkB b a)) σ H Q → tCB (fun xs H Q => ∃ ob, MbC (kw X) b xs H ob ∧ ∀ p, H p = none → Q (.ref p) (upd H p ob)) (tCons (TF (kw X) X.mg W (vs a) (evE cl a)) tNil) σ H Q := fun σ H Q q => by
      obtain ⟨ρ, ε, S, rs, rp, q⟩ := q
      simp only [evE] at q
      have evv : vs (.mkB b a) = vs a := by simp only [vs]
      rw [evv] at q
      refine TG0.go2 (xs := vs a) (fun i m => m) rs rp q fun l vx H1 x S1 s1 rs1 rp1 rx q1 => ?_
      obtain ⟨d, e1, q2⟩ := q1.ofH
      obtain ⟨ob, c, n⟩ := mb_ok b rx e1
      exact ⟨ob, c, post_new (rs1.rp rp1 (vs a)) n s1.dm q2⟩
    cases b with
    | list => exact PE.imp (pe_callTy (call_mb g.calm .list) (gl_of h1) (g.blt _ hb) (mb_boot .list) hpa hn hd s1 rfl) key
    | sorted => exact PE.imp (pe_callB (call_mb g.calm .sorted) (gl_of h1) (g.blt _ hb) (mb_boot .sorted) hpa hn hd s1 rfl) key
    | dict => exact PE.imp (pe_callTy (call_mb g.calm .dict) (gl_of h1) (g.blt _ hb) (mb_boot .dict) hpa hn hd s1 rfl) key
  · cases h
theorem px_mkB (b : Mb) {a : Ex} (ha : PX cn cl k a) : PX cn cl k (.mkB b a) := by
  refine ⟨fun X W e g h => ?_, noI fun _ _ _ => by simp [mI]⟩
  have q := (pn_mkB b ha).pe g h
  cases e with
  | Call f es ks p => exact both q rfl
  | _ => simp [mE] at h
def kOne (s : Bool) (K : PySem.W.Frag) (x : V) (H : Hp) (T : List V → Prop) : Prop := if s = true then ∃ p xs, x = V.ref p ∧ (SqT K H p xs ∨ SqL K H p xs) ∧ T xs else T [x]
def tOne (s : Bool) (K : PySem.W.Frag) (te : TE) (t : TA) : TA := fun σ H Q => te σ H fun x H1 => kOne s K x H1 fun xs => t σ H1 fun ys H2 => Q (xs ++ ys) H2
theorem pa_one {X : Cx} {s : Bool} {l e : Expr} {es : List Expr} {te : TE} {t : TA} (hu : unstar s l = some e) (he : PE X e te) (hr : PA X es t) : PA X (l :: es) (tOne s X.K te t) := by
  unfold unstar at hu
  cases s with
  | false =>
    rw [if_neg Bool.false_ne_true] at hu
    split at hu
    · rename_i h
      cases hu
      exact pa_cons he hr (star_cons h)
    · cases hu
  | true =>
    rw [if_pos rfl] at hu
    split at hu
    · cases hu
      exact StX.pa_star he hr rfl
    · cases hu
theorem items_V {K : KW} {ρ : Fx} {H : Hp} {s : Bool} {d : D} {v : V} {ds : List D} (r : RV K ρ H d v) (e : itemsF s d = some ds) : ∃ vs, RVs K ρ H ds vs ∧ ∀ T : List V → Prop, T vs → kOne s K v H T := by
  unfold itemsF at e
  cases s with
  | false =>
    rw [if_neg Bool.false_ne_true] at e
    cases e
    exact ⟨[v], .one r, fun T t => by unfold kOne; rw [if_neg Bool.false_ne_true]; exact t⟩
  | true =>
    rw [if_pos rfl] at e
    obtain ⟨a, vs, rfl, _, sq, t⟩ := seqOf_ok r e
    exact ⟨vs, t, fun T h => by unfold kOne; rw [if_pos rfl]; exact ⟨a, vs, rfl, sq.symm, h⟩⟩
theorem px_cat (sa sb : Bool) {a b : Ex} (ha : PX cn cl k a) (hb : PX cn cl k b) : PX cn cl k (.cat sa sb a b) := by
  refine ⟨fun X W e g h => ?_, noI fun _ _ _ => by simp [mI]⟩
  simp only [mE] at h
  split at h
  · rename_i l r kk p
    split at h
    · rename_i l' r' e1 e2
      simp only [Bool.and_eq_true] at h
      refine both (PE.imp (pe_tup (pa_one e1 (ha.1 X W l' g h.1).1 (pa_one e2 (hb.1 X W r' g h.2).1 pa_nil))) fun σ H Q q => ?_) rfl
      obtain ⟨ρ, ε, S, rs, rp, q⟩ := q
      simp only [evE] at q
      have evv : vs (.cat sa sb a b) = vs a ++ vs b := by simp only [vs]
      rw [evv] at q
      refine TG0.go2 (xs := vs a ++ vs b) (fun i m => by simp [m]) rs rp q fun l vx H1 x S1 s1 rs1 rp1 rx q1 => ?_
      split at q1
      · rename_i xs ex
        obtain ⟨vxs, rxs, kx⟩ := items_V rx ex
        refine kx _ ?_
        refine TG0.go2 (xs := vs a ++ vs b) (fun i m => by simp [m]) rs1 rp1 q1 fun l2 vy H2 y S2 s2 rs2 rp2 ry q2 => ?_
        split at q2
        · rename_i ys ey
          obtain ⟨vys, rys, ky⟩ := items_V ry ey
          refine ky _ ?_
          split at q2
          · rename_i z
            have rx2 : RVs (kw X) (((ρ.to l).to l2).plus (Av ε σ (vs a ++ vs b))) H2 xs vxs := plus_antis (Av.anti fun i m => by simp [m]) (rxs.mono (rs1.rp rp1 _) s2)
            have ry2 : RVs (kw X) (((ρ.to l).to l2).plus (Av ε σ (vs a ++ vs b))) H2 ys vys := plus_antis (Av.anti fun i m => by simp [m]) rys
            have rr := rx2.append ry2
            show (vxs ++ (vys ++ [])).length ≤ sizeLine ∧ ∀ p, H2 p = none → Q (.ref p) (upd H2 p (.tup (vxs ++ (vys ++ []))))
            rw [List.append_nil]
            exact ⟨by rw [← rr.len]; exact z, fun p hp => post_tup (rs2.rp rp2 _) z rr q2 p hp⟩
          · exact q2.elim
        · exact q2.elim
      · exact q1.elim
    · cases h
  · cases h
theorem px_rng {es : List Ex} (hs : PXs cn cl k es) : PX cn cl k (.rng es) := by
  refine ⟨fun X W e g h => by simp [mE] at h, fun X W e t g h => ?_⟩
  cases e with
  | Call fe vs ks p =>
    cases fe with
    | Name x pp =>
      match vs, ks, h with
      | [v], [], h =>
        simp only [mI, Bool.and_eq_true, decide_eq_true_eq] at h
        obtain ⟨⟨⟨rfl, h1⟩, h2⟩, h3⟩ := h
        have hst := mEs_stars h2
        simp only [noStars, Bool.and_eq_true] at hst
        have hl := mEs_len h2
        exact tfj_of (pi_rng1 (gl_of h1) (g.blt _ (by decide +kernel)) (hs.1 X W [v] g h2) (star_cons hst.1) fun ε S ds S1 e => (evEs_len e).trans hl)
      | [v, w], [], h =>
        simp only [mI, Bool.and_eq_true, decide_eq_true_eq] at h
        obtain ⟨⟨⟨rfl, h1⟩, h2⟩, h3⟩ := h
        have hst := mEs_stars h2
        simp only [noStars, Bool.and_eq_true] at hst
        have hl := mEs_len h2
        have s2 : starEach [w] X.env = [(false, eval w X.env)] := star_cons hst.2.1
        exact tfj_of (pi_rng2 (gl_of h1) (g.blt _ (by decide +kernel)) (hs.1 X W [v, w] g h2) (by rw [star_cons hst.1, s2]) s2 fun ε S ds S1 e => (evEs_len e).trans hl)
      | [v, w, u], [], h =>
        simp only [mI, Bool.and_eq_true, decide_eq_true_eq] at h
        obtain ⟨⟨⟨rfl, h1⟩, h2⟩, h3⟩ := h
        have hst := mEs_stars h2
        simp only [noStars, Bool.and_eq_true] at hst
        have hl := mEs_len h2
        exact tfj_of (pi_rng3 (gl_of h1) (g.blt _ (by decide +kernel)) (hs.1 X W [v, w, u] g h2) (star_cons hst.1) (star_any (by simp only [noStars, Bool.and_eq_true]; exact hst.2)) fun ε S ds S1 e => (evEs_len e).trans hl)
      | [], ks, h => cases ks <;> simp [mI] at h
      | _ :: _ :: _ :: _ :: _, [], h => simp [mI] at h
      | _ :: _, _ :: _, h => simp [mI] at h
    | _ => simp [mI] at h
  | _ => simp [mI] at h
theorem px_enum {a : Ex} (ha : PX cn cl k a) : PX cn cl k (.enum a) := by
  refine ⟨fun X W e g h => by simp [mE] at h, fun X W e t g h => ?_⟩
  cases e with
  | Call fe vs ks p =>
    cases fe with
    | Name x pp =>
      match vs, ks, h with
      | [v], [], h =>
        simp only [mI, Bool.and_eq_true, decide_eq_true_eq] at h
        obtain ⟨⟨⟨⟨rfl, h1⟩, h2⟩, h3⟩, h4⟩ := h
        exact tfj_of (pi_enumG h4 (gl_of h1) (g.blt _ (by decide +kernel)) (ha.1 X W v g h2).1 h3)
      | [], ks, h => cases ks <;> simp [mI] at h
      | _ :: _ :: _, ks, h => cases ks <;> simp [mI] at h
      | [_], _ :: _, h => simp [mI] at h
    | _ => simp [mI] at h
  | _ => simp [mI] at h
theorem px_zip {a b : Ex} (ha : PX cn cl k a) (hb : PX cn cl k b) : PX cn cl k (.zip a b) := by
  refine ⟨fun X W e g h => by simp [mE] at h, fun X W e t g h => ?_⟩
  cases e with
  | Call fe vs ks p =>
    cases fe with
    | Name x pp =>
      match vs, ks, h with
      | [v, w], [], h =>
        simp only [mI, Bool.and_eq_true, decide_eq_true_eq] at h
        obtain ⟨⟨⟨⟨⟨⟨rfl, h1⟩, h2⟩, h3⟩, h4⟩, h5⟩, h6⟩ := h
        exact tfj_of (pi_zipG h6 (gl_of h1) (g.blt _ (by decide +kernel)) (ha.1 X W v g h2).1 (hb.1 X W w g h3).1 h4 h5)
      | [], ks, h => cases ks <;> simp [mI] at h
      | [_], ks, h => cases ks <;> simp [mI] at h
      | _ :: _ :: _ :: _, ks, h => cases ks <;> simp [mI] at h
      | [_, _], _ :: _, h => simp [mI] at h
    | _ => simp [mI] at h
  | _ => simp [mI] at h
end
section
variable {K : KW} {mg : Str → Option Value} {cn : Cn} {cl : Nat → List D → Sto → Out D} {k : Nat} {W : WX} {X : Cx}
/-- a method's rule serves a function -/
def VRm (K : KW) (mg : Str → Option Value) (r : V → List V → Hp → VK → Prop) (h : D → List D → Option D) : Prop :=
  ∀ (E : XK) (ρ : Fx) (S : Sto) (H : Hp) (x : D) (vx : V) (xs : List D) (vs : List V) (Q : VK), Rp ρ S H → RV K ρ H x vx → RVs K ρ H xs vs → Post K mg (RV K) E ρ H (.of S (h x xs)) Q → r vx vs H Q
theorem tf_bm {T : String} {r : V → List V → Hp → VK → Prop} {m : Me} {xo xa : List Nat} {fo : Env → Sto → Out D} {fa : Env → Sto → Out (List D)} (v : VRm K mg r (meF m))
    (ty : ∀ ρ H x vx, RV K ρ H x vx → meR m x = true → tyV K T vx H) (σ : L2.St) (H : Hp) (Q : VK)
    (q : TF K mg W (xo ++ xa) (fun ε S => (fo ε S).bind fun x S1 => if meR m x = true then (fa ε S1).bind fun ds S2 => .of S2 (meF m x ds) else .bad) σ H Q) : tBM K T r (TF K mg W xo fo) (TFs K mg W xa fa) σ H Q := by
  obtain ⟨ρ, ε, S, hs, hp, q⟩ := q
  refine TG0.go2 (xs := xo ++ xa) (fun i m => by simp [m]) hs hp q fun l vx H1 x S1 s1 hs1 rp1 rx q1 => ?_
  split at q1
  · rename_i ok
    refine ⟨ty _ H1 x vx rx ok, ?_⟩
    refine TG0.go2 (xs := xo ++ xa) (fun i m => by simp [m]) hs1 rp1 q1 fun l2 ws H2 ds S2 s2 hs2 rp2 rv q2 => ?_
    exact v _ _ _ _ _ _ _ _ _ (hs2.rp rp2 _) (plus_anti (Av.anti fun i m => by simp [m]) (rx.mono (hs1.rp rp1 _) s2)) (plus_antis (Av.anti fun i m => by simp [m]) rv) q2
  · exact q1.elim
theorem tf_bm0 {T : String} {r : V → List V → Hp → VK → Prop} {m : Me} {xo : List Nat} {fo : Env → Sto → Out D} (v : VRm K mg r (meF m))
    (ty : ∀ ρ H x vx, RV K ρ H x vx → meR m x = true → tyV K T vx H) (σ : L2.St) (H : Hp) (Q : VK)
    (q : TF K mg W xo (fun ε S => (fo ε S).bind fun x S1 => if meR m x = true then .of S1 (meF m x []) else .bad) σ H Q) : tBM0 K T r (TF K mg W xo fo) σ H Q := by
  obtain ⟨ρ, ε, S, hs, hp, q⟩ := q
  refine TG0.go2 (xs := xo) (fun i m => m) hs hp q fun l vx H1 x S1 s1 hs1 rp1 rx q1 => ?_
  split at q1
  · rename_i ok
    exact ⟨ty _ H1 x vx rx ok, v _ _ _ _ _ _ _ _ _ (hs1.rp rp1 _) rx RVs.nil q1⟩
  · exact q1.elim
theorem ty_str {m : Me} (hm : ∀ x, meR m x = true → ∃ z, x = .str z) : ∀ ρ H x vx, RV K ρ H x vx → meR m x = true → tyV K "str" vx H := by
  intro ρ H x vx rx ok
  obtain ⟨z, rfl⟩ := hm x ok
  rw [rx.str]; rfl
theorem ty_lst {m : Me} (hm : ∀ x, meR m x = true → ∃ ds, lstOf x = some ds) : ∀ ρ H x vx, RV K ρ H x vx → meR m x = true → tyV K "list" vx H := by
  intro ρ H x vx rx ok
  obtain ⟨ds, e⟩ := hm x ok
  obtain ⟨a, vs, rfl, sq, _⟩ := lstOf_ok rx e
  exact .inl ⟨rfl, vs, sq⟩
theorem vr_join : VRm K mg (fun x xs H Q => ∃ a p ys, x = .str a ∧ xs = [.ref p] ∧ (SqL K H p (ys.map V.str) ∨ SqT K H p (ys.map V.str)) ∧ (ys.map (·.length)).sum + ys.length * a.length ≤ 16777216 ∧ Q (.str (Txt.join a ys)) H) (meF .join) := by
  intro E ρ S H x vx xs vs Q rp rx rv q
  obtain ⟨d, e, q2⟩ := q.ofH
  clear q
  match x, xs, e, rx, rv with
  | .str a, [y], e, rx, rv =>
    obtain ⟨v, rfl, r⟩ := rv.one'
    simp only [meF] at e
    split at e
    · rename_i ys e1
      split at e
      · rename_i z
        cases e
        obtain ⟨ds, e1, e2⟩ := Option.bind_eq_some_iff.mp e1
        obtain ⟨a, ws, rfl, _, sq, t⟩ := seqOf_ok r e1
        have e3 := strs_V t e2
        subst e3
        exact ⟨_, a, ys, rx.str, rfl, sq, z, q2.here rp (.mkStr _)⟩
      · cases e
    · cases e
  | .str a, [], e, _, _ => simp [meF] at e
  | .str a, _ :: _ :: _, e, _, _ => simp [meF] at e
  | .non, _, e, _, _ | .bl _, _, e, _, _ | .int _, _, e, _, _ | .tup _, _, e, _, _ | .lst _, _, e, _, _ | .rol _, _, e, _, _ | .dct _, _, e, _, _ | .stm _, _, e, _, _ | .wdt _, _, e, _, _ => simp [meF] at e
theorem vr_upper : VRm K mg (fun x xs H Q => ∃ a, x = .str a ∧ xs = [] ∧ a.length ≤ 5592405 ∧ Q (.str (Txt.upper a)) H) (meF .upper) := by
  intro E ρ S H x vx xs vs Q rp rx rv q
  obtain ⟨d, e, q2⟩ := q.ofH
  clear q
  match x, xs, e, rx, rv with
  | .str a, [], e, rx, rv =>
    simp only [RVs] at rv
    simp only [meF] at e
    split at e
    · rename_i z
      cases e
      exact ⟨_, rx.str, rv, z, q2.here rp (.mkStr _)⟩
    · cases e
  | .str a, _ :: _, e, _, _ => simp [meF] at e
  | .non, _, e, _, _ | .bl _, _, e, _, _ | .int _, _, e, _, _ | .tup _, _, e, _, _ | .lst _, _, e, _, _ | .rol _, _, e, _, _ | .dct _, _, e, _, _ | .stm _, _, e, _, _ | .wdt _, _, e, _, _ => simp [meF] at e
theorem vr_count : VRm K mg (fun x xs H Q => ∃ (a : Addr) (ns : List Int) (k : Int), x = .ref a ∧ xs = [.int k] ∧ SqL K H a (ns.map V.int) ∧ Q (.int (ns.count k)) H) (meF .count) := by
  intro E ρ S H x vx xs vs Q rp rx rv q
  obtain ⟨d, e, q2⟩ := q.ofH
  clear q
  have go : ∀ k, xs = [.int k] → ((lstOf x).bind intsOf).map (fun ns => D.int (ns.count k)) = some d → ∃ (a : Addr) (ns : List Int) (k : Int), vx = .ref a ∧ vs = [.int k] ∧ SqL K H a (ns.map V.int) ∧ Q (.int (ns.count k)) H := fun k ek e => by
    subst ek
    obtain ⟨ns, e1, rfl⟩ := Option.map_eq_some_iff.mp e
    obtain ⟨ds, e2, e3⟩ := Option.bind_eq_some_iff.mp e1
    obtain ⟨a, ws, rfl, sq, t⟩ := lstOf_ok rx e2
    have e4 := ints_V t e3
    subst e4
    obtain ⟨v, rfl, r⟩ := rv.one'
    exact ⟨a, ns, k, rfl, by rw [r.int], sq, q2.here rp (.mkInt _)⟩
  unfold meF at e
  split at e <;> first | (exact go _ rfl e) | cases e | contradiction
theorem px_me (m : Me) {o : Ex} {es : List Ex} (ho : PX cn cl k o) (hs : PXs cn cl k es) : PX cn cl k (.me m o es) := by
  refine ⟨fun X W e g h => ?_, noI fun _ _ _ => by simp [mI]⟩
  cases e with
  | Call fe us ks p =>
    cases fe with
    | Attribute v nm ap =>
      cases ks with
      | cons kw ks => simp [mE] at h
      | nil =>
        simp only [mE, Bool.and_eq_true, decide_eq_true_eq] at h
        obtain ⟨⟨⟨⟨⟨rfl, h1⟩, h2⟩, h3⟩, h4⟩, h5⟩ := h
        have hv := (ho.1 X W v g h1).1
        have hl : us.length = m.ar := (mEs_len h2).symm.trans h5
        have hst := mEs_stars h2
        have hb : attributeBase v m.name X.env (eval v X.env) = eval v X.env := noCall_base h3
        have ha := hs.1 X W us g h2
        refine both ?_ rfl
        have few : ∀ {e : Expr} {es : List Expr}, noStars (e :: es) = true → (e :: es).length = 1 → ((backTo p (starEach (e :: es) X.env)).all (fun x => !x.1) && (backToKw p (keywordEach [] X.env)).all (fun x => x.1.isSome)
          && decide ((e :: es).length + ([] : List Keyword).length + (if ([] : List Keyword).isEmpty then 0 else 1) < 30)) = true := fun {e es} h hl => by
          rw [star_all h, hl]; rfl
        cases m with
        | join =>
          cases us with
          | nil => simp [Me.ar] at hl
          | cons w ws =>
            have hst' := hst
            simp only [noStars, Bool.and_eq_true] at hst'
            exact PE.imp (pe_bm PySem.F.plainAttrs_str PySem.F.slot_str_join PySem.F.type_str_join mt_join hv ha hb (few hst hl) h4 (star_cons hst'.1) (star_any hst'.2)) fun σ H Q q => by
              simp only [evE] at q
              exact tf_bm vr_join (ty_str fun x h => by unfold meR at h; split at h <;> first | exact ⟨_, rfl⟩ | contradiction | cases h) σ H Q q
        | count =>
          cases us with
          | nil => simp [Me.ar] at hl
          | cons w ws =>
            have hst' := hst
            simp only [noStars, Bool.and_eq_true] at hst'
            exact PE.imp (pe_bm PySem.F.plainAttrs_list PySem.F.slot_list_count PySem.F.type_list_count (mt_lcount (X := X)) hv ha hb (few hst hl) h4 (star_cons hst'.1) (star_any hst'.2)) fun σ H Q q => by
              simp only [evE] at q
              exact tf_bm vr_count (ty_lst fun x h => by unfold meR at h; split at h <;> first | exact ⟨_, rfl⟩ | contradiction | cases h) σ H Q q
        | upper =>
          cases us with
          | cons w ws => simp [Me.ar] at hl
          | nil =>
            have ez : es = [] := by
              cases es with
              | nil => rfl
              | cons a r => simp [mEs] at h2
            subst ez
            exact PE.imp (pe_bm0 PySem.F.plainAttrs_str PySem.F.slot_str_upper PySem.F.type_str_upper mt_upper hv hb h4) fun σ H Q q => by
              simp only [evE, evEs, Out.bind_ok, vs, vss, List.append_nil] at q
              exact tf_bm0 vr_upper (ty_str fun x h => by unfold meR at h; split at h <;> first | exact ⟨_, rfl⟩ | contradiction | cases h) σ H Q q
    | _ => simp [mE] at h
  | _ => simp [mE] at h
end
end GG
namespace GG
open PySem PySem.Spec PyProof.Rows L2
section
variable {K : KW} {mg : Str → Option Value} {ρ : Fx} {H : Hp} {S : Sto}
theorem RVs.set {d : D} {v : V} (r : RV K ρ H d v) : ∀ {xs : List D} {vs : List V} (i : Nat), RVs K ρ H xs vs → RVs K ρ H (xs.set i d) (vs.set i v)
  | [], vs, i, h => by simp only [RVs] at h; subst h; exact RVs.nil
  | x :: xs, vs, 0, h => by
    obtain ⟨w, wr, rfl, rw', rr⟩ := h.uncons
    exact .cons r rr
  | x :: xs, vs, i + 1, h => by
    obtain ⟨w, wr, rfl, rw', rr⟩ := h.uncons
    exact .cons rw' (RVs.set r i rr)
end
section
variable {cn : Cn} {cl : Nat → List D → Sto → Out D} {k : Nat} {W : WX} {X : Cx}
theorem pairs_ok (g : Good cn cl k W X) (pos : Pos) : ∀ (ks : List Key) (es : List Ex) (keys : List (Option Expr)) (vals : List Expr), (∀ a ∈ es, PX cn cl k a) → mK ks keys = true → mEs cn es X.env.scope vals = true → ks.length = es.length →
    ∃ trs, PPs X pos keys vals trs ∧ keys.all (·.isSome) = true ∧ keys.length = ks.length ∧ ∀ (σ : L2.St) (H : Hp) (R : List V → Hp → Prop) (Q : List (V × V) → Hp → Prop), TFs (kw X) X.mg W (vss es) (evEs cl es) σ H R →
      (∀ vs H2, R vs H2 → Q ((ks.zip vs).map fun kv => (kV kv.1, kv.2)) H2) → tPairs trs σ H Q
  | [], es, keys, vals, hp, hk, he, hl => by
    cases es with
    | cons a r => simp at hl
    | nil =>
      cases keys with
      | cons _ _ => simp [mK] at hk
      | nil =>
        cases vals with
        | cons _ _ => simp [mEs] at he
        | nil =>
          refine ⟨[], pps_nil, rfl, rfl, fun σ H R Q q hq => ?_⟩
          obtain ⟨ρ, ε, S, hs, hp, q⟩ := q
          simp only [evEs] at q
          exact hq [] H (q.here (hs.rp hp _) RVs.nil)
  | kk :: ks, es, keys, vals, hp, hk, he, hl => by
    cases es with
    | nil => simp at hl
    | cons a r =>
      cases keys with
      | nil => simp [mK] at hk
      | cons ko keys =>
        cases ko with
        | none => simp [mK] at hk
        | some ke =>
          cases vals with
          | nil => simp [mEs] at he
          | cons v vals =>
            simp only [mK, Bool.and_eq_true] at hk
            simp only [mEs, Bool.and_eq_true] at he
            obtain ⟨trs, t1, t2, t3, t4⟩ := pairs_ok g pos ks r keys vals (fun b hb => hp b (List.mem_cons_of_mem _ hb)) hk.2 he.2 (by simpa using hl)
            have hv := ((hp a List.mem_cons_self).1 X W v g he.1.1).1
            have hke : PE X ke (tC (kV kk)) := by
              unfold keyIsC at hk
              cases kk with
              | inl i =>
                cases ke with
                | Constant c j p => cases c <;> first | (have := of_decide_eq_true hk.1; subst this; exact pe_int) | (simp at hk)
                | _ => simp at hk
              | inr i =>
                cases ke with
                | Constant c j p => cases c <;> first | (have := of_decide_eq_true hk.1; subst this; exact pe_str) | (simp at hk)
                | _ => simp at hk
            refine ⟨_, pps_cons hke hv t1, by simpa using t2, by simp [t3], fun σ H R Q q hq => ?_⟩
            obtain ⟨ρ, ε, S, hs, hp, q⟩ := q
            simp only [tPairs, evEs] at q ⊢
            refine TG0.go2 (xs := vs a ++ vss r) (fun i m => by simp [m]) hs hp q fun l vx H1 x S1 s1 hs1 rp1 rx q1 => ?_
            refine t4 σ H1 (fun vs H2 => R (vx :: vs) H2) (fun ps H2 => Q ((kV kk, vx) :: ps) H2) ?_ fun vs H2 h => hq (vx :: vs) H2 h
            refine TG0.go2 (xs := vs a ++ vss r) (fun i m => by simp [m]) hs1 rp1 q1 fun l2 ws H2 ys S2 s2 hs2 rp2 rv q2 => ?_
            exact q2.here (hs2.rp rp2 _) (.cons (plus_anti (Av.anti fun i m => by simp [m]) (rx.mono (hs1.rp rp1 _) s2)) (plus_antis (Av.anti fun i m => by simp [m]) rv))
theorem pn_dct (ks : List Key) {es : List Ex} (hs : PXs cn cl k es) : PN cn cl k (.dct ks es) := by
  intro X W e g h
  cases e with
  | Dict keys vals p =>
    simp only [mE, Bool.and_eq_true, decide_eq_true_eq] at h
    obtain ⟨⟨⟨h1, h2⟩, h3⟩, h4⟩ := h
    obtain ⟨trs, t1, t2, t3, t4⟩ := pairs_ok g p ks es keys vals hs.2.2.2.2.2 h1 h2 h3
    have hl := mEs_len h2
    cases keys with
    | nil =>
      cases ks with
      | cons _ _ => simp at t3
      | nil =>
        cases es with
        | cons _ _ => simp at h3
        | nil =>
          cases vals with
          | cons _ _ => simp at hl
          | nil =>
            refine PE.imp pe_dnewK fun σ H Q q => ?_
            obtain ⟨ρ, ε, S, rs, rp, q⟩ := q
            simp only [evE, evEs, Out.bind_ok, List.length_nil, Nat.zero_le, if_true] at q
            exact fun p hp => post_dictN (ds := []) (vs := []) (rs.rp rp _) (by simp only [RKV]) (fun _ z => z) q p hp
    | cons k0 keys =>
      refine PE.imp (pe_disp t1 t2 (by rw [t3, h3, hl]) (by simp) (by rw [t3]; exact h4)) fun σ H Q q => ?_
      obtain ⟨ρ, ε, S, rs, rp, q⟩ := q
      have evs : vs (.dct ks es) = vss es := by simp only [vs]
      simp only [evE] at q
      rw [evs] at q
      intro pd hp
      have kqp : Kq ρ H ρ.l (upd H pd (.dK [])) := Kq.fresh hp
      have rsp : Rs (kw X) (ρ.plus (· = pd)) (upd H pd (.dK [])) ε σ := Rs.gen (rs.plus (n := (· = pd)) (fun a z => by rw [z]; exact hp)) (Kq.plus kqp)
      have rpp : Rp (ρ.plus (· = pd)) S (upd H pd (.dK [])) := Rp.w (rp.fresh hp) fun a z => z.elim ((rp.fresh hp).dom a) fun z => by rw [z, upd_same]; exact fun z => nomatch z
      refine t4 σ _ (fun vs H2 => H2 pd = some (.dK []) ∧ vs.length ≤ 15 ∧ Q (.ref pd) (upd H2 pd (.dK (mergeK [] (ks.zip vs))))) _ ⟨ρ.plus (· = pd), ε, S, rsp, rpp, ?_⟩ ?_
      · have npd := (rp.nin hp).1
        cases e0 : evEs cl es ε S with
        | bad => rw [e0] at q; exact q
        | exc c v S1 =>
          rw [e0] at q
          intro l1 H1 cls dd s1 rp1 rx
          refine q l1 H1 cls dd ((Sx.fresh hp).trans s1) ⟨rp1.len, rp1.nd, rp1.obj, fun a z => rp1.dom a (z.imp .inl id)⟩ ?_
          exact RX.anti (ρ := ((ρ.plus (· = pd)).plus (Av ε σ (vss es))).to l1) (n := (ρ.plus (Av ε σ (vss es))).n) (fun a z => z.imp .inl id) rx
        | ok ds S1 =>
          rw [e0, Out.bind_ok] at q
          intro l1 ws H1 s1 rp1 rv
          have hd : H1 pd = some (.dK []) := s1.kp pd _ upd_same npd
          have nd : pd ∉ l1 := s1.out (upd_same : upd H pd (.dK []) pd = some (.dK [])) npd
          split at q
          · rename_i z
            refine ⟨hd, by rw [← rv.len]; exact z, ?_⟩
            have s2 : Sx ρ.l H l1 H1 := (Sx.fresh hp).trans s1
            have rk : RKV (kw X) (((ρ.plus (· = pd)).plus (Av ε σ (vss es))).to l1) H1 (mergeD [] (ks.zip ds)) (mergeK [] (ks.zip ws)) := RKV.merge (ds := []) (vs := []) (by simp only [RKV]) (RKV.zip rv)
            have rk2 : RKV (kw X) (((ρ.plus (Av ε σ (vss es))).plus (· = pd)).to l1) H1 (mergeD [] (ks.zip ds)) (mergeK [] (ks.zip ws)) :=
              RKV.anti (ρ := ((ρ.plus (· = pd)).plus (Av ε σ (vss es))).to l1) (n := ((ρ.plus (Av ε σ (vss es))).plus (· = pd)).n) (fun a z => by rcases z with (z | z) | z; exact .inl (.inl z); exact .inr z; exact .inl (.inr z)) _ _ rk
            have kqD : Kq (((ρ.plus (Av ε σ (vss es))).plus (· = pd)).to l1) H1 l1 (upd H1 pd (.dK (mergeK [] (ks.zip ws)))) := Kq.put hd (.inr rfl) (fun _ z => nomatch z) (fun _ _ z => nomatch z)
            refine q l1 (.ref pd) _ ⟨s2.pre, fun b u e n => ?_, s2.nw, fun b e => ?_⟩ ⟨rp1.len, rp1.nd, fun i a t e1 e2 => ?_, fun a z => ?_⟩ ⟨pd, rfl, hp, _, upd_same, nd, fun z => ?_, RKV.gen kqD _ _ rk2⟩
            · rw [upd_ne (ne_of_none e hp)]; exact s2.kp b u e n
            · by_cases hb : b = pd
              · rw [hb, upd_same]; exact fun z => nomatch z
              · rw [upd_ne hb]; exact s2.dm b e
            · rw [upd_ne (fun z : a = pd => nd (by rw [← z]; exact List.mem_of_getElem? e1))]; exact rp1.obj i a t e1 e2
            · by_cases hb : a = pd
              · rw [hb, upd_same]; exact fun z => nomatch z
              · rw [upd_ne hb]; exact rp1.dom a (z.imp .inl id)
            · exact (rs.rp rp (vss es)).dom pd z hp
          · exact q.elim
      · rintro vs H2 ⟨h1, h2, h3⟩
        refine ⟨h1, ks.zip vs, rfl, ?_, h3⟩
        rw [List.length_zip]; omega
  | _ => simp [mE] at h
theorem px_dct (ks : List Key) {es : List Ex} (hs : PXs cn cl k es) : PX cn cl k (.dct ks es) := by
  refine ⟨fun X W e g h => ?_, noI fun _ _ _ => by simp [mI]⟩
  have q := (pn_dct ks hs).pe g h
  cases e with
  | Dict keys vals p => exact both q rfl
  | _ => simp [mE] at h
mutual
theorem sX : ∀ ex : Ex, PX cn cl k ex
  | .v i => px_v i
  | .c d => px_c d
  | .g x d => px_g x d
  | .bop o a b => px_bop o (sX a) (sX b)
  | .neg a => px_neg (sX a)
  | .not a => px_not (sX a)
  | .cmp o a b => px_cmp o (sX a) (sX b)
  | .chain o o' a b c => px_chain o o' (sX a) (sX b) (sX c)
  | .and a es => px_and (sX a) (sXs es)
  | .or a es => px_or (sX a) (sXs es)
  | .ife t a b => px_ife (sX t) (sX a) (sX b)
  | .tup es => px_tup (sXs es)
  | .lst es => px_lst (sXs es)
  | .dct ks es => px_dct ks (sXs es)
  | .ix a i => px_ix (sX a) (sX i)
  | .sl a lo hi => px_sl (sX a) (sXs lo) (sXs hi)
  | .rev a => px_rev (sX a)
  | .call f es => px_call f (sXs es)
  | .bi b es => px_bi b (sXs es)
  | .isi a t => px_isi t (sX a)
  | .me m o es => px_me m (sX o) (sXs es)
  | .lc e own tg it ifs => px_lc (sX e) (sX it) (sXs ifs)
  | .dc kx e own tg it ifs => px_dc (sX kx) (sX e) (sX it) (sXs ifs)
  | .rng es => px_rng (sXs es)
  | .enum e => px_enum (sX e)
  | .zip a b => px_zip (sX a) (sX b)
  | .itv e => px_itv (sX e)
  | .dk k e => px_dk k (sX e)
  | .mkB b e => px_mkB b (sX e)
  | .cat sa sb a b => px_cat sa sb (sX a) (sX b)
  | .dget o k d => px_dget (sX o) (sX k) (sX d)
  | .six i j => px_six i j
  | .mkS f es => px_mkS f (sXs es)
theorem sXs : ∀ es : List Ex, PXs cn cl k es
  | [] => pxs_nil
  | a :: r => pxs_cons (sX a) (sXs r)
end
theorem sN {ex : Ex} (h : fresh ex = true) : PN cn cl k ex := by
  cases ex with
  | lst es => exact pn_lst (sXs es)
  | lc e own tg it ifs => exact pn_lc (sX e) (sX it) (sXs ifs)
  | dct ks es => exact pn_dct ks (sXs es)
  | dc kx e own tg it ifs => exact pn_dc (sX kx) (sX e) (sX it) (sXs ifs)
  | mkB b e => exact pn_mkB b (sX e)
  | _ => simp [fresh] at h
end
end GG
namespace GG
open PySem PySem.Spec PyProof.Rows L2
/-! ## t += u of tuples -/
theorem noI_tuple : typeLookup (.type "tuple") (dunderI "add") = pure none := by rw [typeLookup_type, builtinLookup_eq_fast]; kernel_rfl
theorem op_icatA {X : Cx} : PIp X .Add (rCatA X.K) := by
  intro pins s σ H x y v u Q I rx ry h
  obtain ⟨a, b, xs, ys, rfl, rfl, ha, hb, hz, q0, q1, q2⟩ := h
  cases rx
  cases ry
  obtain ⟨its, r1, ht, _⟩ := I.tuple ha
  obtain ⟨its2, r2, hb2, _⟩ := I.tuple hb
  obtain ⟨⟨cls, dd, data, sl⟩, ho, hc, n, hd⟩ := id ht
  obtain ⟨⟨cls2, dd2, data2, sl2⟩, ho2, hc2, n2, hd2⟩ := id hb2
  simp only at hc hd hc2 hd2
  subst hc hd hc2 hd2
  refine wpAny_inplaceOp_concat (id := "tuple.__add__") ⟨_, ho, rfl⟩ ⟨_, ho2, rfl⟩ noI_tuple noFill_tuple_add seq_tuple_add ?_
  by_cases hx : xs = []
  · subst hx
    cases r1
    exact call_meets PySem.F.slot_tuple_add ⟨_, ho, rfl⟩ PySem.F.entry_tuple_add (PySem.F.args_tuple_add_2 _ _) (tuple_addW0 a b ([] : List Value).toArray its2.toArray n n2 dd dd2 sl sl2 (by simp)) ⟨ho, ho2, ⟨.ref b, H, I, rfl, q0 rfl⟩⟩
  · have hv : its ≠ [] := fun z => hx (r1.nil_iff.mp z)
    by_cases hw : its2 = []
    · exact call_meets PySem.F.slot_tuple_add ⟨_, ho, rfl⟩ PySem.F.entry_tuple_add (PySem.F.args_tuple_add_2 _ _) (tuple_addW1 a b its.toArray its2.toArray n n2 dd dd2 sl sl2 (by simpa using hv) (by simp [hw])) ⟨ho, ho2, ⟨.ref a, H, I, rfl, q1 hx (r2.nil_iff.mp hw)⟩⟩
    · have e : its.toArray ++ its2.toArray = (its ++ its2).toArray := by simp
      refine call_meets PySem.F.slot_tuple_add ⟨_, ho, rfl⟩ PySem.F.entry_tuple_add (PySem.F.args_tuple_add_2 _ _) (tuple_addW2 a b its.toArray its2.toArray n n2 dd dd2 sl sl2 (by simpa using hv) (by simpa using hw) (by rw [List.size_toArray, List.size_toArray, ← r1.length, ← r2.length]; exact hz)) ⟨ho, ho2, ?_⟩
      rw [e]
      refine ⟨.ref s.heap.objs.size, _, I.laid (t' := s.toks) (o := .tup (xs ++ ys)) (fun b ob q => Heap.get?_push_of_some _ q) (Nat.le_refl _) ?_, rfl, q2 hx (fun w => hw (r2.nil_iff.mpr w)) _ (I.hok.fresh (Nat.le_refl _))⟩
      exact ⟨by rw [List.length_append]; exact hz, _, r1.append r2, IsTup.new _ _⟩
theorem PIp.or {X : Cx} {op : Operator} {t u : TIp} (h : PIp X op t) (h' : PIp X op u) : PIp X op (fun x y H Q => t x y H Q ∨ u x y H Q) := fun pins s σ H x y v w Q I rx ry z => z.elim (h pins s σ H x y v w Q I rx ry) (h' pins s σ H x y v w Q I rx ry)
theorem ip_addS {X : Cx} : PIp X .Add (fun x y H Q => ∃ i j, x = .str i ∧ y = .str j ∧ i.length + j.length ≤ sizeLine ∧ Q (.str (i ++ j)) H) := fun pins s σ H x y v u Q I rx ry h => iop_add_str pins s σ H x y v u Q I rx ry h
abbrev rIAdd (K : KW) : TIp := fun x y H Q => ipI (fun i j => i + j) x y H Q ∨ ((∃ i j, x = .str i ∧ y = .str j ∧ i.length + j.length ≤ sizeLine ∧ Q (.str (i ++ j)) H) ∨ rCatA K x y H Q)
theorem ip_addA {X : Cx} : PIp X .Add (rIAdd (kw X)) := GG.PIp.or ip_add (GG.PIp.or ip_addS op_icatA)
/-! ## statements -/
/-- from the state at a statement's start to a later one -/
structure Stp (l : List Addr) (ε : Env) (σ : L2.St) (H : Hp) (l' : List Addr) (ε' : Env) (σ' : L2.St) (H' : Hp) : Prop where
  pre : l <+: l'
  kp : ∀ b u, H b = some u → b ∉ l → ¬ Av ε σ [] b → H' b = some u
  nw : ∀ b, b ∈ l' → b ∉ l → H b = none
  dm : ∀ b, H b ≠ none → H' b ≠ none
  ow : ∀ a, Av ε' σ' [] a → Av ε σ [] a ∨ H a = none
theorem Av.none {xs : List Nat} (a : Addr) : ¬ Av [] [] xs a := fun ⟨i, d, _, e, _⟩ => by simp at e
section
variable {l l1 l2 : List Addr} {ε ε1 ε2 : Env} {σ σ1 σ2 : L2.St} {H H1 H2 : Hp}
theorem Stp.of (s : Sx l H l1 H1) (ow : ∀ a, Av ε1 σ1 [] a → Av ε σ [] a ∨ H a = none) : Stp l ε σ H l1 ε1 σ1 H1 := ⟨s.pre, fun b u e n _ => s.kp b u e n, s.nw, s.dm, ow⟩
theorem Stp.trans (a : Stp l ε σ H l1 ε1 σ1 H1) (b : Stp l1 ε1 σ1 H1 l2 ε2 σ2 H2) : Stp l ε σ H l2 ε2 σ2 H2 := by
  refine ⟨a.pre.trans b.pre, fun c u e n m => ?_, fun c e n => ?_, fun c e => b.dm c (a.dm c e), fun c z => ?_⟩
  · refine b.kp c u (a.kp c u e n m) (fun h => ?_) fun h => ?_
    · have := a.nw c h n; rw [e] at this; cases this
    · rcases a.ow c h with h | h
      · exact m h
      · rw [e] at h; cases h
  · by_cases h : c ∈ l1
    · exact a.nw c h n
    · have := b.nw c e h
      cases q : H c with
      | none => rfl
      | some u => exact absurd this (a.dm c (by rw [q]; exact fun z => nomatch z))
  · rcases b.ow c z with z | z
    · exact a.ow c z
    · refine .inr ?_
      cases q : H c with
      | none => rfl
      | some u => exact absurd z (a.dm c (by rw [q]; exact fun z => nomatch z))
theorem Stp.refl : Stp l ε σ H l ε σ H := .of .refl fun _ z => .inl z
end
section
variable (K : KW) (mg : Str → Option Value)
def PostS (W : WX) (ρ : Fx) (ε : Env) (σ : L2.St) (H : Hp) (r : OutS) (Dn : Ends) : Prop :=
  match r with
  | .ok fl S => ∀ l H', Rp (ρ.to l) S H' → (match fl with
    | .nx ε' => ∀ σ', Stp ρ.l ε σ H l ε' σ' H' → Rs K (ρ.to l) H' ε' σ' → Dn.nx σ' H'
    | .rt d => ∀ v, Stp ρ.l ε σ H l [] [] H' → RV K (ρ.to l) H' d v → Dn.rt v H'
    | .bk ε' => ∀ σ', Stp ρ.l ε σ H l ε' σ' H' → Rs K (ρ.to l) H' ε' σ' → Dn.bk σ' H'
    | .ct ε' => ∀ σ', Stp ρ.l ε σ H l ε' σ' H' → Rs K (ρ.to l) H' ε' σ' → Dn.ct σ' H')
  | .exc c v ε' S => ∀ l H' σ' cls dd, Stp ρ.l ε σ H l ε' σ' H' → Rp (ρ.to l) S H' → Rs K (ρ.to l) H' ε' σ' → RX K mg (ρ.to l) H' c v cls dd → W cls dd σ' H'
  | .bad => False
def TFS (W : WX) (f : Env → Sto → OutS) : TS := fun Dn σ H => ∃ ρ ε S, Rs K ρ H ε σ ∧ Rp ρ S H ∧ PostS K mg W ρ ε σ H (f ε S) Dn
end
section
variable {K : KW} {mg : Str → Option Value} {α β : Type} {RA : Fx → Hp → α → β → Prop} {ρ : Fx} {H H1 : Hp} {W : WX} {Dn : Ends} {ε ε1 : Env} {σ σ1 : L2.St} {S : Sto}
theorem PostS.weak {l : List Addr} {r : OutS} (s : Stp ρ.l ε σ H l ε1 σ1 H1) (h : PostS K mg W ρ ε σ H r Dn) : PostS K mg W (ρ.to l) ε1 σ1 H1 r Dn := by
  cases r with
  | ok f S =>
    cases f with
    | nx ε2 => exact fun l' H' rp σ' s' => h l' H' rp σ' (s.trans s')
    | rt d => exact fun l' H' rp v s' => h l' H' rp v (s.trans s')
    | bk ε2 => exact fun l' H' rp σ' s' => h l' H' rp σ' (s.trans s')
    | ct ε2 => exact fun l' H' rp σ' s' => h l' H' rp σ' (s.trans s')
  | exc c v ε S => exact fun l' H' σ cls dd s' => h l' H' σ cls dd (s.trans s')
  | bad => exact h
theorem PostS.on {xs : List Nat} {r : Out α} {g : α → Sto → OutS} {Q1 : β → Hp → Prop} (h : PostS K mg W ρ ε σ H (r.on ε g) Dn) (rs : Rs K ρ H ε σ) (rp : Rp ρ S H)
    (step : ∀ l v H1 d S1, Sx ρ.l H l H1 → Rs K (ρ.to l) H1 ε σ → Rp (ρ.to l) S1 H1 → RA ((ρ.to l).plus (Av ε σ xs)) H1 d v → PostS K mg W (ρ.to l) ε σ H1 (g d S1) Dn → Q1 v H1) : Post K mg RA (XW W σ) (ρ.plus (Av ε σ xs)) H r Q1 := by
  cases r with
  | ok d S => exact fun l v H' s rp2 ra => step l v H' d S s (rs.mono rp s) (Rp.low (ρ := ρ.to l) (n := Av ε σ xs) rp2) ra (PostS.weak (.of s fun _ z => .inl z) h)
  | exc c x S => exact fun l H' cls dd s rp2 rx => h l H' σ cls dd (.of s fun _ z => .inl z) (Rp.low (ρ := ρ.to l) (n := Av ε σ xs) rp2) (rs.mono rp s) (RX.anti (ρ := (ρ.plus (Av ε σ xs)).to l) (n := ρ.n) (fun a z => .inl z) rx)
  | bad => exact h
theorem PostS.nxt (h : PostS K mg W ρ ε σ H (.ok (.nx ε1) S) Dn) (rp : Rp ρ S H) (ow : ∀ a, Av ε1 σ1 [] a → Av ε σ [] a) (rs : Rs K ρ H ε1 σ1) : Dn.nx σ1 H := h ρ.l H rp σ1 (.of .refl fun a z => .inl (ow a z)) rs
theorem onO_some {o : Option α} {g : α → OutS} (h : PostS K mg W ρ ε σ H (onO o g) Dn) : ∃ a, o = some a ∧ PostS K mg W ρ ε σ H (g a) Dn := by
  cases o with
  | none => exact h.elim
  | some a => exact ⟨a, rfl, h⟩
/-- the slots behind a value -/
theorem fzV_ok {e : Ex} {d : D} {v : V} (rs : Rs K ρ H ε σ) (r : RV K (ρ.plus (Av ε σ (vs e))) H d v) : Rs K ρ H (fzV e d ε) σ ∧ RV K (ρ.plus (Av (fzV e d ε) σ [])) H d v ∧ ∀ a, Av (fzV e d ε) σ [] a → Av ε σ [] a := by
  unfold fzV
  by_cases st : d.still = true
  · rw [if_pos st]
    exact ⟨rs, RV.still (ρ := ρ.plus (Av ε σ (vs e))) d v st r, fun _ z => z⟩
  · rw [if_neg st]
    exact ⟨rs.fz _, plus_anti (fun a z => Av.anti (fun j m => List.mem_append_left _ m) a (Av.fz a z)) r, fun a z => Av.anti (fun j m => by cases m) a (Av.fz a z)⟩
theorem fzA_ok {e : Ex} {d : D} {v : V} (rs : Rs K ρ H ε σ) (r : RV K (ρ.plus (Av ε σ (vs e))) H d v) : Rs K ρ H (fzA e d ε) σ ∧ RV K (ρ.plus (Av (fzA e d ε) σ [])) H d v ∧ ∀ a, Av (fzA e d ε) σ [] a → Av ε σ [] a := by
  unfold fzA
  refine ⟨rs.fz _, ?_, fun a z => Av.anti (fun j m => by cases m) a (Av.fz a z)⟩
  have key : ∀ a, Av (GG.fz ((vs e).filter fun i => !apart d ε[i]?) ε) σ [] a → Av ε σ (vs e) a ∨ ∃ (i : Nat) (o : D), apart d ε[i]? = true ∧ ε[i]? = some (Sl.o o) ∧ σ[i]? = some (some (V.ref a)) := fun a ⟨i, o, n, e1, e2⟩ => by
    obtain ⟨n2, e3⟩ := fz_o e1
    by_cases hm : i ∈ vs e
    · cases h : apart d ε[i]?
      · exact absurd (List.mem_filter.mpr ⟨hm, by rw [h]; rfl⟩) n2
      · exact .inr ⟨i, o, h, e3, e2⟩
    · exact .inl ⟨i, o, hm, e3, e2⟩
  have no : (∀ s, apart d s = false) → RV K (ρ.plus (Av (GG.fz ((vs e).filter fun i => !apart d ε[i]?) ε) σ [])) H d v := fun h =>
    plus_anti (fun a z => (key a z).elim id fun ⟨i, o, ap, _, _⟩ => by rw [h] at ap; cases ap) r
  cases d with
  | lst ds =>
    cases st : D.stills ds with
    | false => exact no fun s => by rcases s with _ | _ | _ | o <;> first | rfl | (cases o <;> first | rfl | exact st)
    | true =>
      simp only [RV] at r ⊢
      obtain ⟨a, ws, rfl, hl, ha, na, nn, rr⟩ := r
      refine ⟨a, ws, rfl, hl, ha, na, fun z => ?_, RVs.still (ρ := ρ.plus (Av ε σ (vs e))) _ _ st rr⟩
      rcases z with z | z
      · exact nn (.inl z)
      · rcases key a z with z | ⟨i, o, ap, e1, e2⟩
        · exact nn (.inr z)
        · rw [e1] at ap
          cases o with
          | dct kvs =>
            obtain ⟨b, e3, ow⟩ := rs.own i _ e1
            rw [e2] at e3; cases e3
            obtain ⟨us, e4, _⟩ := ow
            rw [ha] at e4; cases e4
          | _ => cases ap
  | dct kvs =>
    cases st : D.stills (kvs.map (·.2)) with
    | false => exact no fun s => by rcases s with _ | _ | _ | o <;> first | rfl | (cases o <;> first | rfl | exact st)
    | true =>
      simp only [RV] at r ⊢
      obtain ⟨a, ws, rfl, ha, na, nn, rr⟩ := r
      have ha0 := ha
      refine ⟨a, ws, rfl, ha0, na, fun z => ?_, RKV.still (ρ := ρ.plus (Av ε σ (vs e))) _ _ st rr⟩
      rcases z with z | z
      · exact nn (.inl z)
      · rcases key a z with z | ⟨i, o, ap, e1, e2⟩
        · exact nn (.inr z)
        · rw [e1] at ap
          cases o with
          | lst us =>
            obtain ⟨b, e3, ow⟩ := rs.own i _ e1
            rw [e2] at e3; cases e3
            obtain ⟨us, _, e4, _⟩ := ow
            exact absurd ha (fun z => by unfold Rd at z; rcases z with z | ⟨o, z⟩ <;> rw [e4] at z <;> cases z)
          | _ => cases ap
  | _ => exact no fun s => by rcases s with _ | _ | _ | o <;> first | rfl | (cases o <;> rfl)
theorem Own.still {n m : Addr → Prop} {d : D} {a : Addr} (st : d.still1 = true) (nm : ¬ m a) (o : Own K (ρ.plus n) H d a) : Own K (ρ.plus m) H d a := by
  unfold Own at o ⊢
  split at o
  · obtain ⟨vs, z, e, n1, n2, r⟩ := o
    exact ⟨vs, z, e, n1, fun q => q.elim (fun q => n2 (.inl q)) nm, RVs.still (ρ := (ρ.plus n).plus (· = a)) (n := ((ρ.plus m).plus (· = a)).n) _ _ st r⟩
  · obtain ⟨vs, e, n1, n2, r⟩ := o
    exact ⟨vs, e, n1, fun q => q.elim (fun q => n2 (.inl q)) nm, RKV.still (ρ := (ρ.plus n).plus (· = a)) (n := ((ρ.plus m).plus (· = a)).n) _ _ st r⟩
  · exact o
/-- a slot gets a new thing of its own -/
theorem Rs.setO {i : Nat} {d : D} {a : Addr} (h : Rs K (ρ.plus (· = a)) H ε σ) (hi : i < ε.length) (o : Own K (ρ.plus (Av ε σ [])) H d a) : Rs K ρ H (ε.set i (.o d)) (σ.set i (some (.ref a))) := by
  have av : ∀ ys b, Av (ε.set i (.o d)) (σ.set i (some (.ref a))) ys b → (b = a ∨ Av ε σ ys b) := fun ys b ⟨j, d', n, e1, e2⟩ => by
    by_cases hj : i = j
    · subst hj
      rw [List.getElem?_set, if_pos rfl, if_pos (by rw [← h.len]; exact hi)] at e2
      cases e2; exact .inl rfl
    · rw [List.getElem?_set_ne hj] at e1 e2
      exact .inr ⟨j, d', n, e1, e2⟩
  have push : ∀ ys b, (ρ.n b ∨ Av (ε.set i (.o d)) (σ.set i (some (.ref a))) ys b) → ((ρ.n b ∨ b = a) ∨ Av ε σ ys b) := fun ys b z => by
    rcases z with z | z
    · exact .inl (.inl z)
    · rcases av ys b z with z | z
      · exact .inl (.inr z)
      · exact .inr z
  refine ⟨by simp [h.len], fun j d' e => ?_, fun j d' e => ?_⟩
  · by_cases hj : i = j
    · subst hj
      rw [List.getElem?_set, if_pos rfl, if_pos hi] at e
      cases e
    · rw [List.getElem?_set_ne hj] at e
      obtain ⟨v', e1, r1⟩ := h.val j d' e
      exact ⟨v', by rw [List.getElem?_set_ne hj]; exact e1, RV.anti (ρ := (ρ.plus (· = a)).plus (Av ε σ [])) (n := (ρ.plus (Av (ε.set i (.o d)) (σ.set i (some (.ref a))) [])).n) (push []) _ _ r1⟩
  · by_cases hj : i = j
    · subst hj
      rw [List.getElem?_set, if_pos rfl, if_pos hi] at e
      cases e
      refine ⟨a, by rw [List.getElem?_set, if_pos rfl, if_pos (by rw [← h.len]; exact hi)], o.anti fun b z => ?_⟩
      obtain ⟨j, d', n, e1, e2⟩ := z
      have hj : i ≠ j := fun z => n (by rw [z]; exact List.mem_singleton_self _)
      rw [List.getElem?_set_ne hj] at e1 e2
      exact ⟨j, d', by simp, e1, e2⟩
    · rw [List.getElem?_set_ne hj] at e
      obtain ⟨b, e1, o1⟩ := h.own j d' e
      refine ⟨b, by rw [List.getElem?_set_ne hj]; exact e1, ?_⟩
      have e9 : (ρ.plus (· = a)).plus (Av ε σ [j]) = ρ.plus fun b => b = a ∨ Av ε σ [j] b := by
        unfold Fx.plus Fx.w; congr 1; funext b; exact propext or_assoc
      rw [e9] at o1
      exact o1.anti (av [j])
/-- a slot's own thing changes -/
theorem Rs.chg {i : Nat} {d d' : D} {a : Addr} {u o : HO} (h : Rs K ρ H ε σ) (hi : ε[i]? = some (.o d)) (ha : σ[i]? = some (some (.ref a))) (hu : H a = some u) (n1 : ∀ xs, u ≠ .tup xs) (n2 : ∀ o x, u ≠ .frz o x)
    (new : Own K (ρ.plus (Av ε σ [i])) (upd H a o) d' a) : Rs K ρ (upd H a o) (ε.set i (.o d')) σ := by
  have hil : i < ε.length := (List.getElem?_eq_some_iff.mp hi).1
  have avA : ∀ ys, i ∉ ys → Av ε σ ys a := fun ys n => ⟨i, d, n, hi, ha⟩
  have av : ∀ ys b, Av (ε.set i (.o d')) σ ys b → Av ε σ ys b := fun ys b ⟨j, dj, n, e1, e2⟩ => by
    by_cases hj : i = j
    · subst hj; exact ⟨i, d, n, hi, e2⟩
    · rw [List.getElem?_set_ne hj] at e1; exact ⟨j, dj, n, e1, e2⟩
  refine ⟨by simp [h.len], fun j dj e => ?_, fun j dj e => ?_⟩
  · by_cases hj : i = j
    · subst hj
      rw [List.getElem?_set, if_pos rfl, if_pos hil] at e
      cases e
    · rw [List.getElem?_set_ne hj] at e
      obtain ⟨v', e1, r1⟩ := h.val j dj e
      have kq : Kq (ρ.plus (Av ε σ [])) H ρ.l (upd H a o) := Kq.put (ρ := ρ.plus (Av ε σ [])) hu (.inr (avA [] (by simp))) n1 n2
      exact ⟨v', e1, plus_anti (av []) (RV.gen kq _ _ r1)⟩
  · by_cases hj : i = j
    · subst hj
      rw [List.getElem?_set, if_pos rfl, if_pos hil] at e
      cases e
      exact ⟨a, ha, new.anti (av [i])⟩
    · rw [List.getElem?_set_ne hj] at e
      obtain ⟨b, e1, o1⟩ := h.own j dj e
      have kq : Kq (ρ.plus (Av ε σ [j])) H ρ.l (upd H a o) := Kq.put (ρ := ρ.plus (Av ε σ [j])) hu (.inr (avA [j] (by simp [hj]))) n1 n2
      exact ⟨b, e1, (Own.gen o1 kq).anti (av [j])⟩
theorem Rp.chg {a : Addr} {o : HO} (rp : Rp ρ S H) (na : a ∉ ρ.l) : Rp ρ S (upd H a o) := by
  refine ⟨rp.len, rp.nd, fun i b t e1 e2 => ?_, fun b z => ?_⟩
  · rw [upd_ne (fun z : b = a => na (by rw [← z]; exact List.mem_of_getElem? e1))]; exact rp.obj i b t e1 e2
  · by_cases hb : b = a
    · rw [hb, upd_same]; exact fun z => nomatch z
    · rw [upd_ne hb]; exact rp.dom b z
theorem Stp.chg {i : Nat} {d : D} {a : Addr} {o : HO} {l : List Addr} (hi : ε[i]? = some (.o d)) (ha : σ[i]? = some (some (.ref a))) (ow : ∀ b, Av ε1 σ1 [] b → Av ε σ [] b) : Stp l ε σ H l ε1 σ1 (upd H a o) := by
  refine ⟨pre_refl _, fun b u e n m => ?_, fun b e n => absurd e n, fun b e => ?_, fun b z => .inl (ow b z)⟩
  · rw [upd_ne (fun z : b = a => m (by rw [z]; exact ⟨i, d, by simp, hi, ha⟩))]; exact e
  · by_cases hb : b = a
    · rw [hb, upd_same]; exact fun z => nomatch z
    · rw [upd_ne hb]; exact e
end
end GG
namespace GG
open PySem PySem.Spec PyProof.Rows L2
structure GoodS (cn : Cn) (cl : Nat → List D → Sto → Out D) (k : Nat) (W : WX) (X : Cx) : Prop extends Good cn cl k W X where
  po : PassesOwn (model X.prog X.w) X.A X.env X.xe
  kind : X.env.scope.kind = .function
  fa : ∀ x, X.fn x = true
section
variable {cn : Cn} {cl : Nat → List D → Sto → Out D} {k : Nat}
theorem loc_of {X : Cx} {W : WX} (g : GoodS cn cl k W X) : ∀ x, locB X.env.scope x = true → Loc X.env.scope x ∧ (X.fn x = true ∨ X.env.scope.names.lookup x = some .local) := by
  intro x h
  unfold locB at h
  split at h
  · rename_i e; exact ⟨.inl e, .inl (g.fa x)⟩
  · rename_i e; exact ⟨.inr e, .inl (g.fa x)⟩
  · cases h
def PZ (cn : Cn) (cl : Nat → List D → Sto → Out D) (k : Nat) (s : Sm) : Prop := ∀ (X : Cx) (W : WX) (st : Stmt), GoodS cn cl k W X → mS cn s X.env.scope st = true → PS X st (TFS (kw X) X.mg W (evS cl s))
def PZs (cn : Cn) (cl : Nat → List D → Sto → Out D) (k : Nat) (ss : List Sm) : Prop := ∀ (X : Cx) (W : WX) (sts : List Stmt), GoodS cn cl k W X → mSs cn ss X.env.scope sts = true → PSs X sts (TFS (kw X) X.mg W (evSs cl ss))
theorem pzs_nil : PZs cn cl k [] := by
  intro X W sts g h
  cases sts with
  | nil =>
    refine PSs.imp pss_nil fun Dn σ H q => ?_
    obtain ⟨ρ, ε, S, rs, rp, q⟩ := q
    exact q.nxt rp (fun _ z => z) rs
  | cons _ _ => simp [mSs] at h
theorem pzs_cons {s : Sm} {r : List Sm} (hs : PZ cn cl k s) (hr : PZs cn cl k r) : PZs cn cl k (s :: r) := by
  intro X W sts g h
  cases sts with
  | nil => simp [mSs] at h
  | cons st sts =>
    simp only [mSs, Bool.and_eq_true] at h
    refine PSs.imp (pss_cons (hs X W st g h.1) (hr X W sts g h.2)) fun Dn σ H q => ?_
    obtain ⟨ρ, ε, S, rs, rp, q⟩ := q
    simp only [evSs] at q
    refine ⟨ρ, ε, S, rs, rp, ?_⟩
    cases e : evS cl s ε S with
    | bad => rw [e] at q; exact q
    | exc c v ε1 S1 => rw [e] at q; exact q
    | ok f S1 =>
      rw [e] at q
      cases f with
      | nx ε1 =>
        simp only [OutS.seq] at q
        exact fun l1 H1 rp1 σ1 st1 rs1 => ⟨ρ.to l1, ε1, S1, rs1, rp1, q.weak st1⟩
      | rt d => exact q
      | bk ε1 => exact q
      | ct ε1 => exact q
theorem rt_stp {l : List Addr} {ε : Env} {σ : L2.St} {H : Hp} : Stp l ε σ H l [] [] H := .of .refl fun a z => absurd z (Av.none a)
theorem pz_ret (e : Ex) : PZ cn cl k (.ret e) := by
  intro X W st g h
  cases st with
  | Return v p =>
    cases v with
    | none => simp [mS] at h
    | some x =>
      simp only [mS] at h
      refine PS.imp (ps_ret ((sX e).1 X W x g.toGood h).1) fun Dn σ H q => ?_
      obtain ⟨ρ, ε, S, rs, rp, q⟩ := q
      simp only [evS] at q
      exact ⟨ρ, ε, S, rs, rp, q.on rs rp fun l1 v H1 d S1 sx rs1 rp1 rv q1 => q1 l1 H1 rp1 v rt_stp (RV.anti (ρ := (ρ.to l1).plus (Av ε σ (vs e))) (n := ρ.n) (fun a z => .inl z) _ _ rv)⟩
  | _ => simp [mS] at h
theorem pz_retN : PZ cn cl k .retN := by
  intro X W st g h
  cases st with
  | Return v p =>
    cases v with
    | some x => simp [mS] at h
    | none =>
      refine PS.imp ps_retN fun Dn σ H q => ?_
      obtain ⟨ρ, ε, S, rs, rp, q⟩ := q
      exact q ρ.l H rp _ rt_stp .mkNon
  | _ => simp [mS] at h
theorem pz_ex (e : Ex) : PZ cn cl k (.ex e) := by
  intro X W st g h
  cases st with
  | Expr x p =>
    simp only [mS, Bool.and_eq_true] at h
    have hs : swapsWith x none p.line X.env = pure false := by
      cases x <;> first | rfl | (simp [noComp] at h)
    refine PS.imp (ps_expr ((sX e).1 X W x g.toGood h.1).1 hs) fun Dn σ H q => ?_
    obtain ⟨ρ, ε, S, rs, rp, q⟩ := q
    simp only [evS] at q
    exact ⟨ρ, ε, S, rs, rp, q.on rs rp fun l1 v H1 d S1 sx rs1 rp1 rv q1 => q1.nxt rp1 (fun _ z => z) rs1⟩
  | _ => simp [mS] at h
theorem pz_pass : PZ cn cl k .pass := by
  intro X W st g h
  cases st with
  | Pass p =>
    refine PS.imp ps_pass fun Dn σ H q => ?_
    obtain ⟨ρ, ε, S, rs, rp, q⟩ := q
    exact q.nxt rp (fun _ z => z) rs
  | _ => simp [mS] at h
theorem pz_brk : PZ cn cl k .brk := by
  intro X W st g h
  cases st with
  | Break p =>
    refine PS.imp ps_break fun Dn σ H q => ?_
    obtain ⟨ρ, ε, S, rs, rp, q⟩ := q
    exact q ρ.l H rp σ .refl rs
  | _ => simp [mS] at h
theorem pz_cont : PZ cn cl k .cont := by
  intro X W st g h
  cases st with
  | Continue p =>
    refine PS.imp ps_continue fun Dn σ H q => ?_
    obtain ⟨ρ, ε, S, rs, rp, q⟩ := q
    exact q ρ.l H rp σ .refl rs
  | _ => simp [mS] at h
theorem pz_never : PZ cn cl k .never := by
  intro X W st g h
  refine PS.imp ps_never fun Dn σ H q => ?_
  obtain ⟨ρ, ε, S, rs, rp, q⟩ := q
  exact q
theorem noComp_sw {e : Expr} {t : Option Expr} {l : Nat} {env : PySem.Env} (h : noComp e = true) : swapsWith e t l env = pure false := by
  cases e <;> first | rfl | (simp [noComp] at h)
theorem cell_sw {e : Expr} {y : Str} {py : Pos} {l : Nat} {env : PySem.Env} (h : env.scope.names.lookup y = some .cell) : swapsWith e (some (.Name y py)) l env = pure false := by
  have ky : env.kindOf y = some .cell := h
  have q : (some NameKind.cell == some NameKind.local) = false := by decide
  unfold swapsWith
  cases e <;> simp only [ky, q, Bool.and_false, Bool.false_and] <;> rfl
theorem noComp_sole {e t : Expr} {l : Nat} {env : PySem.Env} (h : noComp e = true) : swapsWithSole [t] e l env = pure false := noComp_sw (t := some t) (l := l) (env := env) h
/-- a name gets a new thing -/
theorem set_new {X : Cx} {W : WX} {i : Nat} {e : Ex} (hf : fresh e = true) (Dn : Ends) (σ : L2.St) (H : Hp) (q : TFS (kw X) X.mg W (evS cl (.set (.n i) e)) Dn σ H) :
    TFn (kw X) X.mg W (vs e) (evE cl e) σ H fun v H1 => Dn.nx (σ.set i (some v)) H1 := by
  obtain ⟨ρ, ε, S, rs, rp, q⟩ := q
  simp only [evS] at q
  refine ⟨ρ, ε, S, rs, rp, ?_⟩
  cases e0 : evE cl e ε S with
  | bad => rw [e0] at q; exact q
  | exc c x S1 => rw [e0] at q; exact fun l H' cls dd s rp2 rx => q l H' σ cls dd (.of s fun _ z => .inl z) (Rp.low (ρ := ρ.to l) (n := Av ε σ (vs e)) rp2) (rs.mono rp s) (RX.anti (ρ := (ρ.plus (Av ε σ (vs e))).to l) (n := ρ.n) (fun a z => .inl z) rx)
  | ok d S1 =>
    rw [e0] at q
    intro l v H1 sx rp1 rn
    obtain ⟨a, rfl, h0, own⟩ := rn
    obtain ⟨ε1, e1, q1⟩ := onO_some q
    simp only [setF, hf, if_true] at e1
    split at e1
    · rename_i hi
      cases e1
      have rsA : Rs (kw X) ((ρ.to l).plus (· = a)) H1 ε σ := Rs.gen (ρ := ρ.plus (· = a)) (rs.plus (n := (· = a)) fun b z => by rw [z]; exact h0) (Kq.plus (Sx.kq (ρ := ρ) sx rp))
      have nA : ∀ xs, ¬ Av ε σ xs a := fun xs z => rs.dom z h0
      have key : ∃ ε2, fzN e d ε = ε2 ∧ ε2.length = ε.length ∧ Rs (kw X) ((ρ.to l).plus (· = a)) H1 ε2 σ ∧ Own (kw X) ((ρ.to l).plus (Av ε2 σ [])) H1 d a ∧ ∀ b, Av ε2 σ [] b → Av ε σ [] b := by
        refine ⟨_, rfl, ?_⟩
        unfold fzN
        by_cases st : d.still1 = true
        · rw [if_pos st]
          exact ⟨rfl, rsA, Own.still (ρ := ρ.to l) (n := Av ε σ (vs e)) st (nA []) own, fun _ z => z⟩
        · rw [if_neg st]
          exact ⟨fz_len _ _, rsA.fz _, Own.anti (ρ := ρ.to l) (n := Av ε σ (vs e)) (fun b z => Av.anti (fun j m => List.mem_append_left _ m) b (Av.fz b z)) own, fun b z => Av.anti (fun j m => by cases m) b (Av.fz b z)⟩
      obtain ⟨ε2, e2, hl, rs2, own2, av2⟩ := key
      rw [e2] at q1
      refine q1 l H1 (Rp.low (ρ := ρ.to l) (n := Av ε σ (vs e)) rp1) _ (.of sx fun b z => ?_) (Rs.setO rs2 (by rw [hl]; exact hi) own2)
      obtain ⟨j, dj, n, e3, e4⟩ := z
      by_cases hj : i = j
      · subst hj
        rw [List.getElem?_set, if_pos rfl, if_pos (by rw [← rs.len]; exact hi)] at e4
        cases e4; exact .inr h0
      · rw [List.getElem?_set_ne hj] at e3 e4
        exact .inl (av2 b ⟨j, dj, n, e3, e4⟩)
    · cases e1
/-- a target gets a value -/
theorem set_val {X : Cx} {W : WX} {tg : Tg} {e : Ex} (hf : ∀ i, tg = .n i → fresh e = false) (Dn : Ends) (σ : L2.St) (H : Hp) (q : TFS (kw X) X.mg W (evS cl (.set tg e)) Dn σ H) :
    tAsg (TF (kw X) X.mg W (vs e) (evE cl e)) (gOf X.K tg) Dn σ H := by
  obtain ⟨ρ, ε, S, rs, rp, q⟩ := q
  simp only [evS] at q
  refine ⟨ρ, ε, S, rs, rp, q.on rs rp fun l v H1 d S1 sx rs1 rp1 rv q1 => ?_⟩
  obtain ⟨ε1, e1, q2⟩ := onO_some q1
  have e2 : tgS tg d (fzV e d ε) = some ε1 := by
    cases tg with
    | n i => simpa [setF, hf i rfl] using e1
    | t ts => exact e1
  obtain ⟨rs2, rv2, av2⟩ := fzV_ok rs1 rv
  exact tg_ok tg d v _ ε1 σ _ e2 rv2 (fun _ z => z) rs2 fun σ1 rs3 av3 _ => q2.nxt rp1 (fun a z => av2 a (av3 a z)) rs3
theorem set_valA {X : Cx} {W : WX} {i : Nat} {e : Ex} (Dn : Ends) (σ : L2.St) (H : Hp) (q : TFS (kw X) X.mg W (evS cl (.setA i e)) Dn σ H) :
    tAsg (TF (kw X) X.mg W (vs e) (evE cl e)) (gOf X.K (.n i)) Dn σ H := by
  obtain ⟨ρ, ε, S, rs, rp, q⟩ := q
  simp only [evS] at q
  refine ⟨ρ, ε, S, rs, rp, q.on rs rp fun l v H1 d S1 sx rs1 rp1 rv q1 => ?_⟩
  obtain ⟨ε1, e1, q2⟩ := onO_some q1
  obtain ⟨rs2, rv2, av2⟩ := fzA_ok rs1 rv
  exact tg_ok (.n i) d v _ ε1 σ _ e1 rv2 (fun _ z => z) rs2 fun σ1 rs3 av3 _ => q2.nxt rp1 (fun a z => av2 a (av3 a z)) rs3
theorem pz_setA (i : Nat) (e : Ex) : PZ cn cl k (.setA i e) := by
  intro X W st g h
  simp only [mS] at h
  split at h
  · rename_i y py x p
    simp only [Bool.and_eq_true, Bool.or_eq_true] at h
    obtain ⟨⟨h1, h2⟩, h3⟩ := h
    have he := ((sX e).1 X W x g.toGood h2).1
    simp only [mG, Bool.and_eq_true, decide_eq_true_eq] at h1
    have hN : X.N[i]? = some y := by rw [g.nN]; exact h1.1
    obtain ⟨l1, l2⟩ := loc_of g y h1.2
    have hsw : swapsWith x (some (.Name y py)) p.line X.env = pure false := by
      rcases h3 with h3 | h3
      · exact noComp_sw h3
      · exact cell_sw (of_decide_eq_true h3)
    refine PS.imp (ps_set g.nd hN l1 he hsw l2) fun Dn σ H q => ?_
    have := set_valA Dn σ H q
    simp only [gOf] at this
    exact this
  · cases h
theorem pz_set (tg : Tg) (e : Ex) : PZ cn cl k (.set tg e) := by
  intro X W st g h
  cases st with
  | Assign ts x p =>
    match ts, h with
    | [t], h =>
      simp only [mS, Bool.and_eq_true] at h
      obtain ⟨⟨h1, h2⟩, h3⟩ := h
      have hg := pg_of g.nN g.nd g.calm (loc_of g) tg t h1
      have he := ((sX e).1 X W x g.toGood h2).1
      cases t with
      | Name y py =>
        cases tg with
        | t ts => simp [mG] at h1
        | n i =>
          simp only [Bool.or_eq_true] at h3
          simp only [mG, Bool.and_eq_true, decide_eq_true_eq] at h1
          have hN : X.N[i]? = some y := by rw [g.nN]; exact h1.1
          obtain ⟨l1, l2⟩ := loc_of g y h1.2
          rcases h3 with h3 | h3
          · have hsw : swapsWith x (some (.Name y py)) p.line X.env = pure false := by
              rcases h3 with h3 | h3
              · exact noComp_sw h3
              · exact cell_sw (of_decide_eq_true h3)
            by_cases hf : fresh e = true
            · exact PS.imp (ps_set g.nd hN l1 (sN hf X W x g.toGood h2) hsw l2) fun Dn σ H q => set_new hf Dn σ H q
            · refine PS.imp (ps_set g.nd hN l1 he hsw l2) fun Dn σ H q => ?_
              have := set_val (fun _ _ => by simpa using hf) Dn σ H q
              simp only [gOf] at this
              exact this
          · cases x with
            | ListComp el gs scope pos =>
              simp only [swapB, Bool.and_eq_true, decide_eq_true_eq, Bool.not_eq_true'] at h3
              cases e with
              | lc a own tg2 it ifs =>
                obtain ⟨t, i', fs, rfl, q1, q2, q3, q4, q5, q6, q7⟩ := lc_parts (sX a) (sX it) (sXs ifs) g.toGood h2
                have base := ps_setLc (spos := p) (pos := pos) g.calm g.nd hN h3.1.1 (sw_true g.kind h3.1.1 h3.1.2 h3.2) q1 q2 q4 q5 q6 q7
                have eown : (ownOf X.N own).map (·.2) = own := by
                  unfold ownOf
                  rw [List.map_map]
                  exact List.map_id' _
                rw [eown] at base
                refine PS.imp (ps_unl base) fun Dn σ H q => ?_
                have hh := set_new rfl Dn σ H q
                simp only [evE] at hh
                exact lc_imp (X0 := vs (.lc a own tg2 it ifs)) (by simp only [vs]) q3 σ H _ hh
              | _ => simp [mE] at h2
            | DictComp ek el gs scope pos =>
              simp only [swapB, Bool.and_eq_true, decide_eq_true_eq, Bool.not_eq_true'] at h3
              cases e with
              | dc kx a own tg2 it ifs =>
                obtain ⟨t, i', fs, rfl, q1, q2, q3, q4, q5, qk, q6, q7⟩ := dc_parts (sX kx) (sX a) (sX it) (sXs ifs) g.toGood h2
                have base := ps_setDc (spos := p) (pos := pos) g.calm g.nd hN h3.1.1 (sw_trueD g.kind h3.1.1 h3.1.2 h3.2) q1 q2 q4 q5 qk q6 q7
                have eown : (ownOf X.N own).map (·.2) = own := by
                  unfold ownOf
                  rw [List.map_map]
                  exact List.map_id' _
                rw [eown] at base
                refine PS.imp (ps_unl base) fun Dn σ H q => ?_
                have hh := set_new rfl Dn σ H q
                simp only [evE] at hh
                exact dc_imp (X0 := vs (.dc kx a own tg2 it ifs)) (by simp only [vs]) q3 σ H _ hh
              | _ => simp [mE] at h2
            | _ => simp [swapB] at h3
      | Tuple es kk tp =>
        simp only [Bool.and_eq_true] at h3
        have hw : swappedStores [.Tuple es kk tp] x X.env = pure none := by
          cases x <;> first | rfl | (simp [noLT] at h3)
        refine PS.imp (ps_asg he hg (noComp_sole h3.1) hw rfl) fun Dn σ H q => set_val (fun i e => ?_) Dn σ H q
        subst e; simp [mG] at h1
      | _ => simp at h3
    | [], h => simp [mS] at h
    | _ :: _ :: _, h => simp [mS] at h
  | _ => simp [mS] at h
theorem Av.setV' {ε : Env} {σ : L2.St} {i : Nat} {d : D} {x : Option V} (a : Addr) (h : Av (ε.set i (.v d)) (σ.set i x) [] a) : Av ε σ [] a := Av.anti (xs := []) (ys := [i]) (fun j m => by cases m) a (Av.setV a h)
theorem pz_par (i j : Nat) (a b : Ex) : PZ cn cl k (.par i j a b) := by
  intro X W st g h
  simp only [mS] at h
  split at h
  · rename_i x px y py kt pt l r k2 p2 pos
    simp only [Bool.and_eq_true, decide_eq_true_eq, Bool.not_eq_true'] at h
    obtain ⟨⟨⟨⟨⟨⟨⟨⟨⟨h1, h2⟩, h3⟩, h4⟩, h5⟩, h6⟩, h7⟩, h8⟩, h9⟩, h10⟩ := h
    have hst := mEs_stars h8
    simp only [noStars, Bool.and_eq_true] at hst
    simp only [mEs, Bool.and_eq_true] at h8
    have ha := ((sX a).1 X W l g.toGood h8.1.1).1
    have hb := ((sX b).1 X W r g.toGood h8.2.1.1).1
    have hab : PA X [l, r] (tCons (TF (kw X) X.mg W (vs a) (evE cl a)) (tCons (TF (kw X) X.mg W (vs b) (evE cl b)) tNil)) := pa_cons ha (pa_cons hb pa_nil (star_cons hst.2.1)) (star_cons hst.1)
    refine PS.imp (ps_par g.calm g.nd (by rw [g.nN]; exact h1) (by rw [g.nN]; exact h2) h3 h5 h6 hab (sw_two g.kind h5 h6 h4 h7 hst.1 hst.2.1 h9 h10) rfl) fun Dn σ H q => ?_
    obtain ⟨ρ, ε, S, rs, rp, q⟩ := q
    simp only [evS] at q
    refine ⟨ρ, ε, S, rs, rp, q.on rs rp fun l1 v1 H1 u S1 sx1 rs1 rp1 ru q1 => ?_⟩
    refine ⟨ρ.to l1, ε, S1, rs1, rp1, q1.on rs1 rp1 fun l2 v2 H2 w S2 sx2 rs2 rp2 rw2 q2 => ?_⟩
    split at q2
    · rename_i z
      have ru2 : RV (kw X) (((ρ.to l1).to l2).plus (Av ε σ (vs a))) H2 u v1 := ru.mono (rs1.rp rp1 _) sx2
      obtain ⟨rsB, rwB, avB⟩ := fzV_ok rs2 rw2
      have ruB : RV (kw X) (((ρ.to l1).to l2).plus (Av (fzV b w ε) σ (vs a))) H2 u v1 := plus_anti (fun c z => by
        obtain ⟨m, dm, n, e1, e2⟩ := z
        unfold fzV at e1
        split at e1
        · exact ⟨m, dm, n, e1, e2⟩
        · exact ⟨m, dm, n, (fz_o e1).2, e2⟩) ru2
      obtain ⟨rsA, ruA, avA⟩ := fzV_ok (e := a) rsB ruB
      have fl : ∀ {e : Ex} {d : D} {ε : Env}, (fzV e d ε).length = ε.length := fun {e d ε} => by unfold fzV; split; rfl; exact fz_len _ _
      refine ⟨v1, v2, rfl, ?_⟩
      have r1 := rsA.set (i := i) (by rw [fl, fl]; exact z.1) ruA
      have r2 := r1.set (i := j) (d := w) (v := v2) (by rw [List.length_set, fl, fl]; exact z.2) (plus_anti (fun c z => avA c (Av.anti (fun j m => by cases m) c (Av.setV c z))) rwB)
      exact q2 l2 H2 rp2 _ (.of .refl fun c z => .inl (avB c (avA c (Av.setV' c (Av.setV' c z))))) r2
    · exact q2.elim
  · cases h
theorem pz_aug (i : Nat) (o : Operator) (e : Ex) : PZ cn cl k (.aug i o e) := by
  intro X W st g h
  simp only [mS] at h
  split at h
  · rename_i y py o' x p
    simp only [Bool.and_eq_true, decide_eq_true_eq] at h
    obtain ⟨⟨⟨⟨rfl, rfl⟩, h1⟩, h2⟩, h3⟩ := h
    obtain ⟨l1, l2⟩ := loc_of g y h2
    refine PS.imp (ps_aug g.nd (by rw [g.nN]; exact h1) l1 ((sX e).1 X W x g.toGood h3).1 ip_addA l2) fun Dn σ H q => ?_
    obtain ⟨ρ, ε, S, rs, rp, q⟩ := q
    simp only [evS] at q
    obtain ⟨xv, ex, q⟩ := onO_some q
    obtain ⟨v, e1, rv⟩ := rs.rd ex
    refine ⟨v, e1, ρ, ε, S, rs, rp, q.on rs rp fun l w H1 d S1 sx rs1 rp1 rw1 q1 => ?_⟩
    obtain ⟨z, ez, q2⟩ := onO_some q1
    split at q2
    · rename_i hz
      have rv1 : RV (kw X) ((ρ.to l).w fun _ => False) H1 xv v := by
        have r := rv.mono (rs.rp rp [i]) sx
        exact RV.anti (ρ := (ρ.plus (Av ε σ [i])).to l) (n := fun _ => False) (fun _ z => z.elim) _ _ r
      have rw2 : RV (kw X) ((ρ.to l).w fun _ => False) H1 d w := RV.anti (ρ := (ρ.to l).plus (Av ε σ (vs e))) (n := fun _ => False) (fun _ z => z.elim) _ _ rw1
      have rpF : Rp ((ρ.to l).w fun _ => False) S1 H1 := rp1.w fun _ z => z.elim
      have fin : ∀ (u : V) (H2 : Hp), Sx l H1 l H2 → Rp ((ρ.to l).w fun _ => False) S1 H2 → RV (kw X) ((ρ.to l).w fun _ => False) H2 z u → Dn.nx (σ.set i (some u)) H2 := fun u H2 s2 rp2 ru => by
        have rs2 : Rs (kw X) (ρ.to l) H2 ε σ := rs1.mono rp1 s2
        refine q2 l H2 ⟨rp2.len, rp2.nd, rp2.obj, fun a z => s2.dm a (rp1.dom a z)⟩ _ (.of s2 fun a z => .inl (Av.anti (fun j m => by cases m) a (Av.setV a z))) (rs2.set hz.2 ?_)
        exact RV.still (ρ := (ρ.to l).w fun _ => False) (n := ((ρ.to l).plus (Av ε σ [])).n) _ _ hz.1 ru
      replace ez : opAdd xv d = some z := ez
      unfold opAdd at ez
      split at ez
      · cases ez
        rw [rv1.int, rw2.int]
        exact .inl ⟨_, _, rfl, rfl, fin _ _ .refl rpF (.mkInt _)⟩
      · split at ez
        · rename_i zz
          cases ez
          rw [rv1.str, rw2.str]
          exact .inr (.inl ⟨_, _, rfl, rfl, zz, fin _ _ .refl rpF (.mkStr _)⟩)
        · cases ez
      · rename_i xs ys
        split at ez
        · rename_i zz
          cases ez
          obtain ⟨a, us, rfl, za, qa, ta⟩ := rv1.tup
          obtain ⟨b, ws, rfl, zb, qb, tb⟩ := rw2.tup
          refine .inr (.inr ⟨a, b, us, ws, rfl, rfl, qa, qb, ?_, fun e => ?_, fun e f => ?_, fun e f p hp => ?_⟩)
          · rw [← ta.len, ← tb.len]; exact zz
          · subst e
            have e : xs = [] := ta.isNil.mpr rfl
            subst e
            exact fin _ _ .refl rpF (.mkTup zb qb tb)
          · subst f
            have e : ys = [] := tb.isNil.mpr rfl
            subst e
            refine fin _ _ .refl rpF ?_
            rw [List.append_nil]
            exact .mkTup za qa ta
          · exact fin _ _ (.fresh hp) (rpF.fresh hp) (.mkTup (by rw [List.length_append]; exact zz) (.inl (.inl upd_same)) ((ta.append tb).mono rpF (.fresh hp)))
        · cases ez
      · split at ez
        · cases ez
          simp [D.still] at hz
        · cases ez
      · cases ez
    · exact q2.elim
  · cases h
end
end GG
namespace GG
open PySem PySem.Spec PyProof.Rows L2
section
variable {K : KW} {mg : Str → Option Value} {W : WX} {ρ : Fx} {H : Hp} {ε : Env} {σ : L2.St} {S : Sto} {Dn : Ends}
theorem ownL_iff {i : Nat} (h : ownL ε i = true) : ∃ ds, ε[i]? = some (.o (.lst ds)) := by
  unfold ownL at h
  split at h
  · rename_i ds e; exact ⟨ds, e⟩
  · cases h
theorem ownD_iff {i : Nat} (h : ownD ε i = true) : ∃ ds, ε[i]? = some (.o (.dct ds)) := by
  unfold ownD at h
  split at h
  · exact ⟨_, ‹_›⟩
  · cases h
theorem ownB_iff {i : Nat} (h : ownB ε i = true) : ∃ d, ε[i]? = some (.o d) := by
  unfold ownB at h
  split at h
  · rename_i ds e; exact ⟨ds, e⟩
  · cases h
theorem chg_some {ε1 : Env} {i : Nat} {f : D → Option D} (h : chg ε i f = some ε1) : ∃ o o', ε[i]? = some (.o o) ∧ f o = some o' ∧ ε1 = ε.set i (.o o') := by
  unfold chg at h
  split at h
  · rename_i o e
    obtain ⟨o', e1, rfl⟩ := Option.map_eq_some_iff.mp h
    exact ⟨o, o', e, e1, rfl⟩
  · cases h
/-- the end of a change -/
theorem chg_end {ε2 : Env} {i : Nat} {o o' : D} {a : Addr} {u w : HO} (q : PostS K mg W ρ ε σ H (.ok (.nx (ε2.set i (.o o'))) S) Dn) (rp : Rp ρ S H) (rs : Rs K ρ H ε2 σ) (av : ∀ b, Av ε2 σ [] b → Av ε σ [] b)
    (hi : ε2[i]? = some (.o o)) (ha : σ[i]? = some (some (.ref a))) (hu : H a = some u) (na : a ∉ ρ.l) (n1 : ∀ xs, u ≠ .tup xs) (n2 : ∀ o x, u ≠ .frz o x) (new : Own K (ρ.plus (Av ε2 σ [i])) (upd H a w) o' a) : Dn.nx σ (upd H a w) := by
  have avA : Av ε σ [] a := av a ⟨i, o, by simp, hi, ha⟩
  obtain ⟨j, dj, _, ej, ea⟩ := avA
  refine q ρ.l _ (rp.chg na) σ (Stp.chg ej ea fun b z => av b ?_) (Rs.chg rs hi ha hu n1 n2 new)
  obtain ⟨m, dm, n, e1, e2⟩ := z
  by_cases hm : i = m
  · subst hm; exact ⟨i, o, n, hi, e2⟩
  · rw [List.getElem?_set_ne hm] at e1; exact ⟨m, dm, n, e1, e2⟩
/-- a value for the slot's own thing -/
theorem in_own {ε2 : Env} {i : Nat} {o : D} {a : Addr} {d : D} {v : V} (hi : ε2[i]? = some (.o o)) (ha : σ[i]? = some (some (.ref a))) (r : RV K (ρ.plus (Av ε2 σ [])) H d v) : RV K ((ρ.plus (Av ε2 σ [i])).plus (· = a)) H d v :=
  RV.anti (ρ := ρ.plus (Av ε2 σ [])) (n := ((ρ.plus (Av ε2 σ [i])).plus (· = a)).n) (fun b z => by
    rcases z with (z | z) | z
    · exact .inl z
    · exact .inr (Av.anti (fun j m => by cases m) b z)
    · exact .inr (by rw [z]; exact ⟨i, o, by simp, hi, ha⟩)) _ _ r
theorem in_owns {ε2 : Env} {i : Nat} {o : D} {a : Addr} {d : List D} {v : List V} (hi : ε2[i]? = some (.o o)) (ha : σ[i]? = some (some (.ref a))) (r : RVs K (ρ.plus (Av ε2 σ [])) H d v) : RVs K ((ρ.plus (Av ε2 σ [i])).plus (· = a)) H d v :=
  RVs.anti (ρ := ρ.plus (Av ε2 σ [])) (n := ((ρ.plus (Av ε2 σ [i])).plus (· = a)).n) (fun b z => by
    rcases z with (z | z) | z
    · exact .inl z
    · exact .inr (Av.anti (fun j m => by cases m) b z)
    · exact .inr (by rw [z]; exact ⟨i, o, by simp, hi, ha⟩)) _ _ r
theorem in_upd {ε2 : Env} {i : Nat} {a : Addr} {u w : HO} (hu : H a = some u) (n1 : ∀ xs, u ≠ .tup xs) (n2 : ∀ o x, u ≠ .frz o x) : Kq ((ρ.plus (Av ε2 σ [i])).plus (· = a)) H ρ.l (upd H a w) := Kq.put (ρ := (ρ.plus (Av ε2 σ [i])).plus (· = a)) hu (.inr rfl) n1 n2
end
section
variable {cn : Cn} {cl : Nat → List D → Sto → Out D} {k : Nat}
theorem pz_app (i : Nat) (e : Ex) : PZ cn cl k (.app i e) := by
  intro X W st g h
  simp only [mS] at h
  split at h
  · rename_i y py nm ap x cp p
    simp only [Bool.and_eq_true, decide_eq_true_eq] at h
    obtain ⟨⟨⟨⟨rfl, h1⟩, h2⟩, h3⟩, h4⟩ := h
    simp only [mE, Bool.and_eq_true, decide_eq_true_eq] at h1
    obtain ⟨pa, pb, pc⟩ := plain_of h1.2
    have hv := pe_var (X := X) (pos := py) (i := i) (by rw [g.nN]; exact h1.1.1) (vis_of h1.1.2) pa pb
    have he := ((sX e).1 X W x g.toGood h2).1
    have few : ((backTo cp (starEach [x] X.env)).all (fun x => !x.1) && (backToKw cp (keywordEach [] X.env)).all (fun x => x.1.isSome)
          && decide ([x].length + ([] : List Keyword).length + (if ([] : List Keyword).isEmpty then 0 else 1) < 30)) = true := by
      rw [star_all (by simp [noStars, h3])]; rfl
    refine PS.imp (ps_expr (pe_bm PySem.F.plainAttrs_list PySem.F.slot_list_append PySem.F.type_list_append mt_append hv (pa_cons he pa_nil (star_cons h3)) rfl few h4 (star_cons h3) (star_any rfl)) rfl) fun Dn σ H q => ?_
    obtain ⟨ρ, ε, S, rs, rp, q⟩ := q
    simp only [evS] at q
    split at q
    · rename_i ho
      obtain ⟨ds, eo⟩ := ownL_iff ho
      obtain ⟨a, ea, o⟩ := rs.own i _ eo
      obtain ⟨vs0, z0, ha0, _⟩ := o
      refine ⟨.ref a, ea, .inl ⟨rfl, vs0, SqL.of ha0⟩, ρ, ε, S, rs, rp, q.on rs rp fun l v H1 d S1 sx rs1 rp1 rv q1 => ?_⟩
      obtain ⟨ε1, e1, q2⟩ := onO_some q1
      obtain ⟨o, o', eo2, ef, rfl⟩ := chg_some e1
      obtain ⟨rs2, rv2, av2⟩ := fzV_ok rs1 rv
      obtain ⟨a2, ea2, own2⟩ := rs2.own i o eo2
      rw [ea] at ea2; cases ea2
      unfold appF at ef
      split at ef
      · rename_i es
        split at ef
        · rename_i hz
          cases ef
          obtain ⟨ws, z1, ha1, n1, n2, t⟩ := own2
          have hl := t.len
          refine ⟨a, ws, v, rfl, rfl, ha1, by rw [← hl]; exact hz, ?_⟩
          have t2 := RVs.gen (in_upd (ρ := ρ.to l) (w := .lst (ws ++ [v])) ha1 (fun _ z => nomatch z) (fun _ _ z => nomatch z)) _ _ (t.append (.one (in_own eo2 ea rv2)))
          exact chg_end q2 rp1 rs2 av2 eo2 ea ha1 n1 (fun _ z => nomatch z) (fun _ _ z => nomatch z) ⟨_, by rw [List.length_append]; exact hz, upd_same, n1, n2, t2⟩
        · cases ef
      · cases ef
    · exact q.elim
  · cases h
theorem RVs.eraseIdx {K : KW} {ρ : Fx} {H : Hp} : ∀ {ds : List D} {vs : List V} (m : Nat), RVs K ρ H ds vs → RVs K ρ H (ds.eraseIdx m) (vs.eraseIdx m)
  | [], vs, m, h => by simp only [RVs] at h; subst h; exact RVs.nil
  | d :: ds, vs, 0, h => by
    obtain ⟨v, r, rfl, _, t⟩ := h.uncons
    exact t
  | d :: ds, vs, m + 1, h => by
    obtain ⟨v, r, rfl, q, t⟩ := h.uncons
    exact .cons q (RVs.eraseIdx m t)
theorem pz_apop (i j : Nat) (e : Ex) : PZ cn cl k (.apop i j e) := by
  intro X W st g h
  simp only [mS] at h
  split at h
  · rename_i y py nm ap y2 py2 nm2 ap2 x cp2 cp p
    simp only [Bool.and_eq_true, decide_eq_true_eq] at h
    obtain ⟨⟨⟨⟨⟨⟨⟨⟨rfl, rfl⟩, hij⟩, h1⟩, h2⟩, h3⟩, h4⟩, h5⟩, h6⟩ := h
    simp only [mE, Bool.and_eq_true, decide_eq_true_eq] at h1 h2
    obtain ⟨pa, pb, pc⟩ := plain_of h1.2
    obtain ⟨pa2, pb2, pc2⟩ := plain_of h2.2
    have hv := pe_var (X := X) (pos := py) (i := i) (by rw [g.nN]; exact h1.1.1) (vis_of h1.1.2) pa pb
    have hv2 := pe_var (X := X) (pos := py2) (i := j) (by rw [g.nN]; exact h2.1.1) (vis_of h2.1.2) pa2 pb2
    have he := ((sX e).1 X W x g.toGood h3).1
    have few : ∀ {x : Expr} {cp : Pos}, noStar x = true → ((backTo cp (starEach [x] X.env)).all (fun x => !x.1) && (backToKw cp (keywordEach [] X.env)).all (fun x => x.1.isSome)
          && decide ([x].length + ([] : List Keyword).length + (if ([] : List Keyword).isEmpty then 0 else 1) < 30)) = true := fun {x cp} h => by
      rw [star_all (by simp [noStars, h])]; rfl
    have inner := pe_bm (cpos := cp2) PySem.F.plainAttrs_list PySem.F.slot_list_pop PySem.F.type_list_pop mt_popAt hv2 (pa_cons he pa_nil (star_cons h4)) rfl (few h4) h6 (star_cons h4) (star_any rfl)
    refine PS.imp (ps_expr (pe_bm PySem.F.plainAttrs_list PySem.F.slot_list_append PySem.F.type_list_append mt_append hv (pa_cons inner pa_nil rfl) rfl (few rfl) h5 rfl rfl) rfl) fun Dn σ H q => ?_
    obtain ⟨ρ, ε, S, rs, rp, q⟩ := q
    simp only [evS] at q
    split at q
    · rename_i ho
      obtain ⟨ds, eo⟩ := ownL_iff ho.1
      obtain ⟨ds2, eo2⟩ := ownL_iff ho.2
      obtain ⟨a, ea, o⟩ := rs.own i _ eo
      obtain ⟨a2, ea2, o2⟩ := rs.own j _ eo2
      obtain ⟨vs0, z0, ha0, _⟩ := o
      obtain ⟨vs2, z2, ha2, _⟩ := o2
      refine ⟨.ref a, ea, .inl ⟨rfl, vs0, SqL.of ha0⟩, .ref a2, ea2, .inl ⟨rfl, vs2, SqL.of ha2⟩, ρ, ε, S, rs, rp, q.on rs rp fun l v H1 d S1 sx rs1 rp1 rv q1 => ?_⟩
      obtain ⟨ε1, e1, q2⟩ := onO_some q1
      unfold apopF at e1
      rw [eo, eo2] at e1
      split at e1
      · rename_i k xs ys ek1 ek2
        cases ek1
        cases ek2
        split at e1
        · rename_i hb
          split at e1
          · rename_i m hm
            split at e1
            · rename_i yd hy
              split at e1
              · rename_i hz
                cases e1
                rw [rv.int]
                obtain ⟨aj, eaj, own2⟩ := rs1.own j _ eo2
                rw [ea2] at eaj; cases eaj
                obtain ⟨ai, eai, own1⟩ := rs1.own i _ eo
                rw [ea] at eai; cases eai
                obtain ⟨wj, zj, hj, nj1, nj2, tj⟩ := own2
                obtain ⟨wi, zi, hi, ni1, ni2, ti⟩ := own1
                have hne : a ≠ a2 := fun z => ni2 (.inr ⟨j, _, (fun m => hij (List.mem_singleton.mp m).symm), eo2, by rw [ea2, z]⟩)
                obtain ⟨yv, hyv, ry⟩ := tj.get hy
                refine ⟨a2, wj, k, m, yv, rfl, rfl, hj, hb.1, hb.2, by rw [← tj.len]; exact hm, hyv, ?_⟩
                have hi2 : upd H1 a2 (.lst (wj.eraseIdx m)) a = some (.lst wi) := by rw [upd_ne hne]; exact hi
                refine ⟨a, wi, yv, rfl, rfl, hi2, by rw [← ti.len]; exact hz, ?_⟩
                have kq2 := in_upd (ρ := ρ.to l) (ε2 := ε) (σ := σ) (i := j) (w := .lst (wj.eraseIdx m)) hj (fun _ z => nomatch z) (fun _ _ z => nomatch z)
                have rs2 := Rs.chg (o := .lst (wj.eraseIdx m)) (d' := .lst (ds2.eraseIdx m)) rs1 eo2 ea2 hj (fun _ z => nomatch z) (fun _ _ z => nomatch z)
                  ⟨wj.eraseIdx m, Nat.le_trans (List.length_eraseIdx_le _ _) zj, upd_same, nj1, nj2, RVs.gen kq2 _ _ (tj.eraseIdx m)⟩
                have eoi : (ε.set j (.o (.lst (ds2.eraseIdx m))))[i]? = some (.o (.lst ds)) := by rw [List.getElem?_set_ne (Ne.symm hij)]; exact eo
                obtain ⟨ai2, eai2, own3⟩ := rs2.own i _ eoi
                rw [ea] at eai2; cases eai2
                obtain ⟨wi2, zi2, hi3, ni3, ni4, ti2⟩ := own3
                rw [hi2] at hi3; cases hi3
                have ry2 : RV (kw X) (((ρ.to l).plus (Av (ε.set j (.o (.lst (ds2.eraseIdx m)))) σ [i])).plus (· = a)) (upd H1 a2 (.lst (wj.eraseIdx m))) yd yv :=
                  RV.anti (ρ := ((ρ.to l).plus (Av ε σ [j])).plus (· = a2)) (n := (((ρ.to l).plus (Av (ε.set j (.o (.lst (ds2.eraseIdx m)))) σ [i])).plus (· = a)).n) (fun b z => by
                    rcases z with (z | ⟨m', dm, n, e1, e2⟩) | z
                    · exact .inl (.inl z)
                    · by_cases hm' : j = m'
                      · subst hm'
                        rw [ea2] at e2; cases e2
                        exact .inr rfl
                      · rw [List.getElem?_set_ne hm'] at e1
                        exact .inl (.inr ⟨m', dm, (fun q => hm' (List.mem_singleton.mp q).symm), e1, e2⟩)
                    · exact .inl (.inr ⟨i, _, (fun q => hij (List.mem_singleton.mp q)), eo, by rw [z]; exact ea⟩)) _ _ (RV.gen kq2 _ _ ry)
                have st1 : Stp (ρ.to l).l ε σ H1 l (ε.set j (.o (.lst (ds2.eraseIdx m)))) σ (upd H1 a2 (.lst (wj.eraseIdx m))) := Stp.chg eo2 ea2 fun b z => by
                  obtain ⟨m', dm, n, e1, e2⟩ := z
                  by_cases hm' : j = m'
                  · subst hm'; exact ⟨j, _, n, eo2, e2⟩
                  · rw [List.getElem?_set_ne hm'] at e1; exact ⟨m', dm, n, e1, e2⟩
                have q3 := PostS.weak (ρ := ρ.to l) st1 q2
                have kq3 := in_upd (ρ := ρ.to l) (ε2 := ε.set j (.o (.lst (ds2.eraseIdx m)))) (σ := σ) (i := i) (w := .lst (wi ++ [yv])) hi2 (fun _ z => nomatch z) (fun _ _ z => nomatch z)
                have t3 := RVs.gen kq3 _ _ (ti2.append (.one ry2))
                exact chg_end q3 (rp1.chg nj1) rs2 (fun _ z => z) eoi ea hi2 ni3 (fun _ z => nomatch z) (fun _ _ z => nomatch z) ⟨_, by rw [List.length_append]; exact hz, upd_same, ni3, ni4, t3⟩
              · cases e1
            · cases e1
          · cases e1
        · cases e1
      · cases e1
    · exact q.elim
  · cases h
theorem pz_ext (i : Nat) (e : Ex) : PZ cn cl k (.ext i e) := by
  intro X W st g h
  simp only [mS] at h
  split at h
  · rename_i y py nm ap x cp p
    simp only [Bool.and_eq_true, decide_eq_true_eq] at h
    obtain ⟨⟨⟨⟨rfl, h1⟩, h2⟩, h3⟩, h4⟩ := h
    simp only [mE, Bool.and_eq_true, decide_eq_true_eq] at h1
    obtain ⟨pa, pb, pc⟩ := plain_of h1.2
    have hv := pe_var (X := X) (pos := py) (i := i) (by rw [g.nN]; exact h1.1.1) (vis_of h1.1.2) pa pb
    have he := ((sX e).1 X W x g.toGood h2).1
    have few : ((backTo cp (starEach [x] X.env)).all (fun x => !x.1) && (backToKw cp (keywordEach [] X.env)).all (fun x => x.1.isSome)
          && decide ([x].length + ([] : List Keyword).length + (if ([] : List Keyword).isEmpty then 0 else 1) < 30)) = true := by
      rw [star_all (by simp [noStars, h3])]; rfl
    refine PS.imp (ps_expr (pe_bm PySem.F.plainAttrs_list PySem.F.slot_list_extend PySem.F.type_list_extend mt_extend hv (pa_cons he pa_nil (star_cons h3)) rfl few h4 (star_cons h3) (star_any rfl)) rfl) fun Dn σ H q => ?_
    obtain ⟨ρ, ε, S, rs, rp, q⟩ := q
    simp only [evS] at q
    split at q
    · rename_i ho
      obtain ⟨ds, eo⟩ := ownL_iff ho
      obtain ⟨a, ea, o⟩ := rs.own i _ eo
      obtain ⟨vs0, z0, ha0, _⟩ := o
      refine ⟨.ref a, ea, .inl ⟨rfl, vs0, SqL.of ha0⟩, ρ, ε, S, rs, rp, q.on rs rp fun l v H1 d S1 sx rs1 rp1 rv q1 => ?_⟩
      obtain ⟨ε1, e1, q2⟩ := onO_some q1
      obtain ⟨o, o', eo2, ef, rfl⟩ := chg_some e1
      unfold extF at ef
      split at ef
      · rename_i es fs
        split at ef
        · rename_i hz
          cases ef
          obtain ⟨b, us, rfl, zb, hb, nb1, nb2, tb⟩ := rv.lst
          have key : Rs (kw X) (ρ.to l) H1 (fzN e (.lst fs) ε) σ ∧ RVs (kw X) ((ρ.to l).plus (Av (fzN e (.lst fs) ε) σ [])) H1 fs us ∧ ∀ c, Av (fzN e (.lst fs) ε) σ [] c → Av ε σ [] c := by
            unfold fzN
            by_cases st : D.still1 (.lst fs) = true
            · rw [if_pos st]
              exact ⟨rs1, RVs.still (ρ := (ρ.to l).plus (Av ε σ (vs e))) (n := ((ρ.to l).plus (Av ε σ [])).n) _ _ st tb, fun _ z => z⟩
            · rw [if_neg st]
              exact ⟨rs1.fz _, plus_antis (fun a z => Av.anti (fun j m => List.mem_append_left _ m) a (Av.fz a z)) tb, fun a z => Av.anti (fun j m => by cases m) a (Av.fz a z)⟩
          obtain ⟨rs2, tb2, av2⟩ := key
          obtain ⟨a2, ea2, own2⟩ := rs2.own i _ eo2
          rw [ea] at ea2; cases ea2
          obtain ⟨ws, z1, ha1, n1, n2, t⟩ := own2
          have hl := t.len
          have hl2 := tb2.len
          refine ⟨a, b, ws, us, rfl, rfl, ha1, hb, by rw [← hl, ← hl2]; exact hz, ?_⟩
          have t2 := RVs.gen (in_upd (ρ := ρ.to l) (w := .lst (ws ++ us)) ha1 (fun _ z => nomatch z) (fun _ _ z => nomatch z)) _ _ (t.append (in_owns eo2 ea tb2))
          exact chg_end q2 rp1 rs2 av2 eo2 ea ha1 n1 (fun _ z => nomatch z) (fun _ _ z => nomatch z) ⟨_, by rw [List.length_append]; exact hz, upd_same, n1, n2, t2⟩
        · cases ef
      · cases ef
    · exact q.elim
  · cases h
theorem mt_upd {X : Cx} : MtR X "dict.update" (fun x xs H Q => ∃ (a b : Addr) (ks ls : List (Key × V)), x = .ref a ∧ xs = [.ref b] ∧ H a = some (.dK ks) ∧ Rd H b (.dK ls) ∧ a ≠ b ∧ ks.length + ls.length ≤ sizeLine ∧ Q .non (upd H a (.dK (mergeK ks ls)))) := by
  intro pins s σ H x xs v us Q I rx rxs h
  obtain ⟨a, b, ks, ls, rfl, rfl, ha, hb, hne, hz, q⟩ := h
  cases rx
  obtain ⟨u1, rfl, r1⟩ := vals1 rxs
  cases r1
  obtain ⟨_, hd, vs, rel, dd⟩ := dk_of I.hok ha
  obtain ⟨_, hd2, ws, rel2, dd2⟩ := dk_rd I.hok hb
  refine call_meetsIn PySem.F.slot_dict_update dd.typeIs PySem.F.entry_dict_update (PySem.F.args_dict_update_2 _ _) (meets_dict_update (mixKind X.prog X.w) a b hne hd2) ⟨vs, ws, dd, dd2, by rw [← Paired.length rel, ← Paired.length rel2]; exact hz, fun h' d1 d2 sb => ?_⟩
  have km := KV.merge rel2 rel
  have hl : (mergeK ks ls).length ≤ sizeLine := by
    have := Paired.length km
    have m := merged_length_le vs ws
    rw [this]
    rw [← Paired.length rel, ← Paired.length rel2] at m
    omega
  exact ⟨.non, _, d_write I (by rw [ha]; exact True.intro) sb (let ⟨q, _, _, hq, _⟩ := d1; ⟨q, hq⟩) (dk_new hl hd km d1), rfl, q⟩
theorem mergeD_le : ∀ (ls ks : List (Key × D)), (mergeD ks ls).length ≤ ks.length + ls.length
  | [], ks => by simp [mergeD]
  | (k, v) :: r, ks => by
    have := mergeD_le r (putD ks k v)
    have p := putD_le ks k v
    show (mergeD (putD ks k v) r).length ≤ _
    simp only [List.length_cons]
    omega
theorem pz_upd (i : Nat) (e : Ex) : PZ cn cl k (.upd i e) := by
  intro X W st g h
  simp only [mS] at h
  split at h
  · rename_i y py nm ap x cp p
    simp only [Bool.and_eq_true, decide_eq_true_eq, Bool.not_eq_true'] at h
    obtain ⟨⟨⟨⟨⟨rfl, h1⟩, h2⟩, h3⟩, h4⟩, h5⟩ := h
    have hni : i ∉ vs e := fun m => by
      have : (vs e).contains i = true := by simpa using m
      rw [h5] at this; cases this
    simp only [mE, Bool.and_eq_true, decide_eq_true_eq] at h1
    obtain ⟨pa, pb, pc⟩ := plain_of h1.2
    have hv := pe_var (X := X) (pos := py) (i := i) (by rw [g.nN]; exact h1.1.1) (vis_of h1.1.2) pa pb
    have he := ((sX e).1 X W x g.toGood h2).1
    have few : ((backTo cp (starEach [x] X.env)).all (fun x => !x.1) && (backToKw cp (keywordEach [] X.env)).all (fun x => x.1.isSome)
          && decide ([x].length + ([] : List Keyword).length + (if ([] : List Keyword).isEmpty then 0 else 1) < 30)) = true := by
      rw [star_all (by simp [noStars, h3])]; rfl
    refine PS.imp (ps_expr (pe_bm PySem.F.plainAttrs_dict PySem.F.slot_dict_update PySem.F.type_dict_update mt_upd hv (pa_cons he pa_nil (star_cons h3)) rfl few h4 (star_cons h3) (star_any rfl)) rfl) fun Dn σ H q => ?_
    obtain ⟨ρ, ε, S, rs, rp, q⟩ := q
    simp only [evS] at q
    split at q
    · rename_i ho
      obtain ⟨ks0, eo⟩ := ownD_iff ho
      obtain ⟨a, ea, o⟩ := rs.own i _ eo
      obtain ⟨vs0, ha0, _⟩ := o
      refine ⟨.ref a, ea, .inr (.inr (.inl ⟨rfl, .inl ⟨vs0, ha0⟩⟩)), ρ, ε, S, rs, rp, q.on rs rp fun l v H1 d S1 sx rs1 rp1 rv q1 => ?_⟩
      obtain ⟨ε1, e1, q2⟩ := onO_some q1
      obtain ⟨o, o', eo2, ef, rfl⟩ := chg_some e1
      unfold updF at ef
      split at ef
      · rename_i es fs
        split at ef
        · rename_i hz
          cases ef
          obtain ⟨b, us, rfl, hb, nb1, nb2, tb⟩ := rv.dct
          have key : Rs (kw X) (ρ.to l) H1 (fzN e (.dct fs) ε) σ ∧ RKV (kw X) ((ρ.to l).plus (Av (fzN e (.dct fs) ε) σ [])) H1 fs us ∧ ∀ c, Av (fzN e (.dct fs) ε) σ [] c → Av ε σ [] c := by
            unfold fzN
            by_cases st : D.still1 (.dct fs) = true
            · rw [if_pos st]
              exact ⟨rs1, RKV.still (ρ := (ρ.to l).plus (Av ε σ (vs e))) (n := ((ρ.to l).plus (Av ε σ [])).n) _ _ st tb, fun _ z => z⟩
            · rw [if_neg st]
              exact ⟨rs1.fz _, RKV.anti (ρ := (ρ.to l).plus (Av ε σ (vs e))) (n := ((ρ.to l).plus (Av (fz (vs e) ε) σ [])).n) (fun c z => z.imp id fun z => Av.anti (fun j m => List.mem_append_left _ m) c (Av.fz c z)) _ _ tb, fun a z => Av.anti (fun j m => by cases m) a (Av.fz a z)⟩
          obtain ⟨rs2, tb2, av2⟩ := key
          obtain ⟨a2, ea2, own2⟩ := rs2.own i _ eo2
          rw [ea] at ea2; cases ea2
          obtain ⟨ws, ha1, n1, n2, t⟩ := own2
          have hl := t.len
          have hl2 := tb2.len
          have hab : a ≠ b := fun z => nb2 (.inr ⟨i, _, hni, eo, by rw [ea, z]⟩)
          refine ⟨a, b, ws, us, rfl, rfl, ha1, hb, hab, by rw [← hl, ← hl2]; exact hz, ?_⟩
          have tb3 : RKV (kw X) (((ρ.to l).plus (Av (fzN e (.dct fs) ε) σ [i])).plus (· = a)) H1 fs us := RKV.anti (ρ := (ρ.to l).plus (Av (fzN e (.dct fs) ε) σ [])) (n := (((ρ.to l).plus (Av (fzN e (.dct fs) ε) σ [i])).plus (· = a)).n) (fun c z => by
            rcases z with (z | z) | z
            · exact .inl z
            · exact .inr (Av.anti (fun j m => by cases m) c z)
            · exact .inr ⟨i, _, (fun m => by cases m), eo2, by rw [ea, z]⟩) _ _ tb2
          have t2 := RKV.gen (in_upd (ρ := ρ.to l) (w := .dK (mergeK ws us)) ha1 (fun _ z => nomatch z) (fun _ _ z => nomatch z)) _ _ (RKV.merge t tb3)
          exact chg_end q2 rp1 rs2 av2 eo2 ea ha1 n1 (fun _ z => nomatch z) (fun _ _ z => nomatch z) ⟨_, upd_same, n1, n2, t2⟩
        · cases ef
      · cases ef
    · exact q.elim
  · cases h
theorem PS.or {X : Cx} {st : Stmt} {t u : TS} (h : PS X st t) (h' : PS X st u) : PS X st (fun D σ H => t D σ H ∨ u D σ H) := ⟨fun pins s σ H D I q => q.elim (h.run pins s σ H D I) (h'.run pins s σ H D I)⟩
theorem noSlice_ns {e : Expr} (h : noSlice e = true) : NoSl e := by
  intro o i
  cases e <;> first | rfl | (simp [noSlice] at h)
theorem pz_put (i : Nat) (kx e : Ex) : PZ cn cl k (.put i kx e) := by
  intro X W st g h
  simp only [mS] at h
  split at h
  · rename_i y py s sp x p
    simp only [Bool.and_eq_true] at h
    obtain ⟨⟨⟨⟨h1, h2⟩, h3⟩, h4⟩, h5⟩ := h
    simp only [mE, Bool.and_eq_true, decide_eq_true_eq] at h1
    obtain ⟨pa, pb, pc⟩ := plain_of h1.2
    have ho := pe_var (X := X) (pos := py) (i := i) (by rw [g.nN]; exact h1.1.1) (vis_of h1.1.2) pa pb
    have hi := ((sX kx).1 X W s g.toGood h2).1
    have he := ((sX e).1 X W x g.toGood h3).1
    have hw : swappedStores [.Subscript (.Name y py) s sp] x X.env = pure none := by cases x <;> rfl
    have hpg : PG X (.Subscript (.Name y py) s sp) (gSub (tVar i) (TF (kw X) X.mg W (vs kx) (evE cl kx)) rSetL) := by
      refine pg_sub ho hi set_list ?_
      intro v
      cases s <;> first | rfl | (simp [noSlice] at h5)
    refine PS.imp (GG.PS.or (ps_asg he hpg (noComp_sole h4) hw rfl) (ps_dput (pos' := sp) (pos := p) (by have := g.room.units; omega) ho hi he (noComp_sw h4))) fun Dn σ H q => ?_
    obtain ⟨ρ, ε, S, rs, rp, q⟩ := q
    simp only [evS] at q
    split at q
    · rename_i hob
      obtain ⟨o0, eo⟩ := ownB_iff hob
      obtain ⟨a, ea, own0⟩ := rs.own i _ eo
      have own0' := own0
      unfold Own at own0'
      have fin : ∀ (l : List Addr) (v : V) (H1 : Hp) (d : D) (S1 : Sto), Rs (kw X) (ρ.to l) H1 ε σ → Rp (ρ.to l) S1 H1 → RV (kw X) ((ρ.to l).plus (Av ε σ (vs e))) H1 d v →
          ∀ (l2 : List Addr) (vk : V) (H2 : Hp) (yk : D) (S2 : Sto), Sx l H1 l2 H2 → Rs (kw X) ((ρ.to l).to l2) H2 ε σ → Rp ((ρ.to l).to l2) S2 H2 → RV (kw X) (((ρ.to l).to l2).plus (Av ε σ (vs kx))) H2 yk vk →
          PostS (kw X) X.mg W ((ρ.to l).to l2) ε σ H2 (onO (chg (fzV e d ε) i fun o => putF o yk d) fun ε1 => .ok (.nx ε1) S2) Dn →
          (∃ ds ws j n, o0 = .lst ds ∧ vk = .int j ∧ H2 a = some (.lst ws) ∧ ixN ws.length j = some n ∧ Dn.nx σ (upd H2 a (.lst (ws.set n v)))) ∨
          (∃ kvs ws kk, o0 = .dct kvs ∧ vk = kV kk ∧ H2 a = some (.dK ws) ∧ ws.length < sizeLine ∧ Dn.nx σ (upd H2 a (.dK (putK ws kk v)))) := by
        intro l v H1 d S1 rs1 rp1 rv l2 vk H2 yk S2 sx2 rs2 rp2 rk q2
        obtain ⟨ε1, e1, q3⟩ := onO_some q2
        obtain ⟨o, o', eo2, ef, rfl⟩ := chg_some e1
        have eo3 : ε[i]? = some (.o o) := by
          unfold fzV at eo2
          split at eo2
          · exact eo2
          · exact (fz_o eo2).2
        rw [eo] at eo3
        cases eo3
        have rv2 : RV (kw X) (((ρ.to l).to l2).plus (Av ε σ (vs e))) H2 d v := rv.mono (rs1.rp rp1 _) sx2
        obtain ⟨rs3, rv3, av3⟩ := fzV_ok rs2 rv2
        obtain ⟨a2, ea2, own2⟩ := rs3.own i _ eo2
        rw [ea] at ea2; cases ea2
        unfold putF at ef
        split at ef
        · rename_i ds
          split at ef
          · rename_i j
            obtain ⟨n, en, rfl⟩ := Option.map_eq_some_iff.mp ef
            obtain ⟨ws, z1, ha1, n1, n2, t⟩ := own2
            have hl := t.len
            have t2 := RVs.gen (in_upd (ρ := (ρ.to l).to l2) (w := .lst (ws.set n v)) ha1 (fun _ z => nomatch z) (fun _ _ z => nomatch z)) _ _ (RVs.set (in_own eo2 ea rv3) n t)
            exact .inl ⟨ds, ws, j, n, rfl, rk.int, ha1, by rw [← hl]; exact en, chg_end q3 rp2 rs3 av3 eo2 ea ha1 n1 (fun _ z => nomatch z) (fun _ _ z => nomatch z) ⟨_, by rw [List.length_set]; exact z1, upd_same, n1, n2, t2⟩⟩
          · cases ef
        · rename_i kvs
          obtain ⟨kk, ek, ef⟩ := Option.bind_eq_some_iff.mp ef
          split at ef
          · rename_i hz
            cases ef
            obtain ⟨ws, ha1, n1, n2, t⟩ := own2
            have hl := t.len
            have t2 := RKV.gen (in_upd (ρ := (ρ.to l).to l2) (w := .dK (putK ws kk v)) ha1 (fun _ z => nomatch z) (fun _ _ z => nomatch z)) _ _ (RKV.put (k := kk) (in_own eo2 ea rv3) t)
            exact .inr ⟨kvs, ws, kk, rfl, keyOf_V rk ek, ha1, by rw [← hl]; exact hz, chg_end q3 rp2 rs3 av3 eo2 ea ha1 n1 (fun _ z => nomatch z) (fun _ _ z => nomatch z) ⟨_, upd_same, n1, n2, t2⟩⟩
          · cases ef
        · cases ef
      by_cases hl : ∃ ds, o0 = .lst ds
      · obtain ⟨ds0, rfl⟩ := hl
        refine .inl ⟨ρ, ε, S, rs, rp, q.on rs rp fun l v H1 d S1 sx rs1 rp1 rv q1 => ⟨.ref a, ea, ρ.to l, ε, S1, rs1, rp1, q1.on rs1 rp1 fun l2 vk H2 yk S2 sx2 rs2 rp2 rk q2 => ?_⟩⟩
        rcases fin l v H1 d S1 rs1 rp1 rv l2 vk H2 yk S2 sx2 rs2 rp2 rk q2 with ⟨ds, ws, j, n, _, e1, e2, e3, e4⟩ | ⟨_, _, _, e0, _⟩
        · exact ⟨a, ws, j, n, rfl, e1, e2, e3, e4⟩
        · cases e0
      · refine .inr ⟨ρ, ε, S, rs, rp, q.on rs rp fun l v H1 d S1 sx rs1 rp1 rv q1 => ⟨.ref a, ea, ρ.to l, ε, S1, rs1, rp1, q1.on rs1 rp1 fun l2 vk H2 yk S2 sx2 rs2 rp2 rk q2 => ?_⟩⟩
        rcases fin l v H1 d S1 rs1 rp1 rv l2 vk H2 yk S2 sx2 rs2 rp2 rk q2 with ⟨ds, ws, j, n, e0, e1, e2, e3, e4⟩ | ⟨kvs, ws, kk, _, rfl, e2, e3, e4⟩
        · exact absurd ⟨ds, e0⟩ hl
        · exact ⟨a, _, rfl, DPut.k e2 e3, e4⟩
    · exact q.elim
  · cases h
theorem pz_sput (i j : Nat) (e : Ex) : PZ cn cl k (.sput i j e) := by
  intro X W st g h
  simp only [mS] at h
  split at h
  · rename_i y py z kk kp sp x p
    simp only [Bool.and_eq_true, decide_eq_true_eq] at h
    obtain ⟨⟨⟨h1, rfl⟩, h3⟩, h4⟩ := h
    simp only [mE, Bool.and_eq_true, decide_eq_true_eq] at h1
    obtain ⟨pa, pb, pc⟩ := plain_of h1.2
    have ho := pe_var (X := X) (pos := py) (i := i) (by rw [g.nN]; exact h1.1.1) (vis_of h1.1.2) pa pb
    have he := ((sX e).1 X W x g.toGood h3).1
    have hw : swappedStores [.Subscript (.Name y py) (.Constant (.int (j : Int)) kk kp) sp] x X.env = pure none := by cases x <;> rfl
    have hpg : PG X (.Subscript (.Name y py) (.Constant (.int (j : Int)) kk kp) sp) (gSub (tVar i) (tC (.int (j : Int))) rSetL) := pg_sub ho pe_int set_list (fun v => rfl)
    refine PS.imp (ps_asg he hpg (noComp_sole h4) hw rfl) fun Dn σ H q => ?_
    obtain ⟨ρ, ε, S, rs, rp, q⟩ := q
    simp only [evS] at q
    refine ⟨ρ, ε, S, rs, rp, q.on rs rp fun l v H1 d S1 sx rs1 rp1 rv q1 => ?_⟩
    obtain ⟨S2, e1, q2⟩ := onO_some q1
    cases er : rdE ε i with
    | none => rw [er] at e1; simp [sputF] at e1
    | some d0 =>
      rw [er] at e1
      obtain ⟨u, eu, ru⟩ := rs1.rd er
      cases d0 with
      | stm kk2 =>
        cases d with
        | int n =>
          simp only [sputF] at e1
          obtain ⟨t, e2, e3⟩ := Option.bind_eq_some_iff.mp e1
          obtain ⟨t', e4, rfl⟩ := Option.map_eq_some_iff.mp e3
          obtain ⟨ad, ea, rfl⟩ := ru.stm
          have ea' : l[kk2]? = some ad := ea
          have hH := rp1.obj kk2 ad t ea e2
          have mem : ad ∈ l := List.mem_of_getElem? ea
          have fin : ∀ o : HO, o = .lst [.int t'.1, .int t'.2.1, .int t'.2.2] → Dn.nx σ (upd H1 ad o) := fun o eo => by
            have sx2 : Sx l H1 l (upd H1 ad o) := by
              refine ⟨pre_refl _, fun b w e n => ?_, fun b m n => absurd m n, fun b e => ?_⟩
              · rw [upd_ne (fun z : b = ad => n (by rw [z]; exact mem))]; exact e
              · by_cases hb : b = ad
                · rw [hb, upd_same]; exact fun z => nomatch z
                · rw [upd_ne hb]; exact e
            refine q2 l _ ⟨by rw [List.length_set]; exact rp1.len, rp1.nd, fun i2 b t2 f1 f2 => ?_, fun b z => sx2.dm b (rp1.dom b z)⟩ σ (.of sx2 fun _ z => .inl z) (rs1.mono rp1 sx2)
            by_cases hk : kk2 = i2
            · subst hk
              have f1' : l[kk2]? = some b := f1
              rw [ea'] at f1'; cases f1'
              rw [List.getElem?_set, if_pos rfl, if_pos (List.getElem?_eq_some_iff.mp e2).1] at f2
              cases f2
              rw [upd_same, eo]
            · rw [List.getElem?_set_ne hk] at f2
              have hb : b ≠ ad := fun z => by
                have f1' : l[i2]? = some b := f1
                rw [z] at f1'
                have g1 := List.getElem?_eq_some_iff.mp ea'
                have g2 := List.getElem?_eq_some_iff.mp f1'
                exact hk ((List.getElem_inj rp1.nd).mp (g1.2.trans g2.2.symm))
              rw [upd_ne hb]; exact rp1.obj i2 b t2 f1 f2
          refine ⟨.ref ad, eu, ad, _, (j : Int), j, rfl, rfl, hH, ?_, ?_⟩
          · match j, e4 with
            | 0, _ => rfl
            | 1, _ => rfl
            | 2, _ => rfl
            | _ + 3, e4 => cases e4
          · rw [rv.int]
            match j, e4 with
            | 0, e4 => cases e4; exact fin _ rfl
            | 1, e4 => cases e4; exact fin _ rfl
            | 2, e4 => cases e4; exact fin _ rfl
            | _ + 3, e4 => cases e4
        | _ => simp [sputF] at e1
      | _ => simp [sputF] at e1
  · cases h
theorem pz_ife (c : Ex) {t e : List Sm} (ht : PZs cn cl k t) (he : PZs cn cl k e) : PZ cn cl k (.ife c t e) := by
  intro X W st g h
  cases st with
  | If x a b p =>
    simp only [mS, Bool.and_eq_true] at h
    refine PS.imp (ps_if ((sX c).1 X W x g.toGood h.1.1).2 (ht X W a g h.1.2) (he X W b g h.2)) fun Dn σ H q => ?_
    obtain ⟨ρ, ε, S, rs, rp, q⟩ := q
    simp only [evS] at q
    refine ⟨ρ, ε, S, rs, rp, q.on rs rp fun l v H1 d S1 sx rs1 rp1 rv q1 => ?_⟩
    have e1 : v = d := rv
    subst e1
    cases v with
    | true => rw [if_pos rfl] at q1 ⊢; exact ⟨ρ.to l, ε, S1, rs1, rp1, q1⟩
    | false => rw [if_neg Bool.false_ne_true] at q1 ⊢; exact ⟨ρ.to l, ε, S1, rs1, rp1, q1⟩
  | _ => simp [mS] at h
end
end GG
namespace GG
open PySem PySem.Spec PyProof.Rows L2
section
variable {K : KW} {mg : Str → Option Value} {ρ : Fx} {H : Hp} {ε G : Env} {σ Γ : L2.St} {S : Sto}
/-- what the things kept aside own -/
def Gh (G : Env) (Γ : L2.St) : Addr → Prop := fun a => ∃ (i : Nat) (d : D), G[i]? = some (Sl.o d) ∧ Γ[i]? = some (some (V.ref a))
theorem avL {ys : List Nat} {a : Addr} (hl : ε.length = σ.length) (h : Av ε σ ys a) : Av (ε ++ G) (σ ++ Γ) ys a := by
  obtain ⟨i, d, n, e1, e2⟩ := h
  have h1 := (List.getElem?_eq_some_iff.mp e1).1
  exact ⟨i, d, n, by rw [List.getElem?_append_left h1]; exact e1, by rw [List.getElem?_append_left (by rw [← hl]; exact h1)]; exact e2⟩
theorem avR {ys : List Nat} {a : Addr} (hl : ε.length = σ.length) (hy : ∀ i ∈ ys, i < ε.length) (h : Gh G Γ a) : Av (ε ++ G) (σ ++ Γ) ys a := by
  obtain ⟨i, d, e1, e2⟩ := h
  refine ⟨ε.length + i, d, fun m => by have := hy _ m; omega, ?_, ?_⟩
  · rw [List.getElem?_append_right (by omega), Nat.add_sub_cancel_left]; exact e1
  · rw [List.getElem?_append_right (by omega), ← hl, Nat.add_sub_cancel_left]; exact e2
theorem avC {ys : List Nat} {a : Addr} (hl : ε.length = σ.length) (h : Av (ε ++ G) (σ ++ Γ) ys a) : Av ε σ ys a ∨ Gh G Γ a := by
  obtain ⟨i, d, n, e1, e2⟩ := h
  by_cases hi : i < ε.length
  · rw [List.getElem?_append_left hi] at e1
    rw [List.getElem?_append_left (by rw [← hl]; exact hi)] at e2
    exact .inl ⟨i, d, n, e1, e2⟩
  · rw [List.getElem?_append_right (by omega)] at e1
    rw [List.getElem?_append_right (by omega), ← hl] at e2
    exact .inr ⟨i - ε.length, d, e1, e2⟩
theorem RV.mono' {ρ1 ρ2 : Fx} (hn : ∀ a, ρ2.n a → ρ1.n a) {d : D} {v : V} (h : RV K ρ1 H d v) (hl : ρ1.l = ρ2.l := by rfl) : RV K ρ2 H d v := by
  obtain ⟨l1, n1⟩ := ρ1
  obtain ⟨l2, n2⟩ := ρ2
  cases hl
  exact RV.anti (ρ := ⟨l1, n1⟩) (n := n2) hn _ _ h
theorem RVs.mono' {ρ1 ρ2 : Fx} (hn : ∀ a, ρ2.n a → ρ1.n a) {d : List D} {v : List V} (h : RVs K ρ1 H d v) (hl : ρ1.l = ρ2.l := by rfl) : RVs K ρ2 H d v := by
  obtain ⟨l1, n1⟩ := ρ1
  obtain ⟨l2, n2⟩ := ρ2
  cases hl
  exact RVs.anti (ρ := ⟨l1, n1⟩) (n := n2) hn _ _ h
theorem RKV.mono' {ρ1 ρ2 : Fx} (hn : ∀ a, ρ2.n a → ρ1.n a) {d : List (Key × D)} {v : List (Key × V)} (h : RKV K ρ1 H d v) (hl : ρ1.l = ρ2.l := by rfl) : RKV K ρ2 H d v := by
  obtain ⟨l1, n1⟩ := ρ1
  obtain ⟨l2, n2⟩ := ρ2
  cases hl
  exact RKV.anti (ρ := ⟨l1, n1⟩) (n := n2) hn _ _ h
theorem Own.mono' {ρ1 ρ2 : Fx} (hn : ∀ a, ρ2.n a → ρ1.n a) {d : D} {a : Addr} (h : Own K ρ1 H d a) (hl : ρ1.l = ρ2.l := by rfl) : Own K ρ2 H d a := by
  unfold Own at h ⊢
  split at h
  · obtain ⟨vs, z, e, n1, n2, r⟩ := h
    exact ⟨vs, z, e, by rw [← hl]; exact n1, fun z => n2 (hn a z), r.mono' (ρ1 := ρ1.plus (· = a)) (ρ2 := ρ2.plus (· = a)) (fun b z => z.imp (hn b) id) hl⟩
  · obtain ⟨vs, e, n1, n2, r⟩ := h
    exact ⟨vs, e, by rw [← hl]; exact n1, fun z => n2 (hn a z), r.mono' (ρ1 := ρ1.plus (· = a)) (ρ2 := ρ2.plus (· = a)) (fun b z => z.imp (hn b) id) hl⟩
  · exact h
theorem Own.still' {ρ1 ρ2 : Fx} {d : D} {a : Addr} (st : d.still1 = true) (nm : ¬ ρ2.n a) (h : Own K ρ1 H d a) (hl : ρ1.l = ρ2.l := by rfl) : Own K ρ2 H d a := by
  obtain ⟨l1, n1⟩ := ρ1
  obtain ⟨l2, n2⟩ := ρ2
  cases hl
  unfold Own at h ⊢
  split at h
  · obtain ⟨vs, z, e, q1, _, r⟩ := h
    exact ⟨vs, z, e, q1, nm, RVs.still (ρ := (⟨l1, n1⟩ : Fx).plus (· = a)) (n := ((⟨l1, n2⟩ : Fx).plus (· = a)).n) _ _ st r⟩
  · obtain ⟨vs, e, q1, _, r⟩ := h
    exact ⟨vs, e, q1, nm, RKV.still (ρ := (⟨l1, n1⟩ : Fx).plus (· = a)) (n := ((⟨l1, n2⟩ : Fx).plus (· = a)).n) _ _ st r⟩
  · exact h
theorem RV.still' {ρ1 ρ2 : Fx} {d : D} {v : V} (st : d.still = true) (h : RV K ρ1 H d v) (hl : ρ1.l = ρ2.l := by rfl) : RV K ρ2 H d v := by
  obtain ⟨l1, n1⟩ := ρ1
  obtain ⟨l2, n2⟩ := ρ2
  cases hl
  exact RV.still (ρ := ⟨l1, n1⟩) (n := n2) _ _ st h
theorem Rs.left (h : Rs K ρ H (ε ++ G) (σ ++ Γ)) (hl : ε.length = σ.length) : Rs K (ρ.plus (Gh G Γ)) H ε σ := by
  refine ⟨hl, fun i d e => ?_, fun i d e => ?_⟩
  · have hi := (List.getElem?_eq_some_iff.mp e).1
    obtain ⟨v, e1, r⟩ := h.val i d (by rw [List.getElem?_append_left hi]; exact e)
    refine ⟨v, by rw [List.getElem?_append_left (by rw [← hl]; exact hi)] at e1; exact e1, r.mono' fun a z => ?_⟩
    rcases z with (z | z) | z
    · exact .inl z
    · exact .inr (avR hl (fun i m => by cases m) z)
    · exact .inr (avL hl z)
  · have hi := (List.getElem?_eq_some_iff.mp e).1
    obtain ⟨a, e1, o⟩ := h.own i d (by rw [List.getElem?_append_left hi]; exact e)
    refine ⟨a, by rw [List.getElem?_append_left (by rw [← hl]; exact hi)] at e1; exact e1, o.mono' fun a z => ?_⟩
    rcases z with (z | z) | z
    · exact .inl z
    · exact .inr (avR hl (fun j m => by rw [List.mem_singleton.mp m]; exact hi) z)
    · exact .inr (avL hl z)
theorem fz_pre (xs : List Nat) (ε G : Env) : fz (xs.filter (· < ε.length)) (ε ++ G) = fz xs ε ++ G := by
  apply List.ext_getElem?
  intro i
  rw [fz_get]
  by_cases hi : i < ε.length
  · rw [List.getElem?_append_left hi, List.getElem?_append_left (by rw [fz_len]; exact hi), fz_get]
    cases ε[i]? with
    | none => rfl
    | some s => simp [hi]
  · rw [List.getElem?_append_right (by omega), List.getElem?_append_right (by rw [fz_len]; omega), fz_len]
    cases G[i - ε.length]? with
    | none => rfl
    | some s => simp [hi]
theorem Rs.snocU (h : Rs K ρ H ε σ) : Rs K ρ H (ε ++ [Sl.u]) (σ ++ [(none : Option V)]) := by
  have av : ∀ ys a, Av (ε ++ [Sl.u]) (σ ++ [(none : Option V)]) ys a → Av ε σ ys a := fun ys a z => by
    rcases avC h.len z with z | ⟨i, d, e1, e2⟩
    · exact z
    · cases i with
      | zero => simp at e1
      | succ i => simp at e1
  refine ⟨by simp [h.len], fun i d e => ?_, fun i d e => ?_⟩
  · by_cases hi : i < ε.length
    · rw [List.getElem?_append_left hi] at e
      obtain ⟨v, e1, r⟩ := h.val i d e
      exact ⟨v, by rw [List.getElem?_append_left (by rw [← h.len]; exact hi)]; exact e1, r.mono' fun a z => by exact Or.imp id (av _ a) z⟩
    · rw [List.getElem?_append_right (by omega)] at e
      cases hk : i - ε.length with
      | zero => rw [hk] at e; simp at e
      | succ k => rw [hk] at e; simp at e
  · by_cases hi : i < ε.length
    · rw [List.getElem?_append_left hi] at e
      obtain ⟨v, e1, r⟩ := h.own i d e
      exact ⟨v, by rw [List.getElem?_append_left (by rw [← h.len]; exact hi)]; exact e1, r.mono' fun a z => by exact Or.imp id (av _ a) z⟩
    · rw [List.getElem?_append_right (by omega)] at e
      cases hk : i - ε.length with
      | zero => rw [hk] at e; simp at e
      | succ k => rw [hk] at e; simp at e
theorem av_snocU {ys : List Nat} {a : Addr} (hl : ε.length = σ.length) (z : Av (ε ++ [Sl.u]) (σ ++ [(none : Option V)]) ys a) : Av ε σ ys a := by
  rcases avC hl z with z | ⟨i, d, e1, e2⟩
  · exact z
  · cases i with
    | zero => simp at e1
    | succ i => simp at e1
theorem Rs.snocO {d : D} {a : Addr} (h : Rs K (ρ.plus (· = a)) H ε σ) (o : Own K (ρ.plus (Av ε σ [])) H d a) : Rs K ρ H (ε ++ [Sl.o d]) (σ ++ [some (V.ref a)]) := by
  have q := Rs.setO (i := ε.length) (d := d) h.snocU (by simp) (o.mono' fun b z => by exact Or.imp id (av_snocU h.len) z)
  have e1 : (ε ++ [Sl.u]).set ε.length (.o d) = ε ++ [Sl.o d] := by simp
  have e2 : (σ ++ [(none : Option V)]).set ε.length (some (.ref a)) = σ ++ [some (V.ref a)] := by rw [h.len]; simp
  rw [e1, e2] at q
  exact q
theorem Rs.snocV {d : D} {v : V} (h : Rs K ρ H ε σ) (r : RV K (ρ.plus (Av ε σ [])) H d v) : Rs K ρ H (ε ++ [Sl.v d]) (σ ++ [some v]) := by
  have q := Rs.set (i := ε.length) (d := d) (v := v) h.snocU (by simp) (r.mono' fun b z => by exact Or.imp id (av_snocU h.len) z)
  have e1 : (ε ++ [Sl.u]).set ε.length (.v d) = ε ++ [Sl.v d] := by simp
  have e2 : (σ ++ [(none : Option V)]).set ε.length (some v) = σ ++ [some v] := by rw [h.len]; simp
  rw [e1, e2] at q
  exact q
/-- slots put elsewhere -/
theorem Rs.move {ε2 : Env} {σ2 : L2.St} (f : Nat → Nat) (hl : ε2.length = σ2.length) (hinj : ∀ i j, i < ε2.length → j < ε2.length → f i = f j → i = j) (he : ∀ i, i < ε2.length → ε2[i]? = ε[f i]? ∧ σ2[i]? = σ[f i]?) (h : Rs K ρ H ε σ) : Rs K ρ H ε2 σ2 := by
  have av : ∀ a, Av ε2 σ2 [] a → Av ε σ [] a := fun a ⟨i, d, _, e1, e2⟩ => by
    have hi := (List.getElem?_eq_some_iff.mp e1).1
    exact ⟨f i, d, (fun m => by cases m), by rw [← (he i hi).1]; exact e1, by rw [← (he i hi).2]; exact e2⟩
  refine ⟨hl, fun i d e => ?_, fun i d e => ?_⟩
  · have hi := (List.getElem?_eq_some_iff.mp e).1
    obtain ⟨v, e1, r⟩ := h.val (f i) d (by rw [← (he i hi).1]; exact e)
    exact ⟨v, by rw [(he i hi).2]; exact e1, r.mono' fun a z => by exact Or.imp id (av a) z⟩
  · have hi := (List.getElem?_eq_some_iff.mp e).1
    obtain ⟨v, e1, r⟩ := h.own (f i) d (by rw [← (he i hi).1]; exact e)
    refine ⟨v, by rw [(he i hi).2]; exact e1, r.mono' fun a z => Or.imp id (fun ⟨j, d2, n, e1, e2⟩ => ?_) z⟩
    have hj := (List.getElem?_eq_some_iff.mp e1).1
    exact ⟨f j, d2, fun m => n (by rw [hinj j i hj hi (List.mem_singleton.mp m)]; simp), by rw [← (he j hj).1]; exact e1, by rw [← (he j hj).2]; exact e2⟩
end
theorem Rs.low' {K : KW} {ρ : Fx} {H : Hp} {ε : Env} {σ : L2.St} {n : Addr → Prop} (h : Rs K (ρ.plus n) H ε σ) : Rs K ρ H ε σ := by
  refine ⟨h.len, fun i d e => ?_, fun i d e => ?_⟩
  · obtain ⟨v, e1, r⟩ := h.val i d e
    exact ⟨v, e1, r.mono' fun a z => by exact Or.imp .inl id z⟩
  · obtain ⟨v, e1, r⟩ := h.own i d e
    exact ⟨v, e1, r.mono' fun a z => by exact Or.imp .inl id z⟩
section
variable {cl : Nat → List D → Sto → Out D} {X : Cx} {W : WX}
def te (X : Cx) (W : WX) (cl : Nat → List D → Sto → Out D) (e : Ex) : TE := if fresh e = true then TFn (kw X) X.mg W (vs e) (evE cl e) else TF (kw X) X.mg W (vs e) (evE cl e)
def tPA (X : Cx) (W : WX) (cl : Nat → List D → Sto → Out D) : List Ex → TA
  | [] => tNil
  | e :: es => tCons (te X W cl e) (tPA X W cl es)
theorem gh_snoc {G : Env} {Γ : L2.St} {s : Sl} {o : Option V} {a : Addr} (hl : G.length = Γ.length) (h : Gh (G ++ [s]) (Γ ++ [o]) a) : Gh G Γ a ∨ ∃ d, s = .o d ∧ o = some (.ref a) := by
  obtain ⟨i, d, e1, e2⟩ := h
  by_cases hi : i < G.length
  · rw [List.getElem?_append_left hi] at e1
    rw [List.getElem?_append_left (by omega)] at e2
    exact .inl ⟨i, d, e1, e2⟩
  · rw [List.getElem?_append_right (by omega)] at e1
    rw [List.getElem?_append_right (by omega), ← hl] at e2
    cases hk : i - G.length with
    | zero => rw [hk] at e1 e2; simp at e1 e2; exact .inr ⟨d, e1, e2⟩
    | succ k => rw [hk] at e1; simp at e1
theorem par_run {ρ0 : Fx} {ε0 : Env} {σ : L2.St} {H0 : Hp} {Dn : Ends} (kk : Env → List Sl → Sto → OutS) : ∀ (es : List Ex) (l : List Addr) (ε G : Env) (Γ : L2.St) (S : Sto) (H : Hp) (Q : List V → Hp → Prop), Stp ρ0.l ε0 σ H0 l ε σ H → Rs (kw X) (ρ0.to l) H (ε ++ G) (σ ++ Γ) →
    ε.length = σ.length → Rp (ρ0.to l) S H → (∀ a, Gh G Γ a → H0 a = none) → PostS (kw X) X.mg W ρ0 ε0 σ H0 (evP cl es ε G S kk) Dn →
    (∀ vs l' ε' G' S' H', Stp ρ0.l ε0 σ H0 l' ε' σ H' → Rs (kw X) (ρ0.to l') H' (ε' ++ G') (σ ++ (Γ ++ vs.map some)) → ε'.length = σ.length → Rp (ρ0.to l') S' H' → (∀ a, Gh G' (Γ ++ vs.map some) a → H0 a = none) →
      PostS (kw X) X.mg W ρ0 ε0 σ H0 (kk ε' G' S') Dn → vs.length = es.length → Q vs H') → tPA X W cl es σ H Q
  | [], l, ε, G, Γ, S, H, Q, st, rs, hl, rp, gn, q, hQ => by
    show Q [] H
    refine hQ [] l ε G S H st ?_ hl rp ?_ q rfl
    · simpa using rs
    · simpa using gn
  | e :: es, l, ε, G, Γ, S, H, Q, st, rs, hl, rp, gn, q, hQ => by
    show te X W cl e σ H fun x H1 => tPA X W cl es σ H1 fun xs H2 => Q (x :: xs) H2
    have hlG : G.length = Γ.length := by
      have := rs.len
      simp only [List.length_append] at this
      omega
    have rsL := rs.left hl
    have rpg : Rp ((ρ0.to l).plus (Gh G Γ)) S H := Rp.w rp fun a z => z.elim (rp.dom a) fun z => rs.dom (avR (ys := []) hl (fun i m => by cases m) z)
    have nxt : ∀ (l1 : List Addr) (v : V) (H1 : Hp) (S1 : Sto) (ε2 : Env) (s : Sl), Sx l H l1 H1 → Rp (ρ0.to l1) S1 H1 → ε2.length = ε.length → (∀ b, Av ε2 σ [] b → Av ε σ [] b) → Rs (kw X) (ρ0.to l1) H1 (ε2 ++ (G ++ [s])) (σ ++ (Γ ++ [some v])) →
        (∀ d a, s = .o d → v = .ref a → H a = none) → PostS (kw X) X.mg W ρ0 ε0 σ H0 (evP cl es ε2 (G ++ [s]) S1 kk) Dn → tPA X W cl es σ H1 fun xs H2 => Q (v :: xs) H2 := by
      intro l1 v H1 S1 ε2 s sx rp1 hl2 av2 rs2 hn q2
      refine par_run kk es l1 ε2 (G ++ [s]) (Γ ++ [some v]) S1 H1 _ (st.trans (.of sx fun a z => .inl (av2 a z))) rs2 (by rw [hl2, hl]) rp1 (fun a z => ?_) q2 fun vs l' ε' G' S' H' a1 a2 a3 a4 a5 a6 a7 => ?_
      · rcases gh_snoc hlG z with z1 | ⟨d, hs, zz⟩
        · exact gn a z1
        · have := hn d a hs (Option.some.inj zz)
          cases q : H0 a with
          | none => rfl
          | some u => exact absurd this (st.dm a (by rw [q]; exact fun z => nomatch z))
      · refine hQ (v :: vs) l' ε' G' S' H' a1 ?_ a3 a4 ?_ a6 (by simp [a7])
        · simpa using a2
        · simpa using a5
    simp only [evP] at q
    by_cases hf : fresh e = true
    · unfold te
      rw [if_pos hf]
      refine ⟨(ρ0.to l).plus (Gh G Γ), ε, S, rsL, rpg, ?_⟩
      cases e0 : evE cl e ε S with
      | bad => rw [e0] at q; exact q.elim
      | exc c v S1 =>
        rw [e0] at q
        exact fun l1 H1 cls dd sx rp1 rx => q l1 H1 σ cls dd (st.trans (.of sx fun _ z => .inl z)) ⟨rp1.len, rp1.nd, rp1.obj, fun a z => rp1.dom a (.inl (.inl z))⟩ ((rsL.mono rpg sx).low' (ρ := ρ0.to l1)) (RX.anti (ρ := (((ρ0.to l).plus (Gh G Γ)).plus (Av ε σ (vs e))).to l1) (n := ρ0.n) (fun a z => .inl (.inl z)) rx)
      | ok d S1 =>
        rw [e0] at q
        simp only [Out.on, hf, if_true] at q
        intro l1 v H1 sx rp1 ra
        obtain ⟨a, rfl, h0, own⟩ := ra
        have rp2 : Rp (ρ0.to l1) S1 H1 := ⟨rp1.len, rp1.nd, rp1.obj, fun a z => rp1.dom a (.inl (.inl z))⟩
        have rsA : Rs (kw X) ((ρ0.to l1).plus (· = a)) H1 (ε ++ G) (σ ++ Γ) := Rs.gen (ρ := (ρ0.to l).plus (· = a)) (rs.plus (n := (· = a)) fun b z => by rw [z]; exact h0) (Kq.plus (Sx.kq (ρ := ρ0.to l) sx rp))
        have nA : ∀ xs, ¬ Av (ε ++ G) (σ ++ Γ) xs a := fun xs z => rs.dom z h0
        have nL : a ∉ l1 := by
          have := own
          unfold Own at this
          split at this
          · exact this.choose_spec.2.2.1
          · exact this.choose_spec.2.1
          · exact this.elim
        have nR : ¬ ρ0.n a := fun z => rp.dom a z h0
        have key : ∃ ε2, fzN e d ε = ε2 ∧ ε2.length = ε.length ∧ Rs (kw X) ((ρ0.to l1).plus (· = a)) H1 (ε2 ++ G) (σ ++ Γ) ∧ Own (kw X) ((ρ0.to l1).plus (Av (ε2 ++ G) (σ ++ Γ) [])) H1 d a ∧ ∀ b, Av ε2 σ [] b → Av ε σ [] b := by
          refine ⟨_, rfl, ?_⟩
          unfold fzN
          by_cases stl : d.still1 = true
          · rw [if_pos stl]
            exact ⟨rfl, rsA, own.still' stl (fun z => z.elim nR (nA [])), fun _ z => z⟩
          · rw [if_neg stl]
            refine ⟨fz_len _ _, ?_, own.mono' (fun b z => ?_), fun b z => Av.anti (fun j m => by cases m) b (Av.fz b z)⟩
            · rw [← fz_pre]; exact rsA.fz _
            · rcases z with z | z
              · exact .inl (.inl z)
              · rcases avC (by rw [fz_len]; exact hl) z with z | z
                · exact .inr (Av.anti (fun j m => List.mem_append_left _ m) b (Av.fz b z))
                · exact .inl (.inr z)
        obtain ⟨ε2, e2, hl2, rs2, own2, av2⟩ := key
        rw [e2] at q
        refine nxt l1 (.ref a) H1 S1 ε2 (.o d) sx rp2 hl2 av2 ?_ (fun d' a' _ z => by cases z; exact h0) q
        have := Rs.snocO rs2 own2
        simpa only [List.append_assoc] using this
    · unfold te
      rw [if_neg hf]
      refine ⟨(ρ0.to l).plus (Gh G Γ), ε, S, rsL, rpg, ?_⟩
      cases e0 : evE cl e ε S with
      | bad => rw [e0] at q; exact q.elim
      | exc c v S1 =>
        rw [e0] at q
        exact fun l1 H1 cls dd sx rp1 rx => q l1 H1 σ cls dd (st.trans (.of sx fun _ z => .inl z)) ⟨rp1.len, rp1.nd, rp1.obj, fun a z => rp1.dom a (.inl (.inl z))⟩ ((rsL.mono rpg sx).low' (ρ := ρ0.to l1)) (RX.anti (ρ := (((ρ0.to l).plus (Gh G Γ)).plus (Av ε σ (vs e))).to l1) (n := ρ0.n) (fun a z => .inl (.inl z)) rx)
      | ok d S1 =>
        rw [e0] at q
        simp only [Out.on, hf, if_false] at q
        intro l1 v H1 sx rp1 ra
        have rp2 : Rp (ρ0.to l1) S1 H1 := ⟨rp1.len, rp1.nd, rp1.obj, fun a z => rp1.dom a (.inl (.inl z))⟩
        have rsA : Rs (kw X) (ρ0.to l1) H1 (ε ++ G) (σ ++ Γ) := rs.mono rp sx
        have key : ∃ ε2, fzV e d ε = ε2 ∧ ε2.length = ε.length ∧ Rs (kw X) (ρ0.to l1) H1 (ε2 ++ G) (σ ++ Γ) ∧ RV (kw X) ((ρ0.to l1).plus (Av (ε2 ++ G) (σ ++ Γ) [])) H1 d v ∧ ∀ b, Av ε2 σ [] b → Av ε σ [] b := by
          refine ⟨_, rfl, ?_⟩
          unfold fzV
          by_cases stl : d.still = true
          · rw [if_pos stl]
            exact ⟨rfl, rsA, ra.still' stl, fun _ z => z⟩
          · rw [if_neg stl]
            refine ⟨fz_len _ _, ?_, ra.mono' (fun b z => ?_), fun b z => Av.anti (fun j m => by cases m) b (Av.fz b z)⟩
            · rw [← fz_pre]; exact rsA.fz _
            · rcases z with z | z
              · exact .inl (.inl z)
              · rcases avC (by rw [fz_len]; exact hl) z with z | z
                · exact .inr (Av.anti (fun j m => List.mem_append_left _ m) b (Av.fz b z))
                · exact .inl (.inr z)
        obtain ⟨ε2, e2, hl2, rs2, rv2, av2⟩ := key
        rw [e2] at q
        refine nxt l1 v H1 S1 ε2 (.v d) sx rp2 hl2 av2 ?_ (fun d' a' z => by cases z) q
        have := Rs.snocV rs2 rv2
        simpa only [List.append_assoc] using this
end
theorem av_move {ε ε2 : Env} {σ σ2 : L2.St} {a : Addr} (f : Nat → Nat) (he : ∀ i, i < ε2.length → ε2[i]? = ε[f i]? ∧ σ2[i]? = σ[f i]?) : Av ε2 σ2 [] a → Av ε σ [] a := fun ⟨i, d, _, e1, e2⟩ => by
  have hi := (List.getElem?_eq_some_iff.mp e1).1
  exact ⟨f i, d, (fun m => by cases m), by rw [← (he i hi).1]; exact e1, by rw [← (he i hi).2]; exact e2⟩
theorem sw_three {x y z : Str} {px py pz pt p2 : Pos} {kt k2 : Nat} {a b c : Expr} {env : PySem.Env} (hk : env.scope.kind = .function) (hx : env.scope.names.lookup x = some .local) (hy : env.scope.names.lookup y = some .local) (hzz : env.scope.names.lookup z = some .local) (hne : x ≠ y) (hne2 : x ≠ z) (hne3 : y ≠ z)
    (hl : (py.line == px.line) = true) (hl2 : (pz.line == px.line) = true) (ha : noStar a = true) (hb : noStar b = true) (hc : noStar c = true) (h1 : (foldedForSure 8 a && foldedForSure 8 b && foldedForSure 8 c) = false) (h2 : (constantsAlone 8 a && constantsAlone 8 b && constantsAlone 8 c) = false) :
    swappedStores [.Tuple [.Name x px, .Name y py, .Name z pz] kt pt] (.Tuple [a, b, c] k2 p2) env = pure (some [x, y, z]) := by
  have kx : env.kindOf x = some .local := hx
  have ky : env.kindOf y = some .local := hy
  have kz : env.kindOf z = some .local := hzz
  have hb' : env.blockKind = .function := blockK hk
  have sa : ∀ {e : Expr}, noStar e = true → (match e with | .Starred .. => true | _ => false) = false := fun {e} h => by
    cases e <;> first | rfl | (simp [noStar] at h)
  have st : ([a, b, c].any fun | .Starred .. => true | _ => false) = false := by
    simp only [List.any_cons, List.any_nil, Bool.or_false, Bool.or_eq_false_iff]
    exact ⟨sa ha, sa hb, sa hc⟩
  have hl' : py.line = px.line := eq_of_beq hl
  have hl2' : pz.line = px.line := eq_of_beq hl2
  have hd : ([x, y, z].eraseDups.length != [x, y, z].length) = false := by
    have q1 : (y == x) = false := beq_eq_false_iff_ne.mpr (Ne.symm hne)
    have q2 : (z == x) = false := beq_eq_false_iff_ne.mpr (Ne.symm hne2)
    have q3 : (z == y) = false := beq_eq_false_iff_ne.mpr (Ne.symm hne3)
    simp [List.eraseDups_cons, q1, q2, q3]
  unfold swappedStores
  simp only [hb']
  refine Eq.trans (if_neg fun q => ?_) ?_
  · have q' : (false : Bool) = true := q
    cases q'
  refine Eq.trans (if_neg fun q => ?_) ?_
  · exact Bool.noConfusion (st.symm.trans q)
  have hn : ([Expr.Name x px, Expr.Name y py, Expr.Name z pz].filterMap fun | .Name id pos => if (env.kindOf id == some .local && pos.line == px.line) = true then some id else none | _ => none) = [x, y, z] := by
    simp [List.filterMap_cons, kx, ky, kz, hl', hl2']
  generalize hz : List.filterMap _ _ = w
  have hz' : w = [x, y, z] := hz.symm.trans hn
  subst hz'
  refine Eq.trans (if_neg fun q => ?_) ?_
  · rw [Bool.or_eq_true] at q
    rcases q with q | q
    · have q' : (false : Bool) = true := q
      cases q'
    · rw [hd] at q; cases q
  refine Eq.trans (if_neg fun q => ?_) ?_
  · simp only [List.all_cons, List.all_nil, Bool.and_true, ← Bool.and_assoc, h1] at q
    cases q
  refine Eq.trans (if_neg fun q => ?_) ?_
  · simp only [List.all_cons, List.all_nil, Bool.and_true, ← Bool.and_assoc, h2] at q
    cases q
  rfl
section
variable {cn : Cn} {cl : Nat → List D → Sto → Out D} {k : Nat}
theorem pa_tPA {X : Cx} {W : WX} (g : Good cn cl k W X) : ∀ (es : List Ex) (ws : List Expr), mEs cn es X.env.scope ws = true → PA X ws (tPA X W cl es)
  | [], ws, h => by
    cases ws with
    | nil => exact pa_nil
    | cons e es => simp [mEs] at h
  | a :: r, ws, h => by
    cases ws with
    | nil => simp [mEs] at h
    | cons e es =>
      simp only [mEs, Bool.and_eq_true] at h
      refine pa_cons ?_ (pa_tPA g r es h.2) (star_cons h.1.2)
      unfold te
      by_cases hf : fresh a = true
      · rw [if_pos hf]; exact sN hf X W e g h.1.1
      · rw [if_neg hf]; exact ((sX a).1 X W e g h.1.1).1
theorem pars_end {X : Cx} {W : WX} {is : List Nat} {es : List Ex} {Dn : Ends} {σ : L2.St} {H : Hp} (q : TFS (kw X) X.mg W (evS cl (.pars is es)) Dn σ H) (Q : List V → Hp → Prop) (P : List V → L2.St) (hQ : ∀ vs H1, vs.length = es.length → Dn.nx (P vs) H1 → Q vs H1) (fm : Nat → Nat → Nat)
    (mv : ∀ (ε G : Env) (vs : List V), ε.length = σ.length → G.length = vs.length → vs.length = es.length → is.all (· < ε.length) = true → (setAll is G ε).length = (P vs).length ∧ (∀ i j, i < (setAll is G ε).length → j < (setAll is G ε).length → fm ε.length i = fm ε.length j → i = j) ∧
      ∀ i, i < (setAll is G ε).length → (setAll is G ε)[i]? = (ε ++ G)[fm ε.length i]? ∧ (P vs)[i]? = (σ ++ vs.map some)[fm ε.length i]?) :
    tPA X W cl es σ H Q := by
  obtain ⟨ρ, ε, S, rs, rp, q⟩ := q
  simp only [evS] at q
  refine par_run _ es ρ.l ε [] [] S H _ (ρ0 := ρ) .refl (by simpa using (show Rs (kw X) (ρ.to ρ.l) H ε σ from rs)) rs.len rp (fun a ⟨i, d, e, _⟩ => by simp at e) q fun vs l' ε' G' S' H' a1 a2 a3 a4 a5 a6 a7 => hQ vs H' a7 ?_
  split at a6
  · rename_i hall
    rw [List.nil_append] at a2 a5
    have hG : G'.length = vs.length := by
      have := a2.len
      simp only [List.length_append, List.length_map] at this
      omega
    obtain ⟨m1, m2, m3⟩ := mv ε' G' vs a3 hG a7 hall
    refine a6 l' H' a4 (P vs) ⟨a1.pre, a1.kp, a1.nw, a1.dm, fun a z => ?_⟩ (Rs.move (fm ε'.length) m1 m2 m3 a2)
    rcases avC a3 (av_move (fm ε'.length) m3 z) with z | z
    · exact a1.ow a z
    · exact .inr (a5 a z)
  · exact a6.elim
theorem pz_pars (is : List Nat) (es : List Ex) : PZ cn cl k (.pars is es) := by
  intro X W st g h
  simp only [mS] at h
  split at h
  · rename_i x px y py kt pt l r k2 p2 pos
    split at h
    · rename_i i j
      simp only [Bool.and_eq_true, decide_eq_true_eq, Bool.not_eq_true'] at h
      obtain ⟨⟨⟨⟨⟨⟨⟨⟨⟨h1, h2⟩, h3⟩, h4⟩, h5⟩, h6⟩, h7⟩, h8⟩, h9⟩, h10⟩ := h
      have hst := mEs_stars h8
      simp only [noStars, Bool.and_eq_true] at hst
      have hlen := mEs_len h8
      refine PS.imp (ps_par g.calm g.nd (by rw [g.nN]; exact h1) (by rw [g.nN]; exact h2) h3 h5 h6 (pa_tPA g.toGood es _ h8) (sw_two g.kind h5 h6 h4 h7 hst.1 hst.2.1 h9 h10) rfl) fun Dn σ H q => ?_
      exact pars_end q _ (fun vs => (σ.set i (some (vs.getD 0 .non))).set j (some (vs.getD 1 .non))) (fun vs H1 e q => by
        have e5 : vs.length = 2 := by rw [e, hlen]; rfl
        match vs, e5, q with
        | [v, w], _, q => exact ⟨v, w, rfl, q⟩) (fun n m => if m = j then n + 1 else if m = i then n else m) (fun ε G vs e1 e2 e3 e4 => by
        have e5 : vs.length = 2 := by rw [e3, hlen]; rfl
        match vs, e5, G, e2 with
        | [v, w], _, [s1, s2], _ =>
          simp only [List.all_cons, List.all_nil, Bool.and_true, Bool.and_eq_true, decide_eq_true_eq] at e4
          refine ⟨by simp [setAll, e1], fun a b ha hb e => ?_, fun a ha => ?_⟩
          · simp only [setAll, List.length_set] at ha hb
            split at e <;> split at e <;> (try split at e) <;> (try split at e) <;> omega
          · simp only [setAll, List.length_set] at ha
            simp only [setAll]
            by_cases ej : a = j
            · subst ej
              simp [e1 ▸ ha, ha, ← e1]
            · by_cases ei : a = i
              · subst ei
                simp [ej, Ne.symm ej, ha, ← e1]
              · simp [ej, ei, Ne.symm ej, Ne.symm ei, List.getElem?_append_left ha, List.getElem?_append_left (e1 ▸ ha)])
    · cases h
  · rename_i x px y py z pz kt pt l r u k2 p2 pos
    split at h
    · rename_i i j m
      simp only [Bool.and_eq_true, decide_eq_true_eq, Bool.not_eq_true'] at h
      obtain ⟨⟨⟨⟨⟨⟨⟨⟨⟨⟨⟨⟨⟨⟨⟨⟨h1, h2⟩, h3⟩, hij⟩, him⟩, hjm⟩, hxy⟩, hxz⟩, hyz⟩, hx⟩, hy⟩, hz⟩, hl1⟩, hl2⟩, h8⟩, h9⟩, h10⟩ := h
      have hst := mEs_stars h8
      simp only [noStars, Bool.and_eq_true] at hst
      have hlen := mEs_len h8
      refine PS.imp (ps_par3 g.calm g.nd (by rw [g.nN]; exact h1) (by rw [g.nN]; exact h2) (by rw [g.nN]; exact h3) hij him hjm hx hy hz (pa_tPA g.toGood es _ h8) (sw_three g.kind hx hy hz hxy hxz hyz hl1 hl2 hst.1 hst.2.1 hst.2.2.1 h9 h10) rfl) fun Dn σ H q => ?_
      exact pars_end q _ (fun vs => ((σ.set i (some (vs.getD 0 .non))).set j (some (vs.getD 1 .non))).set m (some (vs.getD 2 .non))) (fun vs H1 e q => by
        have e5 : vs.length = 3 := by rw [e, hlen]; rfl
        match vs, e5, q with
        | [v, w, w2], _, q => exact ⟨v, w, w2, rfl, q⟩) (fun n a => if a = m then n + 2 else if a = j then n + 1 else if a = i then n else a) (fun ε G vs e1 e2 e3 e4 => by
        have e5 : vs.length = 3 := by rw [e3, hlen]; rfl
        match vs, e5, G, e2 with
        | [v, w, w2], _, [s1, s2, s3], _ =>
          simp only [List.all_cons, List.all_nil, Bool.and_true, Bool.and_eq_true, decide_eq_true_eq] at e4
          refine ⟨by simp [setAll, e1], fun a b ha hb e => ?_, fun a ha => ?_⟩
          · simp only [setAll, List.length_set] at ha hb
            split at e <;> split at e <;> (try split at e) <;> (try split at e) <;> (try split at e) <;> (try split at e) <;> omega
          · simp only [setAll, List.length_set] at ha
            simp only [setAll]
            by_cases em : a = m
            · subst em
              simp [e1 ▸ ha, ha, ← e1]
            · by_cases ej : a = j
              · subst ej
                simp [em, Ne.symm em, e1 ▸ ha, ha, ← e1]
              · by_cases ei : a = i
                · subst ei
                  simp [em, Ne.symm em, ej, Ne.symm ej, ha, ← e1]
                · simp [em, Ne.symm em, ej, ei, Ne.symm ej, Ne.symm ei, List.getElem?_append_left ha, List.getElem?_append_left (e1 ▸ ha)])
    · cases h
  · cases h
end
end GG
namespace GG
open PySem PySem.Spec PyProof.Rows L2
section
variable {K : KW} {ρ : Fx} {H H' : Hp} {ε ε' : Env} {σ σ' : L2.St} {S : Sto} {l : List Addr}
theorem Own.not {d : D} {a : Addr} (h : Own K ρ H d a) : (∀ xs, H a ≠ some (.tup xs)) ∧ ∀ o u, H a ≠ some (.frz o u) := by
  unfold Own at h
  split at h
  · obtain ⟨vs, _, e, _⟩ := h; rw [e]; exact ⟨fun _ z => (by cases z), fun _ _ z => (by cases z)⟩
  · obtain ⟨vs, e, _⟩ := h; rw [e]; exact ⟨fun _ z => (by cases z), fun _ _ z => (by cases z)⟩
  · exact h.elim
theorem Stp.kq (rs : Rs K ρ H ε σ) (rp : Rp ρ S H) (s : Stp ρ.l ε σ H l ε' σ' H') : Kq (ρ.plus (Av ε σ [])) H l H' := by
  have no : ∀ b, Av ε σ [] b → (∀ xs, H b ≠ some (.tup xs)) ∧ ∀ o u, H b ≠ some (.frz o u) := fun b ⟨i, d, _, e1, e2⟩ => by
    obtain ⟨a, e3, o⟩ := rs.own i d e1
    rw [e2] at e3; cases e3
    exact o.not
  have out : ∀ b u, H b = some u → b ∉ ρ.l → b ∉ l := fun b u e n m => by
    have := s.nw b m n; rw [e] at this; cases this
  refine ⟨s.pre, fun b xs e => ?_, fun b o u e => ?_, fun b u e n1 n2 => ⟨s.kp b u e n1 fun z => n2 (.inr z), out b u e n1⟩⟩
  · exact s.kp b _ e (rp.tup_out e fun _ _ _ z => nomatch z) fun z => (no b z).1 xs e
  · exact s.kp b _ e (rp.tup_out e fun _ _ _ z => nomatch z) fun z => (no b z).2 o u e
end
section
variable {cn : Cn} {cl : Nat → List D → Sto → Out D} {k : Nat}
theorem for_tail {X : Cx} {W : WX} (g : GoodS cn cl k W X) {tg : Tg} {b : List Sm} {ρ : Fx} {l1 : List Addr} {εa : Env} {σ : L2.St} {H1 : Hp} {S1 : Sto} {J : It} {ds : List D} {Dn : Ends} (rsa : Rs (kw X) (ρ.to l1) H1 εa σ) (rp1 : Rp (ρ.to l1) S1 H1)
    (wka : Wk (kw X) ((ρ.to l1).plus (Av εa σ [])) H1 ds J) (q1 : PostS (kw X) X.mg W (ρ.to l1) εa σ H1 (forLoop (tgS tg) (evSs cl b) ds εa S1) Dn) :
    ∃ Wi : Nat → Nat → L2.St → Hp → Prop, (∃ m, Wi 0 m σ H1) ∧ ∀ i m σ H, Wi i m σ H → (J.stop i H ∧ Dn.nx σ H) ∨ (J.go i H ∧ ∃ N : L2.St → Hp → Prop, (∀ σ' H', N σ' H' → ∃ m', m' < m ∧ Wi (i + 1) m' σ' H') ∧
      ∀ x H', J.yld i H x H' → gOf X.K tg x σ H' fun σ2 H2 => TFS (kw X) X.mg W (evSs cl b) { Dn with nx := N, ct := N, bk := Dn.nx } σ2 H2) := by
  let Iv : Nat → Nat → L2.St → Hp → Prop := fun i m σ2 H2 => m = ds.length - i ∧ i ≤ ds.length ∧ ∃ l ε2 S2, Stp l1 εa σ H1 l ε2 σ2 H2 ∧ Rs (kw X) ((ρ.to l1).to l) H2 ε2 σ2 ∧ Rp ((ρ.to l1).to l) S2 H2 ∧
    PostS (kw X) X.mg W ((ρ.to l1).to l) ε2 σ2 H2 (forLoop (tgS tg) (evSs cl b) (ds.drop i) ε2 S2) Dn
  refine ⟨Iv, ⟨ds.length, by simp, Nat.zero_le _, l1, εa, S1, .refl, rsa, rp1, q1⟩, ?_⟩
  rintro i m σ2 H2 ⟨rfl, hle, l, ε2, S2, st2, rs2, rp2, q2⟩
  have kq : Kq ((ρ.to l1).plus (Av εa σ [])) H1 l H2 := Stp.kq rsa rp1 st2
  by_cases hlt : i < ds.length
  · have ed : ds[i]? = some ds[i] := List.getElem?_eq_getElem hlt
    rw [List.drop_eq_getElem_cons hlt] at q2
    simp only [forLoop] at q2
    split at q2
    · exact q2.elim
    · rename_i ε3 et
      refine .inr ⟨wka.go l H2 i _ kq ed, fun σ' H' => Iv (i + 1) (ds.length - (i + 1)) σ' H', fun σ' H' h' => ⟨ds.length - (i + 1), by omega, h'⟩, fun y H3 hy => ?_⟩
      obtain ⟨gw, rv3⟩ := wka.yld l H2 i _ y H3 kq ed hy
      have rs3 : Rs (kw X) ((ρ.to l1).to l) H3 ε2 σ2 := rs2.mono rp2 gw.sx
      have rv4 : RV (kw X) (((ρ.to l1).to l).plus fun a => Av εa σ [] a ∨ H1 a = none) H3 ds[i] y :=
        RV.anti (ρ := ((((ρ.to l1).plus (Av εa σ [])).nw H1).to l)) (n := (((ρ.to l1).to l).plus fun a => Av εa σ [] a ∨ H1 a = none).n) (fun a z => by
          rcases z with z | z | z
          · exact .inl (.inl z)
          · exact .inl (.inr z)
          · exact .inr z) _ _ rv3
      refine tg_ok tg _ y ε2 ε3 σ2 _ et rv4 (fun a z => st2.ow a z) rs3 fun σ3 rs4 av4 _ => ?_
      have st3 : Stp l ε2 σ2 H2 l ε3 σ3 H3 := .of gw.sx fun a z => .inl (av4 a z)
      refine ⟨(ρ.to l1).to l, ε3, S2, rs4, rp2.gw gw, ?_⟩
      have q3 := q2.weak st3
      have st13 := st2.trans st3
      cases eb : evSs cl b ε3 S2 with
      | bad => rw [eb] at q3; exact q3
      | exc c v ε4 S4 => rw [eb] at q3; exact q3
      | ok f S4 =>
        rw [eb] at q3
        cases f with
        | nx ε4 => exact fun l4 H4 rp4 σ4 st4 rs4 => ⟨rfl, hlt, l4, ε4, S4, st13.trans st4, rs4, rp4, PostS.weak (ρ := (ρ.to l1).to l) st4 q3⟩
        | ct ε4 => exact fun l4 H4 rp4 σ4 st4 rs4 => ⟨rfl, hlt, l4, ε4, S4, st13.trans st4, rs4, rp4, PostS.weak (ρ := (ρ.to l1).to l) st4 q3⟩
        | bk ε4 => exact q3
        | rt d => exact q3
  · have hii : i = ds.length := by omega
    subst hii
    rw [List.drop_length] at q2
    simp only [forLoop] at q2
    exact .inl ⟨wka.stop l H2 kq, q2.nxt rp2 (fun _ z => z) rs2⟩
theorem pz_for (tg : Tg) (it : Ex) {b : List Sm} (hb : PZs cn cl k b) : PZ cn cl k (.for_ tg it b) := by
  intro X W st g h
  simp only [mS] at h
  split at h
  · rename_i t x a p
    simp only [Bool.and_eq_true, Bool.not_eq_true'] at h
    obtain ⟨⟨⟨⟨h1, h2⟩, h3⟩, h4⟩, h5⟩ := h
    have hg := pg_of g.nN g.nd g.calm (loc_of g) tg t h1
    refine PS.imp (ps_for g.po g.calm ((sX it).2 X W x t g.toGood h2) hg (hb X W a g h4) (noSet_fold h3)) fun Dn σ H q => ?_
    obtain ⟨ρ, ε, S, rs, rp, q⟩ := q
    simp only [evS] at q
    refine ⟨ρ, ε, S, rs, rp, q.on rs rp fun l1 jh H1 p S1 sx1 rs1 rp1 wk q1 => ?_⟩
    rcases wk with ⟨e, wk⟩ | ⟨_, _, _, lk, _⟩
    · rw [e]
      have key : ∃ εa, (if p.2 = true then ε else fz (vs it) ε) = εa ∧ Rs (kw X) (ρ.to l1) H1 εa σ ∧ (∀ a, Av εa σ [] a → Av ε σ [] a) ∧ Wk (kw X) ((ρ.to l1).plus (Av εa σ [])) H1 p.1 jh.1 := by
        refine ⟨_, rfl, ?_⟩
        by_cases hp : p.2 = true
        · rw [if_pos hp]
          exact ⟨rs1, fun _ z => z, wk.2 hp ((ρ.to l1).plus (Av ε σ [])).n⟩
        · rw [if_neg hp]
          exact ⟨rs1.fz _, fun a z => Av.anti (fun j m => by cases m) a (Av.fz a z), wk.1.anti fun a z => Av.anti (fun j m => List.mem_append_left _ m) a (Av.fz a z)⟩
      obtain ⟨εa, ea, rsa, ava, wka⟩ := key
      rw [ea] at q1
      exact for_tail (ρ := ρ) g rsa rp1 wka (PostS.weak (ρ := ρ.to l1) (.of .refl fun a z => .inl (ava a z)) q1)
    · rw [h5] at lk; cases lk
  · cases h
theorem Stp.unl {l l' : List Addr} {ε ε' : Env} {σ σ' : L2.St} {H H' : Hp} {d : Addr} {ws : List (Key × V)} {o : Obj} (hd : H d = some (.dK ws)) (nl : d ∉ l) (na : ¬ Av ε σ [] d) (s : Stp l ε σ (upd H d (.frz o (.dK ws))) l' ε' σ' H') :
    H' d = some (.frz o (.dK ws)) ∧ ¬ Av ε' σ' [] d ∧ Stp l ε σ H l' ε' σ' (upd H' d (.dK ws)) := by
  have e0 : H' d = some (.frz o (.dK ws)) := s.kp d _ upd_same nl na
  refine ⟨e0, fun z => ?_, s.pre, fun b u e n m => ?_, fun b m n => ?_, fun b e => ?_, fun a z => ?_⟩
  · rcases s.ow d z with z | z
    · exact na z
    · rw [upd_same] at z; cases z
  · by_cases hb : b = d
    · subst hb; rw [hd] at e; cases e; exact upd_same
    · rw [upd_ne hb]; exact s.kp b u (by rw [upd_ne hb]; exact e) n m
  · have := s.nw b m n
    by_cases hb : b = d
    · subst hb; rw [upd_same] at this; cases this
    · rw [upd_ne hb] at this; exact this
  · by_cases hb : b = d
    · subst hb; rw [upd_same]; exact fun z => nomatch z
    · rw [upd_ne hb]; exact s.dm b (by rw [upd_ne hb]; exact e)
  · rcases s.ow a z with z | z
    · exact .inl z
    · by_cases hb : a = d
      · subst hb; rw [upd_same] at z; cases z
      · rw [upd_ne hb] at z; exact .inr z
def UnlE (H0 : Hp) (D : Ends) : Ends := ⟨fun σ' H' => Unl H0 (D.nx σ') H', fun v H' => Unl H0 (D.rt v) H', fun σ' H' => Unl H0 (D.bk σ') H', fun σ' H' => Unl H0 (D.ct σ') H'⟩
theorem PostS.lock {K : KW} {mg : Str → Option Value} {W : WX} {ρ : Fx} {ε : Env} {σ : L2.St} {H H0 : Hp} {d : Addr} {ws : List (Key × V)} {o : Obj} {r : OutS} {Dn : Ends} (hd : H d = some (.dK ws)) (nl : d ∉ ρ.l) (na : ¬ Av ε σ [] d) (nf : NF H0 d)
    (h : PostS K mg W ρ ε σ H (noXS r) Dn) : PostS K mg W ρ ε σ (upd H d (.frz o (.dK ws))) r (UnlE H0 Dn) := by
  have sw := fun {ε' : Env} {σ' : L2.St} {l : List Addr} {H' : Hp} (n : ¬ Av ε' σ' [] d) (e0 : H' d = some (.frz o (.dK ws))) (q : Rs K (ρ.to l) H' ε' σ') => Rs.sw (Sw.unlock e0) n q
  cases r with
  | ok f S =>
    intro l H' rp
    cases f with
    | nx ε' => exact fun σ' st rs => let ⟨e0, n, st'⟩ := st.unl hd nl na; .inr ⟨d, o, ws, nf, e0, h l _ (Rp.sw (Sw.unlock e0) rp) σ' st' (sw n e0 rs)⟩
    | rt x => exact fun v st rv => let ⟨e0, n, st'⟩ := st.unl hd nl na; .inr ⟨d, o, ws, nf, e0, h l _ (Rp.sw (Sw.unlock e0) rp) v st' (RV.sw (Sw.unlock e0) _ _ rv)⟩
    | bk ε' => exact fun σ' st rs => let ⟨e0, n, st'⟩ := st.unl hd nl na; .inr ⟨d, o, ws, nf, e0, h l _ (Rp.sw (Sw.unlock e0) rp) σ' st' (sw n e0 rs)⟩
    | ct ε' => exact fun σ' st rs => let ⟨e0, n, st'⟩ := st.unl hd nl na; .inr ⟨d, o, ws, nf, e0, h l _ (Rp.sw (Sw.unlock e0) rp) σ' st' (sw n e0 rs)⟩
  | exc c v ε' S => exact h.elim
  | bad => exact h
theorem PostS.unlk {K : KW} {mg : Str → Option Value} {W : WX} {ρ : Fx} {ε : Env} {σ : L2.St} {H H0 : Hp} {r : OutS} {Dn : Ends} (h : PostS K mg W ρ ε σ H (noXS r) Dn) : PostS K mg W ρ ε σ H r (UnlE H0 Dn) := by
  cases r with
  | ok f S =>
    intro l H' rp
    cases f with
    | nx ε' => exact fun σ' st rs => .inl (h l H' rp σ' st rs)
    | rt x => exact fun v st rv => .inl (h l H' rp v st rv)
    | bk ε' => exact fun σ' st rs => .inl (h l H' rp σ' st rs)
    | ct ε' => exact fun σ' st rs => .inl (h l H' rp σ' st rs)
  | exc c v ε' S => exact h.elim
  | bad => exact h
theorem pz_forD (tg : Tg) (dk : Dk) (e : Ex) {b : List Sm} (hb : PZs cn cl k b) : PZ cn cl k (.forD tg dk e b) := by
  intro X W st g h
  simp only [mS] at h
  split at h
  · rename_i t x a p
    simp only [Bool.and_eq_true] at h
    obtain ⟨⟨⟨h1, h2⟩, h3⟩, h4⟩ := h
    have hg := pg_of g.nN g.nd g.calm (loc_of g) tg t h1
    refine PS.imp (ps_unl (ps_for g.po g.calm ((sX (.dk dk e)).2 X W x t g.toGood h2) hg (hb X W a g h4) (noSet_fold h3))) fun Dn σ H q => ?_
    obtain ⟨ρ, ε, S, rs, rp, q⟩ := q
    simp only [evS] at q
    have evv : vs (.dk dk e) = vs e := by simp only [vs]
    refine ⟨ρ, ε, S, rs, rp, q.on rs rp fun l1 jh H1 p S1 sx1 rs1 rp1 wk q1 => ?_⟩
    have ava : ∀ a, Av (fz (vs e) ε) σ [] a → Av ε σ [] a := fun a z => Av.anti (fun j m => by cases m) a (Av.fz a z)
    have avv : ∀ a, Av (fz (vs e) ε) σ [] a → Av ε σ (vs (.dk dk e)) a := fun a z => Av.anti (fun j m => by rw [evv] at m; exact List.mem_append_left _ m) a (Av.fz a z)
    have q2 := PostS.weak (ρ := ρ.to l1) (ε1 := fz (vs e) ε) (.of .refl fun a z => .inl (ava a z)) q1
    rcases wk with ⟨eH, wk⟩ | ⟨d, ws, o, _, hd, eH, n1, n2, nf, ep, wk⟩
    · rw [eH]
      exact for_tail g (rs1.fz _) rp1 (wk.1.anti avv) q2.unlk
    · rw [eH]
      rw [eH] at wk
      have w := Sw.lock hd o
      have na : ¬ Av (fz (vs e) ε) σ [] d := fun z => n2 (.inr (avv d z))
      exact for_tail g (Rs.sw w na (rs1.fz _)) (Rp.sw w rp1) (wk.anti avv) (PostS.lock hd n1 na nf q2)
  · cases h
theorem pz_while (c : Ex) {b : List Sm} (hb : PZs cn cl k b) : PZ cn cl k (.while_ c b) := by
  intro X W st g h
  simp only [mS] at h
  split at h
  · rename_i x a p
    simp only [Bool.and_eq_true] at h
    refine PS.imp (ps_while g.po ((sX c).1 X W x g.toGood h.1).2 (hb X W a g h.2)) fun Dn σ H q => ?_
    obtain ⟨ρ, ε, S, rs, rp, q⟩ := q
    simp only [evS] at q
    refine ⟨fun m σ H => ∃ ρ ε S, Rs (kw X) ρ H ε σ ∧ Rp ρ S H ∧ PostS (kw X) X.mg W ρ ε σ H (whileLoop (fun ε S => (evE cl c ε S).bind fun d S1 => .of S1 (tru d)) (evSs cl b) m ε S) Dn, ⟨wFuel, ρ, ε, S, rs, rp, q⟩, ?_⟩
    rintro m σ2 H2 ⟨ρ2, ε2, S2, rs2, rp2, q2⟩
    cases m with
    | zero => exact q2.elim
    | succ m =>
      simp only [whileLoop] at q2
      refine ⟨ρ2, ε2, S2, rs2, rp2, q2.on rs2 rp2 fun l3 v H3 d S3 sx3 rs3 rp3 rv q3 => ?_⟩
      have e1 : v = d := rv
      subst e1
      cases v with
      | false => rw [if_neg Bool.false_ne_true] at q3 ⊢; exact q3.nxt rp3 (fun _ z => z) rs3
      | true =>
        rw [if_pos rfl] at q3 ⊢
        refine ⟨fun σ H => ∃ ρ ε S, Rs (kw X) ρ H ε σ ∧ Rp ρ S H ∧ PostS (kw X) X.mg W ρ ε σ H (whileLoop (fun ε S => (evE cl c ε S).bind fun d S1 => .of S1 (tru d)) (evSs cl b) m ε S) Dn, fun σ' H' h' => ⟨m, Nat.lt_succ_self m, h'⟩, ρ2.to l3, ε2, S3, rs3, rp3, ?_⟩
        cases eb : evSs cl b ε2 S3 with
        | bad => rw [eb] at q3; exact q3
        | exc c v ε4 S4 => rw [eb] at q3; exact q3
        | ok f S4 =>
          rw [eb] at q3
          cases f with
          | nx ε4 => exact fun l4 H4 rp4 σ4 st4 rs4 => ⟨(ρ2.to l3).to l4, ε4, S4, rs4, rp4, PostS.weak (ρ := ρ2.to l3) st4 q3⟩
          | ct ε4 => exact fun l4 H4 rp4 σ4 st4 rs4 => ⟨(ρ2.to l3).to l4, ε4, S4, rs4, rp4, PostS.weak (ρ := ρ2.to l3) st4 q3⟩
          | bk ε4 => exact q3
          | rt d => exact q3
  · cases h
mutual
theorem sZ : ∀ s : Sm, PZ cn cl k s
  | .ret e => pz_ret e
  | .retN => pz_retN
  | .set tg e => pz_set tg e
  | .setA i e => pz_setA i e
  | .aug i o e => pz_aug i o e
  | .par i j a b => pz_par i j a b
  | .put i kx e => pz_put i kx e
  | .app i e => pz_app i e
  | .ext i e => pz_ext i e
  | .upd i e => pz_upd i e
  | .apop i j e => pz_apop i j e
  | .pars is es => pz_pars is es
  | .sput i j e => pz_sput i j e
  | .ife c t e => pz_ife c (sZs t) (sZs e)
  | .for_ tg it b => pz_for tg it (sZs b)
  | .forD tg k e b => pz_forD tg k e (sZs b)
  | .while_ c b => pz_while c (sZs b)
  | .ex e => pz_ex e
  | .pass => pz_pass
  | .brk => pz_brk
  | .cont => pz_cont
  | .never => pz_never
theorem sZs : ∀ ss : List Sm, PZs cn cl k ss
  | [] => pzs_nil
  | s :: r => pzs_cons (sZ s) (sZs r)
end
end
/-! ## a def -/
/-- what a def is: an own body, or one of the law's two numbers' makers -/
inductive Pk where
  | own | draw | mk
  deriving DecidableEq
structure Fd where
  name : Str
  ar : Nat
  N : List Str
  body : List Sm
  pk : Pk := .own
def runF (cl : Nat → List D → Sto → Out D) (f : Fd) (ds : List D) (S : Sto) : Out D :=
  match evSs cl f.body (ds.map .v ++ List.replicate (f.N.length - ds.length) .u) S with
  | .ok (.rt d) S1 => .ok d S1
  | .ok (.nx _) S1 => .ok .non S1
  | .ok _ _ => .bad
  | .exc c v _ S1 => .exc c v S1
  | .bad => .bad
end GG
namespace GG
open PySem PySem.Spec PyProof.Rows L2
/-- a def that ends by handing back a new list -/
def runM (cl : Nat → List D → Sto → Out D) (f : Fd) (ds : List D) (S : Sto) : Out D :=
  match f.body.getLast? with
  | some (.ret e) => if fresh e = true then (match evSs cl f.body.dropLast (ds.map .v ++ List.replicate (f.N.length - ds.length) .u) S with
    | .ok (.nx ε) S1 => evE cl e ε S1
    | .exc c v _ S1 => .exc c v S1
    | _ => .bad) else .bad
  | _ => .bad
section
variable {K : KW} {mg : Str → Option Value} {cn : Cn} {cl : Nat → List D → Sto → Out D} {k : Nat}
theorem Own.low {ρ : Fx} {H : Hp} {n : Addr → Prop} {d : D} {a : Addr} (o : Own K (ρ.plus n) H d a) : Own K ρ H d a := by
  unfold Own at o ⊢
  split at o
  · obtain ⟨vs, z, e, n1, n2, r⟩ := o
    exact ⟨vs, z, e, n1, fun q => n2 (.inl q), RVs.anti (ρ := (ρ.plus n).plus (· = a)) (n := (ρ.plus (· = a)).n) (fun b z => z.imp .inl id) _ _ r⟩
  · obtain ⟨vs, e, n1, n2, r⟩ := o
    exact ⟨vs, e, n1, fun q => n2 (.inl q), RKV.anti (ρ := (ρ.plus n).plus (· = a)) (n := (ρ.plus (· = a)).n) (fun b z => z.imp .inl id) _ _ r⟩
  · exact o
/-- ahead of the last statement -/
def QM (K : KW) (mg : Str → Option Value) (cl : Nat → List D → Sto → Out D) (e : Ex) (W : WX) (ρ : Fx) (ε : Env) (σ : L2.St) (H : Hp) (r : OutS) (Dn : Ends) : Prop :=
  match r with
  | .ok (.nx ε1) S1 => ∀ l H1 σ1, Stp ρ.l ε σ H l ε1 σ1 H1 → Rs K (ρ.to l) H1 ε1 σ1 → Rp (ρ.to l) S1 H1 → Post K mg (RN K H1) (XW W σ1) ((ρ.to l).plus (Av ε1 σ1 (vs e))) H1 (evE cl e ε1 S1) Dn.rt
  | .exc c v ε' S => ∀ l H' σ' cls dd, Stp ρ.l ε σ H l ε' σ' H' → Rp (ρ.to l) S H' → Rs K (ρ.to l) H' ε' σ' → RX K mg (ρ.to l) H' c v cls dd → W cls dd σ' H'
  | _ => False
theorem psm {e : Ex} (hf : fresh e = true) : ∀ (pre : List Sm) (X : Cx) (W : WX) (sts : List Stmt), GoodS cn cl k W X → mSs cn (pre ++ [.ret e]) X.env.scope sts = true →
    PSs X sts (fun Dn σ H => ∃ ρ ε S, Rs (kw X) ρ H ε σ ∧ Rp ρ S H ∧ QM (kw X) X.mg cl e W ρ ε σ H (evSs cl pre ε S) Dn)
  | [], X, W, sts, g, h => by
    match sts, h with
    | [], h => simp [mSs] at h
    | [st], h =>
      simp only [List.nil_append, mSs, Bool.and_eq_true] at h
      cases st with
      | Return v p =>
        cases v with
        | none => simp [mS] at h
        | some x =>
          simp only [mS] at h
          refine PSs.imp (pss_one (ps_ret (sN hf X W x g.toGood h.1))) fun Dn σ H q => ?_
          obtain ⟨ρ, ε, S, rs, rp, q⟩ := q
          simp only [evSs] at q
          exact ⟨ρ, ε, S, rs, rp, q ρ.l H σ .refl rs rp⟩
      | _ => simp [mS] at h
    | _ :: _ :: _, h => simp [mSs] at h
  | s :: r, X, W, sts, g, h => by
    cases sts with
    | nil => simp [mSs] at h
    | cons st sts =>
      simp only [List.cons_append, mSs, Bool.and_eq_true] at h
      refine PSs.imp (pss_cons (sZ s X W st g h.1) (psm hf r X W sts g h.2)) fun Dn σ H q => ?_
      obtain ⟨ρ, ε, S, rs, rp, q⟩ := q
      simp only [evSs] at q
      refine ⟨ρ, ε, S, rs, rp, ?_⟩
      cases e : evS cl s ε S with
      | bad => rw [e] at q; exact q
      | exc c v ε1 S1 => rw [e] at q; exact q
      | ok f S1 =>
        rw [e] at q
        cases f with
        | nx ε1 =>
          simp only [OutS.seq] at q
          intro l1 H1 rp1 σ1 st1 rs1
          refine ⟨ρ.to l1, ε1, S1, rs1, rp1, ?_⟩
          unfold QM at q ⊢
          cases e2 : evSs cl r ε1 S1 with
          | bad => rw [e2] at q; exact q
          | exc c v ε2 S2 => rw [e2] at q; exact fun l' H' σ' cls dd s' => q l' H' σ' cls dd (st1.trans s')
          | ok f2 S2 =>
            rw [e2] at q
            cases f2 with
            | nx ε2 => exact fun l' H' σ' s' => q l' H' σ' (st1.trans s')
            | rt d => exact q
            | bk ε2 => exact q
            | ct ε2 => exact q
        | rt d => exact q.elim
        | bk ε1 => exact q.elim
        | ct ε1 => exact q.elim
end
section
variable {P : Program} {w : World} {K : PySem.W.Frag} {mg : Str → Option Value} {base : Heap} {cn : Cn} {cl : Nat → List D → Sto → Out D} {k : Nat}
theorem start_Av {ds : List D} {n : Nat} {σ : L2.St} {xs : List Nat} (a : Addr) : ¬ Av (ds.map Sl.v ++ List.replicate n .u) σ xs a := fun ⟨i, d, _, e, _⟩ => by
  have m := List.mem_of_getElem? e
  rcases List.mem_append.mp m with m | m
  · obtain ⟨x, _, z⟩ := List.mem_map.mp m; cases z
  · have := List.eq_of_mem_replicate m; cases this
theorem start_Rs {K : KW} {ρ : Fx} {H : Hp} {N : List Str} {ds : List D} {vs : List V} (r : RVs K ρ H ds vs) : Rs K ρ H (ds.map Sl.v ++ List.replicate (N.length - ds.length) .u) (L2.start N vs) := by
  unfold L2.start
  have e := r.len
  refine ⟨by simp [e], fun i d h => ?_, fun i d h => ?_⟩
  · by_cases hi : i < ds.length
    · rw [List.getElem?_append_left (by simpa using hi), List.getElem?_map] at h
      cases q : ds[i]? with
      | none => rw [q] at h; cases h
      | some d' =>
        rw [q] at h; cases h
        obtain ⟨v, e1, rv⟩ := r.get q
        refine ⟨v, ?_, RV.anti (ρ := ρ) (n := (ρ.plus (Av (ds.map Sl.v ++ List.replicate (N.length - ds.length) Sl.u) (vs.map some ++ List.replicate (N.length - vs.length) none) [])).n) (fun a z => z.elim id fun z => absurd z (start_Av a)) _ _ rv⟩
        rw [List.getElem?_append_left (by rw [List.length_map, ← e]; exact hi), List.getElem?_map, e1]; rfl
    · rw [List.getElem?_append_right (by simpa using hi), List.getElem?_replicate] at h
      split at h <;> cases h
  · have m := List.mem_of_getElem? h
    rcases List.mem_append.mp m with m | m
    · obtain ⟨x, _, z⟩ := List.mem_map.mp m; cases z
    · have := List.eq_of_mem_replicate m; cases this
theorem fn_g {f : Fd} {qual : Str} {st : Stmt} {fa : Addr} {fd : FuncData} {ps : List Str} (F : L2.Fun K f.name qual st fa fd) (SC : FnScope f.N ps (defScope st)) (hm : mg f.name = some (.ref fa)) (hbi : Binds K fd ps []) (har : ps.length = f.ar)
    (hN : cn.N = f.N) (hmt : mSs cn f.body (defScope st) (defBody st) = true) (sm : SmOk base) (blt : ∀ x ∈ bnames, mg x = none)
    (gl : ∀ x d, cn.gt.lookup x = some d → ∃ v u, mg x = some u ∧ RelV v u ∧ ∀ ρ H, RV ⟨K, w⟩ ρ H d v) (fns : ∀ (i : Nat) (x : Str) (n : Nat), cn.fns[i]? = some (x, n) → FnG P w K mg base k x n (cl i)) (fm : ∀ (x : Str) (n : Nat), cn.fns[cn.mkr]? = some (x, n) → FnM P w K mg base k x n (cl cn.mkr)) :
    FnG P w K mg base (k + 1) f.name f.ar (runF cl f) := by
  refine ⟨fa, fd, ps, hm, F.kp, hbi, har, fun A outer s H args us vs Q E hr hgd e0 hl hb r hsp => ?_⟩
  obtain ⟨oc, od, kV, doc, pm, an, cdv, ct, osl, rfl, lk, hcd⟩ := F.ex
  have KX : K.In s.heap := e0.mod.kin.keeps fun b o e => (e0.bs b o e).1
  have lim : s.heap.NoLimit := e0.mod.nolimit.keeps fun b o e => (e0.bs b o e).1
  have hkind : ∀ y ∈ ps.zip us, (defScope st).names.lookup y.1 = some .local ∨
      ((defScope st).names.lookup y.1 = some .cell ∧ ((cellsFrom (s.heap.objs.size + 1) (defScope st).names []).lookup y.1).isSome = true) := fun y hy => by
    obtain ⟨n, v⟩ := y
    rcases SC.par n (List.of_mem_zip hy).1 with q | q
    · exact .inl q
    · exact .inr ⟨q, PySem.W.cellsFrom_some _ _ _ (.inl q)⟩
  refine codeAny_call_function hr.depth (KX _ _ lk) rfl SC.co SC.gen rfl (PySem.W.codeRec_of KX hcd) (hb _ _ _ _ ?_)
  refine wpAny_newFunctionEnv_cells SC.kind hkind fun env he s1 x => ?_
  subst he
  refine ⟨lim.keeps x.toInCall.keep, codeAny_func ?_⟩
  have I : Inv (cxOf (L2.CX P w) P w K mg base f.N qual (defScope st) fa cdv A outer s H E) [] (L2.start f.N vs) H s1 := inv_start SC hr.hd e0 hl r x
  have tk : Takes (cxOf (L2.CX P w) P w K mg base f.N qual (defScope st) fa cdv A outer s H E) (fun cls d _ H' => E cls d H') := takes_of rfl rfl rfl rfl
  have po : PassesOwn (model P w) (cxOf (L2.CX P w) P w K mg base f.N qual (defScope st) fa cdv A outer s H E).A (cxOf (L2.CX P w) P w K mg base f.N qual (defScope st) fa cdv A outer s H E).env
    (cxOf (L2.CX P w) P w K mg base f.N qual (defScope st) fa cdv A outer s H E).xe := passes_of (X := cxOf (L2.CX P w) P w K mg base f.N qual (defScope st) fa cdv A outer s H E) rfl
  have GS : GoodS cn cl k (fun cls d _ H' => E cls d H') (cxOf (L2.CX P w) P w K mg base f.N qual (defScope st) fa cdv A outer s H E) :=
    { nN := hN.symm, calm := rfl, nd := SC.nd, room := hr.deeper _, gd := hgd, sm := sm, tk := tk, blt := blt, gl := gl, fn := fns, fm := fm, po := po, kind := SC.kind, fa := fun _ => rfl }
  have body := sZs f.body _ _ (defBody st) GS hmt
  obtain ⟨ρ, S, ds, rp, rv, q⟩ := hsp
  refine wpAny_mono (body.run [] s1 (L2.start f.N vs) H { nx := fun _ H' => Q .non H', rt := Q } I ⟨ρ, _, S, start_Rs rv, rp, ?_⟩) (fun fl s' hs => ?_) fun e s' hs => hs
  · unfold runF at q
    have sx0 : ∀ {l : List Addr} {ε1 : Env} {σ1 : L2.St} {H1 : Hp}, Stp ρ.l (ds.map Sl.v ++ List.replicate (f.N.length - ds.length) .u) (L2.start f.N vs) H l ε1 σ1 H1 → Sx ρ.l H l H1 := fun s => ⟨s.pre, fun b u e n => s.kp b u e n (start_Av b), s.nw, s.dm⟩
    cases e : evSs cl f.body (ds.map .v ++ List.replicate (f.N.length - ds.length) .u) S with
    | bad => rw [e] at q; exact q
    | exc c v ε S1 =>
      rw [e] at q
      exact fun l1 H1 σ1 cls dd st1 rp1 rs1 rx => q l1 H1 cls dd (sx0 st1) rp1 rx
    | ok fl S1 =>
      rw [e] at q
      cases fl with
      | rt d => exact fun l1 H1 rp1 v st1 rv1 => q l1 v H1 (sx0 st1) rp1 rv1
      | nx ε1 => exact fun l1 H1 rp1 σ1 st1 rs1 => q l1 .non H1 (sx0 st1) rp1 .mkNon
      | bk ε1 => exact q.elim
      | ct ε1 => exact q.elim
  · have fin : ∀ {σ' : L2.St} {H' : Hp} {v : V} {u : Value}, Inv (cxOf (L2.CX P w) P w K mg base f.N qual (defScope st) fa cdv A outer s H E) [] σ' H' s' → RelV v u → Q v H' → CE outer P w H s Q u s' :=
      fun {σ' H' v u} J rv q => ⟨v, H', J.os, J.bare, J.base, J.hok, rv, q⟩
    cases fl with
    | ret u =>
      obtain ⟨v, σ', H', J, rv, q⟩ := hs
      exact fin J rv q
    | next =>
      obtain ⟨σ', H', J, q⟩ := hs
      exact fin (v := V.non) (u := Value.none) J rfl q
    | brk =>
      obtain ⟨_, _, _, q⟩ := hs
      exact False.elim q
    | cont =>
      obtain ⟨_, _, _, q⟩ := hs
      exact False.elim q
theorem fm_g {f : Fd} {qual : Str} {st : Stmt} {fa : Addr} {fd : FuncData} {ps : List Str} (F : L2.Fun K f.name qual st fa fd) (SC : FnScope f.N ps (defScope st)) (hm : mg f.name = some (.ref fa)) (hbi : Binds K fd ps []) (har : ps.length = f.ar)
    (hN : cn.N = f.N) (hmt : mSs cn f.body (defScope st) (defBody st) = true) (sm : SmOk base) (blt : ∀ x ∈ bnames, mg x = none)
    (gl : ∀ x d, cn.gt.lookup x = some d → ∃ v u, mg x = some u ∧ RelV v u ∧ ∀ ρ H, RV ⟨K, w⟩ ρ H d v) (fns : ∀ (i : Nat) (x : Str) (n : Nat), cn.fns[i]? = some (x, n) → FnG P w K mg base k x n (cl i)) (fm : ∀ (x : Str) (n : Nat), cn.fns[cn.mkr]? = some (x, n) → FnM P w K mg base k x n (cl cn.mkr)) :
    FnM P w K mg base (k + 1) f.name f.ar (runM cl f) := by
  refine ⟨fa, fd, ps, hm, F.kp, hbi, har, fun A outer s H args us vs Q E hr hgd e0 hl hb r hsp => ?_⟩
  obtain ⟨oc, od, kV, doc, pm, an, cdv, ct, osl, rfl, lk, hcd⟩ := F.ex
  have KX : K.In s.heap := e0.mod.kin.keeps fun b o e => (e0.bs b o e).1
  have lim : s.heap.NoLimit := e0.mod.nolimit.keeps fun b o e => (e0.bs b o e).1
  have hkind : ∀ y ∈ ps.zip us, (defScope st).names.lookup y.1 = some .local ∨
      ((defScope st).names.lookup y.1 = some .cell ∧ ((cellsFrom (s.heap.objs.size + 1) (defScope st).names []).lookup y.1).isSome = true) := fun y hy => by
    obtain ⟨n, v⟩ := y
    rcases SC.par n (List.of_mem_zip hy).1 with q | q
    · exact .inl q
    · exact .inr ⟨q, PySem.W.cellsFrom_some _ _ _ (.inl q)⟩
  refine codeAny_call_function hr.depth (KX _ _ lk) rfl SC.co SC.gen rfl (PySem.W.codeRec_of KX hcd) (hb _ _ _ _ ?_)
  refine wpAny_newFunctionEnv_cells SC.kind hkind fun env he s1 x => ?_
  subst he
  refine ⟨lim.keeps x.toInCall.keep, codeAny_func ?_⟩
  have I : Inv (cxOf (L2.CX P w) P w K mg base f.N qual (defScope st) fa cdv A outer s H E) [] (L2.start f.N vs) H s1 := inv_start SC hr.hd e0 hl r x
  have tk : Takes (cxOf (L2.CX P w) P w K mg base f.N qual (defScope st) fa cdv A outer s H E) (fun cls d _ H' => E cls d H') := takes_of rfl rfl rfl rfl
  have po : PassesOwn (model P w) (cxOf (L2.CX P w) P w K mg base f.N qual (defScope st) fa cdv A outer s H E).A (cxOf (L2.CX P w) P w K mg base f.N qual (defScope st) fa cdv A outer s H E).env
    (cxOf (L2.CX P w) P w K mg base f.N qual (defScope st) fa cdv A outer s H E).xe := passes_of (X := cxOf (L2.CX P w) P w K mg base f.N qual (defScope st) fa cdv A outer s H E) rfl
  have GS : GoodS cn cl k (fun cls d _ H' => E cls d H') (cxOf (L2.CX P w) P w K mg base f.N qual (defScope st) fa cdv A outer s H E) :=
    { nN := hN.symm, calm := rfl, nd := SC.nd, room := hr.deeper _, gd := hgd, sm := sm, tk := tk, blt := blt, gl := gl, fn := fns, fm := fm, po := po, kind := SC.kind, fa := fun _ => rfl }
  obtain ⟨ρ, S, ds, rp, rv, q⟩ := hsp
  unfold runM at q
  split at q
  · rename_i e elast
    split at q
    · rename_i hf
      have eb : f.body = f.body.dropLast ++ [.ret e] := by
        have hne : f.body ≠ [] := fun z => by rw [z] at elast; cases elast
        have h1 := List.dropLast_concat_getLast hne
        rw [List.getLast?_eq_some_getLast hne] at elast
        have h2 : f.body.getLast hne = .ret e := Option.some.inj elast
        rw [h2] at h1
        exact h1.symm
      have body := psm hf f.body.dropLast _ _ (defBody st) GS (by rw [← eb]; exact hmt)
      refine wpAny_mono (body.run [] s1 (L2.start f.N vs) H { nx := fun _ _ => False, rt := Q } I ⟨ρ, _, S, start_Rs rv, rp, ?_⟩) (fun fl s' hs => ?_) fun e s' hs => hs
      · have sx0 : ∀ {l : List Addr} {ε1 : Env} {σ1 : L2.St} {H1 : Hp}, Stp ρ.l (ds.map Sl.v ++ List.replicate (f.N.length - ds.length) .u) (L2.start f.N vs) H l ε1 σ1 H1 → Sx ρ.l H l H1 := fun s => ⟨s.pre, fun b u e n => s.kp b u e n (start_Av b), s.nw, s.dm⟩
        unfold QM
        cases e0 : evSs cl f.body.dropLast (ds.map .v ++ List.replicate (f.N.length - ds.length) .u) S with
        | bad => rw [e0] at q; exact q
        | exc c v ε S1 =>
          rw [e0] at q
          exact fun l1 H1 σ1 cls dd st1 rp1 rs1 rx => q l1 H1 cls dd (sx0 st1) rp1 rx
        | ok fl S1 =>
          rw [e0] at q
          cases fl with
          | nx ε1 =>
            intro l1 H1 σ1 st1 rs1 rp1
            have q9 := Post.weak (sx0 st1) q
            dsimp only at q9
            have low : ∀ {l : List Addr} {S : Sto} {H' : Hp}, Rp (((ρ.to l1).plus (Av ε1 σ1 (GG.vs e))).to l) S H' → Rp ((ρ.to l1).to l) S H' := fun rp => ⟨rp.len, rp.nd, rp.obj, fun a ha => rp.dom a (.inl ha)⟩
            cases e2 : evE cl e ε1 S1 with
            | bad => rw [e2] at q9; exact q9
            | exc c v S2 =>
              rw [e2] at q9
              exact fun l2 H2 cls dd s2 rp2 rx => q9 l2 H2 cls dd s2 (low rp2) (RX.anti (ρ := ((ρ.to l1).plus (Av ε1 σ1 (GG.vs e))).to l2) (n := ρ.n) (fun a z => .inl z) rx)
            | ok d S2 =>
              rw [e2] at q9
              intro l2 v H2 s2 rp2 rn
              obtain ⟨a, ea, h0, ow⟩ := rn
              refine q9 l2 v H2 s2 (low rp2) ⟨a, ea, ?_, Own.low (ρ := (ρ.to l1).to l2) (n := Av ε1 σ1 (GG.vs e)) ow⟩
              cases e3 : H a with
              | none => rfl
              | some u => exact absurd h0 (st1.dm a (by rw [e3]; exact fun z => nomatch z))
          | rt d => exact q.elim
          | bk ε1 => exact q.elim
          | ct ε1 => exact q.elim
      · have fin : ∀ {σ' : L2.St} {H' : Hp} {v : V} {u : Value}, Inv (cxOf (L2.CX P w) P w K mg base f.N qual (defScope st) fa cdv A outer s H E) [] σ' H' s' → RelV v u → Q v H' → CE outer P w H s Q u s' :=
          fun {σ' H' v u} J rv q => ⟨v, H', J.os, J.bare, J.base, J.hok, rv, q⟩
        cases fl with
        | ret u =>
          obtain ⟨v, σ', H', J, rv, q⟩ := hs
          exact fin J rv q
        | next =>
          obtain ⟨σ', H', J, q⟩ := hs
          exact False.elim q
        | brk =>
          obtain ⟨_, _, _, q⟩ := hs
          exact False.elim q
        | cont =>
          obtain ⟨_, _, _, q⟩ := hs
          exact False.elim q
    · exact q.elim
  · exact q.elim
end
/-! ## the whole program -/
def evF (Pg : List Fd) : Nat → Nat → List D → Sto → Out D
  | 0, _, _, _ => .bad
  | n + 1, i, ds, S => match Pg[i]? with
    | some f => if f.pk = Pk.mk then runM (evF Pg n) f ds S else runF (evF Pg n) f ds S
    | none => .bad
/-- what is known of a def of the text -/
def FFact (K : PySem.W.Frag) (mg : Str → Option Value) (fns : List (Str × Nat)) (gt : List (Str × D)) (mk : Nat) (f : Fd) : Prop :=
  ∃ (qual : Str) (st : Stmt) (fa : Addr) (fd : FuncData) (ps : List Str), L2.Fun K f.name qual st fa fd ∧ FnScope f.N ps (defScope st) ∧ mg f.name = some (.ref fa) ∧ Binds K fd ps [] ∧ ps.length = f.ar ∧ mSs ⟨f.N, fns, gt, mk⟩ f.body (defScope st) (defBody st) = true
def fnsOf (Pg : List Fd) : List (Str × Nat) := Pg.map fun f => (f.name, f.ar)
section
variable {P : Program} {w : World} {K : PySem.W.Frag} {mg : Str → Option Value} {base : Heap} {Pg : List Fd} {gt : List (Str × D)}
/-- which def makes the streams -/
def mkOk (Pg : List Fd) (mk : Nat) : Bool := match Pg[mk]? with
  | some f => decide (f.pk = Pk.mk)
  | none => true
theorem FnM.g {k : Nat} {x : Str} {n : Nat} {h : List D → Sto → Out D} (F : FnM P w K mg base k x n h) : FnG P w K mg base k x n h := by
  obtain ⟨f, fd, ps, hm, hk, hb, hl, run⟩ := F
  refine ⟨f, fd, ps, hm, hk, hb, hl, fun A outer s H args us vs Q E hr hg e0 hl hb r hsp => run A outer s H args us vs Q E hr hg e0 hl hb r ?_⟩
  obtain ⟨ρ, S, ds, rp, rv, q⟩ := hsp
  refine ⟨ρ, S, ds, rp, rv, ?_⟩
  cases e : h ds S with
  | ok d S1 =>
    rw [e] at q
    intro l v H1 sx rp1 rn
    obtain ⟨a, rfl, _, ow⟩ := rn
    exact q l _ H1 sx rp1 ow.rv
  | exc c v S1 => rw [e] at q; exact q
  | bad => rw [e] at q; exact q
theorem fns_ok {mk : Nat} (sm : SmOk base) (blt : ∀ x ∈ bnames, mg x = none) (gl : ∀ x d, gt.lookup x = some d → ∃ v u, mg x = some u ∧ RelV v u ∧ ∀ ρ H, RV ⟨K, w⟩ ρ H d v)
    (hmk : mkOk Pg mk = true) (facts : ∀ f ∈ Pg, FFact K mg (fnsOf Pg) gt mk f) : ∀ (n i : Nat) (f : Fd), Pg[i]? = some f → FnG P w K mg base n f.name f.ar (evF Pg n i) ∧ (f.pk = Pk.mk → FnM P w K mg base n f.name f.ar (evF Pg n i))
  | 0, i, f, e => by
    obtain ⟨qual, st, fa, fd, ps, F, SC, hm, hb, hl, hmt⟩ := facts f (List.mem_of_getElem? e)
    refine ⟨⟨fa, fd, ps, hm, F.kp, hb, hl, fun A outer s H args us vs Q E hr hg e0 hl hb r hsp => ?_⟩, fun _ => ⟨fa, fd, ps, hm, F.kp, hb, hl, fun A outer s H args us vs Q E hr hg e0 hl hb r hsp => ?_⟩⟩
    · obtain ⟨ρ, S, ds, _, _, q⟩ := hsp
      exact q.elim
    · obtain ⟨ρ, S, ds, _, _, q⟩ := hsp
      exact q.elim
  | n + 1, i, f, e => by
    obtain ⟨qual, st, fa, fd, ps, F, SC, hm, hb, hl, hmt⟩ := facts f (List.mem_of_getElem? e)
    have look : ∀ (j : Nat) (x : Str) (m : Nat), (fnsOf Pg)[j]? = some (x, m) → ∃ f', Pg[j]? = some f' ∧ f'.name = x ∧ f'.ar = m := fun j x m ej => by
      unfold fnsOf at ej
      rw [List.getElem?_map] at ej
      cases ef : Pg[j]? with
      | none => rw [ef] at ej; cases ej
      | some f' => rw [ef] at ej; cases ej; exact ⟨f', rfl, rfl, rfl⟩
    have h1 : ∀ (j : Nat) (x : Str) (m : Nat), (fnsOf Pg)[j]? = some (x, m) → FnG P w K mg base n x m (evF Pg n j) := fun j x m ej => by
      obtain ⟨f', ef, rfl, rfl⟩ := look j x m ej
      exact (fns_ok sm blt gl hmk facts n j f' ef).1
    have h2 : ∀ (x : Str) (m : Nat), (fnsOf Pg)[mk]? = some (x, m) → FnM P w K mg base n x m (evF Pg n mk) := fun x m ej => by
      obtain ⟨f', ef, rfl, rfl⟩ := look mk x m ej
      refine (fns_ok sm blt gl hmk facts n mk f' ef).2 ?_
      simpa [mkOk, ef] using hmk
    by_cases hpk : f.pk = Pk.mk
    · have h : evF Pg (n + 1) i = runM (evF Pg n) f := by
        funext ds S
        show (match Pg[i]? with | some f => if f.pk = Pk.mk then runM (evF Pg n) f ds S else runF (evF Pg n) f ds S | none => .bad) = _
        rw [e]; exact if_pos hpk
      rw [h]
      have := fm_g (P := P) (w := w) (k := n) (cl := evF Pg n) (cn := ⟨f.N, fnsOf Pg, gt, mk⟩) F SC hm hb hl rfl hmt sm blt gl h1 h2
      exact ⟨this.g, fun _ => this⟩
    · have h : evF Pg (n + 1) i = runF (evF Pg n) f := by
        funext ds S
        show (match Pg[i]? with | some f => if f.pk = Pk.mk then runM (evF Pg n) f ds S else runF (evF Pg n) f ds S | none => .bad) = _
        rw [e]; exact if_neg hpk
      rw [h]
      exact ⟨fn_g (P := P) (w := w) (k := n) (cl := evF Pg n) (cn := ⟨f.N, fnsOf Pg, gt, mk⟩) F SC hm hb hl rfl hmt sm blt gl h1 h2, fun z => absurd z hpk⟩
end
section
theorem law_g {P : Program} {w : World} {K : PySem.W.Frag} {mg mb : Str → Option Value} {k : Nat} {fa a : Addr} {x : Str} {h : List D → Sto → Out D} {s₁ : Shared} {vs : List Value} {ns : List Int}
    (KX : K.In s₁.heap) (hns : s₁.heap.Ns mainGlobals mg) (hb : s₁.heap.Ns builtinsNs mb) (hbb : ∀ x : Str, x ≠ "__name__" → mb x = bootBuiltins x) (hlim : s₁.heap.NoLimit) (hsm : ∃ mm, s₁.heap.Ns sysModules mm) (hg : s₁.gens = #[])
    (ha : s₁.heap.get? a = some { cls := .type "list", data := .seq vs.toArray }) (hi : IntsAre vs ns) (hl : ns.length ≤ sizeLine) (hr : Room k callerA) (hfa : mg x = some (.ref fa))
    (F : ∀ base : Heap, K.In base → base.Ns mainGlobals mg → SmOk base → FnG P w K mg base k x 1 h) (ok : ∃ S', h [.rol (ns.map D.int)] [] = .ok (.bl true) S') :
    codeAny (model P w) callerA (.call (.ref fa) ⟨[.ref a], []⟩) (fun r s' => r = .ok (.ret (.bool true)) ∧ OldK s₁.heap s'.heap ∧ s'.os = s₁.os ∧ AllBare s'.gens) s₁ := by
  have rv := vals_ints hi
  have lenV := hi.length
  have core : ∀ H : Hp, Only H → RoL ⟨K, w⟩ H a (ns.map V.int) → HOk P w H s₁.heap → (∀ b, H b ≠ none → b = a) → (H a ≠ none → K.lookup a = none) →
      codeAny (model P w) callerA (.call (.ref fa) ⟨[.ref a], []⟩) (fun r s' => r = .ok (.ret (.bool true)) ∧ OldK s₁.heap s'.heap ∧ s'.os = s₁.os ∧ AllBare s'.gens) s₁ := by
    intro H hO hS hok hA hK
    have base_of : ∀ {b : Addr} {o : Obj}, s₁.heap.get? b = some o → H b = none → (hidT s₁.heap H).get? b = some o := fun e n => hidT_get e n
    have noA : ∀ {b : Addr} {o : Obj} {es : Array DictEntry} {ep : Nat}, s₁.heap.get? b = some o → o.data = .dict es ep → H b = none := fun {b o es ep} e d => by
      cases q : H b with
      | none => rfl
      | some u =>
        have e' : b = a := hA b (by rw [q]; simp)
        subst e'
        rw [ha] at e; cases e
        have d' : Data.seq vs.toArray _ = Data.dict es ep := d
        cases d'
    have nsK : ∀ {b : Addr} {m : Str → Option Value}, s₁.heap.Ns b m → (hidT s₁.heap H).Ns b m := fun {b m} z => by
      obtain ⟨o, es, ep, e, d, r⟩ := z
      exact ⟨o, es, ep, base_of e (noA e d), d, r⟩
    have hKb : K.In (hidT s₁.heap H) := fun b o e => base_of (KX b o e) (by
      cases q : H b with
      | none => rfl
      | some u =>
        have e' : b = a := hA b (by rw [q]; simp)
        subst e'
        rw [hK (by rw [q]; simp)] at e; cases e)
    have hM : Mod K mg (hidT s₁.heap H) := ⟨hKb, nsK hns, ⟨mb, nsK hb, hbb⟩, let ⟨mc, h1, h2⟩ := hlim; ⟨mc, nsK h1, h2⟩⟩
    have hsm' : SmOk (hidT s₁.heap H) := by
      obtain ⟨mm, o, es, ep, e, d, _⟩ := hsm
      exact ⟨o, es, ep, base_of e (noA e d), d⟩
    have e0 : Env0 P w K mg (hidT s₁.heap H) callerA [] s₁ H :=
      ⟨rfl, hM, fun b o e => of_hidT e, Nat.le_of_eq (hidT_size _ _), trivial, fun b hb => absurd (show b ∈ ([] : List Addr) from hb) (by simp), hok, .of_eq hg⟩
    obtain ⟨f, fd, ps, hm, hk, hbi, hps, run⟩ := F _ hKb (nsK hns) hsm'
    rw [hfa] at hm
    cases hm
    obtain ⟨S', ok⟩ := ok
    have hbb2 := hbi s₁ [.ref a] KX (by rw [List.append_nil, hps]; rfl)
    rw [List.append_nil] at hbb2
    have sp : SpF ⟨K, w⟩ mg h [.ref a] H (fun v _ => v = .bl true) (fun _ _ _ => False) := by
      refine ⟨⟨[], fun _ => False⟩, [], [.rol (ns.map D.int)], ⟨rfl, List.nodup_nil, fun i a t e => by simp at e, fun a z => z.elim⟩, .one ?_, ?_⟩
      · simp only [RV]
        refine ⟨a, ns.map V.int, rfl, by rw [List.length_map]; exact hl, hS, ?_⟩
        clear hS hi rv lenV ha hl hbb2 ok
        induction ns with
        | nil => exact RVs.nil
        | cons n r ih => exact .cons (.mkInt n) ih
      · rw [ok]
        exact fun l v H' _ _ r => r.bl
    refine codeAny_mono (run callerA [] s₁ H ⟨[.ref a], []⟩ [.ref a] [.ref a] _ _ hr rfl e0 (by rw [hps]; rfl) hbb2 (.cons rfl .nil) sp) fun r s' h => ?_
    cases r with
    | error e =>
      exfalso
      obtain ⟨a, B, sI, H', cls, d, h⟩ := h
      simp only [and_false] at h
    | ok fl =>
      cases fl with
      | next => exact False.elim h
      | brk => exact False.elim h
      | cont => exact False.elim h
      | ret u =>
        obtain ⟨v, H', os, bare, un, hok', r', q⟩ := h
        have q' : v = .bl true := q
        subst q'
        obtain rfl : u = Value.bool true := r'
        refine ⟨rfl, OldK.of_keep fun b o e => ?_, os, bare⟩
        cases q : H b with
        | none => exact un.keep b o e q (by intro z; exact absurd (show b ∈ ([] : List Addr) from z) (by simp)) (by simp)
        | some u =>
          rcases hO b with z | ⟨ob, xs, z⟩
          · rw [q] at z; cases z
          · have z2 := un.frzs b ob _ z
            obtain ⟨e1, _⟩ := hok b _ z
            obtain ⟨e2, _⟩ := hok' b _ z2
            rw [e] at e1; cases e1
            exact e2
  cases hk : K.lookup a with
  | some o =>
    have e := KX a o hk
    rw [ha] at e
    cases e
    exact core (fun _ => none) (fun _ => .inl rfl) (.inr ⟨_, vs.toArray, _, hk, rfl, rfl, rfl, by rw [List.size_toArray, lenV]; exact hl, by simpa using rv⟩)
      (fun b u z => by have z' : (none : Option HO) = some u := z; cases z') (fun b z => absurd rfl z) fun z => absurd rfl z
  | none =>
    refine core (fun b => if b = a then some (.frz { cls := .type "list", data := .seq vs.toArray } (.lst (ns.map V.int))) else none) (fun b => ?_) (.inl ⟨{ cls := .type "list", data := .seq vs.toArray }, if_pos rfl⟩) (fun b u z => ?_) (fun b z => ?_) fun _ => hk
    · by_cases hb : b = a
      · exact .inr ⟨_, _, if_pos hb⟩
      · exact .inl (if_neg hb)
    · by_cases hb : b = a
      · have z' := (if_pos hb).symm.trans z
        cases z'
        subst hb
        exact ⟨ha, by rw [List.length_map]; exact hl, vs, _, rv, ha⟩
      · have z' := (if_neg hb).symm.trans z
        cases z'
    · by_cases hb : b = a
      · exact hb
      · exact absurd (if_neg hb) z
/-- the goal that the head leaves -/
theorem walk_g {l : PySem.W.OpenLaw} {n k : Nat} {q : Program} {loose : List Str} {XP : (Str → Option Value) → Heap → Prop} {YP : World → Heap → Prop} {d : DefRec} {K : Params → PySem.W.Frag} {Pg : List Fd} {gt : List (Str × D)} {i mk : Nat} {f : Fd}
    (hmk : mkOk Pg mk = true) (hn : l.most = some n) (hn2 : n ≤ sizeLine) (hdf : d.params.defaults = []) (hr : Room k callerA) (himp : importsNone q = true) (hf : Pg[i]? = some f) (hd : f.name = d.name) (har : f.ar = 1)
    (hY : ∀ (w : World) (h : Heap), YP w h → (K w.params).In h)
    (F : ∀ (w : World) (mg : Str → Option Value) (h : Heap), (K w.params).In h → h.Ns mainGlobals mg →
      (∀ x ∈ bnames, mg x = none) ∧ (∀ x e, gt.lookup x = some e → ∃ v u, mg x = some u ∧ RelV v u ∧ ∀ ρ H, RV ⟨K w.params, w⟩ ρ H e v) ∧ ∀ f ∈ Pg, FFact (K w.params) mg (fnsOf Pg) gt mk f)
    (law : ∀ ns : List Int, ns.length ≤ n → (∀ z ∈ ns, Builtin.Int.intBits z ≤ 1048576) → ∃ S', evF Pg k i [.rol (ns.map D.int)] [] = .ok (.bl true) S') :
    PySem.W.WalkO q loose XP YP l.row.toRowW d [] (fun f vs => PySem.call f vs) := by
  refine Att.attach_callB hn hdf fun w s₀ s₁ mg mb fa o pm cd doc a vs ns G Y ho hdd hcd hmg hobj hints hlen hbits hg => ?_
  have KX := hY w _ Y
  obtain ⟨b1, b2, b3⟩ := F w mg _ KX G.T.g
  obtain ⟨mm, hsm, _⟩ := (G.T.seer himp).mods
  refine law_g (x := f.name) (h := evF Pg k i) KX G.T.g G.T.b G.T.builtins G.T.nolimit ⟨mm, hsm⟩ hg hobj hints (Nat.le_trans hlen hn2) hr (by rw [hd]; exact hmg) (fun base kb nb sb => ?_) (law ns hlen hbits)
  have := (fns_ok (P := l.prog) (w := w) (base := base) sb b1 b2 hmk b3 k i f hf).1
  rw [har] at this
  exact this
end
end GG
namespace GG
open PySem PySem.Spec PyProof.Rows L2
/-! ## dicts of the written part -/
def entOk : List (Int × Int) → List DictEntry → Bool
  | [], [] => true
  | (k, v) :: r, e :: es => (match e.key with | .int k' _ => decide (k' = k) | _ => false) && decide (e.hash = hashInt k) && (match e.val with | .int v' _ => decide (v' = v) | _ => false) && entOk r es
  | _, _ => false
def intK (kvs : List (Int × Int)) : List (Key × D) := kvs.map fun kv => (.inl kv.1, .int kv.2)
theorem ent_pairs {P : Program} {w : World} : ∀ (kvs : List (Int × Int)) (es : List DictEntry), entOk kvs es = true → ∃ vs : List (Key × Value), KV (kvs.map fun kv => (Sum.inl kv.1, V.int kv.2)) vs ∧ Pairs (mixKind P w) es vs ∧ (∀ e ∈ es, ∃ k, (mixKind P w).is k e.key = true ∧ e.hash = (mixKind P w).hash k) ∧ vs.map (·.1) = kvs.map fun kv => (Sum.inl kv.1 : Key)
  | [], [], _ => ⟨[], .nil, .nil, (fun e h => by cases h), rfl⟩
  | [], _ :: _, h => by simp [entOk] at h
  | _ :: _, [], h => by simp [entOk] at h
  | (k, v) :: r, e :: es, h => by
    obtain ⟨hh, ek, ev⟩ := e
    simp only [entOk, Bool.and_eq_true, decide_eq_true_eq] at h
    obtain ⟨⟨⟨h1, h2⟩, h3⟩, h4⟩ := h
    obtain ⟨vs, a, b, c, d⟩ := ent_pairs (P := P) (w := w) r es h4
    cases ek <;> simp only [decide_eq_true_eq, Bool.false_eq_true] at h1
    cases ev <;> simp only [decide_eq_true_eq, Bool.false_eq_true] at h3
    rename_i k' t v' u
    subst h1 h3
    refine ⟨(.inl k', .int v' u) :: vs, .cons ⟨rfl, u, rfl⟩ a, .cons (keyIs_int k' t) rfl b, fun e he => ?_, by simp [d]⟩
    rcases List.mem_cons.mp he with rfl | he
    · exact ⟨.inl k', keyIs_int k' t, h2⟩
    · exact c e he
theorem wd_ints {K : KW} {d : Addr} {es : Array DictEntry} {ep : Nat} (kvs : List (Int × Int)) (hl : K.K.lookup d = some ⟨.type "dict", none, .dict es ep, #[]⟩) (hd : (d == sysModules) = false) (he : entOk kvs es.toList = true) (hn : (kvs.map fun kv => (Sum.inl kv.1 : Key)).Nodup) :
    WD K d (kvs.map fun kv => (Sum.inl kv.1, V.int kv.2)) := by
  refine ⟨_, hl, hd, fun P h hg => ?_⟩
  obtain ⟨vs, a, b, c, e⟩ := ent_pairs (P := P) (w := K.w) kvs es.toList he
  exact ⟨vs, a, _, es, ep, hg, ⟨rfl, rfl, rfl⟩, rfl, fun e he => c e (by simpa using he), b, by rw [e]; exact hn⟩
theorem rkv_ints {K : KW} {ρ : Fx} {H : Hp} : ∀ kvs : List (Int × Int), RKV K ρ H (intK kvs) (kvs.map fun kv => (Sum.inl kv.1, V.int kv.2))
  | [] => by simp only [intK, List.map_nil, RKV]
  | (k, v) :: r => by
    have := rkv_ints (K := K) (ρ := ρ) (H := H) r
    simp only [intK, List.map_cons, RKV] at this ⊢
    exact ⟨_, _, rfl, .mkInt _, this⟩
theorem rv_wdt {K : KW} {d : Addr} {es : Array DictEntry} {ep : Nat} (kvs : List (Int × Int)) (hl : K.K.lookup d = some ⟨.type "dict", none, .dict es ep, #[]⟩) (hd : (d == sysModules) = false) (he : entOk kvs es.toList = true) (hn : (kvs.map fun kv => (Sum.inl kv.1 : Key)).Nodup) (ρ : Fx) (H : Hp) :
    RV K ρ H (.wdt (intK kvs)) (.ref d) := by
  simp only [RV]
  exact ⟨d, _, rfl, wd_ints kvs hl hd he hn, rkv_ints kvs⟩
end GG
namespace GG
open PySem PySem.Spec PyProof.Rows L2
/-! ## laws about the interpreter -/
/-- keeps simp from taking an equation as one that holds by unfolding -/
theorem nrfl {α : Sort u} {a b : α} (h : a = b) : a = b := h
@[irreducible] def Out.wp {α : Type} (r : Out α) (Q : α → Sto → Prop) : Prop := match r with
  | .ok a S => Q a S
  | _ => False
@[irreducible] def OutS.wp (r : OutS) (Q : Fl → Sto → Prop) : Prop := match r with
  | .ok a S => Q a S
  | _ => False
section
variable {α β : Type}
theorem wp_ok {a : α} {S : Sto} {Q : α → Sto → Prop} : (Out.ok a S).wp Q = Q a S := by unfold Out.wp; rfl
theorem wp_bad {Q : α → Sto → Prop} : (Out.bad : Out α).wp Q = False := by unfold Out.wp; rfl
theorem wp_exc {c : Str} {v : Option (Str × D)} {S : Sto} {Q : α → Sto → Prop} : (Out.exc c v S : Out α).wp Q = False := by unfold Out.wp; rfl
theorem wp_bind {r : Out α} {f : α → Sto → Out β} {Q : β → Sto → Prop} : (r.bind f).wp Q = r.wp fun a S => (f a S).wp Q := by
  unfold Out.wp; cases r <;> rfl
theorem wps_ok {a : Fl} {S : Sto} {Q : Fl → Sto → Prop} : (OutS.ok a S).wp Q = Q a S := by unfold OutS.wp; rfl
theorem wps_bad {Q : Fl → Sto → Prop} : OutS.bad.wp Q = False := by unfold OutS.wp; rfl
theorem wps_exc {c : Str} {v : Option (Str × D)} {ε : Env} {S : Sto} {Q : Fl → Sto → Prop} : (OutS.exc c v ε S).wp Q = False := by unfold OutS.wp; rfl
theorem wp_on {r : Out α} {ε : Env} {g : α → Sto → OutS} {Q : Fl → Sto → Prop} : (r.on ε g).wp Q = r.wp fun a S => (g a S).wp Q := by
  unfold Out.wp OutS.wp; cases r <;> rfl
theorem wp_seq {r : OutS} {g : Env → Sto → OutS} {Q : Fl → Sto → Prop} : (r.seq g).wp Q = r.wp fun f S => match f with
    | .nx ε => (g ε S).wp Q
    | f => Q f S := by
  unfold OutS.wp
  cases r with
  | ok f S => cases f <;> rfl
  | exc c v ε S => rfl
  | bad => rfl
theorem Out.wp.mono {r : Out α} {Q Q' : α → Sto → Prop} (h : r.wp Q) (i : ∀ a S, Q a S → Q' a S) : r.wp Q' := by
  unfold Out.wp at h ⊢
  cases r with
  | ok a S => exact i a S h
  | exc c v S => exact h
  | bad => exact h
theorem OutS.wp.mono {r : OutS} {Q Q' : Fl → Sto → Prop} (h : r.wp Q) (i : ∀ a S, Q a S → Q' a S) : r.wp Q' := by
  unfold OutS.wp at h ⊢
  cases r with
  | ok a S => exact i a S h
  | exc c v ε S => exact h
  | bad => exact h
theorem Out.wp.get {r : Out α} {Q : α → Sto → Prop} (h : r.wp Q) : ∃ a S, r = .ok a S ∧ Q a S := by
  unfold Out.wp at h
  cases r with
  | ok a S => exact ⟨a, S, rfl, h⟩
  | exc c v S => exact h.elim
  | bad => exact h.elim
theorem Out.wp.of {r : Out α} {Q : α → Sto → Prop} {a : α} {S : Sto} (e : r = .ok a S) (h : Q a S) : r.wp Q := by rw [e, wp_ok]; exact h
theorem OutS.wp.get {r : OutS} {Q : Fl → Sto → Prop} (h : r.wp Q) : ∃ f S, r = .ok f S ∧ Q f S := by
  unfold OutS.wp at h
  cases r with
  | ok f S => exact ⟨f, S, rfl, h⟩
  | exc c v ε S => exact h.elim
  | bad => exact h.elim
theorem wp_runF {cl : Nat → List D → Sto → Out D} {f : Fd} {ds : List D} {S : Sto} {Q : D → Sto → Prop}
    (h : (evSs cl f.body (ds.map .v ++ List.replicate (f.N.length - ds.length) .u) S).wp fun fl S1 => match fl with
      | .rt d => Q d S1
      | .nx _ => Q .non S1
      | _ => False) : (runF cl f ds S).wp Q := by
  unfold runF
  obtain ⟨fl, S1, e, h⟩ := h.get
  rw [e]
  cases fl with
  | rt d => show (Out.ok d _).wp Q; rw [wp_ok]; exact h
  | nx ε => show (Out.ok D.non _).wp Q; rw [wp_ok]; exact h
  | bk ε => exact h.elim
  | ct ε => exact h.elim
end
/-! ### loops -/
/-- a loop whose turns all go on -/
theorem wp_for {tgt : D → Env → Option Env} {body : Env → Sto → OutS} {Q : Fl → Sto → Prop} (J : Nat → Env → Sto → Prop) :
    ∀ (ds : List D) (i : Nat) (ε : Env) (S : Sto), J i ε S →
      (∀ k d ε S, ds[k]? = some d → J (i + k) ε S → ∃ ε1, tgt d ε = some ε1 ∧ (body ε1 S).wp fun f S2 => match f with
        | .nx ε2 => J (i + k + 1) ε2 S2
        | .ct ε2 => J (i + k + 1) ε2 S2
        | .bk ε2 => Q (.nx ε2) S2
        | .rt v => Q (.rt v) S2) →
      (∀ ε S, J (i + ds.length) ε S → Q (.nx ε) S) → (forLoop tgt body ds ε S).wp Q
  | [], i, ε, S, j, hs, hd => by
    unfold forLoop
    rw [wps_ok]
    exact hd ε S j
  | d :: r, i, ε, S, j, hs, hd => by
    unfold forLoop
    obtain ⟨ε1, e, h⟩ := hs 0 d ε S rfl j
    rw [e]
    have next : ∀ ε2 S2, J (i + 0 + 1) ε2 S2 → (forLoop tgt body r ε2 S2).wp Q := fun ε2 S2 j2 =>
      wp_for J r (i + 1) ε2 S2 j2 (fun k d ε S e j => by
        have := hs (k + 1) d ε S (by simpa using e) (by rw [show i + (k + 1) = i + 1 + k by omega]; exact j)
        rw [show i + (k + 1) = i + 1 + k by omega] at this
        exact this) fun ε S j => hd ε S (by rw [List.length_cons, show i + (r.length + 1) = i + 1 + r.length by omega]; exact j)
    dsimp only
    obtain ⟨f, S2, hb, h⟩ := h.get
    rw [hb]
    cases f with
    | nx ε2 => exact next ε2 S2 h
    | ct ε2 => exact next ε2 S2 h
    | bk ε2 => rw [wps_ok]; exact h
    | rt v => rw [wps_ok]; exact h
theorem wp_noX {α : Type} {r : Out α} {Q : α → Sto → Prop} : (noX r).wp Q = r.wp Q := by unfold Out.wp; cases r <;> rfl
/-- a comprehension: J i S at turn i, the results so far -/
theorem wp_lc {tgt : D → Option Env} {cond : Env → Sto → Out Bool} {elt : Env → Sto → Out D} {Q : List D → Sto → Prop} (J : Nat → List D → Sto → Prop) :
    ∀ (ds : List D) (i : Nat) (acc : List D) (S : Sto), J i acc S →
      (∀ k d a S, ds[k]? = some d → J (i + k) a S → ∃ ε, tgt d = some ε ∧ (cond ε S).wp fun b S1 => if b = true then (elt ε S1).wp fun y S2 => J (i + k + 1) (a ++ [y]) S2 else J (i + k + 1) a S1) →
      (∀ a S ys, J (i + ds.length) a S → a = acc ++ ys → Q ys S) → (lcLoop tgt cond elt ds S).wp Q
  | [], i, acc, S, j, hs, hd => by
    unfold lcLoop
    rw [wp_ok]
    exact hd acc S [] j (by simp)
  | d :: r, i, acc, S, j, hs, hd => by
    unfold lcLoop
    obtain ⟨ε, e, h⟩ := hs 0 d acc S rfl j
    rw [e]
    have next : ∀ (a2 : List D) (S2 : Sto) (Q2 : List D → Sto → Prop), J (i + 0 + 1) a2 S2 → (∀ a S ys, J (i + (d :: r).length) a S → a = a2 ++ ys → Q2 ys S) → (lcLoop tgt cond elt r S2).wp Q2 := fun a2 S2 Q2 j2 hq =>
      wp_lc J r (i + 1) a2 S2 j2 (fun k d a S e j => by
        have := hs (k + 1) d a S (by simpa using e) (by rw [show i + (k + 1) = i + 1 + k by omega]; exact j)
        rw [show i + (k + 1) = i + 1 + k by omega] at this
        exact this) fun a S ys j => hq a S ys (by rw [List.length_cons, show i + (r.length + 1) = i + 1 + r.length by omega]; exact j)
    dsimp only
    rw [wp_bind, wp_noX]
    refine h.mono fun b S1 h => ?_
    split
    · rename_i hb
      rw [if_pos hb] at h
      rw [wp_bind, wp_noX]
      refine h.mono fun y S2 h => ?_
      rw [wp_bind]
      refine next (acc ++ [y]) S2 _ h fun a S ys j e => ?_
      rw [wp_ok]
      exact hd a S (y :: ys) j (by rw [e]; simp)
    · rename_i hb
      rw [if_neg hb] at h
      exact next acc S1 _ h fun a S ys j e => hd a S ys j e
/-- a comprehension without draws -/
theorem lc_pure {tgt : D → Option Env} {cond : Env → Sto → Out Bool} {elt : Env → Sto → Out D} {S : Sto} (f : D → D) :
    ∀ ds : List D, (∀ d ∈ ds, ∃ ε, tgt d = some ε ∧ cond ε S = .ok true S ∧ elt ε S = .ok (f d) S) → lcLoop tgt cond elt ds S = .ok (ds.map f) S
  | [], _ => by unfold lcLoop; rfl
  | d :: r, h => by
    obtain ⟨ε, e1, e2, e3⟩ := h d List.mem_cons_self
    unfold lcLoop
    rw [e1]
    dsimp only
    rw [e2]
    show (noX (elt ε S)).bind _ = _
    rw [e3]
    show (lcLoop tgt cond elt r S).bind _ = _
    rw [lc_pure f r fun d m => h d (List.mem_cons_of_mem _ m)]
    rfl
/-- .. with a test -/
theorem lc_filter {tgt : D → Option Env} {cond : Env → Sto → Out Bool} {elt : Env → Sto → Out D} {S : Sto} (c : D → Bool) (f : D → D) :
    ∀ ds : List D, (∀ d ∈ ds, ∃ ε, tgt d = some ε ∧ cond ε S = .ok (c d) S ∧ (c d = true → elt ε S = .ok (f d) S)) → lcLoop tgt cond elt ds S = .ok ((ds.filter c).map f) S
  | [], _ => by unfold lcLoop; rfl
  | d :: r, h => by
    obtain ⟨ε, e1, e2, e3⟩ := h d List.mem_cons_self
    unfold lcLoop
    rw [e1]
    dsimp only
    rw [e2]
    have ih := lc_filter c f r fun d m => h d (List.mem_cons_of_mem _ m)
    show (if c d = true then (noX (elt ε S)).bind _ else _) = _
    cases hc : c d
    · rw [if_neg (by simp), ih, List.filter_cons, hc]; rfl
    · rw [if_pos rfl, e3 hc]
      show (lcLoop tgt cond elt r S).bind _ = _
      rw [ih, List.filter_cons, hc]; rfl
/-- a loop whose turns draw nothing and go on: a state β told by enc -/
theorem for_pure {β : Type} {tgt : D → Env → Option Env} {body : Env → Sto → OutS} {S : Sto} (enc : β → Env) (step : β → D → β) : ∀ (ds : List D) (b : β),
    (∀ d ∈ ds, ∀ b, ∃ ε1, tgt d (enc b) = some ε1 ∧ body ε1 S = .ok (.nx (enc (step b d))) S) → forLoop tgt body ds (enc b) S = .ok (.nx (enc (ds.foldl step b))) S
  | [], b, _ => by unfold forLoop; rfl
  | d :: r, b, h => by
    obtain ⟨ε1, e1, e2⟩ := h d List.mem_cons_self b
    unfold forLoop
    rw [e1]
    dsimp only
    rw [e2]
    exact for_pure enc step r (step b d) fun d m => h d (List.mem_cons_of_mem _ m)
end GG
namespace GG
open PySem PySem.Spec PyProof.Rows L2
section
variable {α β : Type}
theorem bind_ok {a : α} {S : Sto} {f : α → Sto → Out β} : (Out.ok a S).bind f = f a S := nrfl rfl
theorem bind_bad {f : α → Sto → Out β} : (Out.bad : Out α).bind f = .bad := nrfl rfl
theorem bind_ite {c : Prop} [Decidable c] {x y : Out α} {f : α → Sto → Out β} : (if c then x else y).bind f = if c then x.bind f else y.bind f := by split <;> rfl
theorem on_ok {a : α} {S : Sto} {ε : Env} {g : α → Sto → OutS} : (Out.ok a S).on ε g = g a S := nrfl rfl
theorem on_bad {ε : Env} {g : α → Sto → OutS} : (Out.bad : Out α).on ε g = .bad := nrfl rfl
theorem seq_nx {ε : Env} {S : Sto} {g : Env → Sto → OutS} : (OutS.ok (.nx ε) S).seq g = g ε S := nrfl rfl
theorem seq_rt {d : D} {S : Sto} {g : Env → Sto → OutS} : (OutS.ok (.rt d) S).seq g = .ok (.rt d) S := nrfl rfl
theorem seq_bk {ε : Env} {S : Sto} {g : Env → Sto → OutS} : (OutS.ok (.bk ε) S).seq g = .ok (.bk ε) S := nrfl rfl
theorem seq_ct {ε : Env} {S : Sto} {g : Env → Sto → OutS} : (OutS.ok (.ct ε) S).seq g = .ok (.ct ε) S := nrfl rfl
theorem seq_bad {g : Env → Sto → OutS} : OutS.bad.seq g = .bad := nrfl rfl
end
theorem bind_cg {α β : Type} {r r' : Out α} {f : α → Sto → Out β} (h : r = r') : r.bind f = r'.bind f := by rw [h]
theorem on_cg {α : Type} {r r' : Out α} {ε : Env} {f : α → Sto → OutS} (h : r = r') : r.on ε f = r'.on ε f := by rw [h]
theorem seq_cg {r r' : OutS} {f : Env → Sto → OutS} (h : r = r') : r.seq f = r'.seq f := by rw [h]
theorem wp_cg {α : Type} {r r' : Out α} {f : α → Sto → Prop} (h : r = r') : r.wp f = r'.wp f := by rw [h]
theorem wps_cg {r r' : OutS} {f : Fl → Sto → Prop} (h : r = r') : r.wp f = r'.wp f := by rw [h]
theorem ite_cg {α : Type} {c c' : Prop} [Decidable c] [Decidable c'] {x y : Out α} (h : c = c') : (if c then x else y) = if c' then x else y := by subst h; congr
theorem ites_cg {c c' : Prop} [Decidable c] [Decidable c'] {x y : OutS} (h : c = c') : (if c then x else y) = if c' then x else y := by subst h; congr
theorem of_some {α : Type} {S : Sto} {a : α} : Out.of S (some a) = .ok a S := nrfl rfl
theorem of_none {α : Type} {S : Sto} : (Out.of S none : Out α) = .bad := nrfl rfl
theorem of_ite {α : Type} {S : Sto} {c : Prop} [Decidable c] {a b : Option α} : Out.of S (if c then a else b) = if c then Out.of S a else Out.of S b := by split <;> rfl
theorem onO_some' {α : Type} {a : α} {g : α → OutS} : onO (some a) g = g a := nrfl rfl
section
variable {cl : Nat → List D → Sto → Out D} {ε : Env} {S : Sto}
theorem ee_v {i : Nat} : evE cl (.v i) ε S = .of S (rdE ε i) := by simp only [evE]
theorem ee_c {d : D} : evE cl (.c d) ε S = .ok d S := by simp only [evE]
theorem ee_g {x : Str} {d : D} : evE cl (.g x d) ε S = .ok d S := by simp only [evE]
theorem ee_bop {o : Operator} {a b : Ex} : evE cl (.bop o a b) ε S = (evE cl a ε S).bind fun x S1 => (evE cl b ε S1).bind fun y S2 => .of S2 (binF o x y) := by simp only [evE]
theorem ee_neg {a : Ex} : evE cl (.neg a) ε S = (evE cl a ε S).bind fun x S1 => match x with | .int i => .ok (.int (-i)) S1 | _ => .bad := by simp only [evE] <;> rfl
theorem ee_not {a : Ex} : evE cl (.not a) ε S = (evE cl a ε S).bind fun x S1 => (Out.of S1 (tru x)).bind fun b S2 => .ok (.bl (!b)) S2 := by simp only [evE]
theorem ee_cmp {o : CmpOp} {a b : Ex} : evE cl (.cmp o a b) ε S = (evE cl a ε S).bind fun x S1 => (evE cl b ε S1).bind fun y S2 => .of S2 (cmpF o x y) := by simp only [evE]
theorem ee_chain {o o' : CmpOp} {a b c : Ex} : evE cl (.chain o o' a b c) ε S = (evE cl a ε S).bind fun x S1 => (evE cl b ε S1).bind fun y S2 => (Out.of S2 (cmpF o x y)).bind fun r S3 => match r with
    | .bl true => (evE cl c ε S3).bind fun z S4 => .of S4 (cmpF o' y z)
    | .bl false => .ok (.bl false) S3
    | _ => .bad := by simp only [evE] <;> rfl
theorem ee_and {a : Ex} {es : List Ex} : evE cl (.and a es) ε S = (evE cl a ε S).bind fun x S1 => evAnd cl es x ε S1 := by simp only [evE]
theorem ee_or {a : Ex} {es : List Ex} : evE cl (.or a es) ε S = (evE cl a ε S).bind fun x S1 => evOr cl es x ε S1 := by simp only [evE]
theorem ee_ife {t a b : Ex} : evE cl (.ife t a b) ε S = (evE cl t ε S).bind fun x S1 => (Out.of S1 (tru x)).bind fun k S2 => if k = true then evE cl a ε S2 else evE cl b ε S2 := by simp only [evE]
theorem ee_tup {es : List Ex} : evE cl (.tup es) ε S = (evEs cl es ε S).bind fun ds S1 => if ds.length ≤ sizeLine then .ok (.tup ds) S1 else .bad := by simp only [evE]
theorem ee_lst {es : List Ex} : evE cl (.lst es) ε S = (evEs cl es ε S).bind fun ds S1 => if ds.length ≤ sizeLine then .ok (.lst ds) S1 else .bad := by simp only [evE]
theorem ee_dct {ks : List Key} {es : List Ex} : evE cl (.dct ks es) ε S = (evEs cl es ε S).bind fun ds S1 => if ds.length ≤ 15 then .ok (.dct (mergeD [] (ks.zip ds))) S1 else .bad := by simp only [evE]
theorem ee_ix {a i : Ex} : evE cl (.ix a i) ε S = (evE cl a ε S).bind fun x S1 => (evE cl i ε S1).bind fun y S2 => .of S2 (opIx x y) := by simp only [evE]
theorem ee_sl {a : Ex} {lo hi : List Ex} : evE cl (.sl a lo hi) ε S = (evE cl a ε S).bind fun x S1 => (evO cl lo ε S1).bind fun l S2 => (evO cl hi ε S2).bind fun h S3 => .of S3 (opSl x l h) := by simp only [evE]
theorem ee_rev {a : Ex} : evE cl (.rev a) ε S = (evE cl a ε S).bind fun x S1 => .of S1 (opRev x) := by simp only [evE]
theorem ee_call {f : Nat} {es : List Ex} : evE cl (.call f es) ε S = (evEs cl es ε S).bind fun ds S1 => cl f ds S1 := by simp only [evE]
theorem ee_bi {b : Bi} {es : List Ex} : evE cl (.bi b es) ε S = (evEs cl es ε S).bind fun ds S1 => .of S1 (biF b ds) := by simp only [evE]
theorem ee_isi {a : Ex} {t : Ty} : evE cl (.isi a t) ε S = (evE cl a ε S).bind fun x S1 => .of S1 (isiF t x) := by simp only [evE]
theorem ee_me {m : Me} {o : Ex} {es : List Ex} : evE cl (.me m o es) ε S = (evE cl o ε S).bind fun x S1 => if meR m x = true then (evEs cl es ε S1).bind fun ds S2 => .of S2 (meF m x ds) else .bad := by simp only [evE]
theorem ee_lc {e : Ex} {own : List Nat} {tg : Tg} {it : Ex} {ifs : List Ex} : evE cl (.lc e own tg it ifs) ε S = (evI cl it ε S).bind fun p S1 =>
    (lcLoop (fun d => tgS tg d (wipeE (fz (vs (.lc e own tg it ifs)) ε) own)) (evTs cl ifs) (evE cl e) p.1 S1).bind fun ys S2 => .ok (.lst ys) S2 := by simp only [evE]
theorem ee_six {i j : Nat} : evE cl (.six i j) ε S = .of S ((rdE ε i).bind fun d => sixF d j S) := by simp only [evE]
theorem ee_mkS {f : Nat} {es : List Ex} : evE cl (.mkS f es) ε S = (evEs cl es ε S).bind fun ds S1 => (cl f ds S1).bind mkF := by simp only [evE]
theorem es_nil : evEs cl [] ε S = .ok [] S := by simp only [evEs]
theorem es_cons {e : Ex} {es : List Ex} : evEs cl (e :: es) ε S = (evE cl e ε S).bind fun x S1 => (evEs cl es ε S1).bind fun xs S2 => .ok (x :: xs) S2 := by simp only [evEs]
theorem ea_nil {x : D} : evAnd cl [] x ε S = .ok x S := by simp only [evAnd]
theorem ea_cons {x : D} {e : Ex} {es : List Ex} : evAnd cl (e :: es) x ε S = (Out.of S (tru x)).bind fun b S1 => if b = true then (evE cl e ε S1).bind fun y S2 => evAnd cl es y ε S2 else .ok x S1 := by simp only [evAnd]
theorem eo_nil {x : D} : evOr cl [] x ε S = .ok x S := by simp only [evOr]
theorem eo_cons {x : D} {e : Ex} {es : List Ex} : evOr cl (e :: es) x ε S = (Out.of S (tru x)).bind fun b S1 => if b = true then .ok x S1 else (evE cl e ε S1).bind fun y S2 => evOr cl es y ε S2 := by simp only [evOr]
theorem eO_nil : evO cl [] ε S = .ok none S := by simp only [evO]
theorem eO_cons {e : Ex} {es : List Ex} : evO cl (e :: es) ε S = (evE cl e ε S).bind fun d S1 => .of S1 (asInt d) := by simp only [evO]
theorem et_nil : evTs cl [] ε S = .ok true S := by simp only [evTs]
theorem et_cons {e : Ex} {es : List Ex} : evTs cl (e :: es) ε S = (evE cl e ε S).bind fun d S1 => .of S1 (tru d) := by simp only [evTs]
theorem ei_rng {es : List Ex} : evI cl (.rng es) ε S = (evEs cl es ε S).bind fun ds S1 => .of S1 ((iterR ds).map fun its => (its, true)) := by simp only [evI]
theorem ei_enum {e : Ex} : evI cl (.enum e) ε S = (evE cl e ε S).bind fun d S1 => .of S1 ((iterN d).map fun its => (its, d.still)) := by simp only [evI]
theorem ei_zip {a b : Ex} : evI cl (.zip a b) ε S = (evE cl a ε S).bind fun d S1 => (evE cl b ε S1).bind fun d' S2 => .of S2 ((iterZ d d').map fun its => (its, d.still && d'.still)) := by simp only [evI]
theorem ei_itv {e : Ex} : evI cl (.itv e) ε S = (evE cl e ε S).bind fun d S1 => .of S1 ((iterV d).map fun its => (its, d.still)) := by simp only [evI]
theorem st_nil : evSs cl [] ε S = .ok (.nx ε) S := by simp only [evSs]
theorem st_cons {s : Sm} {r : List Sm} : evSs cl (s :: r) ε S = (evS cl s ε S).seq (evSs cl r) := by simp only [evSs]
theorem sm_ret {e : Ex} : evS cl (.ret e) ε S = (evE cl e ε S).on ε fun d S1 => .ok (.rt d) S1 := by simp only [evS]
theorem sm_retN : evS cl .retN ε S = .ok (.rt .non) S := by simp only [evS]
theorem sm_set {tg : Tg} {e : Ex} : evS cl (.set tg e) ε S = (evE cl e ε S).on ε fun d S1 => onO (setF tg e d ε) fun ε1 => .ok (.nx ε1) S1 := by simp only [evS]
theorem sm_aug {i : Nat} {o : Operator} {e : Ex} : evS cl (.aug i o e) ε S = onO (rdE ε i) fun x => (evE cl e ε S).on ε fun y S1 => onO (binF o x y) fun d => if d.still = true ∧ i < ε.length then .ok (.nx (ε.set i (.v d))) S1 else .bad := by simp only [evS]
theorem sm_par {i j : Nat} {a b : Ex} : evS cl (.par i j a b) ε S = (evE cl a ε S).on ε fun x S1 => (evE cl b ε S1).on ε fun y S2 => if i < ε.length ∧ j < ε.length then .ok (.nx (((fzV a x (fzV b y ε)).set i (.v x)).set j (.v y))) S2 else .bad := by simp only [evS]
theorem sm_put {i : Nat} {k e : Ex} : evS cl (.put i k e) ε S = if ownB ε i = true then (evE cl e ε S).on ε fun d S1 => (evE cl k ε S1).on ε fun y S2 => onO (chg (fzV e d ε) i fun o => putF o y d) fun ε1 => .ok (.nx ε1) S2 else .bad := by simp only [evS]
theorem sm_app {i : Nat} {e : Ex} : evS cl (.app i e) ε S = if ownL ε i = true then (evE cl e ε S).on ε fun d S1 => onO (chg (fzV e d ε) i fun o => appF o d) fun ε1 => .ok (.nx ε1) S1 else .bad := by simp only [evS]
theorem sm_ext {i : Nat} {e : Ex} : evS cl (.ext i e) ε S = if ownL ε i = true then (evE cl e ε S).on ε fun d S1 => onO (chg (fzN e d ε) i fun o => extF o d) fun ε1 => .ok (.nx ε1) S1 else .bad := by simp only [evS]
theorem sm_sput {i j : Nat} {e : Ex} : evS cl (.sput i j e) ε S = (evE cl e ε S).on ε fun d S1 => onO (sputF (rdE ε i) d j S1) fun S2 => .ok (.nx ε) S2 := by simp only [evS]
theorem sm_ife {c : Ex} {t e : List Sm} : evS cl (.ife c t e) ε S = ((evE cl c ε S).bind fun d S1 => .of S1 (tru d)).on ε fun b S1 => if b = true then evSs cl t ε S1 else evSs cl e ε S1 := by simp only [evS]
theorem sm_for {tg : Tg} {it : Ex} {b : List Sm} : evS cl (.for_ tg it b) ε S = (evI cl it ε S).on ε fun p S1 => forLoop (tgS tg) (evSs cl b) p.1 (if p.2 = true then ε else fz (vs it) ε) S1 := by simp only [evS]
theorem sm_ex {e : Ex} : evS cl (.ex e) ε S = (evE cl e ε S).on ε fun _ S1 => .ok (.nx ε) S1 := by simp only [evS]
theorem sm_pass : evS cl .pass ε S = .ok (.nx ε) S := by simp only [evS]
theorem sm_brk : evS cl .brk ε S = .ok (.bk ε) S := by simp only [evS]
theorem sm_cont : evS cl .cont ε S = .ok (.ct ε) S := by simp only [evS]
theorem ee_dc {kx vx : Ex} {own : List Nat} {tg : Tg} {it : Ex} {ifs : List Ex} : evE cl (.dc kx vx own tg it ifs) ε S = (evI cl it ε S).bind fun p S1 =>
    (dcLoop (fun d => tgS tg d (wipeE (fz (vs (.dc kx vx own tg it ifs)) ε) own)) (evTs cl ifs) (evE cl kx) (evE cl vx) p.1 [] S1).bind fun kvs S2 => .ok (.dct kvs) S2 := by simp only [evE]
theorem ee_dget {o k d : Ex} : evE cl (.dget o k d) ε S = (evE cl o ε S).bind fun x S1 => match x with
    | .dct kvs => (evE cl k ε S1).bind fun y S2 => (evE cl d ε S2).bind fun z S3 => .of S3 ((keyOf y).map fun k => (getK kvs k).getD z)
    | _ => .bad := by simp only [evE] <;> rfl
theorem ee_mkB {b : Mb} {e : Ex} : evE cl (.mkB b e) ε S = (evE cl e ε S).bind fun d S1 => .of S1 (mbF b d) := by simp only [evE]
theorem ee_cat {sa sb : Bool} {a b : Ex} : evE cl (.cat sa sb a b) ε S = (evE cl a ε S).bind fun x S1 => match itemsF sa x with
    | some xs => (evE cl b ε S1).bind fun y S2 => (match itemsF sb y with
      | some ys => if (xs ++ ys).length ≤ sizeLine then .ok (.tup (xs ++ ys)) S2 else .bad
      | none => .bad)
    | none => .bad := by simp only [evE] <;> rfl
theorem ei_dk {k : Dk} {e : Ex} : evI cl (.dk k e) ε S = (evE cl e ε S).bind fun d S1 => match d with
    | .dct kvs => if kvs.length ≤ sizeLine then .ok (iterD k kvs, false) S1 else .bad
    | _ => .bad := by simp only [evI] <;> rfl
theorem sm_forD {tg : Tg} {k : Dk} {e : Ex} {b : List Sm} : evS cl (.forD tg k e b) ε S = (evI cl (.dk k e) ε S).on ε fun p S1 => noXS (forLoop (tgS tg) (evSs cl b) p.1 (fz (vs e) ε) S1) := by simp only [evS]
theorem sm_upd {i : Nat} {e : Ex} : evS cl (.upd i e) ε S = if ownD ε i = true then (evE cl e ε S).on ε fun d S1 => onO (chg (fzN e d ε) i fun o => updF o d) fun ε1 => .ok (.nx ε1) S1 else .bad := by simp only [evS]
theorem sm_apop {i j : Nat} {e : Ex} : evS cl (.apop i j e) ε S = if ownL ε i = true ∧ ownL ε j = true then (evE cl e ε S).on ε fun d S1 => onO (apopF ε i j d) fun ε1 => .ok (.nx ε1) S1 else .bad := by simp only [evS]
theorem sm_pars {is : List Nat} {es : List Ex} : evS cl (.pars is es) ε S = evP cl es ε [] S fun ε G S1 => if is.all (· < ε.length) = true then .ok (.nx (setAll is G ε)) S1 else .bad := by simp only [evS]
theorem sm_while {c : Ex} {b : List Sm} : evS cl (.while_ c b) ε S = whileLoop (fun ε S => (evE cl c ε S).bind fun d S1 => .of S1 (tru d)) (evSs cl b) wFuel ε S := by simp only [evS]
theorem noXS_ok {f : Fl} : noXS (.ok f S) = .ok f S := nrfl rfl
theorem ep_nil {G : List Sl} {kk : Env → List Sl → Sto → OutS} : evP cl [] ε G S kk = kk ε G S := by simp only [evP]
theorem ep_cons {e : Ex} {es : List Ex} {G : List Sl} {kk : Env → List Sl → Sto → OutS} : evP cl (e :: es) ε G S kk = (evE cl e ε S).on ε fun d S1 => if fresh e = true then evP cl es (fzN e d ε) (G ++ [.o d]) S1 kk else evP cl es (fzV e d ε) (G ++ [.v d]) S1 kk := by simp only [evP]
/-- a comprehension without draws -/
theorem ev_lc {e : Ex} {own : List Nat} {tg : Tg} {it : Ex} {p : List D × Bool} {S1 : Sto} (f : D → D) (hi : evI cl it ε S = .ok p S1)
    (h : ∀ d ∈ p.1, ∃ ε', tgS tg d (wipeE (fz (vs (.lc e own tg it [])) ε) own) = some ε' ∧ evE cl e ε' S1 = .ok (f d) S1) :
    evE cl (.lc e own tg it []) ε S = .ok (.lst (p.1.map f)) S1 := by
  rw [ee_lc, hi, bind_ok, lc_pure f p.1 fun d m => let ⟨ε', a, b⟩ := h d m; ⟨ε', a, et_nil, b⟩, bind_ok]
theorem ev_lcf {e c : Ex} {own : List Nat} {tg : Tg} {it : Ex} {p : List D × Bool} {S1 : Sto} (g : D → Bool) (f : D → D) (hi : evI cl it ε S = .ok p S1)
    (h : ∀ d ∈ p.1, ∃ ε', tgS tg d (wipeE (fz (vs (.lc e own tg it [c])) ε) own) = some ε' ∧ evTs cl [c] ε' S1 = .ok (g d) S1 ∧ (g d = true → evE cl e ε' S1 = .ok (f d) S1)) :
    evE cl (.lc e own tg it [c]) ε S = .ok (.lst ((p.1.filter g).map f)) S1 := by
  rw [ee_lc, hi, bind_ok, lc_filter g f p.1 h, bind_ok]
end
theorem sl_eq : sizeLine = 16777216 := rfl
section
theorem boolsOf_map {α : Type} (g : α → Bool) : ∀ ds : List α, boolsOf (ds.map fun d => .bl (g d)) = some (ds.map g)
  | [] => rfl
  | d :: r => by simp [boolsOf, boolsOf_map g r]
theorem intsOf_map {α : Type} (g : α → Int) : ∀ ds : List α, intsOf (ds.map fun d => .int (g d)) = some (ds.map g)
  | [] => rfl
  | d :: r => by simp [intsOf, intsOf_map g r]
theorem bi_all_map {α : Type} {g : α → Bool} {xs : List α} : biF .all [.lst (xs.map fun x => .bl (g x))] = some (.bl (xs.all g)) := by
  simp [biF, lstOf, boolsOf_map, List.all_map, Function.comp_def]
theorem still_ints {α : Type} (g : α → Int) : ∀ xs : List α, D.stills (xs.map fun x => .int (g x)) = true
  | [] => rfl
  | x :: r => by simp [D.stills, D.still, still_ints g r]
end
theorem tg_n {i : Nat} {d : D} {ε : Env} : tgS (.n i) d ε = if i < ε.length then some (ε.set i (.v d)) else none := by simp only [tgS]
theorem tg_t {ts : List Tg} {ds : List D} {ε : Env} : tgS (.t ts) (.tup ds) ε = tgsS ts ds ε := by simp only [tgS]
theorem tg_l {ts : List Tg} {ds : List D} {ε : Env} : tgS (.t ts) (.lst ds) ε = tgsS ts ds ε := by simp only [tgS]
theorem tgs_nil {ε : Env} : tgsS [] [] ε = some ε := by simp only [tgsS]
theorem tgs_cons {t : Tg} {ts : List Tg} {d : D} {ds : List D} {ε : Env} : tgsS (t :: ts) (d :: ds) ε = match tgS t d ε with
    | some ε1 => tgsS ts ds ε1
    | none => none := by simp only [tgsS] <;> rfl
theorem u_fn {Pg : List Fd} {f : Fd} {i : Nat} (n : Nat) (h : Pg[i]? = some f) (hk : f.pk = .own) : evF Pg (n + 1) i = runF (evF Pg n) f := by
  funext ds S
  show (match Pg[i]? with | some f => if f.pk = Pk.mk then runM (evF Pg n) f ds S else runF (evF Pg n) f ds S | none => .bad) = _
  rw [h]
  show (if f.pk = Pk.mk then _ else _) = _
  rw [hk]; rfl
theorem u_fm {Pg : List Fd} {f : Fd} {i : Nat} (n : Nat) (h : Pg[i]? = some f) (hk : f.pk = .mk) : evF Pg (n + 1) i = runM (evF Pg n) f := by
  funext ds S
  show (match Pg[i]? with | some f => if f.pk = Pk.mk then runM (evF Pg n) f ds S else runF (evF Pg n) f ds S | none => .bad) = _
  rw [h]
  show (if f.pk = Pk.mk then _ else _) = _
  rw [hk]; rfl
end GG
open PySem PySem.Spec PyProof.Rows L2 GG
local macro_rules
  | `(tactic| simp! [$ls,*]) => `(tactic| simp [-GG.Out.bind_ok, -GG.Out.bind_exc, -GG.Out.bind_bad, GG.bind_ok, GG.bind_bad, GG.bind_ite, GG.on_ok, GG.on_bad, GG.seq_nx, GG.seq_rt, GG.seq_bk, GG.seq_ct, GG.seq_bad, GG.of_some, GG.of_none, GG.of_ite, GG.onO_some', GG.rdE, GG.ee_v, GG.ee_c, GG.ee_g, GG.ee_bop, GG.ee_neg, GG.ee_not, GG.ee_cmp, GG.ee_chain, GG.ee_and, GG.ee_or, GG.ee_ife, GG.ee_tup, GG.ee_lst, GG.ee_dct, GG.ee_ix, GG.ee_sl, GG.ee_rev, GG.ee_call, GG.ee_bi, GG.ee_isi, GG.ee_me, GG.ee_six, GG.ee_mkS, GG.es_nil, GG.es_cons, GG.ea_nil, GG.ea_cons, GG.eo_nil, GG.eo_cons, GG.eO_nil, GG.eO_cons, GG.et_nil, GG.et_cons, GG.ei_rng, GG.ei_enum, GG.ei_zip, GG.ei_itv, GG.st_nil, GG.st_cons, GG.sm_ret, GG.sm_retN, GG.sm_set, GG.sm_aug, GG.sm_par, GG.sm_put, GG.sm_app, GG.sm_ext, GG.sm_sput, GG.sm_ife, GG.sm_for, GG.sm_ex, GG.sm_pass, GG.sm_brk, GG.sm_cont, GG.wp_ok, GG.wp_bad, GG.wp_bind, GG.wps_ok, GG.wps_bad, GG.wp_on, GG.wp_seq, GG.tg_n, GG.tg_t, GG.tg_l, GG.tgs_nil, GG.tgs_cons, GG.wipeE, GG.fz, GG.fzF, GG.fzV, GG.fzN, GG.Sl.frz, GG.vs, GG.vss, GG.setF, GG.fresh, GG.chg, GG.ownB, GG.ownL, GG.appF, GG.extF, GG.putF, GG.D.still, GG.D.stills, GG.D.still1, GG.tru, GG.tyName, GG.isiF, GG.Ty.name, GG.cmpF, GG.binF, GG.opAdd, GG.opSub, GG.opMul, GG.opDiv, GG.opMod, GG.opPow, GG.opSh, GG.opEq, GG.opInt, GG.opIs, GG.biF, GG.lenOf, GG.lstOf, GG.seqOf, GG.iterV, GG.iterN, GG.asInt, GG.keyOf, GG.keysOf, GG.meR, GG.sixF, GG.sputF, GG.t3, GG.t3set, GG.sl_eq, $ls,*])
  | `(tactic| simp! [$ls,*] at $h:ident) => `(tactic| simp [-GG.Out.bind_ok, -GG.Out.bind_exc, -GG.Out.bind_bad, GG.bind_ok, GG.bind_bad, GG.bind_ite, GG.on_ok, GG.on_bad, GG.seq_nx, GG.seq_rt, GG.seq_bk, GG.seq_ct, GG.seq_bad, GG.of_some, GG.of_none, GG.of_ite, GG.onO_some', GG.rdE, GG.ee_v, GG.ee_c, GG.ee_g, GG.ee_bop, GG.ee_neg, GG.ee_not, GG.ee_cmp, GG.ee_chain, GG.ee_and, GG.ee_or, GG.ee_ife, GG.ee_tup, GG.ee_lst, GG.ee_dct, GG.ee_ix, GG.ee_sl, GG.ee_rev, GG.ee_call, GG.ee_bi, GG.ee_isi, GG.ee_me, GG.ee_six, GG.ee_mkS, GG.es_nil, GG.es_cons, GG.ea_nil, GG.ea_cons, GG.eo_nil, GG.eo_cons, GG.eO_nil, GG.eO_cons, GG.et_nil, GG.et_cons, GG.ei_rng, GG.ei_enum, GG.ei_zip, GG.ei_itv, GG.st_nil, GG.st_cons, GG.sm_ret, GG.sm_retN, GG.sm_set, GG.sm_aug, GG.sm_par, GG.sm_put, GG.sm_app, GG.sm_ext, GG.sm_sput, GG.sm_ife, GG.sm_for, GG.sm_ex, GG.sm_pass, GG.sm_brk, GG.sm_cont, GG.wp_ok, GG.wp_bad, GG.wp_bind, GG.wps_ok, GG.wps_bad, GG.wp_on, GG.wp_seq, GG.tg_n, GG.tg_t, GG.tg_l, GG.tgs_nil, GG.tgs_cons, GG.wipeE, GG.fz, GG.fzF, GG.fzV, GG.fzN, GG.Sl.frz, GG.vs, GG.vss, GG.setF, GG.fresh, GG.chg, GG.ownB, GG.ownL, GG.appF, GG.extF, GG.putF, GG.D.still, GG.D.stills, GG.D.still1, GG.tru, GG.tyName, GG.isiF, GG.Ty.name, GG.cmpF, GG.binF, GG.opAdd, GG.opSub, GG.opMul, GG.opDiv, GG.opMod, GG.opPow, GG.opSh, GG.opEq, GG.opInt, GG.opIs, GG.biF, GG.lenOf, GG.lstOf, GG.seqOf, GG.iterV, GG.iterN, GG.asInt, GG.keyOf, GG.keysOf, GG.meR, GG.sixF, GG.sputF, GG.t3, GG.t3set, GG.sl_eq, $ls,*] at $h:ident)
namespace GG
open PySem PySem.Spec PyProof.Rows L2
theorem runF_rt {cl : Nat → List D → Sto → Out D} {f : Fd} {ds : List D} {S S1 : Sto} {ε : Env} {d : D} (he : ds.map .v ++ List.replicate (f.N.length - ds.length) .u = ε)
    (h : evSs cl f.body ε S = .ok (.rt d) S1) : runF cl f ds S = .ok d S1 := by
  subst he
  unfold runF
  rw [h]
theorem rng_nat (cl : Nat → List D → Sto → Out D) (S : Sto) (ε : Env) (e : Ex) (n : Nat) (hn : n ≤ 10) (h : evE cl e ε S = .ok (.int n) S) : evI cl (.rng [e]) ε S = .ok ((List.range n).map fun (w : Nat) => .int (w : Nat), true) S := by
  rw [ei_rng, es_cons, h, bind_ok, es_nil, bind_ok, bind_ok]
  have : ∀ n ≤ 10, iterR [.int ((n : Nat) : Int)] = some ((List.range n).map fun (w : Nat) => .int (w : Nat)) := fun n h => by
    match n, h with
    | 0, _ => rfl
    | 1, _ => rfl
    | 2, _ => rfl
    | 3, _ => rfl
    | 4, _ => rfl
    | 5, _ => rfl
    | 6, _ => rfl
    | 7, _ => rfl
    | 8, _ => rfl
    | 9, _ => rfl
    | 10, _ => rfl
  rw [this n hn, Option.map_some, of_some]
theorem pys_ints : ∀ xs : List Int, pys (xs.map .int) = some (xs.map PyData.int)
  | [] => rfl
  | x :: r => by simp [pys, py, pys_ints r]
theorem lay_ints : ∀ xs : List Int, PyData.canLayAll0 (xs.map PyData.int) = true
  | [] => rfl
  | x :: r => by simp [PyData.canLayAll0, PyData.canLay0, lay_ints r]
theorem depth_ints : ∀ xs : List Int, PyData.depthAll (xs.map PyData.int) = 0
  | [] => rfl
  | x :: r => by simp [PyData.depthAll, PyData.depth, depth_ints r]
theorem eqv_ints : ∀ xs ys : List Int, PyData.eqvAll (xs.map PyData.int) (ys.map PyData.int) = decide (xs = ys)
  | [], [] => rfl
  | x :: r, [] => by simp [PyData.eqvAll]
  | [], y :: s => by simp [PyData.eqvAll]
  | x :: r, y :: s => by
    have := eqv_ints r s
    rw [Bool.eq_iff_iff] at *
    simp [PyData.eqvAll, PyData.eqv, this] at *
theorem eq_tup (n : Bool) (xs ys : List Int) : opEq n (.tup (xs.map .int)) (.tup (ys.map .int)) = some (.bl (if n then !decide (xs = ys) else decide (xs = ys))) := by
  simp [opEq, py, pys_ints, SeqAt.shaped, PyData.canLay0, PyData.depth, lay_ints, depth_ints, PyData.eqv, eqv_ints]
theorem eq_lst (n : Bool) (xs ys : List Int) : opEq n (.lst (xs.map .int)) (.lst (ys.map .int)) = some (.bl (if n then !decide (xs = ys) else decide (xs = ys))) := by
  simp [opEq, py, pys_ints, SeqAt.shaped, PyData.canLay0, PyData.depth, lay_ints, depth_ints, PyData.eqv, eqv_ints]
end GG
namespace GG
open PySem PySem.Spec PyProof.Rows L2
inductive All2 {α β : Type} (P : α → β → Prop) : List α → List β → Prop where
  | nil : All2 P [] []
  | cons {x : α} {y : β} {xs : List α} {ys : List β} (h : P x y) (t : All2 P xs ys) : All2 P (x :: xs) (y :: ys)
theorem All2.len {α β : Type} {P : α → β → Prop} {xs : List α} {ys : List β} (h : All2 P xs ys) : ys.length = xs.length := by
  induction h with
  | nil => rfl
  | cons h t ih => rw [List.length_cons, List.length_cons, ih]
/-- the results told by a function -/
theorem All2.pick {α β γ : Type} {Q : γ → Prop} {en : γ → β} {xs : List α} {ys : List β} (h : All2 (fun _ y => ∃ c, y = en c ∧ Q c) xs ys) : ∃ cs : List γ, ys = cs.map en ∧ (∀ c ∈ cs, Q c) ∧ cs.length = xs.length := by
  induction h with
  | nil => exact ⟨[], rfl, fun c m => absurd m List.not_mem_nil, rfl⟩
  | cons h t ih =>
    obtain ⟨c, rfl, q⟩ := h
    obtain ⟨cs, rfl, q2, l⟩ := ih
    refine ⟨c :: cs, rfl, fun d m => ?_, by simp [l]⟩
    rcases List.mem_cons.mp m with rfl | m
    · exact q
    · exact q2 d m
/-- .. and each by its own thing -/
theorem All2.pickP {α β γ : Type} {P : α → γ → Prop} {en : γ → β} {xs : List α} {ys : List β} (h : All2 (fun x y => ∃ c, y = en c ∧ P x c) xs ys) : ∃ cs : List γ, ys = cs.map en ∧ All2 P xs cs := by
  induction h with
  | nil => exact ⟨[], rfl, .nil⟩
  | cons h t ih =>
    obtain ⟨c, rfl, q⟩ := h
    obtain ⟨cs, rfl, q2⟩ := ih
    exact ⟨c :: cs, rfl, .cons q q2⟩
/-! ## comprehensions as maps -/
section
variable {α β γ : Type}
def mapO (g : α → Sto → Out β) : List α → Sto → Out (List β)
  | [], S => .ok [] S
  | x :: r, S => (g x S).bind fun y S1 => (mapO g r S1).bind fun ys S2 => .ok (y :: ys) S2
def filO (c : α → Sto → Out Bool) (g : α → Sto → Out β) : List α → Sto → Out (List β)
  | [], S => .ok [] S
  | x :: r, S => (c x S).bind fun b S1 => if b = true then (g x S1).bind fun y S2 => (filO c g r S2).bind fun ys S3 => .ok (y :: ys) S3 else filO c g r S1
theorem noX_ok {a : α} {S : Sto} : noX (Out.ok a S) = .ok a S := nrfl rfl
theorem noX_bad {S : Sto} : noX (Out.bad : Out α) = .bad := nrfl rfl
theorem noX_ite {c : Prop} [Decidable c] {x y : Out α} : noX (if c then x else y) = if c then noX x else noX y := by split <;> rfl
theorem lcLoop_mapO {tgt : D → Option Env} {elt : Env → Sto → Out D} (t : D → Env) (h : ∀ d, tgt d = some (t d)) : ∀ (ds : List D) (S : Sto),
    lcLoop tgt (fun _ S => .ok true S) elt ds S = mapO (fun d S => noX (elt (t d) S)) ds S
  | [], S => by unfold lcLoop mapO; rfl
  | d :: r, S => by
    unfold lcLoop mapO
    rw [h d]
    dsimp only
    rw [noX_ok, bind_ok, if_pos rfl]
    congr 1
    funext y S1
    rw [lcLoop_mapO t h r S1]
theorem lcLoop_filO {tgt : D → Option Env} {c : Env → Sto → Out Bool} {elt : Env → Sto → Out D} (t : D → Env) (h : ∀ d, tgt d = some (t d)) : ∀ (ds : List D) (S : Sto),
    lcLoop tgt c elt ds S = filO (fun d S => noX (c (t d) S)) (fun d S => noX (elt (t d) S)) ds S
  | [], S => by unfold lcLoop filO; rfl
  | d :: r, S => by
    unfold lcLoop filO
    rw [h d]
    dsimp only
    congr 1
    funext b S1
    split
    · congr 1
      funext y S2
      rw [lcLoop_filO t h r S2]
    · exact lcLoop_filO t h r S1
theorem wipe_len : ∀ (xs : List Nat) (ε : Env), (wipeE ε xs).length = ε.length
  | [], ε => rfl
  | v :: vs, ε => by simp [wipeE, wipe_len vs ε]
variable {cl : Nat → List D → Sto → Out D} {ε : Env} {S : Sto}
theorem ee_lcn {e : Ex} {own : List Nat} {i : Nat} {it : Ex} (hi : i < ε.length) : evE cl (.lc e own (.n i) it []) ε S =
    (evI cl it ε S).bind fun p S1 => (mapO (fun d S => noX (evE cl e ((wipeE (fz (vs (.lc e own (.n i) it [])) ε) own).set i (.v d)) S)) p.1 S1).bind fun ys S2 => .ok (.lst ys) S2 := by
  rw [ee_lc]
  congr 1
  funext p S1
  have ht : evTs cl [] = fun _ S => .ok true S := by funext ε S; exact et_nil
  rw [ht, lcLoop_mapO (fun d => (wipeE (fz (vs (.lc e own (.n i) it [])) ε) own).set i (.v d)) fun d => by rw [tg_n, if_pos (by rw [wipe_len, fz_len]; exact hi)]]
theorem ee_lcf {e c : Ex} {own : List Nat} {i : Nat} {it : Ex} (hi : i < ε.length) : evE cl (.lc e own (.n i) it [c]) ε S =
    (evI cl it ε S).bind fun p S1 => (filO (fun d S => noX ((evE cl c ((wipeE (fz (vs (.lc e own (.n i) it [c])) ε) own).set i (.v d)) S).bind fun d S1 => .of S1 (tru d)))
      (fun d S => noX (evE cl e ((wipeE (fz (vs (.lc e own (.n i) it [c])) ε) own).set i (.v d)) S)) p.1 S1).bind fun ys S2 => .ok (.lst ys) S2 := by
  rw [ee_lc]
  congr 1
  funext p S1
  have ht : evTs cl [c] = fun ε S => (evE cl c ε S).bind fun d S1 => .of S1 (tru d) := by funext ε S; exact et_cons
  rw [ht, lcLoop_filO (fun d => (wipeE (fz (vs (.lc e own (.n i) it [c])) ε) own).set i (.v d)) fun d => by rw [tg_n, if_pos (by rw [wipe_len, fz_len]; exact hi)]]
theorem mapO_map {g : β → Sto → Out γ} {f : α → β} : ∀ {xs : List α} {S : Sto}, mapO g (xs.map f) S = mapO (fun x => g (f x)) xs S
  | [], S => rfl
  | x :: r, S => by
    rw [List.map_cons]
    unfold mapO
    congr 1
    funext y S1
    rw [mapO_map]
theorem filO_map {c : β → Sto → Out Bool} {g : β → Sto → Out γ} {f : α → β} : ∀ {xs : List α} {S : Sto}, filO c g (xs.map f) S = filO (fun x => c (f x)) (fun x => g (f x)) xs S
  | [], S => rfl
  | x :: r, S => by
    rw [List.map_cons]
    unfold filO
    congr 1
    funext b S1
    rw [filO_map]
    split
    · congr 1
      funext y S2
      rw [filO_map]
    · rfl
theorem mapO_ok {f : α → β} : ∀ {xs : List α} {S : Sto}, mapO (fun x S => .ok (f x) S) xs S = .ok (xs.map f) S
  | [], S => rfl
  | x :: r, S => by unfold mapO; rw [bind_ok, mapO_ok, bind_ok, List.map_cons]
theorem filO_ok {c : α → Bool} {f : α → β} : ∀ {xs : List α} {S : Sto}, filO (fun x S => .ok (c x) S) (fun x S => .ok (f x) S) xs S = .ok ((xs.filter c).map f) S
  | [], S => rfl
  | x :: r, S => by
    unfold filO
    rw [bind_ok, List.filter_cons, filO_ok]
    cases c x
    · rfl
    · show (filO (fun x S => .ok (c x) S) (fun x S => .ok (f x) S) r S).bind _ = _
      rw [filO_ok]
      rfl
theorem mapO_congr {g g' : α → Sto → Out β} {xs ys : List α} {S T : Sto} (hx : xs = ys) (hs : S = T) (h : ∀ x ∈ ys, ∀ S, g x S = g' x S) : mapO g xs S = mapO g' ys T := by
  subst hx hs
  induction xs generalizing S with
  | nil => rfl
  | cons x r ih =>
    unfold mapO
    rw [h x List.mem_cons_self]
    congr 1
    funext y S1
    rw [ih fun x m => h x (List.mem_cons_of_mem _ m)]
theorem filO_congr {c c' : α → Sto → Out Bool} {g g' : α → Sto → Out β} {xs ys : List α} {S T : Sto} (hx : xs = ys) (hs : S = T) (hc : ∀ x ∈ ys, ∀ S, c x S = c' x S) (h : ∀ x ∈ ys, ∀ S, g x S = g' x S) :
    filO c g xs S = filO c' g' ys T := by
  subst hx hs
  induction xs generalizing S with
  | nil => rfl
  | cons x r ih =>
    unfold filO
    rw [hc x List.mem_cons_self]
    congr 1
    funext b S1
    have ih' := fun S => @ih S (fun x m => hc x (List.mem_cons_of_mem _ m)) (fun x m => h x (List.mem_cons_of_mem _ m))
    rw [h x List.mem_cons_self, ih']
    split
    · congr 1
      funext y S2
      rw [ih']
    · rfl
theorem mapO_pure {g : α → Sto → Out β} {f : α → β} : ∀ {xs : List α}, (∀ x ∈ xs, g x S = .ok (f x) S) → mapO g xs S = .ok (xs.map f) S
  | [], _ => rfl
  | x :: r, h => by unfold mapO; rw [h x List.mem_cons_self, bind_ok, mapO_pure fun x m => h x (List.mem_cons_of_mem _ m), bind_ok, List.map_cons]
theorem filO_pure {c : α → Sto → Out Bool} {g : α → Sto → Out β} {p : α → Bool} {f : α → β} : ∀ {xs : List α}, (∀ x ∈ xs, c x S = .ok (p x) S) → (∀ x ∈ xs, p x = true → g x S = .ok (f x) S) → filO c g xs S = .ok ((xs.filter p).map f) S
  | [], _, _ => rfl
  | x :: r, hc, h => by
    unfold filO
    rw [hc x List.mem_cons_self, bind_ok, List.filter_cons]
    have ih := filO_pure (fun x m => hc x (List.mem_cons_of_mem _ m)) fun x m => h x (List.mem_cons_of_mem _ m)
    cases hp : p x
    · rw [if_neg (by simp), ih, if_neg (by simp)]
    · rw [if_pos rfl, h x List.mem_cons_self hp, bind_ok, ih, bind_ok, if_pos rfl, List.map_cons]
/-- a comprehension with draws: what holds of each result -/
theorem mapO_ex {g : α → Sto → Out β} (L : Nat) (P : α → β → Prop) : ∀ {xs : List α} {S : Sto}, S.length = L → (∀ x ∈ xs, ∀ S, S.length = L → ∃ y S', g x S = .ok y S' ∧ P x y ∧ S'.length = L) →
    ∃ ys S', mapO g xs S = .ok ys S' ∧ All2 P xs ys ∧ S'.length = L
  | [], S, hS, _ => ⟨[], S, rfl, .nil, hS⟩
  | x :: r, S, hS, h => by
    obtain ⟨y, S1, e, p, h1⟩ := h x List.mem_cons_self S hS
    obtain ⟨ys, S2, e2, p2, h2⟩ := mapO_ex L P h1 fun x m => h x (List.mem_cons_of_mem _ m)
    exact ⟨y :: ys, S2, by unfold mapO; rw [e, bind_ok, e2, bind_ok], .cons p p2, h2⟩
/-- a comprehension with the list told -/
theorem lc_map {e : Ex} {own : List Nat} {i : Nat} {it : Ex} {S1 : Sto} {b : Bool} {xs : List α} {en : α → D} {ε' : Env} (f : α → D) (hi : evI cl it ε S = .ok (xs.map en, b) S1) (hl : i < ε.length)
    (he : wipeE (fz (vs (.lc e own (.n i) it [])) ε) own = ε') (h : ∀ x ∈ xs, evE cl e (ε'.set i (.v (en x))) S1 = .ok (f x) S1) : evE cl (.lc e own (.n i) it []) ε S = .ok (.lst (xs.map f)) S1 := by
  rw [ee_lcn hl, hi, bind_ok, he]
  dsimp only
  rw [mapO_map, mapO_pure (f := f) fun x m => by rw [h x m, noX_ok], bind_ok]
theorem lc_fil {e c : Ex} {own : List Nat} {i : Nat} {it : Ex} {S1 : Sto} {b : Bool} {xs : List α} {en : α → D} {ε' : Env} (p : α → Bool) (f : α → D) (hi : evI cl it ε S = .ok (xs.map en, b) S1) (hl : i < ε.length)
    (he : wipeE (fz (vs (.lc e own (.n i) it [c])) ε) own = ε') (hc : ∀ x ∈ xs, evE cl c (ε'.set i (.v (en x))) S1 = .ok (.bl (p x)) S1) (h : ∀ x ∈ xs, p x = true → evE cl e (ε'.set i (.v (en x))) S1 = .ok (f x) S1) :
    evE cl (.lc e own (.n i) it [c]) ε S = .ok (.lst ((xs.filter p).map f)) S1 := by
  rw [ee_lcf hl, hi, bind_ok, he]
  dsimp only
  rw [filO_map, filO_pure (p := p) (f := f) (fun x m => by rw [hc x m, bind_ok]; simp only [tru, of_some, noX_ok]) (fun x m hp => by rw [h x m hp, noX_ok]), bind_ok]
/-- .. with draws -/
theorem lc_ex {e : Ex} {own : List Nat} {i : Nat} {it : Ex} {S1 : Sto} {b : Bool} {xs : List α} {en : α → D} {ε' : Env} (P : α → D → Prop) (hi : evI cl it ε S = .ok (xs.map en, b) S1) (hl : i < ε.length)
    (he : wipeE (fz (vs (.lc e own (.n i) it [])) ε) own = ε') (h : ∀ x ∈ xs, ∀ S, S.length = S1.length → ∃ y S', evE cl e (ε'.set i (.v (en x))) S = .ok y S' ∧ P x y ∧ S'.length = S1.length) :
    ∃ ys S', evE cl (.lc e own (.n i) it []) ε S = .ok (.lst ys) S' ∧ All2 P xs ys ∧ S'.length = S1.length := by
  obtain ⟨ys, S', e1, p, l⟩ := mapO_ex (g := fun x S => noX (evE cl e (ε'.set i (.v (en x))) S)) S1.length P rfl fun x m S hS => by
    obtain ⟨y, S', e, p, l⟩ := h x m S hS
    exact ⟨y, S', by rw [e, noX_ok], p, l⟩
  refine ⟨ys, S', ?_, p, l⟩
  rw [ee_lcn hl, hi, bind_ok, he]
  dsimp only
  rw [mapO_map, e1, bind_ok]
/-! ## loops -/
/-- a loop over told things; E tells the environment, all turns go on, nothing is drawn -/
theorem for_fold {tgt : D → Env → Option Env} {body : Env → Sto → OutS} (en : α → D) (E : β → Env → Prop) (step : β → α → β) : ∀ {xs : List α} {b : β} {ε : Env},
    (∀ x ∈ xs, ∀ b ε, E b ε → ∃ ε1 ε2, tgt (en x) ε = some ε1 ∧ body ε1 S = .ok (.nx ε2) S ∧ E (step b x) ε2) → E b ε → ∃ ε', forLoop tgt body (xs.map en) ε S = .ok (.nx ε') S ∧ E (xs.foldl step b) ε'
  | [], b, ε, _, hb => ⟨ε, by unfold forLoop; rfl, hb⟩
  | x :: r, b, ε, h, hb => by
    obtain ⟨ε1, ε2, e1, e2, h2⟩ := h x List.mem_cons_self b ε hb
    obtain ⟨ε', e3, h3⟩ := for_fold en E step (fun x m => h x (List.mem_cons_of_mem _ m)) h2
    refine ⟨ε', ?_, h3⟩
    rw [List.map_cons]
    unfold forLoop
    rw [e1]
    dsimp only
    rw [e2]
    exact e3
/-- .. where the turns' number is told, too -/
theorem for_idx {tgt : D → Env → Option Env} {body : Env → Sto → OutS} (en : α → D) (E : Nat → Env → Prop) : ∀ {xs : List α} {k : Nat} {ε : Env},
    (∀ j x, xs[j]? = some x → ∀ ε, E (k + j) ε → ∃ ε1 ε2, tgt (en x) ε = some ε1 ∧ body ε1 S = .ok (.nx ε2) S ∧ E (k + j + 1) ε2) → E k ε → ∃ ε', forLoop tgt body (xs.map en) ε S = .ok (.nx ε') S ∧ E (k + xs.length) ε'
  | [], k, ε, _, hb => ⟨ε, by unfold forLoop; rfl, hb⟩
  | x :: r, k, ε, h, hb => by
    obtain ⟨ε1, ε2, e1, e2, h2⟩ := h 0 x rfl ε hb
    obtain ⟨ε', e3, h3⟩ := for_idx (k := k + 1) en E (fun j x m ε hε => by
      have := h (j + 1) x (by simpa using m) ε (by rw [show k + (j + 1) = k + 1 + j by omega]; exact hε)
      rw [show k + (j + 1) = k + 1 + j by omega] at this
      exact this) h2
    refine ⟨ε', ?_, by rw [List.length_cons, show k + (r.length + 1) = k + 1 + r.length by omega]; exact h3⟩
    rw [List.map_cons]
    unfold forLoop
    rw [e1]
    dsimp only
    rw [e2]
    exact e3
/-- a loop with draws, all turns go on -/
theorem for_ex {tgt : D → Env → Option Env} {body : Env → Sto → OutS} (en : α → D) (L : Nat) (E : Env → Prop) : ∀ {xs : List α} {ε : Env} {S : Sto}, S.length = L →
    (∀ x ∈ xs, ∀ ε S, E ε → S.length = L → ∃ ε1 ε2 S', tgt (en x) ε = some ε1 ∧ body ε1 S = .ok (.nx ε2) S' ∧ E ε2 ∧ S'.length = L) → E ε → ∃ ε' S', forLoop tgt body (xs.map en) ε S = .ok (.nx ε') S' ∧ E ε' ∧ S'.length = L
  | [], ε, S, hS, _, hb => ⟨ε, S, by unfold forLoop; rfl, hb, hS⟩
  | x :: r, ε, S, hS, h, hb => by
    obtain ⟨ε1, ε2, S1, e1, e2, h2, l2⟩ := h x List.mem_cons_self ε S hb hS
    obtain ⟨ε', S', e3, h3, l3⟩ := for_ex en L E l2 (fun x m => h x (List.mem_cons_of_mem _ m)) h2
    refine ⟨ε', S', ?_, h3, l3⟩
    rw [List.map_cons]
    unfold forLoop
    rw [e1]
    dsimp only
    rw [e2]
    exact e3
theorem fn_ret {cl : Nat → List D → Sto → Out D} {f : Fd} {ds : List D} {S S' : Sto} {d : D}
    (h : evSs cl f.body (ds.map .v ++ List.replicate (f.N.length - ds.length) .u) S = .ok (.rt d) S') : runF cl f ds S = .ok d S' := by
  unfold runF; rw [h]
end
end GG
namespace GG
open PySem PySem.Spec PyProof.Rows L2
/-! ## what may be shown -/
def goodP (W k : Nat) (p : PyData) : Bool := p.showable && decide (p.depth ≤ k) && p.leavesShort 60 && decide (p.weight ≤ W)
theorem good_all (W k : Nat) : ∀ (m : Nat) (ps : List PyData), ps.length ≤ m → (∀ p ∈ ps, goodP W k p = true) → PyData.showableAll ps = true ∧ PyData.depthAll ps ≤ k ∧ PyData.leavesShortAll 60 ps = true ∧ PyData.weightAll ps ≤ m * (W + 1)
  | m, [], _, _ => ⟨rfl, Nat.zero_le _, rfl, Nat.zero_le _⟩
  | 0, p :: r, h, _ => by simp at h
  | m + 1, p :: r, h, a => by
    obtain ⟨a1, a2, a3, a4⟩ := good_all W k m r (by simpa using h) fun q hq => a q (List.mem_cons_of_mem _ hq)
    have g := a p List.mem_cons_self
    simp only [goodP, Bool.and_eq_true, decide_eq_true_eq] at g
    refine ⟨by simp [PyData.showableAll, g, a1], ?_, by simp [PyData.leavesShortAll, g, a3], ?_⟩
    · simp only [PyData.depthAll]; omega
    · simp only [PyData.weightAll]
      have := g.2
      rw [Nat.add_mul, Nat.one_mul]
      omega
theorem good_tup {W k m : Nat} {ps : List PyData} (h : ps.length ≤ m) (a : ∀ p ∈ ps, goodP W k p = true) : goodP (m * (W + 1)) (k + 1) (.tuple ps) = true := by
  obtain ⟨a1, a2, a3, a4⟩ := good_all W k m ps h a
  simp only [goodP, PyData.showable, PyData.leavesShort, Bool.and_eq_true]
  exact ⟨⟨⟨a1, decide_eq_true (by simp only [PyData.depth]; omega)⟩, a3⟩, decide_eq_true (by simp only [PyData.weight]; exact a4)⟩
theorem good_list {W k m : Nat} {ps : List PyData} (h : ps.length ≤ m) (a : ∀ p ∈ ps, goodP W k p = true) : goodP (m * (W + 1)) (k + 1) (.list ps) = true := by
  obtain ⟨a1, a2, a3, a4⟩ := good_all W k m ps h a
  simp only [goodP, PyData.showable, PyData.leavesShort, Bool.and_eq_true]
  exact ⟨⟨⟨a1, decide_eq_true (by simp only [PyData.depth]; omega)⟩, a3⟩, decide_eq_true (by simp only [PyData.weight]; exact a4)⟩
theorem good_le {W k W' k' : Nat} {p : PyData} (h : goodP W k p = true) (hw : W ≤ W') (hk : k ≤ k') : goodP W' k' p = true := by
  simp only [goodP, Bool.and_eq_true, decide_eq_true_eq] at h ⊢
  exact ⟨⟨⟨h.1.1.1, by omega⟩, h.1.2⟩, by omega⟩
/-- a thing that may be shown -/
def GD (W k : Nat) (d : D) : Prop := ∃ p, py d = some p ∧ goodP W k p = true
def gdB (W k : Nat) (d : D) : Bool := match py d with
  | some p => goodP W k p
  | none => false
theorem GD.ofB {W k : Nat} {d : D} (h : gdB W k d = true) : GD W k d := by
  unfold gdB at h
  cases e : py d with
  | none => rw [e] at h; cases h
  | some p => rw [e] at h; exact ⟨p, e, h⟩
theorem GD.le {W k W' k' : Nat} {d : D} (h : GD W k d) (hw : W ≤ W') (hk : k ≤ k') : GD W' k' d := let ⟨p, e, g⟩ := h; ⟨p, e, good_le g hw hk⟩
theorem GD.alls {W k : Nat} : ∀ {ds : List D}, (∀ d ∈ ds, GD W k d) → ∃ ps, pys ds = some ps ∧ ps.length = ds.length ∧ ∀ p ∈ ps, goodP W k p = true
  | [], _ => ⟨[], by simp [pys], rfl, fun p m => absurd m List.not_mem_nil⟩
  | d :: r, h => by
    obtain ⟨p, e, g⟩ := h d List.mem_cons_self
    obtain ⟨ps, e2, l, g2⟩ := GD.alls fun x m => h x (List.mem_cons_of_mem _ m)
    refine ⟨p :: ps, by simp [pys, e, e2], by simp [l], fun q m => ?_⟩
    rcases List.mem_cons.mp m with rfl | m
    · exact g
    · exact g2 q m
theorem GD.tup {W k m : Nat} {ds : List D} (h : ds.length ≤ m) (a : ∀ d ∈ ds, GD W k d) : GD (m * (W + 1)) (k + 1) (.tup ds) := by
  obtain ⟨ps, e, l, g⟩ := GD.alls a
  exact ⟨.tuple ps, by simp [py, e], good_tup (by omega) g⟩
theorem GD.lst {W k m : Nat} {ds : List D} (h : ds.length ≤ m) (a : ∀ d ∈ ds, GD W k d) : GD (m * (W + 1)) (k + 1) (.lst ds) := by
  obtain ⟨ps, e, l, g⟩ := GD.alls a
  exact ⟨.list ps, by simp [py, e], good_list (by omega) g⟩
def shw (d : D) : Str := match py d with
  | some p => p.shown
  | none => ""
theorem repr_of {W k : Nat} {d : D} (h : GD W k d) (hw : W ≤ 9000) (hk : k ≤ 60) : biF .repr [d] = some (.str (shw d)) := by
  obtain ⟨p, e, g⟩ := h
  simp only [goodP, Bool.and_eq_true, decide_eq_true_eq] at g
  obtain ⟨⟨⟨g1, g2⟩, g3⟩, g4⟩ := g
  have ln := PyData.shown_le 60 (by decide) p g3
  have big : (600000 : Nat) ≤ sizeLine := by decide
  have c : p.showable = true ∧ p.depth ≤ 60 ∧ p.shown.length ≤ sizeLine := ⟨g1, by omega, by omega⟩
  simp only [biF, e, shw]
  rw [if_pos c]
theorem GD.bl (b : Bool) : GD 200 3 (.bl b) := .ofB (by cases b <;> decide +kernel)
theorem GD.small {i : Int} (h : -1 ≤ i) (h2 : i ≤ 4) : GD 200 3 (.int i) := .ofB (by
  have q : i = -1 ∨ i = 0 ∨ i = 1 ∨ i = 2 ∨ i = 3 ∨ i = 4 := by omega
  rcases q with rfl | rfl | rfl | rfl | rfl | rfl <;> decide +kernel)
theorem shw_bl : shw (.bl true) = "True" ∧ shw (.bl false) = "False" := by constructor <;> decide +kernel
theorem repr_bl (b : Bool) : biF .repr [.bl b] = some (.str (shw (.bl b))) := repr_of (GD.bl b) (by decide) (by decide)
/-- a loop whose turns may open streams -/
theorem for_exS {α : Type} {tgt : D → Env → Option Env} {body : Env → Sto → OutS} (en : α → D) (E : Env → Prop) : ∀ {xs : List α} {ε : Env} {S : Sto},
    (∀ x ∈ xs, ∀ ε S, E ε → ∃ ε1 ε2 S', tgt (en x) ε = some ε1 ∧ body ε1 S = .ok (.nx ε2) S' ∧ E ε2) → E ε → ∃ ε' S', forLoop tgt body (xs.map en) ε S = .ok (.nx ε') S' ∧ E ε'
  | [], ε, S, _, hb => ⟨ε, S, by unfold forLoop; rfl, hb⟩
  | x :: r, ε, S, h, hb => by
    obtain ⟨ε1, ε2, S1, e1, e2, h2⟩ := h x List.mem_cons_self ε S hb
    obtain ⟨ε', S', e3, h3⟩ := for_exS (S := S1) en E (fun x m => h x (List.mem_cons_of_mem _ m)) h2
    refine ⟨ε', S', ?_, h3⟩
    rw [List.map_cons]
    unfold forLoop
    rw [e1]
    dsimp only
    rw [e2]
    exact e3
theorem st_app {cl : Nat → List D → Sto → Out D} {b : List Sm} : ∀ {a : List Sm} {ε : Env} {S : Sto}, evSs cl (a ++ b) ε S = (evSs cl a ε S).seq (evSs cl b)
  | [], ε, S => by rw [List.nil_append, st_nil, seq_nx]
  | s :: r, ε, S => by
    rw [List.cons_append, st_cons, st_cons]
    cases evS cl s ε S with
    | ok f S1 => cases f <;> first | rw [seq_nx, seq_nx, st_app] | rfl
    | exc c v ε1 S1 => rfl
    | bad => rfl
/-- the first statements of a body -/
theorem st_cut {cl : Nat → List D → Sto → Out D} (k : Nat) {b : List Sm} {ε ε1 : Env} {S S1 : Sto} (h : evSs cl (b.take k) ε S = .ok (.nx ε1) S1) : evSs cl b ε S = evSs cl (b.drop k) ε1 S1 := by
  conv => lhs; rw [← List.take_append_drop k b]
  rw [st_app, h, seq_nx]
theorem eq_int {n : Bool} {i j : Int} : opEq n (.int i) (.int j) = some (.bl (if n then !decide (i = j) else decide (i = j))) := nrfl rfl
theorem eq_str {n : Bool} {i j : Str} : opEq n (.str i) (.str j) = some (.bl (if n then !decide (i = j) else decide (i = j))) := nrfl rfl
theorem itv_tup {ds : List D} : iterV (.tup ds) = some ds := nrfl rfl
theorem itv_lst {ds : List D} : iterV (.lst ds) = some ds := nrfl rfl
theorem itv_rol {ds : List D} : iterV (.rol ds) = some ds := nrfl rfl
theorem itz_tup {xs ys : List D} : iterZ (.tup xs) (.tup ys) = some (zipUp xs ys) := nrfl rfl
theorem itz_lst {xs ys : List D} : iterZ (.lst xs) (.lst ys) = some (zipUp xs ys) := nrfl rfl
theorem len_tup {ds : List D} : lenOf (.tup ds) = some (ds.length : Int) := nrfl rfl
theorem len_lst {ds : List D} : lenOf (.lst ds) = some (ds.length : Int) := nrfl rfl
theorem len_rol {ds : List D} : lenOf (.rol ds) = some (ds.length : Int) := nrfl rfl
theorem len_str {z : Str} (h : z.length ≤ sizeLine) : lenOf (.str z) = some (z.length : Int) := by simp [lenOf, h]
theorem sq_tup {ds : List D} : seqOf (.tup ds) = some ds := nrfl rfl
theorem sq_lst {ds : List D} : seqOf (.lst ds) = some ds := nrfl rfl
theorem sq_rol {ds : List D} : seqOf (.rol ds) = some ds := nrfl rfl
theorem bi_len {d : D} : biF .len [d] = (lenOf d).map .int := nrfl rfl
theorem bi_abs {i : Int} : biF .abs [.int i] = some (.int (if i < 0 then -i else i)) := nrfl rfl
theorem bi_int {i : Int} : biF .int [.int i] = some (.int i) := nrfl rfl
theorem bi_intb {b : Bool} : biF .int [.bl b] = some (.int (if b then 1 else 0)) := nrfl rfl
theorem bi_max {i j : Int} : biF .max [.int i, .int j] = some (.int (if j > i then j else i)) := nrfl rfl
theorem bi_min {i j : Int} : biF .min [.int i, .int j] = some (.int (if j < i then j else i)) := nrfl rfl
theorem bi_list {d : D} : biF .list [d] = (seqOf d).map .lst := nrfl rfl
theorem bi_tuple {d : D} : biF .tuple [d] = (seqOf d).map .tup := nrfl rfl
theorem bi_all {d : D} : biF .all [d] = ((lstOf d).bind boolsOf).map fun bs => .bl (bs.all id) := nrfl rfl
theorem bi_any {d : D} : biF .any [d] = ((lstOf d).bind boolsOf).map fun bs => .bl (bs.any id) := nrfl rfl
theorem bi_sum {d : D} : biF .sum [d] = ((lstOf d).bind intsOf).map fun ns => .int ns.sum := nrfl rfl
theorem ite_tt {α : Type} {a b : α} : (if true = true then a else b) = a := if_pos rfl
theorem ite_ff {α : Type} {a b : α} : (if false = true then a else b) = b := if_neg (by decide)
theorem bi_any_map {α : Type} {g : α → Bool} {xs : List α} : biF .any [.lst (xs.map fun x => .bl (g x))] = some (.bl (xs.any g)) := by
  simp [biF, lstOf, boolsOf_map, List.any_map, Function.comp_def]
end GG
open PySem PySem.Spec PyProof.Rows L2 GG
local macro_rules
  | `(tactic| dsimp! [$ls,*]) => `(tactic| simp [-GG.Out.bind_ok, -GG.Out.bind_exc, -GG.Out.bind_bad, GG.bind_ok, GG.bind_bad, GG.bind_ite, GG.on_ok, GG.on_bad, GG.seq_nx, GG.seq_rt, GG.seq_bk, GG.seq_ct, GG.seq_bad, GG.of_some, GG.of_none, GG.of_ite, GG.onO_some', GG.rdE, GG.ee_v, GG.ee_c, GG.ee_g, GG.ee_bop, GG.ee_neg, GG.ee_not, GG.ee_cmp, GG.ee_chain, GG.ee_and, GG.ee_or, GG.ee_ife, GG.ee_tup, GG.ee_lst, GG.ee_dct, GG.ee_ix, GG.ee_sl, GG.ee_rev, GG.ee_call, GG.ee_bi, GG.ee_isi, GG.ee_me, GG.ee_six, GG.ee_mkS, GG.es_nil, GG.es_cons, GG.ea_nil, GG.ea_cons, GG.eo_nil, GG.eo_cons, GG.eO_nil, GG.eO_cons, GG.et_nil, GG.et_cons, GG.ei_rng, GG.ei_enum, GG.ei_zip, GG.ei_itv, GG.st_nil, GG.st_cons, GG.ee_dget, GG.ee_mkB, GG.ee_cat, GG.ei_dk, GG.mbF, GG.itemsF, GG.sm_upd, GG.sm_pars, GG.noXS_ok, GG.ep_nil, GG.ep_cons, GG.setAll, GG.ownD, GG.updF, GG.sm_ret, GG.sm_retN, GG.sm_set, GG.sm_aug, GG.sm_par, GG.sm_put, GG.sm_app, GG.sm_ext, GG.sm_sput, GG.sm_ife, GG.sm_for, GG.sm_ex, GG.sm_pass, GG.sm_brk, GG.sm_cont, GG.wp_ok, GG.wp_bad, GG.wp_bind, GG.wps_ok, GG.wps_bad, GG.wp_on, GG.wp_seq, GG.tg_n, GG.tg_t, GG.tg_l, GG.tgs_nil, GG.tgs_cons, GG.wipeE, GG.fz, GG.fzF, GG.fzV, GG.fzN, GG.Sl.frz, GG.vs, GG.vss, GG.setF, GG.fresh, GG.chg, GG.ownB, GG.ownL, GG.appF, GG.extF, GG.putF, GG.D.still, GG.D.stills, GG.D.still1, GG.tru, GG.tyName, GG.isiF, GG.Ty.name, GG.cmpF, GG.binF, GG.opAdd, GG.opSub, GG.opMul, GG.opDiv, GG.opMod, GG.opPow, GG.opSh, GG.opInt, GG.opIs, GG.bi_len, GG.bi_abs, GG.bi_int, GG.bi_intb, GG.bi_max, GG.bi_min, GG.bi_list, GG.bi_tuple, GG.bi_all_map, GG.bi_any_map, GG.bi_sum, GG.lstOf, GG.iterN, GG.asInt, GG.keyOf, GG.keysOf, GG.meR, GG.sixF, GG.sputF, GG.t3, GG.t3set, GG.sl_eq, GG.eq_int, GG.eq_str, GG.itv_tup, GG.itv_lst, GG.itv_rol, GG.itz_tup, GG.itz_lst, GG.len_tup, GG.len_lst, GG.len_rol, GG.len_str, GG.sq_tup, GG.sq_lst, GG.sq_rol, GG.ite_tt, GG.ite_ff, $ls,*])
  | `(tactic| dsimp! [$ls,*] at $h:ident) => `(tactic| simp [-GG.Out.bind_ok, -GG.Out.bind_exc, -GG.Out.bind_bad, GG.bind_ok, GG.bind_bad, GG.bind_ite, GG.on_ok, GG.on_bad, GG.seq_nx, GG.seq_rt, GG.seq_bk, GG.seq_ct, GG.seq_bad, GG.of_some, GG.of_none, GG.of_ite, GG.onO_some', GG.rdE, GG.ee_v, GG.ee_c, GG.ee_g, GG.ee_bop, GG.ee_neg, GG.ee_not, GG.ee_cmp, GG.ee_chain, GG.ee_and, GG.ee_or, GG.ee_ife, GG.ee_tup, GG.ee_lst, GG.ee_dct, GG.ee_ix, GG.ee_sl, GG.ee_rev, GG.ee_call, GG.ee_bi, GG.ee_isi, GG.ee_me, GG.ee_six, GG.ee_mkS, GG.es_nil, GG.es_cons, GG.ea_nil, GG.ea_cons, GG.eo_nil, GG.eo_cons, GG.eO_nil, GG.eO_cons, GG.et_nil, GG.et_cons, GG.ei_rng, GG.ei_enum, GG.ei_zip, GG.ei_itv, GG.st_nil, GG.st_cons, GG.ee_dget, GG.ee_mkB, GG.ee_cat, GG.ei_dk, GG.mbF, GG.itemsF, GG.sm_upd, GG.sm_pars, GG.noXS_ok, GG.ep_nil, GG.ep_cons, GG.setAll, GG.ownD, GG.updF, GG.sm_ret, GG.sm_retN, GG.sm_set, GG.sm_aug, GG.sm_par, GG.sm_put, GG.sm_app, GG.sm_ext, GG.sm_sput, GG.sm_ife, GG.sm_for, GG.sm_ex, GG.sm_pass, GG.sm_brk, GG.sm_cont, GG.wp_ok, GG.wp_bad, GG.wp_bind, GG.wps_ok, GG.wps_bad, GG.wp_on, GG.wp_seq, GG.tg_n, GG.tg_t, GG.tg_l, GG.tgs_nil, GG.tgs_cons, GG.wipeE, GG.fz, GG.fzF, GG.fzV, GG.fzN, GG.Sl.frz, GG.vs, GG.vss, GG.setF, GG.fresh, GG.chg, GG.ownB, GG.ownL, GG.appF, GG.extF, GG.putF, GG.D.still, GG.D.stills, GG.D.still1, GG.tru, GG.tyName, GG.isiF, GG.Ty.name, GG.cmpF, GG.binF, GG.opAdd, GG.opSub, GG.opMul, GG.opDiv, GG.opMod, GG.opPow, GG.opSh, GG.opInt, GG.opIs, GG.bi_len, GG.bi_abs, GG.bi_int, GG.bi_intb, GG.bi_max, GG.bi_min, GG.bi_list, GG.bi_tuple, GG.bi_all_map, GG.bi_any_map, GG.bi_sum, GG.lstOf, GG.iterN, GG.asInt, GG.keyOf, GG.keysOf, GG.meR, GG.sixF, GG.sputF, GG.t3, GG.t3set, GG.sl_eq, GG.eq_int, GG.eq_str, GG.itv_tup, GG.itv_lst, GG.itv_rol, GG.itz_tup, GG.itz_lst, GG.len_tup, GG.len_lst, GG.len_rol, GG.len_str, GG.sq_tup, GG.sq_lst, GG.sq_rol, GG.ite_tt, GG.ite_ff, $ls,*] at $h:ident)
namespace GG
open PySem PySem.Spec PyProof.Rows L2
section
variable {α β : Type} {cl : Nat → List D → Sto → Out D} {ε : Env} {S : Sto}
/-- a comprehension, the target of any form -/
theorem lc_mapT {e : Ex} {own : List Nat} {tg : Tg} {it : Ex} {S1 : Sto} {b : Bool} {xs : List α} {en : α → D} {ε' : Env} (εx : α → Env) (f : α → D) (hi : evI cl it ε S = .ok (xs.map en, b) S1)
    (he : wipeE (fz (vs (.lc e own tg it [])) ε) own = ε') (ht : ∀ x ∈ xs, tgS tg (en x) ε' = some (εx x)) (h : ∀ x ∈ xs, evE cl e (εx x) S1 = .ok (f x) S1) : evE cl (.lc e own tg it []) ε S = .ok (.lst (xs.map f)) S1 := by
  rw [ee_lc, hi, bind_ok, he]
  dsimp only
  have ht2 : evTs cl [] = fun _ S => .ok true S := by funext ε S; exact et_nil
  have key : lcLoop (fun d => tgS tg d ε') (evTs cl []) (evE cl e) (xs.map en) S1 = .ok (xs.map f) S1 := by
    rw [ht2]
    clear hi
    induction xs with
    | nil => rfl
    | cons x r ih =>
      rw [List.map_cons]
      unfold lcLoop
      rw [ht x List.mem_cons_self]
      dsimp only
      rw [noX_ok, bind_ok, if_pos rfl, h x List.mem_cons_self, noX_ok, bind_ok, ih (fun y m => ht y (List.mem_cons_of_mem _ m)) (fun y m => h y (List.mem_cons_of_mem _ m)), bind_ok, List.map_cons]
  rw [key, bind_ok]
theorem lc_filT {e c : Ex} {own : List Nat} {tg : Tg} {it : Ex} {S1 : Sto} {b : Bool} {xs : List α} {en : α → D} {ε' : Env} (εx : α → Env) (p : α → Bool) (f : α → D) (hi : evI cl it ε S = .ok (xs.map en, b) S1)
    (he : wipeE (fz (vs (.lc e own tg it [c])) ε) own = ε') (ht : ∀ x ∈ xs, tgS tg (en x) ε' = some (εx x)) (hc : ∀ x ∈ xs, evE cl c (εx x) S1 = .ok (.bl (p x)) S1) (h : ∀ x ∈ xs, p x = true → evE cl e (εx x) S1 = .ok (f x) S1) :
    evE cl (.lc e own tg it [c]) ε S = .ok (.lst ((xs.filter p).map f)) S1 := by
  rw [ee_lc, hi, bind_ok, he]
  dsimp only
  have key : lcLoop (fun d => tgS tg d ε') (evTs cl [c]) (evE cl e) (xs.map en) S1 = .ok ((xs.filter p).map f) S1 := by
    clear hi
    induction xs with
    | nil => rfl
    | cons x r ih =>
      rw [List.map_cons]
      unfold lcLoop
      rw [ht x List.mem_cons_self]
      dsimp only
      have ih' := ih (fun y m => ht y (List.mem_cons_of_mem _ m)) (fun y m => hc y (List.mem_cons_of_mem _ m)) (fun y m => h y (List.mem_cons_of_mem _ m))
      rw [et_cons, hc x List.mem_cons_self, bind_ok]
      simp only [tru, of_some, noX_ok, bind_ok, List.filter_cons]
      cases hp : p x
      · rw [if_neg (by simp), if_neg (by simp), ih']
      · rw [if_pos rfl, if_pos rfl, h x List.mem_cons_self hp, noX_ok, bind_ok, ih', bind_ok, List.map_cons]
  rw [key, bind_ok]
/-- a dict comprehension without a test -/
theorem dc_map {kx vx : Ex} {own : List Nat} {tg : Tg} {it : Ex} {S1 : Sto} {b : Bool} {xs : List α} {en : α → D} {ε' : Env} (εx : α → Env) (kf : α → Key) (f : α → D) (hi : evI cl it ε S = .ok (xs.map en, b) S1)
    (he : wipeE (fz (vs (.dc kx vx own tg it [])) ε) own = ε') (ht : ∀ x ∈ xs, tgS tg (en x) ε' = some (εx x)) (hk : ∀ x ∈ xs, evE cl kx (εx x) S1 = .ok (kD (kf x)) S1) (h : ∀ x ∈ xs, evE cl vx (εx x) S1 = .ok (f x) S1) (nd : (xs.map kf).Nodup) :
    evE cl (.dc kx vx own tg it []) ε S = .ok (.dct (xs.map fun x => (kf x, f x))) S1 := by
  rw [ee_dc, hi, bind_ok, he]
  dsimp only
  have ht2 : evTs cl [] = fun _ S => .ok true S := by funext ε S; exact et_nil
  have kk : ∀ k : Key, keyOf (kD k) = some k := fun k => by cases k <;> rfl
  have key : ∀ (xs : List α) (acc : List (Key × D)), (∀ x ∈ xs, tgS tg (en x) ε' = some (εx x)) → (∀ x ∈ xs, evE cl kx (εx x) S1 = .ok (kD (kf x)) S1) → (∀ x ∈ xs, evE cl vx (εx x) S1 = .ok (f x) S1) → (xs.map kf).Nodup → (∀ x ∈ xs, hasK acc (kf x) = false) →
      dcLoop (fun d => tgS tg d ε') (evTs cl []) (evE cl kx) (evE cl vx) (xs.map en) acc S1 = .ok (acc ++ xs.map fun x => (kf x, f x)) S1 := by
    rw [ht2]
    intro xs
    induction xs with
    | nil => intro acc _ _ _ _ _; simp [dcLoop]
    | cons x r ih =>
      intro acc a1 a2 a3 a4 a5
      rw [List.map_cons] at a4
      obtain ⟨n1, n2⟩ := List.nodup_cons.mp a4
      rw [List.map_cons]
      unfold dcLoop
      rw [a1 x List.mem_cons_self]
      dsimp only
      rw [noX_ok, bind_ok, if_pos rfl, a2 x List.mem_cons_self, noX_ok, bind_ok, kk]
      dsimp only
      rw [a3 x List.mem_cons_self, noX_ok, bind_ok]
      have hp : putD acc (kf x) (f x) = acc ++ [(kf x, f x)] := by unfold putD; rw [if_neg (by rw [a5 x List.mem_cons_self]; decide)]
      rw [hp, ih _ (fun y m => a1 y (List.mem_cons_of_mem _ m)) (fun y m => a2 y (List.mem_cons_of_mem _ m)) (fun y m => a3 y (List.mem_cons_of_mem _ m)) n2 (fun y m => ?_)]
      · simp
      · have ny : kf x ≠ kf y := fun z => n1 (by rw [z]; exact List.mem_map_of_mem m)
        have q : (acc.any fun kv => decide (kv.1 = kf y)) = false := a5 y (List.mem_cons_of_mem _ m)
        unfold hasK
        rw [List.any_append, q]
        simp [ny]
  have := key xs [] ht hk h nd (fun _ _ => rfl)
  rw [this, bind_ok, List.nil_append]
end
end GG
namespace GG
open PySem PySem.Spec PyProof.Rows L2
/-! ## evaluation in order: continuations have names, so that simp does not look into them ahead of the value -/
section
variable {β : Type} (cl : Nat → List D → Sto → Out D)
def kR1 (f : D → Option D) : D → Sto → Out D := fun x S => .of S (f x)
def kR2 (f : D → D → Option D) : D → D → Sto → Out D := fun x y S => .of S (f x y)
def kE1 (e : Ex) (ε : Env) (k : D → D → Sto → Out β) : D → Sto → Out β := fun x S => (evE cl e ε S).bind (k x)
def kE2 (e : Ex) (ε : Env) (k : D → D → D → Sto → Out β) : D → D → Sto → Out β := fun x y S => (evE cl e ε S).bind (k x y)
def negF : D → Option D
  | .int i => some (.int (-i))
  | _ => none
def notF (x : D) : Option D := (tru x).map fun b => .bl (!b)
def kCh (o o' : CmpOp) (c : Ex) (ε : Env) : D → D → Sto → Out D := fun x y S => match cmpF o x y with
  | some (.bl true) => (evE cl c ε S).bind (kR2 (cmpF o') y)
  | some (.bl false) => .ok (.bl false) S
  | _ => .bad
def kAnd (es : List Ex) (ε : Env) : D → Sto → Out D := fun x S => evAnd cl es x ε S
def kOr (es : List Ex) (ε : Env) : D → Sto → Out D := fun x S => evOr cl es x ε S
def kIte (a b : Ex) (ε : Env) : D → Sto → Out D := fun x S => match tru x with
  | some true => evE cl a ε S
  | some false => evE cl b ε S
  | none => .bad
def kTup : List D → Sto → Out D := fun ds S => if ds.length ≤ sizeLine then .ok (.tup ds) S else .bad
def kLst : List D → Sto → Out D := fun ds S => if ds.length ≤ sizeLine then .ok (.lst ds) S else .bad
def kDct (ks : List Key) : List D → Sto → Out D := fun ds S => if ds.length ≤ 15 then .ok (.dct (mergeD [] (ks.zip ds))) S else .bad
def kEs (es : List Ex) (ε : Env) : D → Sto → Out (List D) := fun x S => (evEs cl es ε S).bind fun xs S => .ok (x :: xs) S
def kCl (f : Nat) : List D → Sto → Out D := fun ds S => cl f ds S
def kBi (b : Bi) : List D → Sto → Out D := fun ds S => .of S (biF b ds)
def kMe (m : Me) (es : List Ex) (ε : Env) : D → Sto → Out D := fun x S => if meR m x = true then (evEs cl es ε S).bind fun ds S => .of S (meF m x ds) else .bad
def kSl1 (lo hi : List Ex) (ε : Env) : D → Sto → Out D := fun x S => (evO cl lo ε S).bind fun l S => (evO cl hi ε S).bind fun h S => .of S (opSl x l h)
def kCat (sa sb : Bool) (b : Ex) (ε : Env) : D → Sto → Out D := fun x S => match itemsF sa x with
  | some xs => (evE cl b ε S).bind fun y S => (match itemsF sb y with
    | some ys => if (xs ++ ys).length ≤ sizeLine then .ok (.tup (xs ++ ys)) S else .bad
    | none => .bad)
  | none => .bad
def kGet (k d : Ex) (ε : Env) : D → Sto → Out D := fun x S => match x with
  | .dct kvs => (evE cl k ε S).bind fun y S => (evE cl d ε S).bind fun z S => .of S ((keyOf y).map fun k => (getK kvs k).getD z)
  | _ => .bad
/-- what a comprehension walks is known -/
def kLc (e : Ex) (own : List Nat) (tg : Tg) (it : Ex) (ifs : List Ex) (ε : Env) : List D × Bool → Sto → Out D := fun p S =>
  (lcLoop (fun d => tgS tg d (wipeE (fz (vs (.lc e own tg it ifs)) ε) own)) (evTs cl ifs) (evE cl e) p.1 S).bind fun ys S => .ok (.lst ys) S
def kRng : List D → Sto → Out (List D × Bool) := fun ds S => .of S ((iterR ds).map fun its => (its, true))
def kEnum : D → Sto → Out (List D × Bool) := fun d S => .of S ((iterN d).map fun its => (its, d.still))
def kItv : D → Sto → Out (List D × Bool) := fun d S => .of S ((iterV d).map fun its => (its, d.still))
def kZip2 (x : D) : D → Sto → Out (List D × Bool) := fun y S => .of S ((iterZ x y).map fun its => (its, x.still && y.still))
def kZip (b : Ex) (ε : Env) : D → Sto → Out (List D × Bool) := fun x S => (evE cl b ε S).bind (kZip2 x)
def kDk (k : Dk) : D → Sto → Out (List D × Bool) := fun d S => match d with
  | .dct kvs => if kvs.length ≤ sizeLine then .ok (iterD k kvs, false) S else .bad
  | _ => .bad
/-- what holds of statements -/
def kRet : D → Sto → OutS := fun d S => .ok (.rt d) S
def kSet (tg : Tg) (e : Ex) (ε : Env) : D → Sto → OutS := fun d S => onO (setF tg e d ε) fun ε1 => .ok (.nx ε1) S
def kSetA (i : Nat) (e : Ex) (ε : Env) : D → Sto → OutS := fun d S => onO (tgS (.n i) d (fzA e d ε)) fun ε1 => .ok (.nx ε1) S
def kAug (i : Nat) (o : Operator) (x : D) (ε : Env) : D → Sto → OutS := fun y S => onO (binF o x y) fun d => if d.still = true ∧ i < ε.length then .ok (.nx (ε.set i (.v d))) S else .bad
def kPar2 (i j : Nat) (a b : Ex) (ε : Env) (x : D) : D → Sto → OutS := fun y S => if i < ε.length ∧ j < ε.length then .ok (.nx (((fzV a x (fzV b y ε)).set i (.v x)).set j (.v y))) S else .bad
def kPar (i j : Nat) (a b : Ex) (ε : Env) : D → Sto → OutS := fun x S => (evE cl b ε S).on ε (kPar2 i j a b ε x)
def kPut2 (i : Nat) (e : Ex) (ε : Env) (d : D) : D → Sto → OutS := fun y S => onO (chg (fzV e d ε) i fun o => putF o y d) fun ε1 => .ok (.nx ε1) S
def kPut (i : Nat) (k e : Ex) (ε : Env) : D → Sto → OutS := fun d S => (evE cl k ε S).on ε (kPut2 i e ε d)
def kApp (i : Nat) (e : Ex) (ε : Env) : D → Sto → OutS := fun d S => onO (chg (fzV e d ε) i fun o => appF o d) fun ε1 => .ok (.nx ε1) S
def kExt (i : Nat) (e : Ex) (ε : Env) : D → Sto → OutS := fun d S => onO (chg (fzN e d ε) i fun o => extF o d) fun ε1 => .ok (.nx ε1) S
def kUpd (i : Nat) (e : Ex) (ε : Env) : D → Sto → OutS := fun d S => onO (chg (fzN e d ε) i fun o => updF o d) fun ε1 => .ok (.nx ε1) S
def kApop (i j : Nat) (ε : Env) : D → Sto → OutS := fun d S => onO (apopF ε i j d) fun ε1 => .ok (.nx ε1) S
def kSput (i j : Nat) (ε : Env) : D → Sto → OutS := fun d S => onO (sputF (rdE ε i) d j S) fun S2 => .ok (.nx ε) S2
def kIf (t e : List Sm) (ε : Env) : D → Sto → OutS := fun d S => match tru d with
  | some true => evSs cl t ε S
  | some false => evSs cl e ε S
  | none => .bad
def kEx (ε : Env) : D → Sto → OutS := fun _ S => .ok (.nx ε) S
def kFor (tg : Tg) (it : Ex) (b : List Sm) (ε : Env) : List D × Bool → Sto → OutS := fun p S => forLoop (tgS tg) (evSs cl b) p.1 (if p.2 = true then ε else fz (vs it) ε) S
def kForD (tg : Tg) (e : Ex) (b : List Sm) (ε : Env) : List D × Bool → Sto → OutS := fun p S => noXS (forLoop (tgS tg) (evSs cl b) p.1 (fz (vs e) ε) S)
def kP (e : Ex) (es : List Ex) (ε : Env) (G : List Sl) (kk : Env → List Sl → Sto → OutS) : D → Sto → OutS := fun d S => if fresh e = true then evP cl es (fzN e d ε) (G ++ [.o d]) S kk else evP cl es (fzV e d ε) (G ++ [.v d]) S kk
def kPars (is : List Nat) : Env → List Sl → Sto → OutS := fun ε G S => if is.all (· < ε.length) = true then .ok (.nx (setAll is G ε)) S else .bad
end
section
variable {β : Type} {cl : Nat → List D → Sto → Out D} {ε : Env} {S : Sto}
theorem q_kR1 {f : D → Option D} {x : D} : kR1 f x S = .of S (f x) := nrfl rfl
theorem q_kR2 {f : D → D → Option D} {x y : D} : kR2 f x y S = .of S (f x y) := nrfl rfl
theorem q_kE1 {e : Ex} {k : D → D → Sto → Out β} {x : D} : kE1 cl e ε k x S = (evE cl e ε S).bind (k x) := nrfl rfl
theorem q_kE2 {e : Ex} {k : D → D → D → Sto → Out β} {x y : D} : kE2 cl e ε k x y S = (evE cl e ε S).bind (k x y) := nrfl rfl
theorem e_bop {o : Operator} {a b : Ex} : evE cl (.bop o a b) ε S = (evE cl a ε S).bind (kE1 cl b ε (kR2 (binF o))) := by rw [ee_bop]; rfl
theorem e_neg {a : Ex} : evE cl (.neg a) ε S = (evE cl a ε S).bind (kR1 negF) := by
  rw [ee_neg]; congr 1; funext x S1; cases x <;> rfl
theorem e_not {a : Ex} : evE cl (.not a) ε S = (evE cl a ε S).bind (kR1 notF) := by
  rw [ee_not]; congr 1; funext x S1; simp only [kR1, notF]; cases tru x <;> rfl
theorem e_cmp {o : CmpOp} {a b : Ex} : evE cl (.cmp o a b) ε S = (evE cl a ε S).bind (kE1 cl b ε (kR2 (cmpF o))) := by rw [ee_cmp]; rfl
theorem e_chain {o o' : CmpOp} {a b c : Ex} : evE cl (.chain o o' a b c) ε S = (evE cl a ε S).bind (kE1 cl b ε (kCh cl o o' c ε)) := by
  rw [ee_chain]; congr 1; funext x S1; unfold kE1; congr 1; funext y S2; unfold kCh
  cases h : cmpF o x y with
  | none => rfl
  | some r => cases r with
    | bl b => cases b <;> rfl
    | _ => rfl
theorem q_kCh_t {o o' : CmpOp} {c : Ex} {x y : D} (h : cmpF o x y = some (.bl true)) : kCh cl o o' c ε x y S = (evE cl c ε S).bind (kR2 (cmpF o') y) := by unfold kCh; rw [h]
theorem q_kCh_f {o o' : CmpOp} {c : Ex} {x y : D} (h : cmpF o x y = some (.bl false)) : kCh cl o o' c ε x y S = .ok (.bl false) S := by unfold kCh; rw [h]
theorem e_and {a : Ex} {es : List Ex} : evE cl (.and a es) ε S = (evE cl a ε S).bind (kAnd cl es ε) := by rw [ee_and]; rfl
theorem q_kAnd0 {x : D} : kAnd cl [] ε x S = .ok x S := by unfold kAnd; rw [ea_nil]
theorem q_kAnd {e : Ex} {es : List Ex} {b : Bool} : kAnd cl (e :: es) ε (.bl b) S = if b = true then (evE cl e ε S).bind (kAnd cl es ε) else .ok (.bl false) S := by
  unfold kAnd; rw [ea_cons]; cases b <;> rfl
theorem e_or {a : Ex} {es : List Ex} : evE cl (.or a es) ε S = (evE cl a ε S).bind (kOr cl es ε) := by rw [ee_or]; rfl
theorem q_kOr0 {x : D} : kOr cl [] ε x S = .ok x S := by unfold kOr; rw [eo_nil]
theorem q_kOr {e : Ex} {es : List Ex} {b : Bool} : kOr cl (e :: es) ε (.bl b) S = if b = true then .ok (.bl true) S else (evE cl e ε S).bind (kOr cl es ε) := by
  unfold kOr; rw [eo_cons]; cases b <;> rfl
theorem e_ife {t a b : Ex} : evE cl (.ife t a b) ε S = (evE cl t ε S).bind (kIte cl a b ε) := by
  rw [ee_ife]; congr 1; funext x S1; unfold kIte; cases tru x with
  | none => rfl
  | some k => cases k <;> rfl
theorem q_kIte {a b : Ex} {k : Bool} : kIte cl a b ε (.bl k) S = if k = true then evE cl a ε S else evE cl b ε S := by unfold kIte; cases k <;> rfl
theorem e_tup {es : List Ex} : evE cl (.tup es) ε S = (evEs cl es ε S).bind kTup := by rw [ee_tup]; rfl
theorem e_lst {es : List Ex} : evE cl (.lst es) ε S = (evEs cl es ε S).bind kLst := by rw [ee_lst]; rfl
theorem e_dct {ks : List Key} {es : List Ex} : evE cl (.dct ks es) ε S = (evEs cl es ε S).bind (kDct ks) := by rw [ee_dct]; rfl
theorem q_kTup {ds : List D} : kTup ds S = if ds.length ≤ sizeLine then .ok (.tup ds) S else .bad := nrfl rfl
theorem q_kLst {ds : List D} : kLst ds S = if ds.length ≤ sizeLine then .ok (.lst ds) S else .bad := nrfl rfl
theorem q_kDct {ks : List Key} {ds : List D} : kDct ks ds S = if ds.length ≤ 15 then .ok (.dct (mergeD [] (ks.zip ds))) S else .bad := nrfl rfl
theorem e_ix {a i : Ex} : evE cl (.ix a i) ε S = (evE cl a ε S).bind (kE1 cl i ε (kR2 opIx)) := by rw [ee_ix]; rfl
theorem e_sl {a : Ex} {lo hi : List Ex} : evE cl (.sl a lo hi) ε S = (evE cl a ε S).bind (kSl1 cl lo hi ε) := by rw [ee_sl]; rfl
theorem q_kSl00 {x : D} : kSl1 cl [] [] ε x S = .of S (opSl x none none) := by unfold kSl1; simp only [eO_nil, bind_ok]
def kSl10 (x : D) : D → Sto → Out D := fun l S => .of S ((asInt l).bind fun l => opSl x l none)
def kSl01 (x : D) : D → Sto → Out D := fun h S => .of S ((asInt h).bind fun h => opSl x none h)
def kSl11 (x : D) : D → D → Sto → Out D := fun l h S => .of S ((asInt l).bind fun l => (asInt h).bind fun h => opSl x l h)
theorem q_kSl10 {x : D} {a : Ex} {r : List Ex} : kSl1 cl (a :: r) [] ε x S = (evE cl a ε S).bind (kSl10 x) := by
  unfold kSl1; simp only [eO_cons, eO_nil, bind_ok]
  cases evE cl a ε S with
  | ok l S1 => simp only [bind_ok, kSl10]; cases asInt l <;> rfl
  | exc _ _ _ => rfl
  | bad => rfl
theorem q_kSl01 {x : D} {a : Ex} {r : List Ex} : kSl1 cl [] (a :: r) ε x S = (evE cl a ε S).bind (kSl01 x) := by
  unfold kSl1; simp only [eO_cons, eO_nil, bind_ok]
  cases evE cl a ε S with
  | ok l S1 => simp only [bind_ok, kSl01]; cases asInt l <;> rfl
  | exc _ _ _ => rfl
  | bad => rfl
theorem q_sl10 {x : D} {l : D} : kSl10 x l S = .of S ((asInt l).bind fun l => opSl x l none) := nrfl rfl
theorem q_sl01 {x : D} {l : D} : kSl01 x l S = .of S ((asInt l).bind fun l => opSl x none l) := nrfl rfl
def asI : D → Option Int
  | .int i => some i
  | _ => none
def kSlA (x : D) (b : Ex) (cl : Nat → List D → Sto → Out D) (ε : Env) : D → Sto → Out D := fun l S => match asI l with
  | some i => (evE cl b ε S).bind fun h S => match asI h with
    | some j => .of S (opSl x (some i) (some j))
    | none => .bad
  | none => .bad
def kSlB (x : D) (i : Int) : D → Sto → Out D := fun h S => match asI h with
    | some j => .of S (opSl x (some i) (some j))
    | none => .bad
theorem q_kSl11 {x : D} {a b : Ex} {r s : List Ex} : kSl1 cl (a :: r) (b :: s) ε x S = (evE cl a ε S).bind (kSlA x b cl ε) := by
  unfold kSl1; simp only [eO_cons]
  cases evE cl a ε S with
  | ok l S1 =>
    simp only [bind_ok, kSlA]
    cases l with
    | int i =>
      simp only [asInt, of_some, bind_ok, asI]
      cases evE cl b ε S1 with
      | ok h S2 =>
        simp only [bind_ok]
        cases h <;> rfl
      | exc _ _ _ => rfl
      | bad => rfl
    | _ => rfl
  | exc _ _ _ => rfl
  | bad => rfl
theorem q_slA {x : D} {b : Ex} {i : Int} : kSlA x b cl ε (.int i) S = (evE cl b ε S).bind (kSlB x i) := nrfl rfl
theorem q_slB {x : D} {i j : Int} : kSlB x i (.int j) S = .of S (opSl x (some i) (some j)) := nrfl rfl
theorem e_rev {a : Ex} : evE cl (.rev a) ε S = (evE cl a ε S).bind (kR1 opRev) := by rw [ee_rev]; rfl
theorem e_call {f : Nat} {es : List Ex} : evE cl (.call f es) ε S = (evEs cl es ε S).bind (kCl cl f) := by rw [ee_call]; rfl
theorem q_kCl {f : Nat} {ds : List D} : kCl cl f ds S = cl f ds S := nrfl rfl
theorem e_bi {b : Bi} {es : List Ex} : evE cl (.bi b es) ε S = (evEs cl es ε S).bind (kBi b) := by rw [ee_bi]; rfl
theorem q_kBi {b : Bi} {ds : List D} : kBi b ds S = .of S (biF b ds) := nrfl rfl
theorem e_isi {a : Ex} {t : Ty} : evE cl (.isi a t) ε S = (evE cl a ε S).bind (kR1 (isiF t)) := by rw [ee_isi]; rfl
theorem e_me {m : Me} {o : Ex} {es : List Ex} : evE cl (.me m o es) ε S = (evE cl o ε S).bind (kMe cl m es ε) := by rw [ee_me]; rfl
theorem q_kMe0 {m : Me} {x : D} : kMe cl m [] ε x S = if meR m x = true then .of S (meF m x []) else .bad := by unfold kMe; rw [es_nil, bind_ok]
def kMe1 (m : Me) (x : D) : D → Sto → Out D := fun y S => .of S (meF m x [y])
theorem q_kMe1 {m : Me} {x : D} {e : Ex} : kMe cl m [e] ε x S = if meR m x = true then (evE cl e ε S).bind (kMe1 m x) else .bad := by
  unfold kMe; rw [es_cons]
  split
  · cases evE cl e ε S with
    | ok l S1 => simp only [bind_ok, es_nil]; rfl
    | exc _ _ _ => rfl
    | bad => rfl
  · rfl
theorem q_me1 {m : Me} {x y : D} : kMe1 m x y S = .of S (meF m x [y]) := nrfl rfl
theorem e_mkB {b : Mb} {e : Ex} : evE cl (.mkB b e) ε S = (evE cl e ε S).bind (kR1 (mbF b)) := by rw [ee_mkB]; rfl
theorem e_cat {sa sb : Bool} {a b : Ex} : evE cl (.cat sa sb a b) ε S = (evE cl a ε S).bind (kCat cl sa sb b ε) := by rw [ee_cat]; rfl
def kCat2 (sb : Bool) (xs : List D) : D → Sto → Out D := fun y S => match itemsF sb y with
    | some ys => if (xs ++ ys).length ≤ sizeLine then .ok (.tup (xs ++ ys)) S else .bad
    | none => .bad
theorem q_kCat {sa sb : Bool} {b : Ex} {x : D} {xs : List D} (h : itemsF sa x = some xs) : kCat cl sa sb b ε x S = (evE cl b ε S).bind (kCat2 sb xs) := by unfold kCat; rw [h]; rfl
theorem q_kCat2 {sb : Bool} {y : D} {xs ys : List D} (h : itemsF sb y = some ys) : kCat2 sb xs y S = if (xs ++ ys).length ≤ sizeLine then .ok (.tup (xs ++ ys)) S else .bad := by unfold kCat2; rw [h]
theorem e_dget {o k d : Ex} : evE cl (.dget o k d) ε S = (evE cl o ε S).bind (kGet cl k d ε) := by
  rw [ee_dget]; rfl
def kGet3 (kvs : List (Key × D)) : D → D → Sto → Out D := fun y z S => .of S ((keyOf y).map fun k => (getK kvs k).getD z)
theorem q_kGet {k d : Ex} {kvs : List (Key × D)} : kGet cl k d ε (.dct kvs) S = (evE cl k ε S).bind (kE1 cl d ε (kGet3 kvs)) := by unfold kGet; rfl
theorem q_kGet3 {kvs : List (Key × D)} {y z : D} : kGet3 kvs y z S = .of S ((keyOf y).map fun k => (getK kvs k).getD z) := nrfl rfl
theorem e_cons {e : Ex} {es : List Ex} : evEs cl (e :: es) ε S = (evE cl e ε S).bind (kEs cl es ε) := by rw [es_cons]; rfl
def kCons (x : D) : List D → Sto → Out (List D) := fun xs S => .ok (x :: xs) S
theorem q_kEs {es : List Ex} {x : D} : kEs cl es ε x S = (evEs cl es ε S).bind (kCons x) := nrfl rfl
theorem q_kCons {x : D} {xs : List D} : kCons x xs S = .ok (x :: xs) S := nrfl rfl
/-! walks -/
theorem i_rng {es : List Ex} : evI cl (.rng es) ε S = (evEs cl es ε S).bind kRng := by rw [ei_rng]; rfl
theorem q_kRng {ds : List D} : kRng ds S = .of S ((iterR ds).map fun its => (its, true)) := nrfl rfl
theorem i_enum {e : Ex} : evI cl (.enum e) ε S = (evE cl e ε S).bind kEnum := by rw [ei_enum]; rfl
theorem q_kEnum {d : D} : kEnum d S = .of S ((iterN d).map fun its => (its, d.still)) := nrfl rfl
theorem i_zip {a b : Ex} : evI cl (.zip a b) ε S = (evE cl a ε S).bind (kZip cl b ε) := by rw [ei_zip]; rfl
theorem q_kZip {b : Ex} {x : D} : kZip cl b ε x S = (evE cl b ε S).bind (kZip2 x) := nrfl rfl
theorem q_kZip2 {x y : D} : kZip2 x y S = .of S ((iterZ x y).map fun its => (its, x.still && y.still)) := nrfl rfl
theorem i_itv {e : Ex} : evI cl (.itv e) ε S = (evE cl e ε S).bind kItv := by rw [ei_itv]; rfl
theorem q_kItv {d : D} : kItv d S = .of S ((iterV d).map fun its => (its, d.still)) := nrfl rfl
theorem i_dk {k : Dk} {e : Ex} : evI cl (.dk k e) ε S = (evE cl e ε S).bind (kDk k) := by rw [ei_dk]; rfl
theorem q_kDk {k : Dk} {kvs : List (Key × D)} : kDk k (.dct kvs) S = if kvs.length ≤ sizeLine then .ok (iterD k kvs, false) S else .bad := nrfl rfl
/-! comprehensions, what is walked told by xs and en -/
def kLst1 : List D → Sto → Out D := fun ys S => .ok (.lst ys) S
theorem q_kLst1 {ys : List D} : kLst1 ys S = .ok (.lst ys) S := nrfl rfl
theorem e_lc {e : Ex} {own : List Nat} {tg : Tg} {it : Ex} {ifs : List Ex} : evE cl (.lc e own tg it ifs) ε S = (evI cl it ε S).bind (kLc cl e own tg it ifs ε) := by rw [ee_lc]; rfl
/-- one turn of a comprehension; the target is set by tgS -/
def lcT (tg : Tg) (d : D) (ε : Env) (k : Env → Sto → Out D) : Sto → Out D := fun S => match tgS tg d ε with
  | some ε => noX (k ε S)
  | none => .bad
def lcC (tg : Tg) (d : D) (ε : Env) (k : Env → Sto → Out D) : Sto → Out Bool := fun S => match tgS tg d ε with
  | some ε => noX ((k ε S).bind fun d S => .of S (tru d))
  | none => .bad
theorem lc_go {α : Type} {e : Ex} {tg : Tg} {ε : Env} {en : α → D} : ∀ {xs : List α} {S : Sto}, lcLoop (fun d => tgS tg d ε) (evTs cl []) (evE cl e) (xs.map en) S = mapO (fun x S => lcT tg (en x) ε (evE cl e) S) xs S
  | [], S => rfl
  | x :: r, S => by
    have ih := @lc_go α e tg ε en r
    rw [List.map_cons]
    unfold lcLoop mapO lcT
    cases tgS tg (en x) ε with
    | none => rfl
    | some ε1 =>
      dsimp only
      rw [et_nil, noX_ok, bind_ok, if_pos rfl]
      congr 1
      funext y S1
      rw [ih]
      rfl
theorem lc_gof {α : Type} {e c : Ex} {tg : Tg} {ε : Env} {en : α → D} : ∀ {xs : List α} {S : Sto}, lcLoop (fun d => tgS tg d ε) (evTs cl [c]) (evE cl e) (xs.map en) S = filO (fun x S => lcC tg (en x) ε (evE cl c) S) (fun x S => lcT tg (en x) ε (evE cl e) S) xs S
  | [], S => rfl
  | x :: r, S => by
    have ih := @lc_gof α e c tg ε en r
    rw [List.map_cons]
    unfold lcLoop filO lcC lcT
    cases tgS tg (en x) ε with
    | none => rfl
    | some ε1 =>
      dsimp only
      rw [et_cons]
      congr 1
      funext b S1
      rw [ih]
      split
      · congr 1
        funext y S2
        rw [ih]
        rfl
      · rfl
theorem q_kLc {α : Type} {e : Ex} {own : List Nat} {tg : Tg} {it : Ex} {en : α → D} {xs : List α} {b : Bool} : kLc cl e own tg it [] ε (xs.map en, b) S = (mapO (fun x S => lcT tg (en x) (wipeE (fz (vs (.lc e own tg it [])) ε) own) (evE cl e) S) xs S).bind kLst1 := by
  unfold kLc; rw [lc_go]; rfl
theorem q_kLcf {α : Type} {e c : Ex} {own : List Nat} {tg : Tg} {it : Ex} {en : α → D} {xs : List α} {b : Bool} : kLc cl e own tg it [c] ε (xs.map en, b) S = (filO (fun x S => lcC tg (en x) (wipeE (fz (vs (.lc e own tg it [c])) ε) own) (evE cl c) S) (fun x S => lcT tg (en x) (wipeE (fz (vs (.lc e own tg it [c])) ε) own) (evE cl e) S) xs S).bind kLst1 := by
  unfold kLc; rw [lc_gof]; rfl
/-- .. a list as it stands -/
theorem q_kLcD {e : Ex} {own : List Nat} {tg : Tg} {it : Ex} {xs : List D} {b : Bool} : kLc cl e own tg it [] ε (xs, b) S = (mapO (fun x S => lcT tg x (wipeE (fz (vs (.lc e own tg it [])) ε) own) (evE cl e) S) xs S).bind kLst1 := by
  have := q_kLc (cl := cl) (ε := ε) (S := S) (e := e) (own := own) (tg := tg) (it := it) (en := fun d : D => d) (xs := xs) (b := b)
  rw [List.map_id'] at this
  exact this
theorem q_kLcfD {e c : Ex} {own : List Nat} {tg : Tg} {it : Ex} {xs : List D} {b : Bool} : kLc cl e own tg it [c] ε (xs, b) S = (filO (fun x S => lcC tg x (wipeE (fz (vs (.lc e own tg it [c])) ε) own) (evE cl c) S) (fun x S => lcT tg x (wipeE (fz (vs (.lc e own tg it [c])) ε) own) (evE cl e) S) xs S).bind kLst1 := by
  have := q_kLcf (cl := cl) (ε := ε) (S := S) (e := e) (c := c) (own := own) (tg := tg) (it := it) (en := fun d : D => d) (xs := xs) (b := b)
  rw [List.map_id'] at this
  exact this
theorem q_lcT {i : Nat} {d : D} {k : Env → Sto → Out D} (h : i < ε.length) : lcT (.n i) d ε k S = noX (k (ε.set i (.v d)) S) := by unfold lcT; rw [tg_n, if_pos h]
theorem q_lcTt {ts : List Tg} {ds : List D} {k : Env → Sto → Out D} {ε1 : Env} (h : tgsS ts ds ε = some ε1) : lcT (.t ts) (.tup ds) ε k S = noX (k ε1 S) := by unfold lcT; rw [tg_t, h]
def kTru : D → Sto → Out Bool := fun d S => .of S (tru d)
theorem q_kTru {b : Bool} : kTru (.bl b) S = .ok b S := nrfl rfl
theorem q_lcC {i : Nat} {d : D} {k : Env → Sto → Out D} (h : i < ε.length) : lcC (.n i) d ε k S = noX ((k (ε.set i (.v d)) S).bind kTru) := by unfold lcC; rw [tg_n, if_pos h]; rfl
theorem q_lcCt {ts : List Tg} {ds : List D} {k : Env → Sto → Out D} {ε1 : Env} (h : tgsS ts ds ε = some ε1) : lcC (.t ts) (.tup ds) ε k S = noX ((k ε1 S).bind kTru) := by unfold lcC; rw [tg_t, h]; rfl
theorem mapO_nil {α β : Type} {g : α → Sto → Out β} : mapO g [] S = .ok [] S := nrfl rfl
def kMc {α β : Type} (g : α → Sto → Out β) (r : List α) : β → Sto → Out (List β) := fun y S => (mapO g r S).bind fun ys S => .ok (y :: ys) S
def kCo {β : Type} (y : β) : List β → Sto → Out (List β) := fun ys S => .ok (y :: ys) S
theorem mapO_cons {α β : Type} {g : α → Sto → Out β} {x : α} {r : List α} : mapO g (x :: r) S = (g x S).bind (kMc g r) := nrfl rfl
theorem q_kMc {α β : Type} {g : α → Sto → Out β} {r : List α} {y : β} : kMc g r y S = (mapO g r S).bind (kCo y) := nrfl rfl
theorem q_kCo {β : Type} {y : β} {ys : List β} : kCo y ys S = .ok (y :: ys) S := nrfl rfl
theorem ite_ok {α : Type} {c : Prop} [Decidable c] {a b : α} : (if c then Out.ok a S else Out.ok b S) = Out.ok (if c then a else b) S := by split <;> rfl
/-! statements -/
theorem s_ret {e : Ex} : evS cl (.ret e) ε S = (evE cl e ε S).on ε kRet := by rw [sm_ret]; rfl
theorem q_kRet {d : D} : kRet d S = .ok (.rt d) S := nrfl rfl
theorem s_set {tg : Tg} {e : Ex} : evS cl (.set tg e) ε S = (evE cl e ε S).on ε (kSet tg e ε) := by rw [sm_set]; rfl
theorem q_kSet {tg : Tg} {e : Ex} {d : D} {ε1 : Env} (h : setF tg e d ε = some ε1) : kSet tg e ε d S = .ok (.nx ε1) S := by unfold kSet; rw [h]; rfl
theorem s_setA {i : Nat} {e : Ex} : evS cl (.setA i e) ε S = (evE cl e ε S).on ε (kSetA i e ε) := by simp only [evS]; rfl
theorem q_kSetA {i : Nat} {e : Ex} {d : D} {ε1 : Env} (h : tgS (.n i) d (fzA e d ε) = some ε1) : kSetA i e ε d S = .ok (.nx ε1) S := by unfold kSetA; rw [h]; rfl
theorem s_aug {i : Nat} {o : Operator} {e : Ex} {x : D} (h : rdE ε i = some x) : evS cl (.aug i o e) ε S = (evE cl e ε S).on ε (kAug i o x ε) := by rw [sm_aug, h]; rfl
theorem q_kAug {i : Nat} {o : Operator} {x y d : D} (h : binF o x y = some d) (h3 : i < ε.length) : kAug i o x ε y S = if d.still = true then .ok (.nx (ε.set i (.v d))) S else .bad := by unfold kAug; rw [h]; simp only [onO_some', h3, and_true]
theorem s_par {i j : Nat} {a b : Ex} : evS cl (.par i j a b) ε S = (evE cl a ε S).on ε (kPar cl i j a b ε) := by rw [sm_par]; rfl
theorem q_kPar {i j : Nat} {a b : Ex} {x : D} : kPar cl i j a b ε x S = (evE cl b ε S).on ε (kPar2 i j a b ε x) := nrfl rfl
theorem q_kPar2 {i j : Nat} {a b : Ex} {x y : D} (h : i < ε.length) (h2 : j < ε.length) : kPar2 i j a b ε x y S = .ok (.nx (((fzV a x (fzV b y ε)).set i (.v x)).set j (.v y))) S := by unfold kPar2; rw [if_pos ⟨h, h2⟩]
theorem s_put {i : Nat} {k e : Ex} : evS cl (.put i k e) ε S = if ownB ε i = true then (evE cl e ε S).on ε (kPut cl i k e ε) else .bad := by rw [sm_put]; rfl
theorem q_kPut {i : Nat} {k e : Ex} {d : D} : kPut cl i k e ε d S = (evE cl k ε S).on ε (kPut2 i e ε d) := nrfl rfl
theorem q_kPut2 {i : Nat} {e : Ex} {d y : D} {ε1 : Env} (h : chg (fzV e d ε) i (fun o => putF o y d) = some ε1) : kPut2 i e ε d y S = .ok (.nx ε1) S := by unfold kPut2; rw [h]; rfl
theorem s_app {i : Nat} {e : Ex} : evS cl (.app i e) ε S = if ownL ε i = true then (evE cl e ε S).on ε (kApp i e ε) else .bad := by rw [sm_app]; rfl
theorem q_kApp {i : Nat} {e : Ex} {d : D} {ε1 : Env} (h : chg (fzV e d ε) i (fun o => appF o d) = some ε1) : kApp i e ε d S = .ok (.nx ε1) S := by unfold kApp; rw [h]; rfl
theorem s_ext {i : Nat} {e : Ex} : evS cl (.ext i e) ε S = if ownL ε i = true then (evE cl e ε S).on ε (kExt i e ε) else .bad := by rw [sm_ext]; rfl
theorem q_kExt {i : Nat} {e : Ex} {d : D} {ε1 : Env} (h : chg (fzN e d ε) i (fun o => extF o d) = some ε1) : kExt i e ε d S = .ok (.nx ε1) S := by unfold kExt; rw [h]; rfl
theorem s_upd {i : Nat} {e : Ex} : evS cl (.upd i e) ε S = if ownD ε i = true then (evE cl e ε S).on ε (kUpd i e ε) else .bad := by rw [sm_upd]; rfl
theorem q_kUpd {i : Nat} {e : Ex} {d : D} {ε1 : Env} (h : chg (fzN e d ε) i (fun o => updF o d) = some ε1) : kUpd i e ε d S = .ok (.nx ε1) S := by unfold kUpd; rw [h]; rfl
theorem s_ife {c : Ex} {t e : List Sm} : evS cl (.ife c t e) ε S = (evE cl c ε S).on ε (kIf cl t e ε) := by
  rw [sm_ife]
  cases evE cl c ε S with
  | ok d S1 =>
    rw [bind_ok, on_ok]; unfold kIf
    cases tru d with
    | none => rfl
    | some k => cases k <;> rfl
  | exc _ _ _ => rfl
  | bad => rfl
theorem q_kIf {t e : List Sm} {b : Bool} : kIf cl t e ε (.bl b) S = if b = true then evSs cl t ε S else evSs cl e ε S := by unfold kIf; cases b <;> rfl
theorem s_ex {e : Ex} : evS cl (.ex e) ε S = (evE cl e ε S).on ε (kEx ε) := by rw [sm_ex]; rfl
theorem q_kEx {d : D} : kEx ε d S = .ok (.nx ε) S := nrfl rfl
theorem s_for {tg : Tg} {it : Ex} {b : List Sm} : evS cl (.for_ tg it b) ε S = (evI cl it ε S).on ε (kFor cl tg it b ε) := by rw [sm_for]; rfl
theorem q_kFor {tg : Tg} {it : Ex} {b : List Sm} {ds : List D} {s : Bool} : kFor cl tg it b ε (ds, s) S = forLoop (tgS tg) (evSs cl b) ds (if s = true then ε else fz (vs it) ε) S := nrfl rfl
theorem s_forD {tg : Tg} {k : Dk} {e : Ex} {b : List Sm} : evS cl (.forD tg k e b) ε S = (evI cl (.dk k e) ε S).on ε (kForD cl tg e b ε) := by rw [sm_forD]; rfl
theorem q_kForD {tg : Tg} {e : Ex} {b : List Sm} {ds : List D} {s : Bool} : kForD cl tg e b ε (ds, s) S = noXS (forLoop (tgS tg) (evSs cl b) ds (fz (vs e) ε) S) := nrfl rfl
theorem s_pars {is : List Nat} {es : List Ex} : evS cl (.pars is es) ε S = evP cl es ε [] S (kPars is) := by rw [sm_pars]; rfl
theorem p_cons {e : Ex} {es : List Ex} {G : List Sl} {kk : Env → List Sl → Sto → OutS} : evP cl (e :: es) ε G S kk = (evE cl e ε S).on ε (kP cl e es ε G kk) := by rw [ep_cons]; rfl
theorem q_kP {e : Ex} {es : List Ex} {G : List Sl} {kk : Env → List Sl → Sto → OutS} {d : D} : kP cl e es ε G kk d S = if fresh e = true then evP cl es (fzN e d ε) (G ++ [.o d]) S kk else evP cl es (fzV e d ε) (G ++ [.v d]) S kk := nrfl rfl
theorem q_kPars {is : List Nat} {G : List Sl} : kPars is ε G S = if is.all (· < ε.length) = true then .ok (.nx (setAll is G ε)) S else .bad := nrfl rfl
/-- a loop over a written list -/
def flK (tgt : D → Env → Option Env) (body : Env → Sto → OutS) (r : List D) : OutS → OutS
  | .ok (.nx ε2) S2 => forLoop tgt body r ε2 S2
  | .ok (.ct ε2) S2 => forLoop tgt body r ε2 S2
  | .ok (.bk ε2) S2 => .ok (.nx ε2) S2
  | .ok (.rt v) S2 => .ok (.rt v) S2
  | .exc c v ε2 S2 => .exc c v ε2 S2
  | .bad => .bad
theorem f_nil {tgt : D → Env → Option Env} {body : Env → Sto → OutS} : forLoop tgt body [] ε S = .ok (.nx ε) S := nrfl rfl
theorem f_cons {tgt : D → Env → Option Env} {body : Env → Sto → OutS} {d : D} {r : List D} {ε1 : Env} (h : tgt d ε = some ε1) : forLoop tgt body (d :: r) ε S = flK tgt body r (body ε1 S) := by
  conv => lhs; unfold forLoop
  rw [h]
  dsimp only
  cases body ε1 S with
  | ok f S2 => cases f <;> rfl
  | exc _ _ _ _ => rfl
  | bad => rfl
theorem fk_nx {tgt : D → Env → Option Env} {body : Env → Sto → OutS} {r : List D} : flK tgt body r (.ok (.nx ε) S) = forLoop tgt body r ε S := nrfl rfl
theorem fk_ct {tgt : D → Env → Option Env} {body : Env → Sto → OutS} {r : List D} : flK tgt body r (.ok (.ct ε) S) = forLoop tgt body r ε S := nrfl rfl
theorem fk_bk {tgt : D → Env → Option Env} {body : Env → Sto → OutS} {r : List D} : flK tgt body r (.ok (.bk ε) S) = .ok (.nx ε) S := nrfl rfl
theorem fk_rt {tgt : D → Env → Option Env} {body : Env → Sto → OutS} {r : List D} {d : D} : flK tgt body r (.ok (.rt d) S) = .ok (.rt d) S := nrfl rfl
end
end GG
open PySem PySem.Spec PyProof.Rows L2 GG
local macro_rules
  | `(tactic| simp_all! [$ls,*]) => `(tactic| simp [-GG.Out.bind_ok, -GG.Out.bind_exc, -GG.Out.bind_bad, GG.bind_ok, GG.bind_bad, GG.bind_ite, GG.on_ok, GG.on_bad, GG.seq_nx, GG.seq_rt, GG.seq_bk, GG.seq_ct, GG.seq_bad, GG.of_some, GG.of_none, GG.of_ite, GG.onO_some', GG.rdE, GG.ee_v, GG.ee_c, GG.ee_g, GG.q_kR1, GG.q_kR2, GG.q_kE1, GG.q_kE2, GG.e_bop, GG.e_neg, GG.negF, GG.e_not, GG.notF, GG.e_cmp, GG.e_chain, GG.q_kCh_t, GG.q_kCh_f, GG.e_and, GG.q_kAnd0, GG.q_kAnd, GG.e_or, GG.q_kOr0, GG.q_kOr, GG.e_ife, GG.q_kIte, GG.e_tup, GG.e_lst, GG.e_dct, GG.q_kTup, GG.q_kLst, GG.q_kDct, GG.e_ix, GG.e_sl, GG.q_kSl00, GG.q_kSl10, GG.q_kSl01, GG.q_kSl11, GG.q_sl10, GG.q_sl01, GG.q_slA, GG.q_slB, GG.e_rev, GG.e_call, GG.q_kCl, GG.e_bi, GG.q_kBi, GG.e_isi, GG.e_me, GG.q_kMe0, GG.q_kMe1, GG.q_me1, GG.e_mkB, GG.e_cat, GG.q_kCat, GG.q_kCat2, GG.e_dget, GG.q_kGet, GG.q_kGet3, GG.es_nil, GG.e_cons, GG.q_kEs, GG.q_kCons, GG.i_rng, GG.q_kRng, GG.i_enum, GG.q_kEnum, GG.i_zip, GG.q_kZip, GG.q_kZip2, GG.i_itv, GG.q_kItv, GG.i_dk, GG.q_kDk, GG.q_kLst1, GG.e_lc, GG.q_kLc, GG.q_kLcf, GG.q_lcT, GG.q_lcTt, GG.q_lcC, GG.q_lcCt, GG.q_kTru, GG.mapO_nil, GG.mapO_cons, GG.q_kMc, GG.q_kCo, GG.mapO_ok, GG.filO_ok, GG.noX_ok, GG.noX_ite, GG.noX_bad, GG.ee_six, GG.ee_mkS, GG.st_nil, GG.st_cons, GG.s_ret, GG.q_kRet, GG.sm_retN, GG.s_set, GG.q_kSet, GG.s_setA, GG.q_kSetA, GG.fzA, GG.apart, GG.s_aug, GG.q_kAug, GG.s_par, GG.q_kPar, GG.q_kPar2, GG.s_put, GG.q_kPut, GG.q_kPut2, GG.s_app, GG.q_kApp, GG.s_ext, GG.q_kExt, GG.s_upd, GG.q_kUpd, GG.s_ife, GG.q_kIf, GG.s_ex, GG.q_kEx, GG.s_for, GG.q_kFor, GG.s_forD, GG.q_kForD, GG.noXS_ok, GG.s_pars, GG.ep_nil, GG.p_cons, GG.q_kP, GG.q_kPars, GG.f_nil, GG.f_cons, GG.fk_nx, GG.fk_ct, GG.fk_bk, GG.fk_rt, GG.sm_sput, GG.sm_pass, GG.sm_brk, GG.sm_cont, GG.mbF, GG.itemsF, GG.setAll, GG.ownD, GG.updF, GG.wp_ok, GG.wp_bad, GG.wp_bind, GG.wps_ok, GG.wps_bad, GG.wp_on, GG.wp_seq, GG.tg_n, GG.tg_t, GG.tg_l, GG.tgs_nil, GG.tgs_cons, GG.wipeE, GG.fz, GG.fzF, GG.fzV, GG.fzN, GG.Sl.frz, GG.vs, GG.vss, GG.setF, GG.fresh, GG.chg, GG.ownB, GG.ownL, GG.appF, GG.extF, GG.putF, GG.D.still, GG.D.stills, GG.D.still1, GG.tru, GG.tyName, GG.isiF, GG.Ty.name, GG.cmpF, GG.binF, GG.opAdd, GG.opSub, GG.opMul, GG.opDiv, GG.opMod, GG.opPow, GG.opSh, GG.opInt, GG.opIs, GG.bi_len, GG.bi_abs, GG.bi_int, GG.bi_intb, GG.bi_max, GG.bi_min, GG.bi_list, GG.bi_tuple, GG.bi_all_map, GG.bi_any_map, GG.bi_sum, GG.lstOf, GG.iterN, GG.asInt, GG.keyOf, GG.keysOf, GG.meR, GG.sixF, GG.sputF, GG.t3, GG.t3set, GG.sl_eq, GG.eq_int, GG.eq_str, GG.itv_tup, GG.itv_lst, GG.itv_rol, GG.itz_tup, GG.itz_lst, GG.len_tup, GG.len_lst, GG.len_rol, GG.len_str, GG.sq_tup, GG.sq_lst, GG.sq_rol, GG.ite_tt, GG.ite_ff, $ls,*])
namespace GG
open PySem PySem.Spec PyProof.Rows L2
/-! ## more of general use -/
theorem iterR_i {j : Int} (h : 0 ≤ j ∧ j ≤ 10001) : iterR [.int j] = some ((List.range j.toNat).map fun i : Nat => .int ((i : Nat) : Int)) := by
  have s : (10001 : Nat) ≤ sizeLine := by decide
  have e : iterR [.int j] = if -(2 ^ 62) ≤ j ∧ j < 2 ^ 62 ∧ j.toNat ≤ sizeLine then some ((List.range j.toNat).map fun i => .int ((0 : Int) + (i : Nat))) else none := rfl
  rw [e, if_pos ⟨by omega, by omega, by omega⟩]
  simp
theorem iterR_nat {m : Nat} (h : m ≤ 10000) : iterR [.int ((m : Nat) : Int)] = some ((List.range m).map fun i : Nat => .int ((i : Nat) : Int)) := by
  rw [iterR_i (by omega)]; rfl
theorem iterR_one {m : Nat} (h : m ≤ 10000) : iterR [.int ((m : Nat) + 1 : Int)] = some ((List.range (m + 1)).map fun i : Nat => .int ((i : Nat) : Int)) := by
  rw [iterR_i (by omega)]; rfl
theorem iterR_add {m : Nat} (h : m ≤ 10000) : iterR [.int (1 + (m : Nat) : Int)] = some ((List.range (m + 1)).map fun i : Nat => .int ((i : Nat) : Int)) := by
  rw [Int.add_comm]; exact iterR_one h
end GG
namespace LW
open PySem PySem.Spec PyProof.Rows L2 GG
def b_is_integer : List Sm := [.ret (.and (.isi (.v 0) .int) [(.not (.isi (.v 0) .bool))])]
def d_is_integer : Fd := ⟨"is_integer", 1, ["value"], b_is_integer, .own⟩
def b_is_between : List Sm := [.ret (.and (.call 0 [(.v 0)]) [(.cmp .GtE (.v 0) (.v 1)), (.or (.cmp .Is (.v 2) (.c .non)) [(.cmp .LtE (.v 0) (.v 2))])])]
def d_is_between : Fd := ⟨"is_between", 3, ["value", "low", "high"], b_is_between, .own⟩
def b_is_name : List Sm := [.ife (.or (.not (.isi (.v 0) .str)) [(.not (.chain .LtE .LtE (.c (.int 1)) (.bi .len [(.v 0)]) (.g "MAX_LETTERS" (.int 8))))]) [.ret (.c (.bl false))] [],
  .ret (.bi .all [(.lc (.cmp .In (.v 1) (.g "LETTERS" (.str "abcdefghijklmnopqrstuvwxyz"))) [1] (.n 1) (.itv (.v 0)) [])])]
def d_is_name : Fd := ⟨"is_name", 1, ["value", "letter"], b_is_name, .own⟩
def b_is_bit : List Sm := [.ret (.call 1 [(.v 0), (.c (.int 0)), (.c (.int 1))])]
def d_is_bit : Fd := ⟨"is_bit", 1, ["value"], b_is_bit, .own⟩
def b_is_value : List Sm := [.ret (.call 1 [(.v 0), (.c (.int 0)), (.g "UNKNOWN" (.int 2))])]
def d_is_value : Fd := ⟨"is_value", 1, ["value"], b_is_value, .own⟩
def b_is_table : List Sm := [.ret (.and (.isi (.v 0) .tuple) [(.cmp .In (.bi .len [(.v 0)]) (.g "SIZES" (.wdt (intK [(1, 0), (2, 1), (4, 2), (8, 3), (16, 4)])))), (.bi .all [(.lc (.call 3 [(.v 1)]) [1] (.n 1) (.itv (.v 0)) [])])])]
def d_is_table : Fd := ⟨"is_table", 1, ["value", "one"], b_is_table, .own⟩
def b_wires_in : List Sm := [.ret (.ix (.g "SIZES" (.wdt (intK [(1, 0), (2, 1), (4, 2), (8, 3), (16, 4)]))) (.bi .len [(.v 0)]))]
def d_wires_in : Fd := ⟨"wires_in", 1, ["table"], b_wires_in, .own⟩
def b_forced_in : List Sm := [.set (.n 2) (.lst [(.v 0)]),
  .for_ (.n 3) (.itv (.v 1)) [.set (.n 5) (.bop .FloorDiv (.bi .len [(.ix (.v 2) (.c (.int 0)))]) (.c (.int 2))), .set (.n 6) (.ife (.cmp .NotEq (.v 3) (.c (.int 1))) (.lc (.sl (.v 8) [] [(.v 5)]) [8] (.n 8) (.itv (.v 2)) []) (.lst [])), .set (.n 7) (.ife (.cmp .NotEq (.v 3) (.c (.int 0))) (.lc (.sl (.v 8) [(.v 5)] []) [8] (.n 8) (.itv (.v 2)) []) (.lst [])), .set (.n 2) (.bop .Add (.v 6) (.v 7))],
  .set (.n 4) (.lc (.ix (.v 8) (.c (.int 0))) [8] (.n 8) (.itv (.v 2)) []),
  .ret (.ife (.cmp .Eq (.me .count (.v 4) [(.ix (.v 4) (.c (.int 0)))]) (.bi .len [(.v 4)])) (.ix (.v 4) (.c (.int 0))) (.g "UNKNOWN" (.int 2)))]
def d_forced_in : Fd := ⟨"forced_in", 2, ["table", "row", "parts", "one", "seen", "half", "firsts", "lasts", "part"], b_forced_in, .own⟩
def b_are_names : List Sm := [.ife (.or (.not (.isi (.v 0) .tuple)) [(.not (.bi .all [(.lc (.call 2 [(.v 3)]) [3] (.n 3) (.itv (.v 0)) [])]))]) [.ret (.c (.bl false))] [],
  .ret (.bi .all [(.lc (.cmp .Lt (.v 1) (.v 2)) [1, 2] (.t [(.n 1), (.n 2)]) (.zip (.v 0) (.sl (.v 0) [(.c (.int 1))] [])) [])])]
def d_are_names : Fd := ⟨"are_names", 1, ["value", "one", "other", "name"], b_are_names, .own⟩
def b_is_gate_of : List Sm := [.ife (.or (.not (.isi (.v 1) .tuple)) [(.cmp .NotEq (.bi .len [(.v 1)]) (.c (.int 3))), (.not (.isi (.ix (.v 1) (.c (.int 1))) .tuple)), (.not (.call 5 [(.ix (.v 1) (.c (.int 2)))]))]) [.ret (.c (.bl false))] [],
  .ret (.and (.cmp .Eq (.call 6 [(.ix (.v 1) (.c (.int 2)))]) (.bi .len [(.ix (.v 1) (.c (.int 1)))])) [(.bi .all [(.lc (.call 10 [(.v 0), (.v 2)]) [2] (.n 2) (.itv (.ix (.v 1) (.c (.int 1)))) [])])])]
def d_is_gate_of : Fd := ⟨"is_gate_of", 2, ["known", "value", "name"], b_is_gate_of, .own⟩
def b_is_known : List Sm := [.ret (.and (.isi (.v 1) .str) [(.cmp .In (.v 1) (.v 0))])]
def d_is_known : Fd := ⟨"is_known", 2, ["known", "value"], b_is_known, .own⟩
def b_is_circuit : List Sm := [.ife (.or (.not (.isi (.v 0) .tuple)) [(.cmp .NotEq (.bi .len [(.v 0)]) (.c (.int 2))), (.not (.call 8 [(.ix (.v 0) (.c (.int 0)))])), (.not (.isi (.ix (.v 0) (.c (.int 1))) .tuple))]) [.ret (.c (.bl false))] [],
  .set (.t [(.n 3), (.n 4)]) (.v 0),
  .ife (.or (.cmp .Gt (.bi .len [(.v 3)]) (.g "MAX_INPUTS" (.int 12))) [(.cmp .Gt (.bi .len [(.v 4)]) (.g "MAX_GATES" (.int 200)))]) [.ret (.c (.bl false))] [],
  .ife (.not (.bi .all [(.lc (.and (.isi (.v 6) .tuple) [(.cmp .Eq (.bi .len [(.v 6)]) (.c (.int 3)))]) [6] (.n 6) (.itv (.v 4)) [])])) [.ret (.c (.bl false))] [],
  .set (.n 1) (.bi .tuple [(.lc (.ix (.v 6) (.c (.int 0))) [6] (.n 6) (.itv (.v 4)) [])]),
  .ife (.or (.not (.call 8 [(.v 1)])) [(.bi .any [(.lc (.cmp .In (.v 5) (.v 3)) [5] (.n 5) (.itv (.v 1)) [])])]) [.ret (.c (.bl false))] [],
  .set (.n 2) (.dc (.v 5) (.c (.bl true)) [5] (.n 5) (.itv (.cat true true (.v 3) (.v 1))) []),
  .ret (.bi .all [(.lc (.call 9 [(.v 2), (.v 6)]) [6] (.n 6) (.itv (.v 4)) [])])]
def d_is_circuit : Fd := ⟨"is_circuit", 1, ["value", "names", "known", "inputs", "gates", "name", "gate"], b_is_circuit, .own⟩
def b_require_circuit : List Sm := [.ife (.not (.call 11 [(.v 0)])) [.never] []]
def d_require_circuit : Fd := ⟨"require_circuit", 1, ["circuit"], b_require_circuit, .own⟩
def b_gates_in : List Sm := [.ret (.dc (.v 1) (.tup [(.v 2), (.v 3)]) [1, 2, 3] (.t [(.n 1), (.n 2), (.n 3)]) (.itv (.ix (.v 0) (.c (.int 1)))) [])]
def d_gates_in : Fd := ⟨"gates_in", 1, ["circuit", "name", "sources", "table"], b_gates_in, .own⟩
def b_is_partial_of : List Sm := [.ife (.or (.not (.isi (.v 1) .dict)) [(.cmp .NotEq (.bi .len [(.v 1)]) (.bi .len [(.ix (.v 0) (.c (.int 0)))]))]) [.ret (.c (.bl false))] [],
  .ret (.bi .all [(.lc (.and (.cmp .In (.v 2) (.v 1)) [(.call 4 [(.ix (.v 1) (.v 2))])]) [2] (.n 2) (.itv (.ix (.v 0) (.c (.int 0)))) [])])]
def d_is_partial_of : Fd := ⟨"is_partial_of", 2, ["circuit", "value", "name"], b_is_partial_of, .own⟩
def b_require_partial : List Sm := [.ife (.not (.call 14 [(.v 0), (.v 1)])) [.never] []]
def d_require_partial : Fd := ⟨"require_partial", 2, ["circuit", "setting"], b_require_partial, .own⟩
def b_require_gate : List Sm := [.ife (.not (.call 10 [(.call 13 [(.v 0)]), (.v 1)])) [.never] []]
def d_require_gate : Fd := ⟨"require_gate", 2, ["circuit", "gate"], b_require_gate, .own⟩
def b_row_in : List Sm := [.ret (.bi .tuple [(.lc (.ife (.cmp .In (.v 3) (.v 1)) (.ix (.v 1) (.v 3)) (.dget (.v 2) (.v 3) (.g "UNKNOWN" (.int 2)))) [3] (.n 3) (.itv (.v 0)) [])])]
def d_row_in : Fd := ⟨"row_in", 3, ["sources", "setting", "known", "name"], b_row_in, .own⟩
def b_are_wires : List Sm := [.ife (.or (.not (.isi (.v 1) .tuple)) [(.not (.bi .all [(.lc (.call 1 [(.v 4), (.c (.int 0)), (.bop .Sub (.bi .len [(.v 0)]) (.c (.int 1)))]) [4] (.n 4) (.itv (.v 1)) [])]))]) [.ret (.c (.bl false))] [],
  .ret (.bi .all [(.lc (.cmp .Lt (.v 2) (.v 3)) [2, 3] (.t [(.n 2), (.n 3)]) (.zip (.v 1) (.sl (.v 1) [(.c (.int 1))] [])) [])])]
def d_are_wires : Fd := ⟨"are_wires", 2, ["sources", "value", "one", "other", "wire"], b_are_wires, .own⟩
def b_is_line_after : List Sm := [.ife (.or (.not (.isi (.v 3) .tuple)) [(.cmp .NotEq (.bi .len [(.v 3)]) (.c (.int 3)))]) [.ret (.c (.bl false))] [],
  .set (.t [(.n 5), (.n 6), (.n 7)]) (.v 3),
  .ife (.or (.not (.isi (.v 5) .str)) [(.cmp .NotIn (.v 5) (.v 0)), (.cmp .In (.v 5) (.v 2)), (.not (.call 3 [(.v 6)]))]) [.ret (.c (.bl false))] [],
  .set (.t [(.n 8), (.n 9)]) (.ix (.v 0) (.v 5)),
  .ife (.not (.call 18 [(.v 8), (.v 7)])) [.ret (.c (.bl false))] [],
  .set (.n 4) (.call 17 [(.v 8), (.v 1), (.v 2)]),
  .ife (.bi .any [(.lc (.cmp .Eq (.ix (.v 4) (.v 10)) (.g "UNKNOWN" (.int 2))) [10] (.n 10) (.itv (.v 7)) [])]) [.ret (.c (.bl false))] [],
  .ret (.cmp .Eq (.call 7 [(.v 9), (.bi .tuple [(.lc (.ife (.cmp .In (.v 10) (.v 7)) (.v 11) (.g "UNKNOWN" (.int 2))) [10, 11] (.t [(.n 10), (.n 11)]) (.enum (.v 4)) [])])]) (.v 6))]
def d_is_line_after : Fd := ⟨"is_line_after", 4, ["gates", "setting", "known", "value", "row", "gate", "bit", "wires", "sources", "table", "wire", "one"], b_is_line_after, .own⟩
def b_bits_of_lines : List Sm := [.ife (.or (.not (.isi (.v 2) .tuple)) [(.cmp .Eq (.v 2) (.tup []))]) [.ret (.c .non)] [],
  .pars [4, 5] [(.call 13 [(.v 0)]), (.dct [] [])],
  .for_ (.n 3) (.itv (.v 2)) [.ife (.not (.call 19 [(.v 4), (.v 1), (.v 5), (.v 3)])) [.ret (.c .non)] [], .put 5 (.ix (.v 3) (.c (.int 0))) (.ix (.v 3) (.c (.int 1)))],
  .ret (.v 5)]
def d_bits_of_lines : Fd := ⟨"bits_of_lines", 3, ["circuit", "setting", "value", "line", "gates", "known"], b_bits_of_lines, .own⟩
def b_is_derivation_in : List Sm := [.ret (.and (.cmp .IsNot (.call 20 [(.v 0), (.v 1), (.v 3)]) (.c .non)) [(.cmp .Eq (.ix (.ix (.v 3) (.neg (.c (.int 1)))) (.c (.int 0))) (.v 2))])]
def d_is_derivation_in : Fd := ⟨"is_derivation_in", 4, ["circuit", "setting", "gate", "value"], b_is_derivation_in, .own⟩
def b_require_all : List Sm := [.ex (.call 12 [(.v 0)]),
  .ex (.call 15 [(.v 0), (.v 1)]),
  .ex (.call 16 [(.v 0), (.v 2)])]
def d_require_all : Fd := ⟨"require_all", 3, ["circuit", "setting", "gate"], b_require_all, .own⟩
def b_is_derivation : List Sm := [.ex (.call 22 [(.v 0), (.v 1), (.v 2)]),
  .ret (.call 21 [(.v 0), (.v 1), (.v 2), (.v 3)])]
def d_is_derivation : Fd := ⟨"is_derivation", 4, ["circuit", "setting", "gate", "value"], b_is_derivation, .own⟩
def b__law_stream : List Sm := [.set (.n 2) (.ife (.cmp .Lt (.v 1) (.bi .len [(.v 0)])) (.ix (.v 0) (.v 1)) (.bop .Add (.bop .Mult (.c (.int 17)) (.v 1)) (.c (.int 8)))),
  .set (.n 3) (.bop .Mod (.bi .int [(.bi .abs [(.v 2)])]) (.bop .Pow (.bop .Pow (.c (.int 10)) (.c (.int 60))) (.c (.int 11)))),
  .set (.n 4) (.bop .Mod (.bi .int [(.v 3)]) (.c (.int 2147483549))),
  .set (.n 4) (.bop .Mod (.bi .int [(.bop .Add (.bop .Add (.bop .Add (.bop .Mult (.v 4) (.c (.int 39373))) (.bop .Mult (.c (.int 91813)) (.v 1))) (.bop .Mult (.c (.int 7)) (.bi .int [(.cmp .Lt (.v 2) (.c (.int 0)))]))) (.c (.int 31)))]) (.c (.int 2147483543))),
  .ret (.lst [(.bi .max [(.c (.int 0)), (.bop .Add (.bop .Sub (.v 3) (.bop .Pow (.c (.int 10)) (.c (.int 18)))) (.c (.int 1)))]), (.v 4), (.c (.int 0))])]
def d__law_stream : Fd := ⟨"_law_stream", 2, ["_law_script", "_law_at", "_law_cell", "_law_great", "_law_mixed_here"], b__law_stream, .mk⟩
def b__law_draw : List Sm := [.ife (.cmp .Gt (.six 0 0) (.c (.int 0))) [.set (.n 4) (.bop .Mod (.bi .int [(.six 0 0)]) (.v 1)), .sput 0 0 (.bop .FloorDiv (.six 0 0) (.v 1)), .ret (.v 4)] [],
  .sput 0 2 (.bop .Add (.six 0 2) (.c (.int 1))),
  .set (.n 2) (.bop .Mod (.bi .int [(.bop .Add (.six 0 1) (.bop .Mult (.c (.int 1000159)) (.six 0 2)))]) (.c (.int 2305843009213693951))),
  .set (.n 3) (.bop .Mod (.bi .int [(.bop .Mult (.v 2) (.v 2))]) (.c (.int 2305843009213693921))),
  .set (.n 3) (.bop .Mod (.bi .int [(.bop .Add (.bop .Mult (.v 3) (.v 2)) (.bop .Mult (.c (.int 6361)) (.six 0 2)))]) (.c (.int 2305843009213693907))),
  .ret (.bop .Mod (.bi .int [(.bop .FloorDiv (.v 3) (.c (.int 4096)))]) (.v 1))]
def d__law_draw : Fd := ⟨"_law_draw", 2, ["_law_stream_here", "_law_total", "_law_one", "_law_two", "_law_found"], b__law_draw, .own⟩
def b__law_pick : List Sm := [.ret (.ix (.v 1) (.call 25 [(.v 0), (.bi .len [(.v 1)])]))]
def d__law_pick : Fd := ⟨"_law_pick", 2, ["_law_stream_here", "_law_items"], b__law_pick, .own⟩
def b__law_mixed : List Sm := [.pars [2, 3] [(.mkB .list (.v 1)), (.lst [])],
  .while_ (.cmp .NotEq (.v 2) (.lst [])) [.apop 3 2 (.call 25 [(.v 0), (.bi .len [(.v 2)])])],
  .ret (.v 3)]
def d__law_mixed : Fd := ⟨"_law_mixed", 2, ["_law_stream_here", "_law_items", "_law_left", "_law_found"], b__law_mixed, .own⟩
def b__law_names : List Sm := [.set (.n 2) (.lst [(.c (.str "a")), (.c (.str "b")), (.c (.str "c")), (.c (.str "d")), (.c (.str "go")), (.c (.str "h")), (.c (.str "in")), (.c (.str "load")), (.c (.str "m")), (.c (.str "open")), (.c (.str "p")), (.c (.str "q")), (.c (.str "r")), (.c (.str "stop")), (.c (.str "u")), (.c (.str "v")), (.c (.str "wait")), (.c (.str "x"))]),
  .ret (.sl (.call 27 [(.v 0), (.bop .Add (.v 2) (.lst [(.c (.str "y")), (.c (.str "zebra"))]))]) [] [(.v 1)])]
def d__law_names : Fd := ⟨"_law_names", 2, ["_law_stream_here", "_law_total", "_law_some"], b__law_names, .own⟩
def b__law_rows : List Sm := [.set (.n 2) (.lst [(.tup [])]),
  .for_ (.n 3) (.rng [(.v 0)]) [.set (.n 4) (.lst []), .for_ (.n 5) (.itv (.v 2)) [.ext 4 (.lc (.bop .Add (.v 5) (.tup [(.v 6)])) [6] (.n 6) (.rng [(.bop .Add (.v 1) (.c (.int 1)))]) [])], .set (.n 2) (.v 4)],
  .ret (.v 2)]
def d__law_rows : Fd := ⟨"_law_rows", 2, ["_law_size", "_law_top", "_law_found", "_law_turn", "_law_longer", "_law_row", "_law_number"], b__law_rows, .own⟩
def b__law_forced : List Sm := [.set (.n 2) (.lst [(.c (.int 0))]),
  .for_ (.n 3) (.itv (.v 1)) [.set (.n 2) (.lc (.bop .Add (.bop .Mult (.c (.int 2)) (.v 5)) (.ife (.cmp .Eq (.v 3) (.c (.int 2))) (.c (.int 0)) (.v 3))) [5] (.n 5) (.itv (.v 2)) []), .set (.n 2) (.bop .Add (.v 2) (.ife (.cmp .Eq (.v 3) (.c (.int 2))) (.lc (.bop .Add (.v 5) (.c (.int 1))) [5] (.n 5) (.itv (.v 2)) []) (.lst [])))],
  .set (.n 4) (.lc (.ix (.v 0) (.v 5)) [5] (.n 5) (.itv (.v 2)) []),
  .ret (.ife (.and (.cmp .In (.c (.int 0)) (.v 4)) [(.cmp .In (.c (.int 1)) (.v 4))]) (.c (.int 2)) (.ix (.v 4) (.c (.int 0))))]
def d__law_forced : Fd := ⟨"_law_forced", 2, ["_law_table_here", "_law_row", "_law_found", "_law_one", "_law_seen", "_law_number"], b__law_forced, .own⟩
def b__law_table : List Sm := [.par 3 4 (.call 29 [(.v 1), (.c (.int 1))]) (.call 25 [(.v 0), (.c (.int 6))]),
  .ife (.or (.cmp .Eq (.v 4) (.c (.int 0))) [(.cmp .Eq (.v 1) (.c (.int 0)))]) [.ret (.bi .tuple [(.lc (.call 25 [(.v 0), (.c (.int 2))]) [5] (.n 5) (.itv (.v 3)) [])])] [],
  .set (.n 2) (.call 25 [(.v 0), (.c (.int 2))]),
  .ife (.cmp .Lt (.v 4) (.c (.int 3))) [.ret (.bi .tuple [(.lc (.bop .Mod (.bi .int [(.bop .Add (.bi .int [(.cmp .NotIn (.c (.int 0)) (.v 5))]) (.v 2))]) (.c (.int 2))) [5] (.n 5) (.itv (.v 3)) [])])] [],
  .ife (.cmp .Lt (.v 4) (.c (.int 5))) [.ret (.bi .tuple [(.lc (.bop .Mod (.bi .int [(.bop .Add (.bi .int [(.cmp .In (.c (.int 1)) (.v 5))]) (.v 2))]) (.c (.int 2))) [5] (.n 5) (.itv (.v 3)) [])])] [],
  .ret (.bi .tuple [(.lc (.bop .Mod (.bi .int [(.bop .Add (.bi .sum [(.bi .list [(.v 5)])]) (.v 2))]) (.c (.int 2))) [5] (.n 5) (.itv (.v 3)) [])])]
def d__law_table : Fd := ⟨"_law_table", 2, ["_law_stream_here", "_law_size", "_law_turned", "_law_rows_here", "_law_way", "_law_row"], b__law_table, .own⟩
def b__law_circuit : List Sm := [.set (.n 4) (.call 28 [(.v 0), (.bop .Add (.v 1) (.v 2))]),
  .set (.n 5) (.lst []),
  .for_ (.n 6) (.itv (.sl (.v 4) [(.v 1)] [])) [.set (.n 7) (.ix (.lst [(.c (.int 1)), (.c (.int 2)), (.c (.int 2)), (.c (.int 2)), (.c (.int 3)), (.c (.int 3)), (.c (.int 0)), (.c (.int 4))]) (.call 25 [(.v 0), (.c (.int 8))])), .set (.n 7) (.ife (.cmp .NotEq (.v 4) (.lst [])) (.bi .min [(.v 7), (.v 3)]) (.c (.int 0))), .app 5 (.tup [(.v 6), (.bi .tuple [(.lc (.call 26 [(.v 0), (.v 4)]) [8] (.n 8) (.rng [(.v 7)]) [])]), (.call 31 [(.v 0), (.v 7)])])],
  .ret (.tup [(.bi .tuple [(.mkB .sorted (.sl (.v 4) [] [(.v 1)]))]), (.bi .tuple [(.mkB .sorted (.v 5))])])]
def d__law_circuit : Fd := ⟨"_law_circuit", 4, ["_law_stream_here", "_law_inputs", "_law_total", "_law_width", "_law_names_here", "_law_gates", "_law_name", "_law_size", "_law_wire"], b__law_circuit, .own⟩
def b__law_partial : List Sm := [.ret (.mkB .dict (.lc (.tup [(.v 2), (.call 25 [(.v 0), (.c (.int 3))])]) [2] (.n 2) (.itv (.ix (.v 1) (.c (.int 0)))) []))]
def d__law_partial : Fd := ⟨"_law_partial", 2, ["_law_stream_here", "_law_circuit_here", "_law_name"], b__law_partial, .own⟩
def b__law_row_of : List Sm := [.ret (.bi .tuple [(.lc (.ife (.cmp .In (.v 3) (.v 1)) (.ix (.v 1) (.v 3)) (.dget (.v 2) (.v 3) (.c (.int 2)))) [3] (.n 3) (.itv (.ix (.v 0) (.c (.int 1)))) [])])]
def d__law_row_of : Fd := ⟨"_law_row_of", 3, ["_law_gate_here", "_law_setting", "_law_told", "_law_name"], b__law_row_of, .own⟩
def b__law_gate : List Sm := [.ret (.ix (.lc (.v 2) [2] (.n 2) (.itv (.ix (.v 0) (.c (.int 1)))) [(.cmp .Eq (.ix (.v 2) (.c (.int 0))) (.v 1))]) (.c (.int 0)))]
def d__law_gate : Fd := ⟨"_law_gate", 2, ["_law_circuit_here", "_law_name", "_law_gate_here"], b__law_gate, .own⟩
def b__law_is_bit : List Sm := [.ret (.and (.isi (.v 0) .int) [(.not (.isi (.v 0) .bool)), (.cmp .In (.v 0) (.tup [(.c (.int 0)), (.c (.int 1))]))])]
def d__law_is_bit : Fd := ⟨"_law_is_bit", 1, ["_law_thing"], b__law_is_bit, .own⟩
def b__law_is_line : List Sm := [.ife (.or (.not (.isi (.v 3) .tuple)) [(.cmp .NotEq (.bi .len [(.v 3)]) (.c (.int 3))), (.not (.isi (.ix (.v 3) (.c (.int 0))) .str)), (.not (.call 36 [(.ix (.v 3) (.c (.int 1)))]))]) [.ret (.c (.bl false))] [],
  .ife (.or (.cmp .In (.ix (.v 3) (.c (.int 0))) (.v 2)) [(.cmp .NotIn (.ix (.v 3) (.c (.int 0))) (.lc (.ix (.v 4) (.c (.int 0))) [4] (.n 4) (.itv (.ix (.v 0) (.c (.int 1)))) [])), (.not (.isi (.ix (.v 3) (.c (.int 2))) .tuple))]) [.ret (.c (.bl false))] [],
  .set (.n 4) (.call 35 [(.v 0), (.ix (.v 3) (.c (.int 0)))]),
  .ife (.cmp .NotEq (.lc (.c (.int 1)) [6] (.n 6) (.itv (.ix (.v 3) (.c (.int 2)))) [(.or (.not (.isi (.v 6) .int)) [(.isi (.v 6) .bool)])]) (.lst [])) [.ret (.c (.bl false))] [],
  .ife (.cmp .NotEq (.bi .list [(.ix (.v 3) (.c (.int 2)))]) (.lc (.v 6) [6] (.n 6) (.rng [(.bi .len [(.ix (.v 4) (.c (.int 1)))])]) [(.cmp .In (.v 6) (.ix (.v 3) (.c (.int 2))))])) [.ret (.c (.bl false))] [],
  .set (.n 5) (.call 34 [(.v 4), (.v 1), (.v 2)]),
  .ife (.cmp .NotEq (.lc (.c (.int 1)) [6] (.n 6) (.itv (.ix (.v 3) (.c (.int 2)))) [(.cmp .Eq (.ix (.v 5) (.v 6)) (.c (.int 2)))]) (.lst [])) [.ret (.c (.bl false))] [],
  .set (.n 5) (.bi .tuple [(.lc (.ife (.cmp .In (.v 6) (.ix (.v 3) (.c (.int 2)))) (.v 7) (.c (.int 2))) [6, 7] (.t [(.n 6), (.n 7)]) (.enum (.v 5)) [])]),
  .ret (.cmp .Eq (.call 30 [(.ix (.v 4) (.c (.int 2))), (.v 5)]) (.ix (.v 3) (.c (.int 1))))]
def d__law_is_line : Fd := ⟨"_law_is_line", 4, ["_law_circuit_here", "_law_setting", "_law_told", "_law_line", "_law_gate_here", "_law_row", "_law_wire", "_law_one"], b__law_is_line, .own⟩
def b__law_is_derivation : List Sm := [.set (.n 4) (.dct [] []),
  .ife (.or (.not (.isi (.v 3) .tuple)) [(.cmp .Eq (.v 3) (.tup []))]) [.ret (.c (.bl false))] [],
  .for_ (.n 5) (.itv (.v 3)) [.ife (.not (.call 37 [(.v 0), (.v 1), (.v 4), (.v 5)])) [.ret (.c (.bl false))] [], .put 4 (.ix (.v 5) (.c (.int 0))) (.ix (.v 5) (.c (.int 1)))],
  .ret (.cmp .Eq (.ix (.ix (.v 3) (.neg (.c (.int 1)))) (.c (.int 0))) (.v 2))]
def d__law_is_derivation : Fd := ⟨"_law_is_derivation", 4, ["_law_circuit_here", "_law_setting", "_law_name", "_law_thing", "_law_told", "_law_line"], b__law_is_derivation, .own⟩
def b__law_odd : List Sm := [.set (.n 1) (.lst [(.c .non), (.c (.bl true)), (.c (.bl false)), (.neg (.c (.int 1))), (.c (.int 0)), (.c (.int 1)), (.c (.int 2)), (.c (.int 3)), (.bop .Pow (.c (.int 10)) (.c (.int 39))), (.c (.str "")), (.c (.str "a")), (.c (.str "x")), (.c (.str "A")), (.tup []), (.lst []), (.dct [] []), (.tup [(.c (.int 0))]), (.tup [(.c (.str "a"))]), (.lst [(.c (.int 0))]), (.tup [(.tup [])]), (.c (.str "a b"))]),
  .set (.n 1) (.bop .Add (.v 1) (.lst [(.tup [(.tup []), (.tup [])]), (.tup [(.c (.str "x")), (.neg (.c (.int 1)))]), (.dct [.inr "a"] [(.c (.int 0))]), (.dct [.inr "x"] [(.c (.int 2))]), (.tup [(.tup [(.c (.str "a"))]), (.tup [])]), (.tup [(.c (.str "settles")), (.c (.int 1)), (.tup [])]), (.tup [(.c (.str "flips")), (.tup [(.tup []), (.tup [])])]), (.tup [(.c (.int 2))])])),
  .ret (.call 26 [(.v 0), (.v 1)])]
def d__law_odd : Fd := ⟨"_law_odd", 1, ["_law_stream_here", "_law_some"], b__law_odd, .own⟩
def b__law_bent : List Sm := [.ife (.and (.isi (.v 1) .tuple) [(.cmp .Gt (.bi .len [(.v 1)]) (.c (.int 0))), (.cmp .Gt (.v 2) (.c (.int 0)))]) [.par 3 4 (.call 25 [(.v 0), (.bi .len [(.v 1)])]) (.call 25 [(.v 0), (.c (.int 7))]), .ife (.cmp .Eq (.v 4) (.c (.int 0))) [.ret (.bop .Add (.sl (.v 1) [] [(.v 3)]) (.sl (.v 1) [(.bop .Add (.v 3) (.c (.int 1)))] []))] [], .ife (.cmp .Eq (.v 4) (.c (.int 1))) [.ret (.bop .Add (.bop .Add (.sl (.v 1) [] [(.v 3)]) (.tup [(.ix (.v 1) (.v 3))])) (.sl (.v 1) [(.v 3)] []))] [], .ife (.cmp .Eq (.v 4) (.c (.int 2))) [.ret (.bop .Add (.sl (.v 1) [] [(.v 3)]) (.rev (.sl (.v 1) [(.v 3)] [])))] [], .ife (.cmp .Eq (.v 4) (.c (.int 3))) [.ret (.bi .list [(.v 1)])] [], .ret (.bop .Add (.bop .Add (.sl (.v 1) [] [(.v 3)]) (.tup [(.call 40 [(.v 0), (.ix (.v 1) (.v 3)), (.bop .Sub (.v 2) (.c (.int 1)))])])) (.sl (.v 1) [(.bop .Add (.v 3) (.c (.int 1)))] []))] [],
  .ife (.and (.isi (.v 1) .int) [(.not (.isi (.v 1) .bool))]) [.ret (.call 26 [(.v 0), (.lst [(.bop .Sub (.c (.int 1)) (.v 1)), (.bop .Add (.v 1) (.c (.int 1))), (.bop .Sub (.v 1) (.c (.int 1))), (.cmp .Eq (.v 1) (.c (.int 1))), (.bi .str [(.v 1)]), (.c .non), (.bop .Mult (.c (.int 2)) (.v 1))])])] [],
  .ife (.isi (.v 1) .str) [.ret (.call 26 [(.v 0), (.lst [(.bop .Add (.v 1) (.c (.str "x"))), (.sl (.v 1) [] [(.neg (.c (.int 1)))]), (.me .upper (.v 1) []), (.c (.str "zzz")), (.c (.str "zz top")), (.c .non), (.c (.int 0))])])] [],
  .ret (.call 39 [(.v 0)])]
def d__law_bent : Fd := ⟨"_law_bent", 3, ["_law_stream_here", "_law_thing", "_law_deep", "_law_at", "_law_way"], b__law_bent, .own⟩
def b__law_able_lines : List Sm := [.set (.n 4) (.lst []),
  .for_ (.n 5) (.itv (.ix (.v 1) (.c (.int 1)))) [.set (.n 6) (.call 34 [(.v 5), (.v 2), (.v 3)]), .set (.n 7) (.lc (.v 11) [11, 12] (.t [(.n 11), (.n 12)]) (.enum (.v 6)) [(.cmp .NotEq (.v 12) (.c (.int 2)))]), .set (.n 8) (.bi .tuple [(.lc (.v 11) [11] (.n 11) (.itv (.v 7)) [(.cmp .Gt (.call 25 [(.v 0), (.c (.int 3))]) (.c (.int 0)))])]), .for_ (.n 9) (.itv (.tup [(.bi .tuple [(.v 7)]), (.v 8)])) [.set (.n 10) (.tup [(.ix (.v 5) (.c (.int 0))), (.call 30 [(.ix (.v 5) (.c (.int 2))), (.v 6)]), (.v 9)]), .ife (.and (.cmp .NotEq (.ix (.v 10) (.c (.int 1))) (.c (.int 2))) [(.call 37 [(.v 1), (.v 2), (.v 3), (.v 10)])]) [.app 4 (.v 10)] []]],
  .ret (.v 4)]
def d__law_able_lines : Fd := ⟨"_law_able_lines", 4, ["_law_stream_here", "_law_circuit_here", "_law_setting", "_law_told", "_law_found", "_law_gate_here", "_law_row", "_law_able", "_law_some", "_law_named", "_law_line", "_law_wire", "_law_one"], b__law_able_lines, .own⟩
def b__law_lines : List Sm := [.pars [4, 5] [(.dct [] []), (.lst [])],
  .for_ (.n 3) (.rng [(.bop .Add (.c (.int 1)) (.call 25 [(.v 0), (.bi .len [(.ix (.v 1) (.c (.int 1)))])]))]) [.setA 6 (.call 41 [(.v 0), (.v 1), (.v 2), (.v 4)]), .ife (.cmp .NotEq (.v 6) (.lst [])) [.set (.n 7) (.call 26 [(.v 0), (.v 6)]), .put 4 (.ix (.v 7) (.c (.int 0))) (.ix (.v 7) (.c (.int 1))), .app 5 (.v 7)] []],
  .ret (.bi .tuple [(.v 5)])]
def d__law_lines : Fd := ⟨"_law_lines", 3, ["_law_stream_here", "_law_circuit_here", "_law_setting", "_law_turn", "_law_told", "_law_found", "_law_able", "_law_line"], b__law_lines, .own⟩
def b__law_spoilt : List Sm := [.ife (.cmp .Eq (.v 2) (.tup [])) [.ret (.v 2)] [],
  .par 6 7 (.call 25 [(.v 0), (.bi .len [(.v 2)])]) (.call 25 [(.v 0), (.c (.int 8))]),
  .set (.t [(.n 8), (.n 9), (.n 10)]) (.ix (.v 2) (.v 6)),
  .set (.n 3) (.ix (.call 26 [(.v 0), (.ix (.v 1) (.c (.int 1)))]) (.c (.int 0))),
  .set (.n 4) (.bi .len [(.ix (.call 35 [(.v 1), (.v 8)]) (.c (.int 1)))]),
  .set (.n 5) (.lst [(.tup [(.v 8), (.bop .Sub (.c (.int 1)) (.v 9)), (.v 10)]), (.tup [(.v 3), (.v 9), (.v 10)]), (.tup [(.v 8), (.v 9), (.bop .Add (.v 10) (.tup [(.v 4)]))]), (.tup [(.v 8), (.v 9), (.sl (.v 10) [(.c (.int 1))] [])])]),
  .set (.n 5) (.bop .Add (.v 5) (.lst [(.tup [(.v 8), (.v 9), (.rev (.v 10))]), (.tup [(.v 8), (.cmp .Eq (.v 9) (.c (.int 1))), (.v 10)]), (.tup [(.v 8), (.v 9), (.bi .list [(.v 10)])]), (.tup [(.v 8), (.v 9)])])),
  .ife (.cmp .Lt (.v 7) (.c (.int 3))) [.ret (.bop .Add (.bop .Add (.sl (.v 2) [] [(.v 6)]) (.tup [(.call 26 [(.v 0), (.v 5)])])) (.sl (.v 2) [(.bop .Add (.v 6) (.c (.int 1)))] []))] [],
  .ife (.cmp .Eq (.v 7) (.c (.int 3))) [.ret (.bop .Add (.sl (.v 2) [] [(.v 6)]) (.sl (.v 2) [(.bop .Add (.v 6) (.c (.int 1)))] []))] [],
  .ife (.cmp .Eq (.v 7) (.c (.int 4))) [.ret (.bop .Add (.v 2) (.tup [(.ix (.v 2) (.v 6))]))] [],
  .ife (.cmp .Eq (.v 7) (.c (.int 5))) [.ret (.bi .tuple [(.call 27 [(.v 0), (.v 2)])])] [],
  .ret (.call 40 [(.v 0), (.v 2), (.c (.int 3))])]
def d__law_spoilt : Fd := ⟨"_law_spoilt", 3, ["_law_stream_here", "_law_circuit_here", "_law_lines_here", "_law_other", "_law_size", "_law_rows_here", "_law_at", "_law_way", "_law_gate_here", "_law_own", "_law_named"], b__law_spoilt, .own⟩
def b__law_right : List Sm := [.set (.n 3) (.bi .repr [(.lst [(.v 1), (.v 2)])]),
  .for_ (.n 4) (.rng [(.c (.int 12))]) [.set (.n 5) (.call 42 [(.v 0), (.v 1), (.v 2)]), .for_ (.n 6) (.itv (.tup [(.v 5), (.call 43 [(.v 0), (.v 1), (.v 5)]), (.call 39 [(.v 0)])])) [.pars [8, 9, 10] [(.ix (.call 26 [(.v 0), (.ix (.v 1) (.c (.int 1)))]) (.c (.int 0))), (.bi .repr [(.v 6)]), (.lc (.ix (.v 11) (.c (.int 0))) [11] (.n 11) (.itv (.ix (.v 1) (.c (.int 1)))) [])], .ife (.and (.isi (.v 6) .tuple) [(.cmp .NotEq (.v 6) (.tup [])), (.isi (.ix (.v 6) (.neg (.c (.int 1)))) .tuple), (.cmp .Gt (.bi .len [(.ix (.v 6) (.neg (.c (.int 1))))]) (.c (.int 0)))]) [.set (.n 8) (.ife (.cmp .In (.ix (.ix (.v 6) (.neg (.c (.int 1)))) (.c (.int 0))) (.v 10)) (.ix (.ix (.v 6) (.neg (.c (.int 1)))) (.c (.int 0))) (.v 8))] [], .set (.n 7) (.call 23 [(.v 1), (.v 2), (.v 8), (.v 6)]), .ife (.or (.cmp .NotEq (.bi .repr [(.v 7)]) (.bi .repr [(.call 38 [(.v 1), (.v 2), (.v 8), (.v 6)])])) [(.cmp .NotEq (.bi .repr [(.v 6)]) (.v 9))]) [.ret (.c (.bl false))] []]],
  .ret (.cmp .Eq (.bi .repr [(.lst [(.v 1), (.v 2)])]) (.v 3))]
def d__law_right : Fd := ⟨"_law_right", 3, ["_law_stream_here", "_law_circuit_here", "_law_setting", "_law_kept", "_law_turn", "_law_lines_here", "_law_thing", "_law_told", "_law_name", "_law_former", "_law_names_here", "_law_one"], b__law_right, .own⟩
def b_law : List Sm := [.for_ (.n 1) (.rng [(.bi .max [(.c (.int 1)), (.bi .min [(.c (.int 5)), (.bi .len [(.v 0)])])])]) [.set (.n 5) (.mkS 24 [(.v 0), (.v 1)]), .set (.n 6) (.call 32 [(.v 5), (.call 25 [(.v 5), (.c (.int 4))]), (.bop .Add (.c (.int 1)) (.call 25 [(.v 5), (.c (.int 6))])), (.c (.int 4))]), .for_ (.n 7) (.rng [(.c (.int 3))]) [.ife (.not (.call 44 [(.v 5), (.v 6), (.call 33 [(.v 5), (.v 6)])])) [.ret (.c (.bl false))] []]],
  .set (.n 2) (.tup [(.tup [(.c (.str "a"))]), (.tup [(.tup [(.c (.str "x")), (.tup [(.c (.str "a")), (.c (.str "x"))]), (.tup [(.c (.int 0)), (.c (.int 1)), (.c (.int 1)), (.c (.int 1))])])])]),
  .set (.n 3) (.tup [(.tup [(.c (.str "a")), (.c (.str "b"))]), (.tup [(.tup [(.c (.str "x")), (.tup [(.c (.str "a")), (.c (.str "b"))]), (.tup [(.c (.int 0)), (.c (.int 1)), (.c (.int 1)), (.c (.int 1))])]), (.tup [(.c (.str "y")), (.tup [(.c (.str "x")), (.c (.str "y"))]), (.tup [(.c (.int 0)), (.c (.int 0)), (.c (.int 0)), (.c (.int 1))])])])]),
  .set (.n 4) (.lst [(.call 23 [(.v 2), (.dct [.inr "a"] [(.c (.int 1))]), (.c (.str "x")), (.tup [(.tup [(.c (.str "x")), (.c (.int 1)), (.tup [(.c (.int 0))])])])])]),
  .app 4 (.call 23 [(.v 2), (.dct [.inr "a"] [(.c (.int 1))]), (.c (.str "x")), (.tup [(.tup [(.c (.str "x")), (.c (.int 1)), (.tup [(.c (.int 0)), (.c (.int 1))])])])]),
  .app 4 (.call 23 [(.v 2), (.dct [.inr "a"] [(.c (.int 1))]), (.c (.str "x")), (.tup [(.tup [(.c (.str "x")), (.c (.int 1)), (.tup [])])])]),
  .app 4 (.call 23 [(.v 3), (.dct [.inr "a", .inr "b"] [(.c (.int 1)), (.c (.int 0))]), (.c (.str "x")), (.tup [(.tup [(.c (.str "x")), (.c (.int 1)), (.tup [(.c (.int 0)), (.c (.int 1))])])])]),
  .app 4 (.call 23 [(.v 3), (.dct [.inr "a", .inr "b"] [(.c (.int 1)), (.c (.int 2))]), (.c (.str "x")), (.tup [(.tup [(.c (.str "x")), (.c (.int 1)), (.tup [(.c (.int 0)), (.c (.int 1))])])])]),
  .app 4 (.call 23 [(.v 3), (.dct [.inr "a", .inr "b"] [(.c (.int 0)), (.c (.int 0))]), (.c (.str "y")), (.tup [(.tup [(.c (.str "x")), (.c (.int 0)), (.tup [(.c (.int 0)), (.c (.int 1))])]), (.tup [(.c (.str "y")), (.c (.int 0)), (.tup [(.c (.int 0))])])])]),
  .app 4 (.call 23 [(.v 3), (.dct [.inr "a", .inr "b"] [(.c (.int 0)), (.c (.int 0))]), (.c (.str "x")), (.tup [(.tup [(.c (.str "x")), (.c (.int 0)), (.tup [(.c (.int 0)), (.c (.int 1))])]), (.tup [(.c (.str "y")), (.c (.int 0)), (.tup [(.c (.int 0))])])])]),
  .app 4 (.call 23 [(.v 3), (.dct [.inr "a", .inr "b"] [(.c (.int 0)), (.c (.int 0))]), (.c (.str "y")), (.tup [(.tup [(.c (.str "y")), (.c (.int 0)), (.tup [(.c (.int 0))])]), (.tup [(.c (.str "x")), (.c (.int 0)), (.tup [(.c (.int 0)), (.c (.int 1))])])])]),
  .ret (.cmp .Eq (.v 4) (.lst [(.c (.bl true)), (.c (.bl false)), (.c (.bl false)), (.c (.bl true)), (.c (.bl false)), (.c (.bl true)), (.c (.bl false)), (.c (.bl false))]))]
def d_law : Fd := ⟨"law", 1, ["_law_script", "_law_at", "_law_tie", "_law_more", "_law_told", "_law_stream_here", "_law_circuit_here", "_law_turn"], b_law, .own⟩
def pg : List Fd := [d_is_integer, d_is_between, d_is_name, d_is_bit, d_is_value, d_is_table, d_wires_in, d_forced_in, d_are_names, d_is_gate_of, d_is_known, d_is_circuit, d_require_circuit, d_gates_in, d_is_partial_of, d_require_partial, d_require_gate, d_row_in, d_are_wires, d_is_line_after, d_bits_of_lines, d_is_derivation_in, d_require_all, d_is_derivation, d__law_stream, d__law_draw, d__law_pick, d__law_mixed, d__law_names, d__law_rows, d__law_forced, d__law_table, d__law_circuit, d__law_partial, d__law_row_of, d__law_gate, d__law_is_bit, d__law_is_line, d__law_is_derivation, d__law_odd, d__law_bent, d__law_able_lines, d__law_lines, d__law_spoilt, d__law_right, d_law]
def gt : List (Str × D) := [("UNKNOWN", (.int 2)), ("MAX_LETTERS", (.int 8)), ("LETTERS", (.str "abcdefghijklmnopqrstuvwxyz")), ("SIZES", (.wdt (intK [(1, 0), (2, 1), (4, 2), (8, 3), (16, 4)]))), ("MAX_INPUTS", (.int 12)), ("MAX_GATES", (.int 200))]
end LW
namespace LW
open PySem PySem.Spec PyProof.Rows L2 GG
def isInt : D → Bool
  | .int _ => true
  | _ => false
def isVal (lo hi : Int) : D → Bool
  | .int i => decide (lo ≤ i) && decide (i ≤ hi)
  | _ => false
def okT : D → Bool
  | .wdt _ => false
  | _ => true
theorem e_is_integer (n : Nat) (d : D) (S : Sto) (h : okT d = true) : evF pg (n + 1) 0 [d] S = .ok (.bl (isInt d)) S := by
  (rw [u_fn n (f := d_is_integer) rfl rfl]; unfold runF)
  cases d <;> first | (simp! [d_is_integer, b_is_integer, isInt]; done) | (simp [okT] at h)
theorem e_is_between (n : Nat) (d : D) (lo hi : Int) (S : Sto) (h : okT d = true) : evF pg (n + 2) 1 [d, .int lo, .int hi] S = .ok (.bl (isVal lo hi d)) S := by
  (rw [u_fn (n + 1) (f := d_is_between) rfl rfl]; unfold runF)
  cases d with
  | int i =>
    cases h1 : decide (lo ≤ i) <;> cases h2 : decide (i ≤ hi) <;> simp! [d_is_between, b_is_between, isVal, isInt, e_is_integer n _ S h, h1, h2]
  | wdt _ => simp [okT] at h
  | _ => simp! [d_is_between, b_is_between, isVal, isInt, e_is_integer n _ S h]
theorem e_is_bit (n : Nat) (d : D) (S : Sto) (h : okT d = true) : evF pg (n + 3) 3 [d] S = .ok (.bl (isVal 0 1 d)) S := by
  (rw [u_fn (n + 2) (f := d_is_bit) rfl rfl]; unfold runF)
  simp! [d_is_bit, b_is_bit, e_is_between n d 0 1 S h]
theorem e_is_value (n : Nat) (d : D) (S : Sto) (h : okT d = true) : evF pg (n + 3) 4 [d] S = .ok (.bl (isVal 0 2 d)) S := by
  (rw [u_fn (n + 2) (f := d_is_value) rfl rfl]; unfold runF)
  simp! [d_is_value, b_is_value, e_is_between n d 0 2 S h]
def isRow : D → Bool
  | .tup ds => ds.all (isVal 0 2)
  | _ => false
def szOk (n : Nat) : Bool := decide (n ∈ [1, 2, 4, 8, 16])
def isTab : D → Bool
  | .tup ds => szOk ds.length && ds.all (isVal 0 1)
  | _ => false
/-- its items may be asked -/
def okI : D → Bool
  | .tup ds => ds.all okT
  | .wdt _ => false
  | _ => true
theorem e_is_table (n : Nat) (d : D) (S : Sto) (h : okI d = true) : evF pg (n + 4) 5 [d] S = .ok (.bl (isTab d)) S := by
  (rw [u_fn (n + 3) (f := d_is_table) rfl rfl]; unfold runF)
  cases d with
  | tup ds =>
    have e := ev_lc (cl := evF pg (n + 3)) (ε := [.v (D.tup ds), .u]) (S := S) (e := .call 3 [.v 1]) (own := [1]) (tg := .n 1) (it := .itv (.v 0)) (p := (ds, (D.tup ds).still)) (S1 := S) (fun x => .bl (isVal 0 1 x)) (by simp! [])
      (fun x hx => ⟨[.v (.tup ds), .v x], by simp! [], by simp! [e_is_bit n x S (by simp only [okI, List.all_eq_true] at h; exact h x hx)]⟩)
    have e3 : opIn false (.int ds.length) (.wdt (intK [(1, 0), (2, 1), (4, 2), (8, 3), (16, 4)])) = some (.bl (szOk ds.length)) := by
      have e9 : (hasK (intK [(1, 0), (2, 1), (4, 2), (8, 3), (16, 4)]) (.inl (ds.length : Int))) = szOk ds.length := by
        rw [Bool.eq_iff_iff]
        simp [hasK, intK, szOk]
        omega
      rw [← e9]; rfl
    cases h1 : szOk ds.length <;> rw [h1] at e3 <;> simp! [d_is_table, b_is_table, isTab, e, boolsOf_map, Function.comp_def, e3, h1]
  | wdt _ => simp [okI] at h
  | _ => simp! [d_is_table, b_is_table, isTab]
end LW
namespace LW
open PySem PySem.Spec PyProof.Rows L2 GG
abbrev tb (t : List Int) : D := .tup (t.map .int)
def stepI (o : Int) (xs : List Nat) : List Nat := if o = 2 then xs.map (fun x => 2 * x) ++ xs.map (fun x => 2 * x + 1) else xs.map fun x => 2 * x + o.toNat
def blk (t : List Int) (m i : Nat) : List Int := (t.drop (i * m)).take m
theorem blk_lo (t : List Int) (h i : Nat) : (blk t (2 * h) i).take h = blk t h (2 * i) := by
  unfold blk
  rw [List.take_take, Nat.min_eq_left (by omega), show i * (2 * h) = 2 * i * h by rw [Nat.mul_left_comm, Nat.mul_assoc]]
theorem blk_hi (t : List Int) (h i : Nat) : (blk t (2 * h) i).drop h = blk t h (2 * i + 1) := by
  unfold blk
  rw [List.drop_take, List.drop_drop, show 2 * h - h = h by omega, show i * (2 * h) + h = (2 * i + 1) * h by rw [Nat.add_mul, Nat.one_mul, Nat.mul_left_comm, Nat.mul_assoc]]
theorem cut_take (ds : List D) (h : Nat) : GG.cutD ds none (some (h : Int)) = ds.take h := by
  unfold GG.cutD
  rw [HT.sIx_none, HT.sIx_nat, List.drop_zero, Nat.sub_zero]
  by_cases z : h ≤ ds.length
  · rw [Nat.min_eq_left z]
  · rw [Nat.min_eq_right (by omega), List.take_of_length_le (Nat.le_refl _), List.take_of_length_le (by omega)]
theorem cut_drop (ds : List D) (h : Nat) : GG.cutD ds (some (h : Int)) none = ds.drop h := by
  unfold GG.cutD
  rw [HT.sIx_none, HT.sIx_nat]
  by_cases z : h ≤ ds.length
  · rw [Nat.min_eq_left z, List.take_of_length_le (by simp)]
  · rw [Nat.min_eq_right (by omega), List.drop_length, List.drop_of_length_le (by omega), List.take_nil]
/-- the parts -/
def prt (t : List Int) (m : Nat) (xs : List Nat) : D := .lst (xs.map fun i => tb (blk t m i))
theorem sl_tb (t : List Int) (h : Nat) : opSl (tb t) none (some (h : Int)) = some (tb (t.take h)) := by
  simp only [opSl, tb, cut_take, List.map_take]
theorem sr_tb (t : List Int) (h : Nat) : opSl (tb t) (some (h : Int)) none = some (tb (t.drop h)) := by
  simp only [opSl, tb, cut_drop, List.map_drop]
theorem tb_still (t : List Int) : D.still (tb t) = true := by simp only [tb, D.still]; exact still_ints (fun x => x) t
def fbody : List Sm := [.set (.n 5) (.bop .FloorDiv (.bi .len [(.ix (.v 2) (.c (.int 0)))]) (.c (.int 2))), .set (.n 6) (.ife (.cmp .NotEq (.v 3) (.c (.int 1))) (.lc (.sl (.v 8) [] [(.v 5)]) [8] (.n 8) (.itv (.v 2)) []) (.lst [])), .set (.n 7) (.ife (.cmp .NotEq (.v 3) (.c (.int 0))) (.lc (.sl (.v 8) [(.v 5)] []) [8] (.n 8) (.itv (.v 2)) []) (.lst [])), .set (.n 2) (.bop .Add (.v 6) (.v 7))]
theorem ix_prt (t : List Int) (m : Nat) (x : Nat) (xs : List Nat) : opIx (prt t m (x :: xs)) (.int 0) = some (tb (blk t m x)) := by
  simp [opIx, prt, keysOf, seqOf, atI, ixN]
theorem blk_len {t : List Int} {m i : Nat} (h : (i + 1) * m ≤ t.length) : (blk t m i).length = m := by
  unfold blk
  rw [List.length_take, List.length_drop]
  rw [Nat.add_mul, Nat.one_mul] at h
  omega
theorem lc_lo (cl : Nat → List D → Sto → Out D) (S : Sto) (t : List Int) (h : Nat) (xs : List Nat) (s0 s1 s3 s4 s6 s7 : Sl) (sl : Sl) (hs : sl = .o (prt t (2 * h) xs) ∨ sl = .v (prt t (2 * h) xs)) :
    evE cl (.lc (.sl (.v 8) [] [(.v 5)]) [8] (.n 8) (.itv (.v 2)) []) [s0, s1, sl, s3, s4, .v (.int (h : Nat)), s6, s7, .u] S = .ok (prt t h (xs.map (2 * ·))) S := by
  have e := ev_lc (cl := cl) (ε := [s0, s1, sl, s3, s4, .v (.int (h : Nat)), s6, s7, .u]) (S := S) (e := .sl (.v 8) [] [(.v 5)]) (own := [8]) (tg := .n 8) (it := .itv (.v 2)) (p := (xs.map fun i => tb (blk t (2 * h) i), false)) (S1 := S)
    (fun d => (opSl d none (some (h : Int))).getD .non) (by rcases hs with rfl | rfl <;> simp! [prt]) (fun d hd => by
      obtain ⟨i, _, rfl⟩ := List.mem_map.mp hd
      refine ⟨[s0, s1, .v (prt t (2 * h) xs), s3, s4, .v (.int (h : Nat)), s6, s7, .v (tb (blk t (2 * h) i))], ?_, ?_⟩
      · rcases hs with rfl | rfl <;> simp! []
      · rw [sl_tb]; simp! [sl_tb])
  rw [e]
  simp only [List.map_map, prt, Function.comp_def, sl_tb, Option.getD_some, blk_lo]
theorem lc_hi (cl : Nat → List D → Sto → Out D) (S : Sto) (t : List Int) (h : Nat) (xs : List Nat) (s0 s1 s3 s4 s6 s7 : Sl) (sl : Sl) (hs : sl = .o (prt t (2 * h) xs) ∨ sl = .v (prt t (2 * h) xs)) :
    evE cl (.lc (.sl (.v 8) [(.v 5)] []) [8] (.n 8) (.itv (.v 2)) []) [s0, s1, sl, s3, s4, .v (.int (h : Nat)), s6, s7, .u] S = .ok (prt t h (xs.map (2 * · + 1))) S := by
  have e := ev_lc (cl := cl) (ε := [s0, s1, sl, s3, s4, .v (.int (h : Nat)), s6, s7, .u]) (S := S) (e := .sl (.v 8) [(.v 5)] []) (own := [8]) (tg := .n 8) (it := .itv (.v 2)) (p := (xs.map fun i => tb (blk t (2 * h) i), false)) (S1 := S)
    (fun d => (opSl d (some (h : Int)) none).getD .non) (by rcases hs with rfl | rfl <;> simp! [prt]) (fun d hd => by
      obtain ⟨i, _, rfl⟩ := List.mem_map.mp hd
      refine ⟨[s0, s1, .v (prt t (2 * h) xs), s3, s4, .v (.int (h : Nat)), s6, s7, .v (tb (blk t (2 * h) i))], ?_, ?_⟩
      · rcases hs with rfl | rfl <;> simp! []
      · rw [sr_tb]; simp! [sr_tb])
  rw [e]
  simp only [List.map_map, prt, Function.comp_def, sr_tb, Option.getD_some, blk_hi]
theorem prt_len (t : List Int) (m : Nat) (xs : List Nat) : (xs.map fun i => tb (blk t m i)).length = xs.length := by simp
theorem add_prt (t : List Int) (m : Nat) (xs ys : List Nat) (h : xs.length + ys.length ≤ 1000) : opAdd (prt t m xs) (prt t m ys) = some (prt t m (xs ++ ys)) := by
  have : xs.length + ys.length ≤ 16777216 := by omega
  simp [opAdd, prt, sl_eq, this]
/-- one turn -/
theorem fturn (cl : Nat → List D → Sto → Out D) (S : Sto) (t : List Int) (R : D) (h : Nat) (x : Nat) (xs : List Nat) (o : Int) (s5 s6 s7 : Sl) (sl : Sl) (hs : sl = .o (prt t (2 * h) (x :: xs)) ∨ sl = .v (prt t (2 * h) (x :: xs)))
    (ho : o = 0 ∨ o = 1 ∨ o = 2) (hx : (x + 1) * (2 * h) ≤ t.length) (hl : xs.length ≤ 400) :
    ∃ s6' s7', evSs cl fbody [.v (tb t), .v R, sl, .v (.int o), .u, s5, s6, s7, .u] S = .ok (.nx [.v (tb t), .v R, .v (prt t h (stepI o (x :: xs))), .v (.int o), .u, .v (.int (h : Nat)), s6', s7', .u]) S := by
  have l1 : lenOf (tb (blk t (2 * h) x)) = some ((2 * h : Nat) : Int) := by
    simp only [tb, lenOf, List.length_map, blk_len hx]
  have l2 : (2 * (h : Int)) / 2 = (h : Nat) := by omega
  have hix := ix_prt t (2 * h) x xs
  have pn : prt t h [] = .lst [] := rfl
  have st : ∀ m ys, D.still (prt t m ys) = false := fun m ys => rfl
  have a1 := add_prt t h ((x :: xs).map (2 * ·)) [] (by simp; omega)
  have a2 := add_prt t h [] ((x :: xs).map (2 * · + 1)) (by simp; omega)
  have a3 := add_prt t h ((x :: xs).map (2 * ·)) ((x :: xs).map (2 * · + 1)) (by simp; omega)
  rw [pn] at a1 a2
  simp only [List.append_nil, List.nil_append] at a1 a2
  have i0 : stepI 0 (x :: xs) = (x :: xs).map (2 * ·) := by simp [stepI]
  have i1 : stepI 1 (x :: xs) = (x :: xs).map (2 * · + 1) := by simp [stepI]
  have i2 : stepI 2 (x :: xs) = (x :: xs).map (2 * ·) ++ (x :: xs).map (2 * · + 1) := by simp [stepI]
  generalize hy : x :: xs = ys at *
  have lo := lc_lo cl S t h ys
  have hi := lc_hi cl S t h ys
  rcases ho with rfl | rfl | rfl
  · refine ⟨.v (prt t h (ys.map (2 * ·))), .v (.lst []), ?_⟩
    rcases hs with rfl | rfl <;> simp [fbody, -Out.bind_ok, -Out.bind_exc, -Out.bind_bad, bind_ok, bind_bad, on_ok, seq_nx, of_some, onO_some', rdE, ee_v, ee_c, ee_bop, ee_cmp, ee_ife, ee_lst, ee_ix, ee_bi, es_nil, es_cons, st_nil, st_cons, sm_set, tg_n, fz, fzF, fzV, fzN, Sl.frz, vs, vss, setF, GG.fresh, D.still1, cmpF, binF, opDiv, opEq, tru, biF, hix, l1, l2, lo, hi, st, a1, a2, a3, i0, i1, i2, sl_eq, D.still]
  · refine ⟨.v (.lst []), .v (prt t h (ys.map (2 * · + 1))), ?_⟩
    rcases hs with rfl | rfl <;> simp [fbody, -Out.bind_ok, -Out.bind_exc, -Out.bind_bad, bind_ok, bind_bad, on_ok, seq_nx, of_some, onO_some', rdE, ee_v, ee_c, ee_bop, ee_cmp, ee_ife, ee_lst, ee_ix, ee_bi, es_nil, es_cons, st_nil, st_cons, sm_set, tg_n, fz, fzF, fzV, fzN, Sl.frz, vs, vss, setF, GG.fresh, D.still1, cmpF, binF, opDiv, opEq, tru, biF, hix, l1, l2, lo, hi, st, a1, a2, a3, i0, i1, i2, sl_eq, D.still]
  · refine ⟨.v (prt t h (ys.map (2 * ·))), .v (prt t h (ys.map (2 * · + 1))), ?_⟩
    rcases hs with rfl | rfl <;> simp [fbody, -Out.bind_ok, -Out.bind_exc, -Out.bind_bad, bind_ok, bind_bad, on_ok, seq_nx, of_some, onO_some', rdE, ee_v, ee_c, ee_bop, ee_cmp, ee_ife, ee_lst, ee_ix, ee_bi, es_nil, es_cons, st_nil, st_cons, sm_set, tg_n, fz, fzF, fzV, fzN, Sl.frz, vs, vss, setF, GG.fresh, D.still1, cmpF, binF, opDiv, opEq, tru, biF, hix, l1, l2, lo, hi, st, a1, a2, a3, i0, i1, i2, sl_eq, D.still]
end LW
namespace LW
open PySem PySem.Spec PyProof.Rows L2 GG
def idx (row : List Int) (xs : List Nat) : List Nat := row.foldl (fun xs o => stepI o xs) xs
def ok3 (rs : List Int) : Prop := ∀ r ∈ rs, r = 0 ∨ r = 1 ∨ r = 2
theorem stepI_ne {o : Int} {xs : List Nat} (h : xs ≠ []) : stepI o xs ≠ [] := by
  cases xs with
  | nil => exact absurd rfl h
  | cons a r => unfold stepI; split <;> simp
theorem stepI_len (o : Int) (xs : List Nat) : (stepI o xs).length ≤ 2 * xs.length := by
  unfold stepI; split <;> simp <;> omega
theorem stepI_mem {o : Int} {xs : List Nat} {j : Nat} (ho : o = 0 ∨ o = 1 ∨ o = 2) (h : j ∈ stepI o xs) : ∃ i ∈ xs, j = 2 * i ∨ j = 2 * i + 1 := by
  unfold stepI at h
  split at h
  · rcases List.mem_append.mp h with h | h
    · obtain ⟨i, m, rfl⟩ := List.mem_map.mp h; exact ⟨i, m, .inl rfl⟩
    · obtain ⟨i, m, rfl⟩ := List.mem_map.mp h; exact ⟨i, m, .inr rfl⟩
  · obtain ⟨i, m, rfl⟩ := List.mem_map.mp h
    rcases ho with rfl | rfl | rfl
    · exact ⟨i, m, .inl rfl⟩
    · exact ⟨i, m, .inr rfl⟩
    · exact absurd rfl ‹_›
/-- all numbers are places of parts of size m -/
def fit (t : List Int) (m : Nat) (xs : List Nat) : Prop := ∀ i ∈ xs, (i + 1) * m ≤ t.length
theorem fit_step {t : List Int} {h : Nat} {xs : List Nat} {o : Int} (ho : o = 0 ∨ o = 1 ∨ o = 2) (hf : fit t (2 * h) xs) : fit t h (stepI o xs) := fun j hj => by
  obtain ⟨i, m, e⟩ := stepI_mem ho hj
  have := hf i m
  have e1 : (i + 1) * (2 * h) = (2 * i + 1 + 1) * h := by rw [show 2 * i + 1 + 1 = 2 * (i + 1) by omega, Nat.mul_left_comm, Nat.mul_assoc]
  rcases e with rfl | rfl
  · exact Nat.le_trans (Nat.mul_le_mul_right h (by omega)) (e1 ▸ this)
  · exact e1 ▸ this
theorem floop (cl : Nat → List D → Sto → Out D) (S : Sto) (t : List Int) (R : D) : ∀ (row : List Int) (xs : List Nat) (sl s3 s5 s6 s7 : Sl), (sl = .o (prt t (2 ^ row.length) xs) ∨ sl = .v (prt t (2 ^ row.length) xs)) → ok3 row → xs ≠ [] → fit t (2 ^ row.length) xs → xs.length * 2 ^ row.length ≤ 16 →
    ∃ sl' s3' s5' s6' s7', forLoop (tgS (.n 3)) (evSs cl fbody) (row.map .int) [.v (tb t), .v R, sl, s3, .u, s5, s6, s7, .u] S = .ok (.nx [.v (tb t), .v R, sl', s3', .u, s5', s6', s7', .u]) S ∧ (sl' = .o (prt t 1 (idx row xs)) ∨ sl' = .v (prt t 1 (idx row xs)))
  | [], xs, sl, s3, s5, s6, s7, hs, _, _, _, _ => ⟨sl, s3, s5, s6, s7, by simp [forLoop], by simpa [idx] using hs⟩
  | o :: row, xs, sl, s3, s5, s6, s7, hs, ho, hne, hf, hl => by
    obtain ⟨x, ys, rfl⟩ : ∃ x ys, xs = x :: ys := by cases xs with | nil => exact absurd rfl hne | cons x ys => exact ⟨x, ys, rfl⟩
    have e2 : 2 ^ (o :: row).length = 2 * 2 ^ row.length := by rw [List.length_cons, Nat.pow_succ, Nat.mul_comm]
    rw [e2] at hs hf hl
    have hpos : 1 ≤ 2 ^ row.length := Nat.one_le_two_pow
    have hsmall : (x :: ys).length * (2 * 2 ^ row.length) ≤ 16 := hl
    have h16 : (x :: ys).length ≤ 16 := Nat.le_trans (Nat.le_mul_of_pos_right _ (by omega)) hsmall
    obtain ⟨s6', s7', e⟩ := fturn cl S t R (2 ^ row.length) x ys o s5 s6 s7 sl hs (ho o List.mem_cons_self) (hf x List.mem_cons_self) (by simp at h16; omega)
    have hl2 : (stepI o (x :: ys)).length * 2 ^ row.length ≤ 16 := by
      refine Nat.le_trans (Nat.mul_le_mul_right _ (stepI_len o (x :: ys))) ?_
      rw [Nat.mul_assoc, Nat.mul_left_comm]; exact hsmall
    obtain ⟨sl2, s32, s52, s62, s72, f1, f2⟩ := floop cl S t R row (stepI o (x :: ys)) (.v (prt t (2 ^ row.length) (stepI o (x :: ys)))) (.v (.int o)) (.v (.int ((2 ^ row.length : Nat) : Int))) s6' s7' (.inr rfl) (fun r m => ho r (List.mem_cons_of_mem _ m)) (stepI_ne (by simp)) (fit_step (ho o List.mem_cons_self) hf) hl2
    refine ⟨sl2, s32, s52, s62, s72, ?_, by simpa [idx] using f2⟩
    rw [List.map_cons]
    unfold forLoop
    have et : tgS (.n 3) (.int o) [.v (tb t), .v R, sl, s3, .u, s5, s6, s7, .u] = some [.v (tb t), .v R, sl, .v (.int o), .u, s5, s6, s7, .u] := by simp [tg_n]
    rw [et]
    dsimp only
    rw [e]
    exact f1
def seen (t : List Int) (row : List Int) : List Int := (idx row [0]).map fun i => t.getD i 0
def fin (s : List Int) : Int := if s.count (s.getD 0 0) = s.length then s.getD 0 0 else 2
theorem idx_ne (row : List Int) : ∀ xs : List Nat, xs ≠ [] → idx row xs ≠ [] := by
  induction row with
  | nil => intro xs h; exact h
  | cons o r ih => intro xs h; exact ih _ (stepI_ne h)
theorem idx_fit (t : List Int) : ∀ (row : List Int) (xs : List Nat), ok3 row → fit t (2 ^ row.length) xs → fit t 1 (idx row xs)
  | [], xs, _, h => by simpa [idx] using h
  | o :: r, xs, ho, h => by
    have e2 : 2 ^ (o :: r).length = 2 * 2 ^ r.length := by rw [List.length_cons, Nat.pow_succ, Nat.mul_comm]
    rw [e2] at h
    exact idx_fit t r _ (fun x m => ho x (List.mem_cons_of_mem _ m)) (fit_step (ho o List.mem_cons_self) h)
theorem seen_ne (t row : List Int) : seen t row ≠ [] := by
  unfold seen
  have := idx_ne row [0] (by simp)
  cases h : idx row [0] with
  | nil => exact absurd h this
  | cons a r => simp
theorem blk1 {t : List Int} {i : Nat} (h : (i + 1) * 1 ≤ t.length) : blk t 1 i = [t.getD i 0] := by
  unfold blk
  have hi : i < t.length := by omega
  have e : t.getD i 0 = t[i] := by simp [List.getD, hi]
  rw [Nat.mul_one, List.drop_eq_getElem_cons hi, e]
  rfl
theorem e_forced_in (n : Nat) (t row : List Int) (S : Sto) (ho : ok3 row) (hl : t.length = 2 ^ row.length) (h4 : row.length ≤ 4) : evF pg (n + 1) 7 [tb t, tb row] S = .ok (.int (fin (seen t row))) S := by
  (rw [u_fn n (f := d_forced_in) rfl rfl]; unfold runF)
  have p16 : 2 ^ row.length ≤ 16 := Nat.pow_le_pow_right (by decide) h4
  have b1 : blk t (2 ^ row.length) 0 = t := by unfold blk; rw [Nat.zero_mul, List.drop_zero, ← hl, List.take_length]
  have f0 : fit t (2 ^ row.length) [0] := fun i hi => by rw [List.mem_singleton.mp hi, hl]; omega
  obtain ⟨sl, s3, s5, s6, s7, e, hs⟩ := floop (evF pg n) S t (tb row) row [0] (.o (.lst [tb t])) .u .u .u .u (.inl (by simp [prt, b1])) ho (by simp) f0 (by simpa using p16)
  have fit1 := idx_fit t row [0] ho f0
  have stT : D.still (tb t) = true := tb_still t
  have stR : D.still (tb row) = true := tb_still row
  have itr : iterV (tb row) = some (row.map .int) := rfl
  have e4 : evE (evF pg n) (.lc (.ix (.v 8) (.c (.int 0))) [8] (.n 8) (.itv (.v 2)) []) [.v (tb t), .v (tb row), sl, s3, .u, s5, s6, s7, .u] S = .ok (.lst ((seen t row).map .int)) S := by
    have e := ev_lc (cl := evF pg n) (ε := [.v (tb t), .v (tb row), sl, s3, .u, s5, s6, s7, .u]) (S := S) (e := .ix (.v 8) (.c (.int 0))) (own := [8]) (tg := .n 8) (it := .itv (.v 2)) (p := ((idx row [0]).map fun i => tb (blk t 1 i), false)) (S1 := S)
      (fun d => (opIx d (.int 0)).getD .non) (by rcases hs with rfl | rfl <;> simp! [prt]) (fun d hd => by
        obtain ⟨i, mi, rfl⟩ := List.mem_map.mp hd
        refine ⟨[.v (tb t), .v (tb row), .v (prt t 1 (idx row [0])), s3, .u, s5, s6, s7, .v (tb (blk t 1 i))], ?_, ?_⟩
        · rcases hs with rfl | rfl <;> simp! []
        · have q : opIx (tb (blk t 1 i)) (.int 0) = some (.int (t.getD i 0)) := by rw [blk1 (fit1 i mi)]; rfl
          rw [q]; simp! [q])
    rw [e]
    congr 2
    unfold seen
    rw [List.map_map, List.map_map]
    refine List.map_congr_left fun i mi => ?_
    show (opIx (tb (blk t 1 i)) (.int 0)).getD .non = _
    rw [blk1 (fit1 i mi)]; rfl
  obtain ⟨a, r, hs1⟩ : ∃ a r, seen t row = a :: r := by
    cases h : seen t row with
    | nil => exact absurd h (seen_ne t row)
    | cons a r => exact ⟨a, r, rfl⟩
  rw [hs1] at e4 ⊢
  unfold fbody at e
  have st4 : D.stills ((a :: r).map .int) = true := still_ints (fun x => x) (a :: r)
  have cnt : intsOf ((a :: r).map .int) = some (a :: r) := by simpa using intsOf_map (fun x : Int => x) (a :: r)
  have ix0 : opIx (.lst ((a :: r).map .int)) (.int 0) = some (.int a) := by simp [opIx, keysOf, seqOf, atI, ixN]
  have body : evSs (evF pg n) b_forced_in [.v (tb t), .v (tb row), .u, .u, .u, .u, .u, .u, .u] S = .ok (.rt (.int (fin (a :: r)))) S := by
    have e1 : evS (evF pg n) (.set (.n 2) (.lst [(.v 0)])) [.v (tb t), .v (tb row), .u, .u, .u, .u, .u, .u, .u] S = .ok (.nx [.v (tb t), .v (tb row), .o (.lst [tb t]), .u, .u, .u, .u, .u, .u]) S := by simp! [stT]
    have e2 : evI (evF pg n) (.itv (.v 1)) [.v (tb t), .v (tb row), .o (.lst [tb t]), .u, .u, .u, .u, .u, .u] S = .ok (row.map .int, true) S := by
      rw [ei_itv, ee_v]; simp [rdE, bind_ok, of_some, itr, stR]
    have e3 : evS (evF pg n) (.set (.n 4) (.lc (.ix (.v 8) (.c (.int 0))) [8] (.n 8) (.itv (.v 2)) [])) [.v (tb t), .v (tb row), sl, s3, .u, s5, s6, s7, .u] S = .ok (.nx [.v (tb t), .v (tb row), sl, s3, .o (.lst ((a :: r).map .int)), s5, s6, s7, .u]) S := by
      rw [sm_set, e4]
      have st5 : D.stills (r.map .int) = true := still_ints (fun x => x) r
      simp [on_ok, setF, GG.fresh, D.still1, D.still, D.stills, onO_some', fzN, st5]
    unfold b_forced_in
    rw [st_cons, e1, seq_nx, st_cons, sm_for, e2, on_ok]
    dsimp only
    rw [if_pos rfl, e, seq_nx, st_cons, e3, seq_nx, st_cons, sm_ret]
    have e5 : evE (evF pg n) (.ife (.cmp .Eq (.me .count (.v 4) [(.ix (.v 4) (.c (.int 0)))]) (.bi .len [(.v 4)])) (.ix (.v 4) (.c (.int 0))) (.g "UNKNOWN" (.int 2))) [.v (tb t), .v (tb row), sl, s3, .o (.lst ((a :: r).map .int)), s5, s6, s7, .u] S = .ok (.int (fin (a :: r))) S := by
      generalize hd : (a :: r).map D.int = L at *
      have ln : lenOf (.lst L) = some (((a :: r).length : Nat) : Int) := by rw [← hd]; simp [lenOf]
      simp only [ee_ife, ee_cmp, ee_me, ee_v, rdE, ee_ix, ee_c, ee_bi, es_cons, es_nil, List.getElem?_cons_succ, List.getElem?_cons_zero]
      have mf : meF .count (.lst L) [.int a] = some (.int (((a :: r).count a : Nat) : Int)) := by simp [meF, lstOf, cnt]
      have ll : L.length = (a :: r).length := by rw [← hd]; simp
      have fa : fin (a :: r) = if (a :: r).count a = (a :: r).length then a else 2 := rfl
      simp! [ix0, mf, ll, fa]
      split <;> split <;> first | rfl | omega
    rw [e5]
    rfl
  show (match evSs (evF pg n) b_forced_in [.v (tb t), .v (tb row), .u, .u, .u, .u, .u, .u, .u] S with
    | .ok (.rt d) S1 => Out.ok d S1
    | .ok (.nx _) S1 => .ok .non S1
    | .ok _ _ => .bad
    | .exc c v _ S1 => .exc c v S1
    | .bad => .bad) = _
  rw [body]
end LW
namespace LW
open PySem PySem.Spec PyProof.Rows L2 GG
def bits (t : List Int) : Prop := ∀ x ∈ t, x = 0 ∨ x = 1
theorem okI_tb (t : List Int) : okI (tb t) = true := by simp [okI, tb, okT]
theorem isTab_tb {t : List Int} {n : Nat} (hb : bits t) (hn : n ≤ 4) (ht : t.length = 2 ^ n) : isTab (tb t) = true := by
  simp only [tb, isTab, Bool.and_eq_true, List.all_map, List.all_eq_true, List.length_map, ht]
  refine ⟨?_, fun x hx => ?_⟩
  · match n, hn with
    | 0, _ => rfl
    | 1, _ => rfl
    | 2, _ => rfl
    | 3, _ => rfl
    | 4, _ => rfl
  · rcases hb x hx with rfl | rfl <;> rfl
theorem ix_sizes {n : Nat} (hn : n ≤ 4) : opIx (.wdt (intK [(1, 0), (2, 1), (4, 2), (8, 3), (16, 4)])) (.int ((2 ^ n : Nat) : Int)) = some (.int (n : Nat)) := by
  match n, hn with
  | 0, _ => rfl
  | 1, _ => rfl
  | 2, _ => rfl
  | 3, _ => rfl
  | 4, _ => rfl
theorem e_wires_in (k : Nat) (S : Sto) (n : Nat) (t : List Int) (hn : n ≤ 4) (ht : t.length = 2 ^ n) : evF pg (k + 1) 6 [tb t] S = .ok (.int (n : Nat)) S := by
  (rw [u_fn k (f := d_wires_in) rfl rfl]; unfold runF)
  have h := ix_sizes hn
  simp only [Int.natCast_pow, Int.cast_ofNat_Int] at h
  simp! [d_wires_in, b_wires_in, tb, ht, h]
theorem ix_tb {t : List Int} {i : Nat} (h : i < t.length) : opIx (tb t) (.int (i : Nat)) = some (.int (t.getD i 0)) := by
  simp [opIx, tb, keysOf, seqOf, atI, ixN, h, List.getD]
end LW
namespace LW
open PySem PySem.Spec PyProof.Rows L2 GG
theorem emod_rng (a : Int) {t : Int} (h : 0 < t) : 0 ≤ a % t ∧ a % t < t := ⟨Int.emod_nonneg _ (by omega), Int.emod_lt_of_pos _ h⟩
theorem e_draw (n : Nat) (k : Nat) (t : Int) (S : Sto) (hk : k < S.length) (h0 : 0 < t) (h1 : t < 1073741824) :
    ∃ (r : Nat) (S' : Sto), evF pg (n + 1) 25 [.stm k, .int t] S = .ok (.int (r : Nat)) S' ∧ (r : Int) < t ∧ S'.length = S.length := by
  obtain ⟨a, b, c, e⟩ : ∃ a b c, S[k]? = some (a, b, c) := ⟨S[k].1, S[k].2.1, S[k].2.2, by simp [hk]⟩
  suffices q : ∃ (r : Int) (o : Int × Int × Int), evF pg (n + 1) 25 [.stm k, .int t] S = .ok (.int r) (S.set k o) ∧ 0 ≤ r ∧ r < t by
    obtain ⟨r, o, e, z, l⟩ := q
    obtain ⟨m, rfl⟩ : ∃ m : Nat, r = m := ⟨r.toNat, by omega⟩
    exact ⟨m, _, e, l, by simp⟩
  (rw [u_fn n (f := d__law_draw) rfl rfl]; unfold runF)
  have e' : ∀ x, (S.set k x)[k]? = some x := fun x => by simp [hk]
  by_cases ha : 0 < a
  · refine ⟨a % t, (a / t, b, c), ?_, emod_rng a h0⟩
    simp! [d__law_draw, b__law_draw, e, ha, h0, h1]
  · have q1 := emod_rng (b + 1000159 * (c + 1)) (t := 2305843009213693951) (by decide)
    generalize hone : (b + 1000159 * (c + 1)) % 2305843009213693951 = one at q1
    have q2 := emod_rng (one * one) (t := 2305843009213693921) (by decide)
    generalize htwo : (one * one) % 2305843009213693921 = two at q2
    have q3 := emod_rng (two * one + 6361 * (c + 1)) (t := 2305843009213693907) (by decide)
    generalize hthr : (two * one + 6361 * (c + 1)) % 2305843009213693907 = thr at q3
    refine ⟨thr / 4096 % t, (a, b, c + 1), ?_, emod_rng _ h0⟩
    have b1 : -18446744073709551616 < one := by omega
    have b2 : one < 18446744073709551616 := by omega
    simp! [d__law_draw, b__law_draw, e, e', ha, h0, h1, hone, htwo, hthr, b1, b2]
theorem atI_nat {ds : List D} {r : Nat} (h : r < ds.length) : atI ds (r : Nat) = some ds[r] := by simp [atI, ixN, h]
theorem e_pickL (n : Nat) (k : Nat) (ds : List D) (S : Sto) (hk : k < S.length) (h0 : 0 < ds.length) (h1 : ds.length < 1000000) :
    ∃ (d : D) (S' : Sto), evF pg (n + 2) 26 [.stm k, .lst ds] S = .ok d S' ∧ d ∈ ds ∧ S'.length = S.length := by
  (rw [u_fn (n + 1) (f := d__law_pick) rfl rfl]; unfold runF)
  obtain ⟨r, S1, e, hr, hl⟩ := e_draw n k ds.length S hk (by omega) (by omega)
  have lt : r < ds.length := by omega
  have q : opIx (.lst ds) (.int (r : Nat)) = some ds[r] := by simp [opIx, keysOf, seqOf, atI_nat lt]
  refine ⟨ds[r], S1, ?_, List.getElem_mem lt, hl⟩
  simp! [d__law_pick, b__law_pick, e, q]
theorem e_pickT (n : Nat) (k : Nat) (ds : List D) (S : Sto) (hk : k < S.length) (h0 : 0 < ds.length) (h1 : ds.length < 1000000) :
    ∃ (d : D) (S' : Sto), evF pg (n + 2) 26 [.stm k, .tup ds] S = .ok d S' ∧ d ∈ ds ∧ S'.length = S.length := by
  (rw [u_fn (n + 1) (f := d__law_pick) rfl rfl]; unfold runF)
  obtain ⟨r, S1, e, hr, hl⟩ := e_draw n k ds.length S hk (by omega) (by omega)
  have lt : r < ds.length := by omega
  have q : opIx (.tup ds) (.int (r : Nat)) = some ds[r] := by simp [opIx, keysOf, seqOf, atI_nat lt]
  refine ⟨ds[r], S1, ?_, List.getElem_mem lt, hl⟩
  simp! [d__law_pick, b__law_pick, e, q]
theorem e_cell (cl : Nat → List D → Sto → Out D) (ns : List Int) (k : Nat) (S : Sto) : ∃ c : Int, evE cl (.ife (.cmp .Lt (.v 1) (.bi .len [(.v 0)])) (.ix (.v 0) (.v 1)) (.bop .Add (.bop .Mult (.c (.int 17)) (.v 1)) (.c (.int 8)))) [.v (.rol (ns.map .int)), .v (.int k), .u, .u, .u] S = .ok (.int c) S := by
  by_cases h : k < ns.length
  · refine ⟨ns[k], ?_⟩
    have q : opIx (.rol (ns.map .int)) (.int (k : Nat)) = some (.int ns[k]) := by
      have l : k < (ns.map D.int).length := by simpa using h
      simp only [opIx, keysOf, seqOf, Option.bind_some, atI_nat l, List.getElem_map]
    simp! [h, q]
  · exact ⟨17 * k + 8, by simp! [h]⟩
theorem e_stream (n : Nat) (ns : List Int) (k : Nat) (S : Sto) : ∃ a b : Int, evF pg (n + 1) 24 [.rol (ns.map .int), .int k] S = .ok (.lst [.int a, .int b, .int 0]) S := by
  obtain ⟨c, ec⟩ := e_cell (evF pg n) ns k S
  rw [u_fm n (f := d__law_stream) rfl rfl]
  unfold runM
  have b60 : ((Builtin.Int.intBits 10 : Nat) : Int) * 60 ≤ 134217728 := by decide
  have b660 : ((Builtin.Int.intBits 1000000000000000000000000000000000000000000000000000000000000 : Nat) : Int) * 11 ≤ 134217728 := by decide +kernel
  have b18 : ((Builtin.Int.intBits 10 : Nat) : Int) * 18 ≤ 134217728 := by decide
  have key : (evF pg (n + 1) 24 [.rol (ns.map .int), .int k] S).wp fun d S' => ∃ a b : Int, d = .lst [.int a, .int b, .int 0] ∧ S' = S := by
    rw [u_fm n (f := d__law_stream) rfl rfl]
    unfold runM
    simp! [d__law_stream, b__law_stream, ec, b60, b660, b18]
  obtain ⟨d, S', e, a, b, rfl, rfl⟩ := key.get
  rw [u_fm n (f := d__law_stream) rfl rfl] at e
  exact ⟨a, b, e⟩
end LW
namespace LW
open PySem PySem.Spec PyProof.Rows L2 GG
def nI (xs : List Nat) : D := .lst (xs.map fun i => .int (i : Nat))
def gA : Ex := .lc (.bop .Add (.bop .Mult (.c (.int 2)) (.v 5)) (.ife (.cmp .Eq (.v 3) (.c (.int 2))) (.c (.int 0)) (.v 3))) [5] (.n 5) (.itv (.v 2)) []
def gB : Ex := .lc (.bop .Add (.v 5) (.c (.int 1))) [5] (.n 5) (.itv (.v 2)) []
def gBody : List Sm := [.set (.n 2) gA, .set (.n 2) (.bop .Add (.v 2) (.ife (.cmp .Eq (.v 3) (.c (.int 2))) gB (.lst [])))]
def bit0 (o : Int) : Nat := if o = 1 then 1 else 0
theorem gA_ev (cl : Nat → List D → Sto → Out D) (S : Sto) (T R : D) (xs : List Nat) (o : Int) (s4 : Sl) (sl : Sl) (hs : sl = .o (nI xs) ∨ sl = .v (nI xs)) (ho : o = 0 ∨ o = 1 ∨ o = 2) :
    evE cl gA [.v T, .v R, sl, .v (.int o), s4, .u] S = .ok (nI (xs.map fun i => 2 * i + bit0 o)) S := by
  have e := ev_lc (cl := cl) (ε := [.v T, .v R, sl, .v (.int o), s4, .u]) (S := S) (e := .bop .Add (.bop .Mult (.c (.int 2)) (.v 5)) (.ife (.cmp .Eq (.v 3) (.c (.int 2))) (.c (.int 0)) (.v 3))) (own := [5]) (tg := .n 5) (it := .itv (.v 2))
    (p := (xs.map fun i => .int (i : Nat), false)) (S1 := S) (fun d => match d with | .int i => .int (2 * i + (bit0 o : Nat)) | _ => .non)
    (by rcases hs with rfl | rfl <;> simp! [nI]) (fun d hd => by
      obtain ⟨i, _, rfl⟩ := List.mem_map.mp hd
      refine ⟨[.v T, .v R, .v (nI xs), .v (.int o), s4, .v (.int i)], ?_, ?_⟩
      · rcases hs with rfl | rfl <;> simp! []
      · rcases ho with rfl | rfl | rfl <;> simp! [bit0])
  unfold gA
  rw [e]
  unfold nI
  rw [List.map_map, List.map_map]
  congr 2
theorem gB_ev (cl : Nat → List D → Sto → Out D) (S : Sto) (T R : D) (xs : List Nat) (o : Sl) (s4 : Sl) (sl : Sl) (hs : sl = .o (nI xs) ∨ sl = .v (nI xs)) :
    evE cl gB [.v T, .v R, sl, o, s4, .u] S = .ok (nI (xs.map fun i => i + 1)) S := by
  have e := ev_lc (cl := cl) (ε := [.v T, .v R, sl, o, s4, .u]) (S := S) (e := .bop .Add (.v 5) (.c (.int 1))) (own := [5]) (tg := .n 5) (it := .itv (.v 2))
    (p := (xs.map fun i => .int (i : Nat), false)) (S1 := S) (fun d => match d with | .int i => .int (i + 1) | _ => .non)
    (by rcases hs with rfl | rfl <;> simp! [nI]) (fun d hd => by
      obtain ⟨i, _, rfl⟩ := List.mem_map.mp hd
      refine ⟨[.v T, .v R, .v (nI xs), o, s4, .v (.int i)], ?_, ?_⟩
      · rcases hs with rfl | rfl <;> simp! []
      · simp! [])
  unfold gB
  rw [e]
  unfold nI
  rw [List.map_map, List.map_map]
  congr 2
theorem add_nI (xs ys : List Nat) (h : xs.length + ys.length ≤ 1000) : opAdd (nI xs) (nI ys) = some (nI (xs ++ ys)) := by
  have : xs.length + ys.length ≤ 16777216 := by omega
  simp [opAdd, nI, sl_eq, this]
theorem gTurn (cl : Nat → List D → Sto → Out D) (S : Sto) (T R : D) (xs : List Nat) (o : Int) (s4 : Sl) (sl : Sl) (hs : sl = .o (nI xs) ∨ sl = .v (nI xs)) (ho : o = 0 ∨ o = 1 ∨ o = 2) (hl : xs.length ≤ 400) :
    evSs cl gBody [.v T, .v R, sl, .v (.int o), s4, .u] S = .ok (.nx [.v T, .v R, .v (nI (stepI o xs)), .v (.int o), s4, .u]) S := by
  have st : ∀ xs, D.still1 (nI xs) = true := fun xs => by simp only [nI, D.still1]; exact still_ints (fun i : Nat => (i : Int)) xs
  have e1 : evS cl (.set (.n 2) gA) [.v T, .v R, sl, .v (.int o), s4, .u] S = .ok (.nx [.v T, .v R, .o (nI (xs.map fun i => 2 * i + bit0 o)), .v (.int o), s4, .u]) S := by
    rw [sm_set, gA_ev cl S T R xs o s4 sl hs ho]
    rcases hs with rfl | rfl <;> simp [on_ok, setF, gA, GG.fresh, onO_some', fzN, st]
  have e2 : evE cl (.bop .Add (.v 2) (.ife (.cmp .Eq (.v 3) (.c (.int 2))) gB (.lst []))) [.v T, .v R, .o (nI (xs.map fun i => 2 * i + bit0 o)), .v (.int o), s4, .u] S = .ok (nI (stepI o xs)) S := by
    have g := gB_ev cl S T R (xs.map fun i => 2 * i + bit0 o) (.v (.int o)) s4 _ (.inl rfl)
    have a0 := add_nI (xs.map fun i => 2 * i + bit0 o) [] (by simp; omega)
    have a1 := add_nI (xs.map fun i => 2 * i + bit0 o) ((xs.map fun i => 2 * i + bit0 o).map fun i => i + 1) (by simp; omega)
    have nn : nI [] = .lst [] := rfl
    rw [nn] at a0
    have i0 : stepI 0 xs = xs.map (2 * ·) := by simp [stepI]
    have i1 : stepI 1 xs = xs.map (2 * · + 1) := by simp [stepI]
    have i2 : stepI 2 xs = xs.map (2 * ·) ++ xs.map (2 * · + 1) := by simp [stepI]
    rcases ho with rfl | rfl | rfl
    · have q : (xs.map fun i => 2 * i + bit0 0) = stepI 0 xs ++ [] := by rw [i0]; simp [bit0]
      rw [ee_bop, ee_v]
      simp [rdE, onO_some', bind_ok, of_some, ee_ife, ee_cmp, ee_v, ee_c, cmpF, opEq, tru, ee_lst, es_nil, a0, sl_eq, binF]
      rw [q, List.append_nil]
    · have q : (xs.map fun i => 2 * i + bit0 1) = stepI 1 xs ++ [] := by rw [i1]; simp [bit0]
      rw [ee_bop, ee_v]
      simp [rdE, onO_some', bind_ok, of_some, ee_ife, ee_cmp, ee_v, ee_c, cmpF, opEq, tru, ee_lst, es_nil, a0, sl_eq, binF]
      rw [q, List.append_nil]
    · have b2 : (fun i => 2 * i + bit0 2) = fun i : Nat => 2 * i := by funext i; simp [bit0]
      rw [b2] at g a1 ⊢
      simp only [List.map_map, Function.comp_def] at g a1
      rw [ee_bop, ee_v]
      simp [rdE, onO_some', bind_ok, of_some, ee_ife, ee_cmp, ee_v, ee_c, cmpF, opEq, tru, g, a1, binF, i2]
  have sv : ∀ xs, D.still (nI xs) = false := fun xs => rfl
  unfold gBody
  rw [st_cons, e1, seq_nx, st_cons, sm_set, e2]
  simp [on_ok, setF, GG.fresh, onO_some', fzV, fz, fzF, vs, vss, gB, tg_n, seq_nx, st_nil, sv, Sl.frz]
theorem gLoop (cl : Nat → List D → Sto → Out D) (S : Sto) (T R : D) : ∀ (row : List Int) (xs : List Nat) (s3 : Sl) (sl : Sl), (sl = .o (nI xs) ∨ sl = .v (nI xs)) → ok3 row → xs.length * 2 ^ row.length ≤ 400 →
    ∃ s3' sl', forLoop (tgS (.n 3)) (evSs cl gBody) (row.map .int) [.v T, .v R, sl, s3, .u, .u] S = .ok (.nx [.v T, .v R, sl', s3', .u, .u]) S ∧ (sl' = .o (nI (idx row xs)) ∨ sl' = .v (nI (idx row xs)))
  | [], xs, s3, sl, hs, _, _ => ⟨s3, sl, by simp [forLoop], by simpa [idx] using hs⟩
  | o :: row, xs, s3, sl, hs, ho, hl => by
    have e2 : 2 ^ (o :: row).length = 2 * 2 ^ row.length := by rw [List.length_cons, Nat.pow_succ, Nat.mul_comm]
    rw [e2] at hl
    have hp : 1 ≤ 2 ^ row.length := Nat.one_le_two_pow
    have h4 : xs.length ≤ 400 := Nat.le_trans (Nat.le_mul_of_pos_right _ (by omega)) hl
    have e := gTurn cl S T R xs o .u sl hs (ho o List.mem_cons_self) h4
    have hl2 : (stepI o xs).length * 2 ^ row.length ≤ 400 := by
      refine Nat.le_trans (Nat.mul_le_mul_right _ (stepI_len o xs)) ?_
      rw [Nat.mul_assoc, Nat.mul_left_comm]; exact hl
    obtain ⟨a, b, f, g⟩ := gLoop cl S T R row (stepI o xs) (.v (.int o)) _ (.inr rfl) (fun r m => ho r (List.mem_cons_of_mem _ m)) hl2
    refine ⟨a, b, ?_, by simpa [idx] using g⟩
    rw [List.map_cons]
    unfold forLoop
    have et : tgS (.n 3) (.int o) [.v T, .v R, sl, s3, .u, .u] = some [.v T, .v R, sl, .v (.int o), .u, .u] := by simp [tg_n]
    rw [et]
    dsimp only
    rw [e]
    exact f
def due (s : List Int) : Int := if 0 ∈ s ∧ 1 ∈ s then 2 else s.getD 0 0
theorem due_fin {s : List Int} (hb : bits s) (hne : s ≠ []) : due s = fin s := by
  match s, hne with
  | a :: r, _ =>
    have ha := hb a List.mem_cons_self
    have e : due (a :: r) = if 0 ∈ a :: r ∧ 1 ∈ a :: r then 2 else a := rfl
    have f : fin (a :: r) = if (a :: r).count a = (a :: r).length then a else 2 := rfl
    rw [e, f]
    by_cases h : (a :: r).count a = (a :: r).length
    · rw [if_pos h, if_neg]
      rw [List.count_eq_length] at h
      rintro ⟨h0, h1⟩
      have := h 0 h0
      have := h 1 h1
      omega
    · rw [if_neg h, if_pos]
      rw [List.count_eq_length] at h
      have ⟨b, hm, hn⟩ : ∃ b ∈ a :: r, a ≠ b := by
        refine Classical.byContradiction fun n => h fun b m => Classical.byContradiction fun q => n ⟨b, m, q⟩
      have hb' := hb b hm
      rcases ha with rfl | rfl <;> rcases hb' with rfl | rfl
      · exact absurd rfl hn
      · exact ⟨List.mem_cons_self, hm⟩
      · exact ⟨hm, List.mem_cons_self⟩
      · exact absurd rfl hn
end LW
namespace LW
open PySem PySem.Spec PyProof.Rows L2 GG
theorem seen_bits {t row : List Int} (hb : bits t) (hr : ok3 row) (hl : t.length = 2 ^ row.length) : bits (seen t row) := fun x hx => by
  obtain ⟨i, mi, rfl⟩ := List.mem_map.mp hx
  have f := idx_fit t row [0] hr (fun i hi => by rw [List.mem_singleton.mp hi, hl]; omega) i mi
  have lt : i < t.length := by omega
  have : t.getD i 0 = t[i] := by simp [List.getD, lt]
  rw [this]
  exact hb _ (List.getElem_mem lt)
theorem any_int (s : List Int) (c : Int) : ((s.map D.int).any fun z => eqFD z (.int c)) = decide (c ∈ s) := by
  induction s with
  | nil => rfl
  | cons a r ih => rw [List.map_cons, List.any_cons, ih, Bool.eq_iff_iff]; simp [eqFD]; constructor <;> (rintro (h | h) <;> simp_all)
theorem flat_ints (s : List Int) : (s.map D.int).all flatD = true := by simp [flatD]
theorem in_lst (b : Bool) (s : List Int) (c : Int) : opIn b (.int c) (.lst (s.map .int)) = some (.bl (if b then !decide (c ∈ s) else decide (c ∈ s))) := by
  simp only [opIn, seqOf, flat_ints, any_int, flatD, and_self, if_true]
theorem in_tup (b : Bool) (s : List Int) (c : Int) : opIn b (.int c) (.tup (s.map .int)) = some (.bl (if b then !decide (c ∈ s) else decide (c ∈ s))) := by
  simp only [opIn, seqOf, flat_ints, any_int, flatD, and_self, if_true]
theorem e_law_forced (k : Nat) (S : Sto) (t row : List Int) (hb : bits t) (hr : ok3 row) (hl : t.length = 2 ^ row.length) (h4 : row.length ≤ 4) :
    evF pg (k + 1) 30 [tb t, tb row] S = .ok (.int (fin (seen t row))) S := by
  rw [u_fn k (f := d__law_forced) rfl rfl]
  have p16 : 2 ^ row.length ≤ 16 := Nat.pow_le_pow_right (by decide) h4
  obtain ⟨s3, sl, e, hs⟩ := gLoop (evF pg k) S (tb t) (tb row) row [0] .u (.o (nI [0])) (.inl rfl) hr (by simp; omega)
  have stR : D.still (tb row) = true := tb_still row
  have itr : iterV (tb row) = some (row.map .int) := rfl
  have e1 : evI (evF pg k) (.itv (.v 1)) [.v (tb t), .v (tb row), .o (nI [0]), .u, .u, .u] S = .ok (row.map .int, true) S := by
    rw [ei_itv, ee_v]; simp [rdE, bind_ok, of_some, itr, stR]
  have fit1 := idx_fit t row [0] hr (fun i hi => by rw [List.mem_singleton.mp hi, hl]; omega)
  have e2 : evE (evF pg k) (.lc (.ix (.v 0) (.v 5)) [5] (.n 5) (.itv (.v 2)) []) [.v (tb t), .v (tb row), sl, s3, .u, .u] S = .ok (.lst ((seen t row).map .int)) S := by
    have e := lc_map (cl := evF pg k) (S := S) (ε := [.v (tb t), .v (tb row), sl, s3, .u, .u]) (e := .ix (.v 0) (.v 5)) (own := [5]) (i := 5) (it := .itv (.v 2)) (S1 := S) (b := false) (xs := idx row [0]) (en := fun i => .int (i : Nat))
      (ε' := [.v (tb t), .v (tb row), .v (nI (idx row [0])), s3, .u, .u]) (fun i => .int (t.getD i 0)) (by rcases hs with rfl | rfl <;> simp! [nI]) (by simp) (by rcases hs with rfl | rfl <;> simp! []) (fun i mi => by
        have q := ix_tb (t := t) (i := i) (by have := fit1 i mi; omega)
        simp! [q])
    rw [e, seen, List.map_map]
    rfl
  have bs := seen_bits hb hr hl
  have ne := seen_ne t row
  rw [← due_fin bs ne]
  generalize seen t row = s at e2 bs ne
  have stS : D.stills (s.map .int) = true := still_ints (fun x => x) s
  have ix0 : opIx (.lst (s.map .int)) (.int 0) = some (.int (s.getD 0 0)) := by
    cases s with
    | nil => exact absurd rfl ne
    | cons a r => simp [opIx, keysOf, seqOf, atI, ixN]
  refine fn_ret ?_
  show evSs (evF pg k) b__law_forced [.v (tb t), .v (tb row), .u, .u, .u, .u] S = _
  unfold b__law_forced
  have e0 : evS (evF pg k) (.set (.n 2) (.lst [(.c (.int 0))])) [.v (tb t), .v (tb row), .u, .u, .u, .u] S = .ok (.nx [.v (tb t), .v (tb row), .o (nI [0]), .u, .u, .u]) S := by simp! [nI]
  have e3 : evS (evF pg k) (.set (.n 4) (.lc (.ix (.v 0) (.v 5)) [5] (.n 5) (.itv (.v 2)) [])) [.v (tb t), .v (tb row), sl, s3, .u, .u] S = .ok (.nx [.v (tb t), .v (tb row), sl, s3, .o (.lst (s.map .int)), .u]) S := by
    rw [sm_set, e2]
    simp [on_ok, setF, GG.fresh, D.still1, onO_some', fzN, stS]
  rw [st_cons, e0, seq_nx, st_cons, sm_for, e1, on_ok]
  dsimp only
  rw [if_pos rfl]
  unfold gBody gA gB at e
  rw [e, seq_nx, st_cons, e3, seq_nx, st_cons]
  have i0 := in_lst false s 0
  have i1 := in_lst false s 1
  by_cases h0 : 0 ∈ s <;> by_cases h1 : 1 ∈ s <;> simp! [i0, i1, h0, h1, ix0, due]
end LW
namespace LW
open PySem PySem.Spec PyProof.Rows L2 GG
/-- all rows of numbers up to top -/
def rws : Nat → Nat → List (List Int)
  | 0, _ => [[]]
  | n + 1, top => (rws n top).flatMap fun r => (List.range (top + 1)).map fun x => r ++ [((x : Nat) : Int)]
theorem e_rows (k : Nat) (S : Sto) (n top : Nat) (hn : n ≤ 4) (ht : top = 1 ∨ top = 2) : evF pg (k + 1) 29 [.int n, .int top] S = .ok (.lst ((rws n top).map tb)) S := by
  rcases ht with rfl | rfl <;> match n, hn with
    | 0, _ => kernel_rfl
    | 1, _ => kernel_rfl
    | 2, _ => kernel_rfl
    | 3, _ => kernel_rfl
    | 4, _ => kernel_rfl
theorem rws_len : ∀ (n top : Nat), ∀ r ∈ rws n top, r.length = n
  | 0, top, r, h => by simp [rws] at h; rw [h]; rfl
  | n + 1, top, r, h => by
    simp only [rws, List.mem_flatMap, List.mem_map] at h
    obtain ⟨r1, h1, x, _, rfl⟩ := h
    rw [List.length_append, rws_len n top r1 h1]; rfl
theorem rws_ok : ∀ (n top : Nat), top ≤ 2 → ∀ r ∈ rws n top, ∀ x ∈ r, 0 ≤ x ∧ x ≤ top
  | 0, top, _, r, h => by simp [rws] at h; rw [h]; intro x m; cases m
  | n + 1, top, ht, r, h => by
    simp only [rws, List.mem_flatMap, List.mem_map, List.mem_range] at h
    obtain ⟨r1, h1, x, hx, rfl⟩ := h
    intro y m
    rcases List.mem_append.mp m with m | m
    · exact rws_ok n top ht r1 h1 y m
    · rw [List.mem_singleton.mp m]; omega
theorem rws_ok3 {n top : Nat} (ht : top ≤ 2) {r : List Int} (h : r ∈ rws n top) : ok3 r := fun x m => by
  have := rws_ok n top ht r h x m
  omega
theorem rws_bits {n : Nat} {r : List Int} (h : r ∈ rws n 1) : bits r := fun x m => by
  have := rws_ok n 1 (by omega) r h x m
  omega
/-! ## tables that are drawn -/
def usual (way : Nat) (n : Nat) (r : Nat) : List Int := (rws n 1).map fun row =>
  (((if way = 0 then (if 0 ∈ row then 0 else 1) else if way = 1 then (if 1 ∈ row then 1 else 0) else row.sum) + (r : Int)) % 2)
def tA : Ex := .bi .tuple [(.lc (.bop .Mod (.bi .int [(.bop .Add (.bi .int [(.cmp .NotIn (.c (.int 0)) (.v 5))]) (.v 2))]) (.c (.int 2))) [5] (.n 5) (.itv (.v 3)) [])]
def tB : Ex := .bi .tuple [(.lc (.bop .Mod (.bi .int [(.bop .Add (.bi .int [(.cmp .In (.c (.int 1)) (.v 5))]) (.v 2))]) (.c (.int 2))) [5] (.n 5) (.itv (.v 3)) [])]
def tC : Ex := .bi .tuple [(.lc (.bop .Mod (.bi .int [(.bop .Add (.bi .sum [(.bi .list [(.v 5)])]) (.v 2))]) (.c (.int 2))) [5] (.n 5) (.itv (.v 3)) [])]
theorem tA_ev (cl : Nat → List D → Sto → Out D) (S : Sto) (n r : Nat) (s0 s1 s4 : Sl) (hn : n ≤ 4) (hr : r < 2) : evE cl tA [s0, s1, .v (.int r), .v (.lst ((rws n 1).map tb)), s4, .u] S = .ok (tb (usual 0 n r)) S := by
  match r, hr with
  | 0, _ => match n, hn with
    | 0, _ => kernel_rfl
    | 1, _ => kernel_rfl
    | 2, _ => kernel_rfl
    | 3, _ => kernel_rfl
    | 4, _ => kernel_rfl
  | 1, _ => match n, hn with
    | 0, _ => kernel_rfl
    | 1, _ => kernel_rfl
    | 2, _ => kernel_rfl
    | 3, _ => kernel_rfl
    | 4, _ => kernel_rfl
theorem tB_ev (cl : Nat → List D → Sto → Out D) (S : Sto) (n r : Nat) (s0 s1 s4 : Sl) (hn : n ≤ 4) (hr : r < 2) : evE cl tB [s0, s1, .v (.int r), .v (.lst ((rws n 1).map tb)), s4, .u] S = .ok (tb (usual 1 n r)) S := by
  match r, hr with
  | 0, _ => match n, hn with
    | 0, _ => kernel_rfl
    | 1, _ => kernel_rfl
    | 2, _ => kernel_rfl
    | 3, _ => kernel_rfl
    | 4, _ => kernel_rfl
  | 1, _ => match n, hn with
    | 0, _ => kernel_rfl
    | 1, _ => kernel_rfl
    | 2, _ => kernel_rfl
    | 3, _ => kernel_rfl
    | 4, _ => kernel_rfl
theorem tC_ev (cl : Nat → List D → Sto → Out D) (S : Sto) (n r : Nat) (s0 s1 s4 : Sl) (hn : n ≤ 4) (hr : r < 2) : evE cl tC [s0, s1, .v (.int r), .v (.lst ((rws n 1).map tb)), s4, .u] S = .ok (tb (usual 2 n r)) S := by
  match r, hr with
  | 0, _ => match n, hn with
    | 0, _ => kernel_rfl
    | 1, _ => kernel_rfl
    | 2, _ => kernel_rfl
    | 3, _ => kernel_rfl
    | 4, _ => kernel_rfl
  | 1, _ => match n, hn with
    | 0, _ => kernel_rfl
    | 1, _ => kernel_rfl
    | 2, _ => kernel_rfl
    | 3, _ => kernel_rfl
    | 4, _ => kernel_rfl
theorem usual_bits (w n r : Nat) : bits (usual w n r) := fun x hx => by
  obtain ⟨row, _, rfl⟩ := List.mem_map.mp hx
  omega
theorem rws_num {n : Nat} (hn : n ≤ 4) : (rws n 1).length = 2 ^ n := by
  match n, hn with
  | 0, _ => rfl
  | 1, _ => rfl
  | 2, _ => rfl
  | 3, _ => rfl
  | 4, _ => rfl
theorem usual_len {w n r : Nat} (hn : n ≤ 4) : (usual w n r).length = 2 ^ n := by rw [usual, List.length_map, rws_num hn]
theorem e_table (k : Nat) (S : Sto) (j n : Nat) (hj : j < S.length) (hn : n ≤ 4) :
    ∃ t S', evF pg (k + 2) 31 [.stm j, .int n] S = .ok (tb t) S' ∧ bits t ∧ t.length = 2 ^ n ∧ S'.length = S.length := by
  rw [u_fn (k + 1) (f := d__law_table) rfl rfl]
  obtain ⟨w, S1, ew, lw, l1⟩ := e_draw k j 6 S hj (by decide) (by decide)
  have er : evF pg (k + 1) 29 [.int n, .int 1] S = .ok (.lst ((rws n 1).map tb)) S := e_rows k S n 1 hn (.inl rfl)
  have st : ∀ xs : List (List Int), D.still (.lst (xs.map tb)) = false := fun xs => rfl
  suffices h : ∃ t S', evSs (evF pg (k + 1)) b__law_table [.v (.stm j), .v (.int n), .u, .u, .u, .u] S = .ok (.rt (tb t)) S' ∧ bits t ∧ t.length = 2 ^ n ∧ S'.length = S.length by
    obtain ⟨t, S', e, h⟩ := h
    exact ⟨t, S', fn_ret e, h⟩
  have e1 : evS (evF pg (k + 1)) (.par 3 4 (.call 29 [(.v 1), (.c (.int 1))]) (.call 25 [(.v 0), (.c (.int 6))])) [.v (.stm j), .v (.int n), .u, .u, .u, .u] S
      = .ok (.nx [.v (.stm j), .v (.int n), .u, .v (.lst ((rws n 1).map tb)), .v (.int w), .u]) S1 := by simp! [ew, er, st]
  unfold b__law_table
  by_cases hw : w = 0 ∨ n = 0
  · obtain ⟨ys, S2, e2, p, l2⟩ := lc_ex (cl := evF pg (k + 1)) (ε := [.v (.stm j), .v (.int n), .u, .v (.lst ((rws n 1).map tb)), .v (.int w), .u]) (S := S1) (e := .call 25 [(.v 0), (.c (.int 2))]) (own := [5]) (i := 5) (it := .itv (.v 3)) (S1 := S1) (b := false) (xs := rws n 1) (en := tb)
      (ε' := [.v (.stm j), .v (.int n), .u, .v (.lst ((rws n 1).map tb)), .v (.int w), .u]) (fun _ d => ∃ x, d = .int x ∧ (x = 0 ∨ x = 1)) (by simp! []) (by simp) (by simp! []) (fun x _ S hS => by
        obtain ⟨r, S3, e3, lr, l3⟩ := e_draw k j 2 S (by omega) (by decide) (by decide)
        exact ⟨.int r, S3, by simp! [e3], ⟨(r : Int), rfl, by omega⟩, by omega⟩)
    obtain ⟨t, rfl, hb, hl⟩ := p.pick
    refine ⟨t, S2, ?_, hb, by rw [hl, rws_num hn], by omega⟩
    rw [st_cons, e1, seq_nx, st_cons, sm_ife]
    have hc : ((evE (evF pg (k + 1)) (.or (.cmp .Eq (.v 4) (.c (.int 0))) [(.cmp .Eq (.v 1) (.c (.int 0)))]) [.v (.stm j), .v (.int n), .u, .v (.lst ((rws n 1).map tb)), .v (.int w), .u] S1).bind fun d S1 => Out.of S1 (tru d)) = .ok true S1 := by
      by_cases h0 : w = 0
      · simp! [h0]
      · have h1 : n = 0 := by omega
        simp! [h0, h1]
    rw [hc, on_ok, if_pos rfl]
    simp! [e2, tb]
  · obtain ⟨r, S2, e2, lr, l2⟩ := e_draw k j 2 S1 (by omega) (by decide) (by decide)
    have a := tA_ev (evF pg (k + 1)) S2 n r (.v (.stm j)) (.v (.int n)) (.v (.int w)) hn (by omega)
    have b := tB_ev (evF pg (k + 1)) S2 n r (.v (.stm j)) (.v (.int n)) (.v (.int w)) hn (by omega)
    have c := tC_ev (evF pg (k + 1)) S2 n r (.v (.stm j)) (.v (.int n)) (.v (.int w)) hn (by omega)
    unfold tA at a
    unfold tB at b
    unfold tC at c
    have h0 : w ≠ 0 := by omega
    have h1 : n ≠ 0 := by omega
    by_cases h3 : w < 3
    · refine ⟨_, S2, ?_, usual_bits 0 n r, usual_len hn, by omega⟩
      rw [st_cons, e1]
      have h3' : (w : Int) < 3 := by omega
      simp [seq_nx, st_cons, sm_ife, ee_or, eo_cons, eo_nil, ee_cmp, ee_v, ee_c, rdE, of_some, bind_ok, cmpF, opEq, opInt, tru, h0, h1, on_ok, st_nil, sm_set, ee_call, es_cons, es_nil, e2, setF, GG.fresh, onO_some', fzV, D.still, tg_n, h3, h3', sm_ret, a, seq_rt]
    · by_cases h5 : w < 5
      · refine ⟨_, S2, ?_, usual_bits 1 n r, usual_len hn, by omega⟩
        rw [st_cons, e1]
        have h3' : ¬ (w : Int) < 3 := by omega
        have h5' : (w : Int) < 5 := by omega
        simp [seq_nx, st_cons, sm_ife, ee_or, eo_cons, eo_nil, ee_cmp, ee_v, ee_c, rdE, of_some, bind_ok, cmpF, opEq, opInt, tru, h0, h1, on_ok, st_nil, sm_set, ee_call, es_cons, es_nil, e2, setF, GG.fresh, onO_some', fzV, D.still, tg_n, h3, h3', h5', sm_ret, b, seq_rt]
      · refine ⟨_, S2, ?_, usual_bits 2 n r, usual_len hn, by omega⟩
        rw [st_cons, e1]
        have h3' : ¬ (w : Int) < 3 := by omega
        have h5' : ¬ (w : Int) < 5 := by omega
        simp [seq_nx, st_cons, sm_ife, ee_or, eo_cons, eo_nil, ee_cmp, ee_v, ee_c, rdE, of_some, bind_ok, cmpF, opEq, opInt, tru, h0, h1, on_ok, st_nil, sm_set, ee_call, es_cons, es_nil, e2, setF, GG.fresh, onO_some', fzV, D.still, tg_n, h3, h3', h5', sm_ret, c, seq_rt]
end LW
namespace LW
open PySem PySem.Spec PyProof.Rows L2 GG
/-! names -/
def goodCp (c : Nat) : Bool := decide (c ∈ ("abcdefghijklmnopqrstuvwxyz" : Str).cps.toList)
def goodN (z : Str) : Bool := (decide (1 ≤ z.length) && decide (z.length ≤ 8)) && z.cps.toList.all goodCp
theorem in_str (c : Nat) (j : Str) : opIn false (.str ⟨#[c]⟩) (.str j) = some (.bl (decide (c ∈ j.cps.toList))) := by
  simp [opIn]
theorem e_is_name (n : Nat) (z : Str) (S : Sto) (hz : z.length ≤ sizeLine) : evF pg (n + 1) 2 [.str z] S = .ok (.bl (goodN z)) S := by
  (rw [u_fn n (f := d_is_name) rfl rfl]; unfold runF)
  have hl : z.cps.toList.length = z.length := by simp [Str.length]
  have e := lc_map (cl := evF pg n) (ε := [.v (D.str z), .u]) (S := S) (e := .cmp .In (.v 1) (.g "LETTERS" (.str "abcdefghijklmnopqrstuvwxyz"))) (own := [1]) (i := 1) (it := .itv (.v 0)) (S1 := S) (b := true) (xs := z.cps.toList) (en := fun c => .str ⟨#[c]⟩)
    (ε' := [.v (.str z), .u]) (fun c => .bl (goodCp c)) (by rw [ei_itv, ee_v]; simp [rdE, of_some, bind_ok, iterV, hz, D.still]) (by simp) (by dsimp! []) (fun c _ => by
      have q := in_str c ("abcdefghijklmnopqrstuvwxyz" : Str)
      simp only [ee_cmp, ee_v, ee_g, rdE, List.set, List.getElem?_cons_succ, List.getElem?_cons_zero, onO_some', of_some, bind_ok, cmpF]
      rw [q]
      rfl)
  have ln := len_str hz
  by_cases h1 : 1 ≤ z.length
  · by_cases h2 : z.length ≤ 8
    · have h1' : (1 : Int) ≤ z.length := by omega
      have h2' : (z.length : Int) ≤ 8 := by omega
      dsimp! [d_is_name, b_is_name, ln, h1, h1', h2, h2', e, goodN]
    · have h1' : (1 : Int) ≤ z.length := by omega
      have h2' : ¬ (z.length : Int) ≤ 8 := by omega
      dsimp! [d_is_name, b_is_name, ln, h1, h1', h2, h2', goodN]
  · have h1' : ¬ (1 : Int) ≤ z.length := by omega
    dsimp! [d_is_name, b_is_name, ln, h1, h1', goodN]
abbrev stT (zs : List Str) : D := .tup (zs.map .str)
def asc : List Str → Bool
  | [] => true
  | x :: r => (match r with
    | [] => true
    | y :: _ => strLt x y) && asc r
theorem asc_zip : ∀ zs : List Str, (zs.zip zs.tail).all (fun p => strLt p.1 p.2) = asc zs
  | [] => rfl
  | [x] => rfl
  | x :: y :: r => by
    have := asc_zip (y :: r)
    simp only [List.tail_cons] at this ⊢
    rw [List.zip_cons_cons, List.all_cons, this]
    rfl
theorem zipUp_map {α : Type} (f g : α → D) : ∀ xs ys : List α, zipUp (xs.map f) (ys.map g) = (xs.zip ys).map fun p => .tup [f p.1, g p.2]
  | [], _ => by simp [zipUp]
  | _ :: _, [] => by simp [zipUp]
  | x :: xs, y :: ys => by simp [zipUp, zipUp_map f g xs ys]
theorem still_strs : ∀ zs : List Str, D.stills (zs.map .str) = true
  | [] => rfl
  | z :: r => by simp [D.stills, D.still, still_strs r]
theorem cut1 {α : Type} (f : α → D) (xs : List α) : GG.cutD (xs.map f) (some 1) none = xs.tail.map f := by
  have := cut_drop (xs.map f) 1
  rw [show ((1 : Nat) : Int) = 1 from rfl] at this
  rw [this, ← List.map_drop]
  simp
theorem lt_str (a b : Str) : cmpF .Lt (.str a) (.str b) = some (.bl (strLt a b)) := rfl
theorem e_are_names (n : Nat) (zs : List Str) (S : Sto) (hz : ∀ z ∈ zs, z.length ≤ 100) : evF pg (n + 2) 8 [stT zs] S = .ok (.bl (zs.all goodN && asc zs)) S := by
  (rw [u_fn (n + 1) (f := d_are_names) rfl rfl]; unfold runF)
  have st := still_strs zs
  have s100 : (100 : Nat) ≤ sizeLine := by decide
  have e1 := lc_map (cl := evF pg (n + 1)) (ε := [.v (stT zs), .u, .u, .u]) (S := S) (e := .call 2 [(.v 3)]) (own := [3]) (i := 3) (it := .itv (.v 0)) (S1 := S) (b := true) (xs := zs) (en := .str)
    (ε' := [.v (stT zs), .u, .u, .u]) (fun z => .bl (goodN z)) (by dsimp! [st]) (by simp) (by dsimp! []) (fun z m => by
      have q := e_is_name n z S (Nat.le_trans (hz z m) s100)
      dsimp! [q])
  have e2 := lc_mapT (cl := evF pg (n + 1)) (ε := [.v (stT zs), .u, .u, .u]) (S := S) (e := .cmp .Lt (.v 1) (.v 2)) (own := [1, 2]) (tg := .t [(.n 1), (.n 2)]) (it := .zip (.v 0) (.sl (.v 0) [(.c (.int 1))] [])) (S1 := S) (b := true) (xs := zs.zip zs.tail)
    (en := fun p => .tup [.str p.1, .str p.2]) (ε' := [.v (stT zs), .u, .u, .u]) (fun p => [.v (stT zs), .v (.str p.1), .v (.str p.2), .u]) (fun p => .bl (strLt p.1 p.2)) (by
      have q : opSl (stT zs) (some 1) none = some (.tup (zs.tail.map .str)) := by simp only [opSl, stT, cut1]
      have z := zipUp_map D.str D.str zs zs.tail
      have st2 := still_strs zs.tail
      simp only [List.map_tail] at z st2 q
      dsimp! [q, z, st, st2]) (by dsimp! []) (fun p _ => by dsimp! []) (fun p _ => by dsimp! [strLt])
  have a2 := asc_zip zs
  cases h : zs.all goodN
  · dsimp! [d_are_names, b_are_names, e1, h]
  · dsimp! [d_are_names, b_are_names, ↓e1, ↓e2, h, a2]
theorem e_is_known (n : Nat) (kvs : List (Key × D)) (z : Str) (S : Sto) : evF pg (n + 1) 10 [.dct kvs, .str z] S = .ok (.bl (hasK kvs (.inr z))) S := by
  (rw [u_fn n (f := d_is_known) rfl rfl]; unfold runF)
  have q : opIn false (.str z) (.dct kvs) = some (.bl (hasK kvs (.inr z))) := by simp [opIn, seqOf, keysOf, GG.keyOf]
  dsimp! [d_is_known, b_is_known, q]
end LW
namespace LW
open PySem PySem.Spec PyProof.Rows L2 GG
/-! circuits -/
structure Gt where
  name : Str
  src : List Str
  tab : List Int
structure Ct where
  ins : List Str
  gs : List Gt
abbrev encG (g : Gt) : D := .tup [.str g.name, stT g.src, tb g.tab]
abbrev encC (c : Ct) : D := .tup [stT c.ins, .tup (c.gs.map encG)]
def gN (c : Ct) : List Str := c.gs.map (·.name)
def names (c : Ct) : List Str := c.ins ++ gN c
structure GOk (ns : List Str) (g : Gt) : Prop where
  src : ∀ s ∈ g.src, s ∈ ns
  sz : g.src.length ≤ 4
  len : g.tab.length = 2 ^ g.src.length
  bit : bits g.tab
structure COk (c : Ct) : Prop where
  n1 : c.ins.all goodN = true
  a1 : asc c.ins = true
  n2 : (gN c).all goodN = true
  a2 : asc (gN c) = true
  dj : ∀ s ∈ gN c, s ∉ c.ins
  li : c.ins.length ≤ 12
  lg : c.gs.length ≤ 200
  g : ∀ g ∈ c.gs, GOk (names c) g
theorem goodN_len {z : Str} (h : goodN z = true) : z.length ≤ 100 := by
  simp only [goodN, Bool.and_eq_true, decide_eq_true_eq] at h
  omega
theorem asc_all : ∀ {l : List Str} {x : Str}, asc (x :: l) = true → ∀ y ∈ l, strLt x y = true
  | [], x, _, y, m => absurd m List.not_mem_nil
  | z :: r, x, h, y, m => by
    simp only [asc, Bool.and_eq_true] at h
    rcases List.mem_cons.mp m with rfl | m
    · exact h.1
    · have h2 : asc (z :: r) = true := by simp only [asc, Bool.and_eq_true]; exact h.2
      have q := asc_all h2 y m
      simp only [strLt, decide_eq_true_eq] at q ⊢
      have h1 := h.1
      simp only [strLt, decide_eq_true_eq] at h1
      exact List.lt_trans h1 q
theorem asc_nodup : ∀ {l : List Str}, asc l = true → l.Nodup
  | [], _ => .nil
  | x :: r, h => by
    have h2 : asc r = true := by simp only [asc, Bool.and_eq_true] at h; exact h.2
    refine List.nodup_cons.mpr ⟨fun m => ?_, asc_nodup h2⟩
    have := asc_all h x m
    simp only [strLt, decide_eq_true_eq] at this
    exact List.lt_irrefl _ this
theorem COk.nd {c : Ct} (h : COk c) : (names c).Nodup := List.nodup_append.mpr ⟨asc_nodup h.a1, asc_nodup h.a2, fun a ha b hb e => h.dj b hb (by rw [← e]; exact ha)⟩
/-- the known names -/
def knw (ns : List Str) : List (Key × D) := ns.map fun s => (.inr s, .bl true)
theorem hasK_knw (ns : List Str) (s : Str) : hasK (knw ns) (.inr s) = decide (s ∈ ns) := by
  unfold knw hasK
  rw [List.any_map, Bool.eq_iff_iff]
  simp
theorem okI_src (zs : List Str) : okI (stT zs) = true := by simp [okI, okT]
theorem e_is_gate_of (n : Nat) (ns : List Str) (g : Gt) (S : Sto) (h : GOk ns g) : evF pg (n + 6) 9 [.dct (knw ns), encG g] S = .ok (.bl true) S := by
  (rw [u_fn (n + 5) (f := d_is_gate_of) rfl rfl]; unfold runF)
  have hi : ∀ (i : Nat) (d : D), [D.str g.name, stT g.src, tb g.tab][i]? = some d → opIx (encG g) (.int (i : Nat)) = some d := fun i d e => by
    have hl : i < 3 := (List.getElem?_eq_some_iff.mp e).1
    match i, hl, e with
    | 0, _, e => cases e; rfl
    | 1, _, e => cases e; rfl
    | 2, _, e => cases e; rfl
  have i1 : opIx (encG g) (.int 1) = some (stT g.src) := hi 1 _ rfl
  have i2 : opIx (encG g) (.int 2) = some (tb g.tab) := hi 2 _ rfl
  have t1 := fun S => e_is_table (n + 1) (tb g.tab) S (okI_tb g.tab)
  have t2 := isTab_tb h.bit h.sz h.len
  have w := fun S => e_wires_in (n + 4) S g.src.length g.tab h.sz h.len
  have e := fun S => lc_map (cl := evF pg (n + 5)) (ε := [.v (.dct (knw ns)), .v (encG g), .u]) (S := S) (e := .call 10 [(.v 0), (.v 2)]) (own := [2]) (i := 2) (it := .itv (.ix (.v 1) (.c (.int 1)))) (S1 := S) (b := true) (xs := g.src) (en := .str)
    (ε' := [.v (.dct (knw ns)), .v (encG g), .u]) (fun s => .bl (decide (s ∈ ns))) (by
      have st := still_strs g.src
      dsimp! [i1, st]) (by simp) (by dsimp! []) (fun s _ => by
      have q := fun S => e_is_known (n + 4) (knw ns) s S
      have q2 := hasK_knw ns s
      dsimp! [q, q2])
  have hs := h.src
  dsimp! [d_is_gate_of, b_is_gate_of, i1, i2, t1, t2, w, ↓e]
  exact fun x hx => hs x hx
end LW
namespace LW
open PySem PySem.Spec PyProof.Rows L2 GG
/-! a circuit is one -/
theorem still_G (g : Gt) : (encG g).still = true := by
  have a := still_strs g.src
  have b : D.stills (g.tab.map D.int) = true := by
    generalize g.tab = l
    induction l with
    | nil => rfl
    | cons x r ih => simp [D.stills, D.still, ih]
  simp [encG, D.still, D.stills, a, b]
theorem still_Gs : ∀ gs : List Gt, D.stills (gs.map encG) = true
  | [] => rfl
  | g :: r => by
    have := still_G g
    simp [D.stills, this, still_Gs r]
theorem still_C (c : Ct) : (encC c).still = true := by
  have a := still_strs c.ins
  have b := still_Gs c.gs
  simp [encC, D.still, D.stills, a, b]
theorem ix2_0 (a b : D) : opIx (.tup [a, b]) (.int 0) = some a := rfl
theorem ix2_1 (a b : D) : opIx (.tup [a, b]) (.int 1) = some b := rfl
theorem ix3_0 (a b c : D) : opIx (.tup [a, b, c]) (.int 0) = some a := rfl
theorem ix3_1 (a b c : D) : opIx (.tup [a, b, c]) (.int 1) = some b := rfl
theorem ix3_2 (a b c : D) : opIx (.tup [a, b, c]) (.int 2) = some c := rfl
theorem in_strs (neg : Bool) (z : Str) (zs : List Str) : opIn neg (.str z) (stT zs) = some (.bl (if neg then !decide (z ∈ zs) else decide (z ∈ zs))) := by
  have h : ((zs.map D.str).any fun y => eqFD y (.str z)) = decide (z ∈ zs) := by
    rw [Bool.eq_iff_iff]
    simp [eqFD]
  have f : (zs.map D.str).all flatD = true := by simp [flatD]
  have e : opIn neg (.str z) (stT zs) = if flatD (.str z) = true ∧ (zs.map D.str).all flatD = true then some (.bl (if neg then !((zs.map D.str).any fun y => eqFD y (.str z)) else (zs.map D.str).any fun y => eqFD y (.str z))) else none := rfl
  rw [e, if_pos ⟨rfl, f⟩, h]
theorem e_is_circuit (n : Nat) (c : Ct) (S : Sto) (h : COk c) : evF pg (n + 7) 11 [encC c] S = .ok (.bl true) S := by
  (rw [u_fn (n + 6) (f := d_is_circuit) rfl rfl]; unfold runF)
  have gl : ∀ zs : List Str, zs.all goodN = true → ∀ z ∈ zs, z.length ≤ 100 := fun zs a z m => goodN_len (List.all_eq_true.mp a z m)
  have r1 := fun S => e_are_names (n + 4) c.ins S (gl _ h.n1)
  have r2 := fun S => e_are_names (n + 4) (gN c) S (gl _ h.n2)
  have sI := still_strs c.ins
  have sN := still_strs (gN c)
  have sG := still_Gs c.gs
  have z1 : ¬ ((c.ins.length : Int) > 12) := by have := h.li; omega
  have z2 : ¬ ((c.gs.length : Int) > 200) := by have := h.lg; omega
  have e1 := fun S => lc_map (cl := evF pg (n + 6)) (ε := [.v (encC c), .u, .u, .v (stT c.ins), .v (.tup (c.gs.map encG)), .u, .u]) (S := S) (e := .and (.isi (.v 6) .tuple) [(.cmp .Eq (.bi .len [(.v 6)]) (.c (.int 3)))]) (own := [6]) (i := 6) (it := .itv (.v 4)) (S1 := S) (b := true) (xs := c.gs) (en := encG)
    (ε' := [.v (encC c), .u, .u, .v (stT c.ins), .v (.tup (c.gs.map encG)), .u, .u]) (fun _ => .bl true) (by dsimp! [sG]) (by simp) (by dsimp! []) (fun g _ => by dsimp! [])
  have e2 := fun S => lc_map (cl := evF pg (n + 6)) (ε := [.v (encC c), .u, .u, .v (stT c.ins), .v (.tup (c.gs.map encG)), .u, .u]) (S := S) (e := .ix (.v 6) (.c (.int 0))) (own := [6]) (i := 6) (it := .itv (.v 4)) (S1 := S) (b := true) (xs := c.gs) (en := encG)
    (ε' := [.v (encC c), .u, .u, .v (stT c.ins), .v (.tup (c.gs.map encG)), .u, .u]) (fun g => .str g.name) (by dsimp! [sG]) (by simp) (by dsimp! []) (fun g _ => by dsimp! [ix3_0])
  have e3 := fun S => lc_map (cl := evF pg (n + 6)) (ε := [.v (encC c), .v (stT (gN c)), .u, .v (stT c.ins), .v (.tup (c.gs.map encG)), .u, .u]) (S := S) (e := .cmp .In (.v 5) (.v 3)) (own := [5]) (i := 5) (it := .itv (.v 1)) (S1 := S) (b := true) (xs := gN c) (en := .str)
    (ε' := [.v (encC c), .v (stT (gN c)), .u, .v (stT c.ins), .v (.tup (c.gs.map encG)), .u, .u]) (fun z => .bl (decide (z ∈ c.ins))) (by dsimp! [sN]) (by simp) (by dsimp! []) (fun z _ => by
      have q := in_strs false z c.ins
      dsimp! [q])
  have sz : c.ins.length + (gN c).length ≤ 16777216 := by
    have := h.li
    have := h.lg
    simp only [List.length_map, gN]
    omega
  have e4 := fun S => dc_map (cl := evF pg (n + 6)) (ε := [.v (encC c), .v (stT (gN c)), .u, .v (stT c.ins), .v (.tup (c.gs.map encG)), .u, .u]) (S := S) (kx := .v 5) (vx := .c (.bl true)) (own := [5]) (tg := .n 5) (it := .itv (.cat true true (.v 3) (.v 1))) (S1 := S) (b := true) (xs := names c) (en := .str)
    (ε' := [.v (encC c), .v (stT (gN c)), .u, .v (stT c.ins), .v (.tup (c.gs.map encG)), .u, .u]) (fun z => [.v (encC c), .v (stT (gN c)), .u, .v (stT c.ins), .v (.tup (c.gs.map encG)), .v (.str z), .u]) .inr (fun _ => .bl true) (by
      have q : D.stills (c.ins.map D.str ++ (gN c).map D.str) = true := by rw [← List.map_append]; exact still_strs _
      dsimp! [ee_cat, itemsF, sz, q, names]) (by dsimp! []) (fun z _ => by dsimp! []) (fun z _ => by dsimp! [kD]) (fun z _ => by dsimp! []) (by
      rw [List.nodup_iff_pairwise_ne, List.pairwise_map]
      exact (List.nodup_iff_pairwise_ne.mp h.nd).imp fun a e => a (by injection e))
  have e5 := fun S => lc_map (cl := evF pg (n + 6)) (ε := [.v (encC c), .v (stT (gN c)), .o (.dct (knw (names c))), .v (stT c.ins), .v (.tup (c.gs.map encG)), .u, .u]) (S := S) (e := .call 9 [(.v 2), (.v 6)]) (own := [6]) (i := 6) (it := .itv (.v 4)) (S1 := S) (b := true) (xs := c.gs) (en := encG)
    (ε' := [.v (encC c), .v (stT (gN c)), .v (.dct (knw (names c))), .v (stT c.ins), .v (.tup (c.gs.map encG)), .u, .u]) (fun _ => .bl true) (by dsimp! [sG]) (by simp) (by dsimp! []) (fun g m => by
      have q := fun S => e_is_gate_of n (names c) g S (h.g g m)
      dsimp! [q])
  have a1 : (c.ins.all goodN && asc c.ins) = true := by rw [h.n1, h.a1]; rfl
  have a2 : ((gN c).all goodN && asc (gN c)) = true := by rw [h.n2, h.a2]; rfl
  have a3 : (gN c).any (fun z => decide (z ∈ c.ins)) = false := by
    rw [Bool.eq_false_iff]
    intro q
    obtain ⟨z, m, q⟩ := List.any_eq_true.mp q
    exact h.dj z m (of_decide_eq_true q)
  rw [a1] at r1
  rw [a2] at r2
  have gn : c.gs.map (fun g => D.str g.name) = (gN c).map D.str := by simp [gN]
  simp only [gn] at e2
  have kn : (names c).map (fun x => ((Sum.inr x : Key), D.bl true)) = knw (names c) := rfl
  simp only [kn] at e4
  dsimp! [d_is_circuit, b_is_circuit, ix2_0, ix2_1, r1, z1, z2, ↓e1, ↓e2, ↓e3, ↓e4, ↓e5, r2, a3]
end LW
namespace LW
open PySem PySem.Spec PyProof.Rows L2 GG
/-! settings, gates by name, rows -/
theorem getM {α : Type} (kf : α → Str) (f : α → D) (z : Str) : ∀ xs : List α, getK (xs.map fun x => ((.inr (kf x) : Key), f x)) (.inr z) = (xs.find? fun x => decide (kf x = z)).map f
  | [] => rfl
  | x :: r => by
    have ih := getM kf f z r
    unfold getK at ih ⊢
    rw [List.map_cons, List.find?_cons, List.find?_cons]
    by_cases h : kf x = z
    · simp [h]
    · have : ¬ (Sum.inr (kf x) : Key) = .inr z := fun e => h (by injection e)
      simp only [this, h, decide_false]
      exact ih
theorem hasM {α : Type} (kf : α → Str) (f : α → D) (z : Str) (xs : List α) : hasK (xs.map fun x => ((.inr (kf x) : Key), f x)) (.inr z) = decide (z ∈ xs.map kf) := by
  unfold hasK
  rw [List.any_map, Bool.eq_iff_iff]
  simp
theorem find_mem {α : Type} (kf : α → Str) {z : Str} {xs : List α} (h : z ∈ xs.map kf) : ∃ x ∈ xs, kf x = z ∧ (xs.find? fun x => decide (kf x = z)) = some x := by
  cases e : xs.find? fun x => decide (kf x = z) with
  | none =>
    obtain ⟨x, m, rfl⟩ := List.mem_map.mp h
    have q := List.find?_eq_none.mp e x m
    exact absurd (by simp) q
  | some x =>
    have q := List.find?_some e
    exact ⟨x, List.mem_of_find?_eq_some e, by simpa using q, rfl⟩
theorem find_none {α : Type} (kf : α → Str) {z : Str} {xs : List α} (h : z ∉ xs.map kf) : (xs.find? fun x => decide (kf x = z)) = none := by
  rw [List.find?_eq_none]
  intro x m e
  exact h (List.mem_map.mpr ⟨x, m, of_decide_eq_true e⟩)
theorem find_uni {α : Type} (kf : α → Str) {x : α} {xs : List α} (nd : (xs.map kf).Nodup) (m : x ∈ xs) : (xs.find? fun y => decide (kf y = kf x)) = some x := by
  induction xs with
  | nil => exact absurd m List.not_mem_nil
  | cons y r ih =>
    rw [List.map_cons] at nd
    obtain ⟨n1, n2⟩ := List.nodup_cons.mp nd
    rw [List.find?_cons]
    rcases List.mem_cons.mp m with rfl | m
    · simp
    · have : ¬ kf y = kf x := fun e => n1 (by rw [e]; exact List.mem_map_of_mem m)
      simp only [this, decide_false]
      exact ih n2 m
abbrev encP (ps : List (Str × Int)) : D := .dct (ps.map fun p => (.inr p.1, .int p.2))
def v3 (ps : List (Str × Int)) : Prop := ∀ p ∈ ps, p.2 = 0 ∨ p.2 = 1 ∨ p.2 = 2
structure POk (c : Ct) (ps : List (Str × Int)) : Prop where
  ks : ps.map (·.1) = c.ins
  v3 : v3 ps
abbrev gT (g : Gt) : D := .tup [stT g.src, tb g.tab]
abbrev encGs (gs : List Gt) : D := .dct (gs.map fun g => (.inr g.name, gT g))
def val (ps told : List (Str × Int)) (z : Str) : Int := match ps.find? fun p => decide (p.1 = z) with
  | some p => p.2
  | none => match told.find? fun p => decide (p.1 = z) with
    | some p => p.2
    | none => 2
theorem inP (neg : Bool) (ps : List (Str × Int)) (z : Str) : opIn neg (.str z) (encP ps) = some (.bl (if neg then !decide (z ∈ ps.map (·.1)) else decide (z ∈ ps.map (·.1)))) := by
  have e : opIn neg (.str z) (encP ps) = some (.bl (if neg then !hasK (ps.map fun p => ((.inr p.1 : Key), D.int p.2)) (.inr z) else hasK (ps.map fun p => ((.inr p.1 : Key), D.int p.2)) (.inr z))) := rfl
  rw [e, hasM (fun p : Str × Int => p.1) (fun p => D.int p.2)]
theorem inGs (neg : Bool) (gs : List Gt) (z : Str) : opIn neg (.str z) (encGs gs) = some (.bl (if neg then !decide (z ∈ gs.map (·.name)) else decide (z ∈ gs.map (·.name)))) := by
  have e : opIn neg (.str z) (encGs gs) = some (.bl (if neg then !hasK (gs.map fun g => ((.inr g.name : Key), gT g)) (.inr z) else hasK (gs.map fun g => ((.inr g.name : Key), gT g)) (.inr z))) := rfl
  rw [e, hasM (fun g : Gt => g.name) gT]
theorem ixP (ps : List (Str × Int)) (z : Str) : opIx (encP ps) (.str z) = (ps.find? fun p => decide (p.1 = z)).map fun p => D.int p.2 := getM (fun p : Str × Int => p.1) (fun p => D.int p.2) z ps
theorem ixGs (gs : List Gt) (z : Str) : opIx (encGs gs) (.str z) = (gs.find? fun g => decide (g.name = z)).map gT := getM (fun g : Gt => g.name) gT z gs
theorem getP (ps : List (Str × Int)) (z : Str) : getK (ps.map fun p => ((.inr p.1 : Key), D.int p.2)) (.inr z) = (ps.find? fun p => decide (p.1 = z)).map fun p => D.int p.2 := getM (fun p : Str × Int => p.1) (fun p => D.int p.2) z ps
theorem e_row_in (n : Nat) (src : List Str) (ps told : List (Str × Int)) (S : Sto) : evF pg (n + 1) 17 [stT src, encP ps, encP told] S = .ok (tb (src.map (val ps told))) S := by
  (rw [u_fn n (f := d_row_in) rfl rfl]; unfold runF)
  have st := still_strs src
  have e := fun S => lc_map (cl := evF pg n) (ε := [.v (stT src), .v (encP ps), .v (encP told), .u]) (S := S) (e := .ife (.cmp .In (.v 3) (.v 1)) (.ix (.v 1) (.v 3)) (.dget (.v 2) (.v 3) (.g "UNKNOWN" (.int 2)))) (own := [3]) (i := 3) (it := .itv (.v 0)) (S1 := S) (b := true) (xs := src) (en := .str)
    (ε' := [.v (stT src), .v (encP ps), .v (encP told), .u]) (fun z => .int (val ps told z)) (by dsimp! [st]) (by simp) (by dsimp! []) (fun z _ => by
      have q1 := inP false ps z
      have q2 := ixP ps z
      have q3 := getP told z
      by_cases h : z ∈ ps.map (·.1)
      · obtain ⟨p, _, _, hp⟩ := find_mem (fun p : Str × Int => p.1) h
        rw [hp] at q2
        simp only [h, decide_true] at q1
        dsimp! [q1, q2, val, hp]
      · have hp := find_none (fun p : Str × Int => p.1) h
        simp only [h, decide_false] at q1
        cases h2 : told.find? fun p => decide (p.1 = z)
        · rw [h2] at q3
          dsimp! [q1, q3, val, hp, h2]
        · rw [h2] at q3
          dsimp! [q1, q3, val, hp, h2])
  have m : (src.map fun z => D.int (val ps told z)) = (src.map (val ps told)).map .int := by simp
  dsimp! [d_row_in, b_row_in, ↓e]
theorem e_gates_in (n : Nat) (c : Ct) (S : Sto) (nd : (gN c).Nodup) : evF pg (n + 1) 13 [encC c] S = .ok (encGs c.gs) S := by
  (rw [u_fn n (f := d_gates_in) rfl rfl]; unfold runF)
  have sG := still_Gs c.gs
  have e := fun S => dc_map (cl := evF pg n) (ε := [.v (encC c), .u, .u, .u]) (S := S) (kx := .v 1) (vx := .tup [(.v 2), (.v 3)]) (own := [1, 2, 3]) (tg := .t [(.n 1), (.n 2), (.n 3)]) (it := .itv (.ix (.v 0) (.c (.int 1)))) (S1 := S) (b := true) (xs := c.gs) (en := encG)
    (ε' := [.v (encC c), .u, .u, .u]) (fun g => [.v (encC c), .v (.str g.name), .v (stT g.src), .v (tb g.tab)]) (fun g => .inr g.name) gT (by dsimp! [ix2_1, sG]) (by dsimp! []) (fun g _ => by dsimp! []) (fun g _ => by dsimp! [kD]) (fun g _ => by dsimp! []) (by
      have : c.gs.map (fun g => (Sum.inr g.name : Key)) = (gN c).map .inr := by simp [gN]
      rw [this, List.nodup_iff_pairwise_ne, List.pairwise_map]
      exact (List.nodup_iff_pairwise_ne.mp nd).imp fun a e => a (by injection e))
  dsimp! [d_gates_in, b_gates_in, ↓e]
theorem e_require_circuit (n : Nat) (c : Ct) (S : Sto) (h : COk c) : evF pg (n + 8) 12 [encC c] S = .ok .non S := by
  (rw [u_fn (n + 7) (f := d_require_circuit) rfl rfl]; unfold runF)
  have q := fun S => e_is_circuit n c S h
  dsimp! [d_require_circuit, b_require_circuit, q]
theorem e_require_gate (n : Nat) (c : Ct) (z : Str) (S : Sto) (nd : (gN c).Nodup) (h : z ∈ gN c) : evF pg (n + 2) 16 [encC c, .str z] S = .ok .non S := by
  (rw [u_fn (n + 1) (f := d_require_gate) rfl rfl]; unfold runF)
  have q := fun S => e_gates_in n c S nd
  have q2 := fun S => e_is_known n (c.gs.map fun g => ((.inr g.name : Key), gT g)) z S
  rw [hasM (fun g : Gt => g.name) gT] at q2
  unfold gN at h
  simp only [h, decide_true] at q2
  dsimp! [d_require_gate, b_require_gate, q, q2]
end LW
namespace LW
open PySem PySem.Spec PyProof.Rows L2 GG
/-! partial settings; wires of a line -/
theorem isVal_of {i : Int} (h : i = 0 ∨ i = 1 ∨ i = 2) : isVal 0 2 (.int i) = true := by rcases h with rfl | rfl | rfl <;> rfl
theorem e_is_partial_of (n : Nat) (c : Ct) (ps : List (Str × Int)) (S : Sto) (h : POk c ps) : evF pg (n + 4) 14 [encC c, encP ps] S = .ok (.bl true) S := by
  (rw [u_fn (n + 3) (f := d_is_partial_of) rfl rfl]; unfold runF)
  have st := still_strs c.ins
  have ln : ps.length = c.ins.length := by rw [← h.ks, List.length_map]
  have e := fun S => lc_map (cl := evF pg (n + 3)) (ε := [.v (encC c), .v (encP ps), .u]) (S := S) (e := .and (.cmp .In (.v 2) (.v 1)) [(.call 4 [(.ix (.v 1) (.v 2))])]) (own := [2]) (i := 2) (it := .itv (.ix (.v 0) (.c (.int 0)))) (S1 := S) (b := true) (xs := c.ins) (en := .str)
    (ε' := [.v (encC c), .v (encP ps), .u]) (fun z => .bl true) (by dsimp! [ix2_0, st]) (by simp) (by dsimp! []) (fun z m => by
      have q1 := inP false ps z
      have q2 := ixP ps z
      have hz : z ∈ ps.map (·.1) := by rw [h.ks]; exact m
      obtain ⟨p, pm, _, hp⟩ := find_mem (fun p : Str × Int => p.1) hz
      have q3 := fun S => e_is_value n (.int p.2) S rfl
      rw [isVal_of (h.v3 p pm)] at q3
      rw [hp] at q2
      simp only [hz, decide_true] at q1
      dsimp! [q1, q2, q3])
  have lE : lenOf (encP ps) = some (ps.length : Int) := by simp [lenOf]
  dsimp! [d_is_partial_of, b_is_partial_of, ix2_0, lE, ln, ↓e]
theorem e_require_partial (n : Nat) (c : Ct) (ps : List (Str × Int)) (S : Sto) (h : POk c ps) : evF pg (n + 5) 15 [encC c, encP ps] S = .ok .non S := by
  (rw [u_fn (n + 4) (f := d_require_partial) rfl rfl]; unfold runF)
  have q := fun S => e_is_partial_of n c ps S h
  dsimp! [d_require_partial, b_require_partial, q]
theorem e_require_all (n : Nat) (c : Ct) (ps : List (Str × Int)) (z : Str) (S : Sto) (h : COk c) (hp : POk c ps) (hz : z ∈ gN c) : evF pg (n + 9) 22 [encC c, encP ps, .str z] S = .ok .non S := by
  (rw [u_fn (n + 8) (f := d_require_all) rfl rfl]; unfold runF)
  have q1 := fun S => e_require_circuit n c S h
  have q2 := fun S => e_require_partial (n + 3) c ps S hp
  have q3 := fun S => e_require_gate (n + 6) c z S (asc_nodup h.a2) hz
  dsimp! [d_require_all, b_require_all, q1, q2, q3]
/-- items of a tuple, one below the next -/
def ltI : List Int → Bool
  | [] => true
  | x :: r => (match r with
    | [] => true
    | y :: _ => decide (x < y)) && ltI r
theorem ltI_zip : ∀ zs : List Int, (zs.zip zs.tail).all (fun p => decide (p.1 < p.2)) = ltI zs
  | [] => rfl
  | [x] => rfl
  | x :: y :: r => by
    have := ltI_zip (y :: r)
    simp only [List.tail_cons] at this ⊢
    rw [List.zip_cons_cons, List.all_cons, this]
    rfl
def intsI (ds : List D) : List Int := ds.map fun d => match d with
  | .int i => i
  | _ => 0
theorem intsI_of {lo hi : Int} : ∀ {ds : List D}, ds.all (isVal lo hi) = true → ds = (intsI ds).map .int
  | [], _ => rfl
  | d :: r, h => by
    simp only [List.all_cons, Bool.and_eq_true] at h
    have := intsI_of h.2
    cases d with
    | int i => exact congrArg (_ :: ·) this
    | _ => simp [isVal] at h
def wiresOk (m : Nat) : D → Bool
  | .tup ds => ds.all (isVal 0 ((m : Int) - 1)) && ltI (intsI ds)
  | _ => false
theorem e_are_wires (n : Nat) (src : List Str) (d : D) (S : Sto) (h : okI d = true) : evF pg (n + 3) 18 [stT src, d] S = .ok (.bl (wiresOk src.length d)) S := by
  (rw [u_fn (n + 2) (f := d_are_wires) rfl rfl]; unfold runF)
  cases d with
  | tup ds =>
    have e1 := fun S => lc_map (cl := evF pg (n + 2)) (ε := [.v (stT src), .v (.tup ds), .u, .u, .u]) (S := S) (e := .call 1 [(.v 4), (.c (.int 0)), (.bop .Sub (.bi .len [(.v 0)]) (.c (.int 1)))]) (own := [4]) (i := 4) (it := .itv (.v 1)) (S1 := S) (b := D.stills ds) (xs := ds) (en := id)
      (ε' := [.v (stT src), .v (.tup ds), .u, .u, .u]) (fun d => .bl (isVal 0 ((src.length : Int) - 1) d)) (by dsimp! []) (by simp) (by dsimp! []) (fun d m => by
        have q := fun S => e_is_between n d 0 ((src.length : Int) - 1) S (by simp only [okI, List.all_eq_true] at h; exact h d m)
        dsimp! [q])
    cases h1 : ds.all (isVal 0 ((src.length : Int) - 1))
    · dsimp! [d_are_wires, b_are_wires, ↓e1, h1, wiresOk]
    · have hd := intsI_of h1
      have e2 := fun S => lc_mapT (cl := evF pg (n + 2)) (ε := [.v (stT src), .v (.tup ds), .u, .u, .u]) (S := S) (e := .cmp .Lt (.v 2) (.v 3)) (own := [2, 3]) (tg := .t [(.n 2), (.n 3)]) (it := .zip (.v 1) (.sl (.v 1) [(.c (.int 1))] [])) (S1 := S) (b := true) (xs := (intsI ds).zip (intsI ds).tail)
        (en := fun p => .tup [.int p.1, .int p.2]) (ε' := [.v (stT src), .v (.tup ds), .u, .u, .u]) (fun p => [.v (stT src), .v (.tup ds), .v (.int p.1), .v (.int p.2), .u]) (fun p => .bl (decide (p.1 < p.2))) (by
          have q : opSl (.tup ds) (some 1) none = some (.tup ((intsI ds).tail.map .int)) := by
            rw [hd]
            simp only [opSl, cut1]
            rw [← hd]
          have z := zipUp_map D.int D.int (intsI ds) (intsI ds).tail
          have st := still_ints (fun x => x) (intsI ds)
          have st2 := still_ints (fun x => x) (intsI ds).tail
          rw [← hd] at z
          have st' : D.stills ds = true := by rw [hd]; exact st
          simp only [List.map_tail] at z st2 q
          dsimp! [q, z, st', st2]) (by dsimp! []) (fun p _ => by dsimp! []) (fun p _ => by dsimp! [])
      have a2 := ltI_zip (intsI ds)
      dsimp! [d_are_wires, b_are_wires, ↓e1, ↓e2, h1, wiresOk, a2]
  | wdt _ => simp [okI] at h
  | _ => dsimp! [d_are_wires, b_are_wires, wiresOk]
end LW
namespace LW
open PySem PySem.Spec PyProof.Rows L2 GG
/-! a line -/
def okL : D → Bool
  | .tup [a, b, w] => okT a && (okT b && okI w)
  | d => okT d
def kept (zs r : List Int) : List Int := r.zipIdx.map fun p => if (p.2 : Int) ∈ zs then p.1 else 2
def opn (r : List Int) (z : Int) : Bool := decide (r.getD z.toNat 0 = 2)
def open_ (zs r : List Int) : Bool := zs.any (opn r)
def wI : D → List Int
  | .tup ds => intsI ds
  | _ => []
def lineOf (g : Gt) (ps told : List (Str × Int)) (b : Int) (w : D) : Bool :=
  wiresOk g.src.length w && (!open_ (wI w) (g.src.map (val ps told)) && decide (fin (seen g.tab (kept (wI w) (g.src.map (val ps told)))) = b))
def lineOk (gs : List Gt) (ps told : List (Str × Int)) : D → Bool
  | .tup [.str z, .int b, w] => match gs.find? fun g => decide (g.name = z) with
    | some g => !decide (z ∈ told.map (·.1)) && (isVal 0 1 (.int b) && lineOf g ps told b w)
    | none => false
  | _ => false
theorem pairUp_tb : ∀ (r : List Int) (n : Nat), pairUp n (r.map .int) = (r.zipIdx n).map fun p => .tup [.int (p.2 : Nat), .int p.1]
  | [], _ => rfl
  | x :: r, n => by
    rw [List.map_cons, pairUp, pairUp_tb r (n + 1), List.zipIdx_cons, List.map_cons]
theorem in_ints (neg : Bool) (z : Int) (zs : List Int) : opIn neg (.int z) (tb zs) = some (.bl (if neg then !decide (z ∈ zs) else decide (z ∈ zs))) := by
  have h : ((zs.map D.int).any fun y => eqFD y (.int z)) = decide (z ∈ zs) := by
    rw [Bool.eq_iff_iff]
    simp [eqFD]
  have f : (zs.map D.int).all flatD = true := by simp [flatD]
  have e : opIn neg (.int z) (tb zs) = if flatD (.int z) = true ∧ (zs.map D.int).all flatD = true then some (.bl (if neg then !((zs.map D.int).any fun y => eqFD y (.int z)) else (zs.map D.int).any fun y => eqFD y (.int z))) else none := rfl
  rw [e, if_pos ⟨rfl, f⟩, h]
theorem wires_ints {m : Nat} {w : D} (h : wiresOk m w = true) : w = tb (wI w) ∧ ∀ z ∈ wI w, 0 ≤ z ∧ z < m := by
  cases w with
  | tup ds =>
    simp only [wiresOk, Bool.and_eq_true] at h
    have q := intsI_of h.1
    refine ⟨congrArg D.tup q, fun z hz => ?_⟩
    have hz' : D.int z ∈ ds := by rw [q]; exact List.mem_map_of_mem hz
    have := List.all_eq_true.mp h.1 _ hz'
    simp only [isVal, Bool.and_eq_true, decide_eq_true_eq] at this
    omega
  | _ => simp [wiresOk] at h
theorem val_v3 {ps told : List (Str × Int)} (h : v3 ps) (h2 : v3 told) (z : Str) : val ps told z = 0 ∨ val ps told z = 1 ∨ val ps told z = 2 := by
  unfold val
  split
  · rename_i p e
    exact h p (List.mem_of_find?_eq_some e)
  · split
    · rename_i p e
      exact h2 p (List.mem_of_find?_eq_some e)
    · exact .inr (.inr rfl)
theorem kept_ok {zs r : List Int} (h : ok3 r) : ok3 (kept zs r) := fun x hx => by
  obtain ⟨p, m, rfl⟩ := List.mem_map.mp hx
  split
  · exact h _ (by
      have := List.mem_zipIdx m
      rw [this.2.2]
      exact List.getElem_mem _)
  · exact .inr (.inr rfl)
theorem kept_len (zs r : List Int) : (kept zs r).length = r.length := by simp [kept]
theorem e_is_line_after (n : Nat) (gs : List Gt) (ps told : List (Str × Int)) (d : D) (S : Sto) (nd : (gs.map (·.name)).Nodup) (hg : ∀ g ∈ gs, g.src.length ≤ 4 ∧ g.tab.length = 2 ^ g.src.length) (h3 : v3 ps) (t3 : v3 told) (h : okL d = true) :
    evF pg (n + 4) 19 [encGs gs, encP ps, encP told, d] S = .ok (.bl (lineOk gs ps told d)) S := by
  (rw [u_fn (n + 3) (f := d_is_line_after) rfl rfl]; unfold runF)
  cases d with
  | tup ds =>
    match ds, h with
    | [a, b, w], h =>
      simp only [okL, Bool.and_eq_true] at h
      obtain ⟨ha, hb, hw⟩ := h
      cases a with
      | wdt _ => simp [okT] at ha
      | str z =>
        have q1 := inGs true gs z
        have q2 := inP false told z
        have q3 := fun S => e_is_bit n b S hb
        have q4 := ixGs gs z
        cases hf : gs.find? fun g => decide (g.name = z) with
        | none =>
          have nz : ¬ z ∈ gs.map (·.name) := fun m => by
            obtain ⟨g, _, _, e⟩ := find_mem (fun g : Gt => g.name) m
            rw [e] at hf
            cases hf
          simp only [nz, decide_false] at q1
          have k : lineOk gs ps told (.tup [.str z, b, w]) = false := by
            cases b with
            | int i => simp only [lineOk, hf]
            | _ => rfl
          rw [k]
          dsimp! [d_is_line_after, b_is_line_after, q1]
        | some g =>
          have mz : z ∈ gs.map (·.name) := by
            have e := List.find?_some hf
            have e : g.name = z := by simpa using e
            rw [← e]
            exact List.mem_map_of_mem (List.mem_of_find?_eq_some hf)
          simp only [mz, decide_true] at q1
          by_cases ht : z ∈ told.map (·.1)
          · simp only [ht, decide_true] at q2
            have k : lineOk gs ps told (.tup [.str z, b, w]) = false := by
              cases b with
              | int i => simp only [lineOk, hf, ht, decide_true, Bool.not_true, Bool.false_and]
              | _ => rfl
            rw [k]
            dsimp! [d_is_line_after, b_is_line_after, q1, q2]
          · simp only [ht, decide_false] at q2
            cases hv : isVal 0 1 b
            · have k : lineOk gs ps told (.tup [.str z, b, w]) = false := by
                cases b with
                | int i => simp only [lineOk, hf, hv, Bool.false_and, Bool.and_false]
                | _ => rfl
              rw [hv] at q3
              rw [k]
              dsimp! [d_is_line_after, b_is_line_after, q1, q2, q3]
            · rw [hv] at q3
              cases b with
              | int i =>
                have k : lineOk gs ps told (.tup [.str z, .int i, w]) = lineOf g ps told i w := by
                  simp only [lineOk, hf, ht, decide_false, hv, Bool.not_false, Bool.true_and]
                rw [k]
                rw [hf] at q4
                have q4' : opIx (encGs gs) (.str z) = some (.tup [stT g.src, tb g.tab]) := q4
                have q5 := fun S => e_are_wires n g.src w S hw
                cases hw1 : wiresOk g.src.length w
                · rw [hw1] at q5
                  have k2 : lineOf g ps told i w = false := by simp only [lineOf, hw1, Bool.false_and]
                  rw [k2]
                  dsimp! [d_is_line_after, b_is_line_after, q1, q2, q3, q4', q5]
                · rw [hw1] at q5
                  obtain ⟨e, hz⟩ := wires_ints hw1
                  have hl := List.length_map (f := val ps told) (as := g.src)
                  have ho : ok3 (g.src.map (val ps told)) := fun x hx => by
                    obtain ⟨y, _, rfl⟩ := List.mem_map.mp hx
                    exact val_v3 h3 t3 y
                  have q6 := fun S => e_row_in (n + 2) g.src ps told S
                  have k2 : lineOf g ps told i w = (!open_ (wI w) (g.src.map (val ps told)) && decide (fin (seen g.tab (kept (wI w) (g.src.map (val ps told)))) = i)) := by simp only [lineOf, hw1, Bool.true_and]
                  rw [k2]
                  rw [← hl] at hz
                  have gm := hg g (List.mem_of_find?_eq_some hf)
                  rw [← hl] at gm
                  generalize g.src.map (val ps told) = r at hl ho q6 gm hz
                  generalize wI w = zs at e hz
                  subst e
                  have stz := tb_still zs
                  have stz' : D.stills (zs.map .int) = true := stz
                  have str' : D.stills (r.map .int) = true := tb_still r
                  have e1 := fun S => lc_map (cl := evF pg (n + 3)) (ε := [.v (encGs gs), .v (encP ps), .v (encP told), .v (.tup [.str z, .int i, tb zs]), .v (tb r), .v (.str z), .v (.int i), .v (tb zs), .v (stT g.src), .v (tb g.tab), .u, .u]) (S := S) (e := .cmp .Eq (.ix (.v 4) (.v 10)) (.g "UNKNOWN" (.int 2))) (own := [10]) (i := 10) (it := .itv (.v 7)) (S1 := S) (b := true) (xs := zs) (en := .int)
                    (ε' := [.v (encGs gs), .v (encP ps), .v (encP told), .v (.tup [.str z, .int i, tb zs]), .v (tb r), .v (.str z), .v (.int i), .v (tb zs), .v (stT g.src), .v (tb g.tab), .u, .u]) (fun z => .bl (opn r z)) (by dsimp! [stz']) (by simp) (by dsimp! []) (fun y m => by
                      obtain ⟨y0, y1⟩ := hz y m
                      have q := ix_tb (t := r) (i := y.toNat) (by omega)
                      rw [Int.toNat_of_nonneg y0] at q
                      dsimp! [q, opn])
                  have e2 := fun S => lc_mapT (cl := evF pg (n + 3)) (ε := [.v (encGs gs), .v (encP ps), .v (encP told), .v (.tup [.str z, .int i, tb zs]), .v (tb r), .v (.str z), .v (.int i), .v (tb zs), .v (stT g.src), .v (tb g.tab), .u, .u]) (S := S) (e := .ife (.cmp .In (.v 10) (.v 7)) (.v 11) (.g "UNKNOWN" (.int 2))) (own := [10, 11]) (tg := .t [(.n 10), (.n 11)]) (it := .enum (.v 4)) (S1 := S) (b := true) (xs := r.zipIdx) (en := fun p => .tup [.int (p.2 : Nat), .int p.1])
                    (ε' := [.v (encGs gs), .v (encP ps), .v (encP told), .v (.tup [.str z, .int i, tb zs]), .v (tb r), .v (.str z), .v (.int i), .v (tb zs), .v (stT g.src), .v (tb g.tab), .u, .u]) (fun p => [.v (encGs gs), .v (encP ps), .v (encP told), .v (.tup [.str z, .int i, tb zs]), .v (tb r), .v (.str z), .v (.int i), .v (tb zs), .v (stT g.src), .v (tb g.tab), .v (.int (p.2 : Nat)), .v (.int p.1)])
                    (fun p => .int (if (p.2 : Int) ∈ zs then p.1 else 2)) (by
                      have pu := pairUp_tb r 0
                      dsimp! [pu, str']) (by dsimp! []) (fun p _ => by dsimp! []) (fun p _ => by
                      have q := in_ints false (p.2 : Nat) zs
                      by_cases hp : ((p.2 : Nat) : Int) ∈ zs
                      · simp only [hp, decide_true] at q
                        dsimp! [q, hp]
                      · simp only [hp, decide_false] at q
                        dsimp! [q, hp])
                  have m : (r.zipIdx.map fun p => D.int (if ((p.2 : Nat) : Int) ∈ zs then p.1 else 2)) = (kept zs r).map .int := by simp [kept]
                  simp only [m] at e2
                  have q7 := fun S => e_forced_in (n + 2) g.tab (kept zs r) S (kept_ok ho) (by rw [kept_len]; exact gm.2) (by rw [kept_len]; exact gm.1)
                  have oa : zs.any (fun z => opn r z) = open_ zs r := rfl
                  cases hO : open_ zs r
                  · rw [hO] at oa
                    dsimp! [d_is_line_after, b_is_line_after, q1, q2, q3, q4', q5, q6, ↓e1, ↓e2, ↓oa, q7]
                  · rw [hO] at oa
                    dsimp! [d_is_line_after, b_is_line_after, q1, q2, q3, q4', q5, q6, ↓e1, ↓oa]
              | _ => simp [isVal] at hv
      | _ => dsimp! [d_is_line_after, b_is_line_after, lineOk]
    | [], _ => dsimp! [d_is_line_after, b_is_line_after, lineOk]
    | [_], _ => dsimp! [d_is_line_after, b_is_line_after, lineOk]
    | [_, _], _ => dsimp! [d_is_line_after, b_is_line_after, lineOk]
    | a :: b :: c :: e :: r, _ =>
      have k : ¬ ((r.length : Int) + 1 + 1 + 1 + 1 = 3) := by omega
      dsimp! [d_is_line_after, b_is_line_after, lineOk, k]
  | wdt _ => simp [okL, okT] at h
  | _ => dsimp! [d_is_line_after, b_is_line_after, lineOk]
end LW
namespace LW
open PySem PySem.Spec PyProof.Rows L2 GG
/-! lines, one after another -/
def lk : D → Str × Int
  | .tup [.str z, .int b, _] => (z, b)
  | _ => (⟨#[]⟩, 0)
def runL (gs : List Gt) (ps : List (Str × Int)) : List D → List (Str × Int) → Option (List (Str × Int))
  | [], t => some t
  | d :: r, t => if lineOk gs ps t d = true then runL gs ps r (t ++ [lk d]) else none
theorem lineOk_form {gs : List Gt} {ps told : List (Str × Int)} {d : D} (h : lineOk gs ps told d = true) : ∃ z b w, d = .tup [.str z, .int b, w] ∧ z ∉ told.map (·.1) ∧ (b = 0 ∨ b = 1) ∧ z ∈ gs.map (·.name) := by
  unfold lineOk at h
  split at h
  · rename_i z b w
    split at h
    · rename_i g e
      simp only [Bool.and_eq_true, Bool.not_eq_true', decide_eq_false_iff_not] at h
      refine ⟨z, b, w, rfl, h.1, ?_, ?_⟩
      · have := h.2.1
        simp only [isVal, Bool.and_eq_true, decide_eq_true_eq] at this
        omega
      · have q := List.find?_some e
        have q : g.name = z := by simpa using q
        rw [← q]
        exact List.mem_map_of_mem (List.mem_of_find?_eq_some e)
    · cases h
  · cases h
theorem put_told (told : List (Str × Int)) (z : Str) (b : Int) (h : z ∉ told.map (·.1)) : putD (told.map fun p => ((.inr p.1 : Key), D.int p.2)) (.inr z) (.int b) = (told ++ [(z, b)]).map fun p => ((.inr p.1 : Key), D.int p.2) := by
  have q := hasM (fun p : Str × Int => p.1) (fun p => D.int p.2) z told
  simp only [h, decide_false] at q
  unfold putD
  rw [if_neg (by rw [q]; decide)]
  simp
theorem v3_add {told : List (Str × Int)} (h : v3 told) {z : Str} {b : Int} (hb : b = 0 ∨ b = 1) : v3 (told ++ [(z, b)]) := fun p m => by
  rcases List.mem_append.mp m with m | m
  · exact h p m
  · rw [List.mem_singleton.mp m]
    rcases hb with rfl | rfl
    · exact .inl rfl
    · exact .inr (.inl rfl)
def blB : List Sm := [.ife (.not (.call 19 [(.v 4), (.v 1), (.v 5), (.v 3)])) [.ret (.c .non)] [], .put 5 (.ix (.v 3) (.c (.int 0))) (.ix (.v 3) (.c (.int 1)))]
theorem fl_cons {tgt : D → GG.Env → Option GG.Env} {body : GG.Env → Sto → OutS} {d : D} {r : List D} {ε ε1 : GG.Env} {S : Sto} (h : tgt d ε = some ε1) : forLoop tgt body (d :: r) ε S = (match body ε1 S with
      | .ok (.nx ε2) S2 => forLoop tgt body r ε2 S2
      | .ok (.ct ε2) S2 => forLoop tgt body r ε2 S2
      | .ok (.bk ε2) S2 => .ok (.nx ε2) S2
      | .ok (.rt v) S2 => .ok (.rt v) S2
      | .exc c v ε2 S2 => .exc c v ε2 S2
      | .bad => .bad) := by
  conv => lhs; unfold forLoop
  rw [h]
  all_goals rfl
theorem bl_loop (n : Nat) (gs : List Gt) (ps : List (Str × Int)) (C V : D) (S : Sto) (nd : (gs.map (·.name)).Nodup) (hg : ∀ g ∈ gs, g.src.length ≤ 4 ∧ g.tab.length = 2 ^ g.src.length) (h3 : v3 ps) : ∀ (ds : List D) (told : List (Str × Int)) (sl : Sl), (∀ d ∈ ds, okL d = true) → v3 told → told.length + ds.length ≤ 10000 →
    ∃ sl', forLoop (tgS (.n 3)) (evSs (evF pg (n + 4)) blB) ds [.v C, .v (encP ps), .v V, sl, .v (encGs gs), .o (encP told)] S = match runL gs ps ds told with
      | some t => .ok (.nx [.v C, .v (encP ps), .v V, sl', .v (encGs gs), .o (encP t)]) S
      | none => .ok (.rt .non) S
  | [], told, sl, _, _, _ => ⟨sl, rfl⟩
  | d :: r, told, sl, ho, ht, hn => by
    have hn' : told.length < 16777216 := by omega
    have q1 := fun S => e_is_line_after n gs ps told d S nd hg h3 ht (ho d List.mem_cons_self)
    cases hl : lineOk gs ps told d
    · rw [hl] at q1
      refine ⟨sl, ?_⟩
      have e2 : evSs (evF pg (n + 4)) blB [.v C, .v (encP ps), .v V, .v d, .v (encGs gs), .o (encP told)] S = .ok (.rt .non) S := by
        dsimp! [blB, q1]
      rw [fl_cons (ε1 := [.v C, .v (encP ps), .v V, .v d, .v (encGs gs), .o (encP told)]) (by dsimp! []), e2]
      simp only [runL, hl]
      rfl
    · rw [hl] at q1
      obtain ⟨z, b, w, rfl, hz, hb, _⟩ := lineOk_form hl
      obtain ⟨sl', ih⟩ := bl_loop n gs ps C V S nd hg h3 r (told ++ [(z, b)]) (.v (.tup [.str z, .int b, w])) (fun d m => ho d (List.mem_cons_of_mem _ m)) (v3_add ht hb) (by simp only [List.length_append, List.length_cons, List.length_nil] at hn ⊢; omega)
      refine ⟨sl', ?_⟩
      have pt := put_told told z b hz
      have e2 : evSs (evF pg (n + 4)) blB [.v C, .v (encP ps), .v V, .v (.tup [.str z, .int b, w]), .v (encGs gs), .o (encP told)] S = .ok (.nx [.v C, .v (encP ps), .v V, .v (.tup [.str z, .int b, w]), .v (encGs gs), .o (encP (told ++ [(z, b)]))]) S := by
        dsimp! [blB, q1, ix3_0, ix3_1, pt, hn']
      rw [fl_cons (ε1 := [.v C, .v (encP ps), .v V, .v (.tup [.str z, .int b, w]), .v (encGs gs), .o (encP told)]) (by dsimp! []), e2]
      simp only [runL, hl, if_true, lk]
      exact ih
theorem runL_eq {gs : List Gt} {ps : List (Str × Int)} : ∀ {ds : List D} {told t : List (Str × Int)}, runL gs ps ds told = some t → t = told ++ ds.map lk
  | [], told, t, h => by cases h; simp
  | d :: r, told, t, h => by
    unfold runL at h
    split at h
    · rw [runL_eq h]; simp
    · cases h
/-- a derivation, its last gate aside -/
def derR (gs : List Gt) (ps : List (Str × Int)) : D → Option (List (Str × Int))
  | .tup [] => none
  | .tup (d :: r) => runL gs ps (d :: r) []
  | _ => none
def okLs : D → Bool
  | .tup ds => decide (ds.length ≤ 10000) && ds.all okL
  | d => okT d
theorem eq_nil (neg : Bool) (ds : List D) : opEq neg (.tup ds) (.tup []) = some (.bl (if neg then !ds.isEmpty else ds.isEmpty)) := by
  have e : opEq neg (.tup ds) (.tup []) = (match py (.tup ds), py (.tup []) with
    | some a, some b => if SeqAt.shaped a = true ∧ SeqAt.shaped b = true then some (.bl (if neg then !PyData.eqv a b else PyData.eqv a b)) else emT neg (.tup ds) (.tup [])
    | _, _ => emT neg (.tup ds) (.tup [])) := rfl
  have t : emT neg (.tup ds) (.tup []) = some (.bl (if neg then !ds.isEmpty else ds.isEmpty)) := rfl
  rw [e, t]
  have p0 : py (.tup []) = some (.tuple []) := rfl
  rw [p0]
  have hp : py (.tup ds) = (pys ds).map .tuple := by simp only [py]
  rw [hp]
  cases h : pys ds with
  | none => rfl
  | some qs =>
    show (if _ then _ else _) = _
    have : PyData.eqv (.tuple qs) (.tuple []) = ds.isEmpty := by
      cases ds with
      | nil => cases h; rfl
      | cons d r =>
        cases qs with
        | nil =>
          simp only [pys] at h
          split at h <;> cases h
        | cons q qs => simp [PyData.eqv, PyData.eqvAll]
    rw [this]
    split <;> rfl
theorem e_bits_of_lines (n : Nat) (c : Ct) (ps : List (Str × Int)) (d : D) (S : Sto) (h : COk c) (h3 : v3 ps) (ho : okLs d = true) :
    evF pg (n + 5) 20 [encC c, encP ps, d] S = .ok (match derR c.gs ps d with | some t => encP t | none => .non) S := by
  (rw [u_fn (n + 4) (f := d_bits_of_lines) rfl rfl]; unfold runF)
  cases d with
  | wdt _ => simp [okLs, okT] at ho
  | tup ds =>
    cases ds with
    | nil =>
      have q := eq_nil false []
      dsimp! [d_bits_of_lines, b_bits_of_lines, q, derR]
    | cons d r =>
      have q := eq_nil false (d :: r)
      simp only [List.isEmpty_cons] at q
      have q2 := fun S => e_gates_in (n + 3) c S (asc_nodup h.a2)
      have hg : ∀ g ∈ c.gs, g.src.length ≤ 4 ∧ g.tab.length = 2 ^ g.src.length := fun g m => ⟨(h.g g m).sz, (h.g g m).len⟩
      obtain ⟨sl, k⟩ := bl_loop n c.gs ps (encC c) (.tup (d :: r)) S (asc_nodup h.a2) hg h3 (d :: r) [] .u (fun d m => by
        simp only [okLs, Bool.and_eq_true] at ho
        exact List.all_eq_true.mp ho.2 d m) (fun p m => absurd m List.not_mem_nil) (by
        simp only [okLs, Bool.and_eq_true, decide_eq_true_eq] at ho
        simpa using ho.1)
      unfold blB at k
      have e0 : encP [] = .dct (mergeD [] []) := rfl
      rw [e0] at k
      have dr : derR c.gs ps (.tup (d :: r)) = runL c.gs ps (d :: r) [] := rfl
      rw [dr]
      cases hr : runL c.gs ps (d :: r) [] with
      | none =>
        rw [hr] at k
        simp only at k
        dsimp! [d_bits_of_lines, b_bits_of_lines, ↓q, q2, ↓k]
      | some t =>
        rw [hr] at k
        simp only at k
        dsimp! [d_bits_of_lines, b_bits_of_lines, ↓q, q2, ↓k]
  | _ => dsimp! [d_bits_of_lines, b_bits_of_lines, derR]
end LW
namespace LW
open PySem PySem.Spec PyProof.Rows L2 GG
/-! derivations -/
theorem runL_forms {gs : List Gt} {ps : List (Str × Int)} : ∀ {ds : List D} {told t : List (Str × Int)}, runL gs ps ds told = some t → ∀ d ∈ ds, ∃ z b w, d = .tup [.str z, .int b, w]
  | [], told, t, _ => fun d m => absurd m List.not_mem_nil
  | d :: r, told, t, h => by
    unfold runL at h
    split at h
    · rename_i e
      intro x m
      rcases List.mem_cons.mp m with rfl | m
      · obtain ⟨z, b, w, e, _⟩ := lineOk_form e
        exact ⟨z, b, w, e⟩
      · exact runL_forms h x m
    · cases h
theorem ix_last (d : D) (r : List D) : opIx (.tup (d :: r)) (.int (-1)) = some ((d :: r).getLast (by simp)) := by
  have e : opIx (.tup (d :: r)) (.int (-1)) = atI (d :: r) (-1) := rfl
  have h : ixN (d :: r).length (-1) = some r.length := by
    unfold ixN
    rw [if_neg (by decide), if_pos (by simp only [List.length_cons]; omega)]
    congr 1
    simp only [List.length_cons]
    omega
  rw [e]
  unfold atI
  rw [h]
  show (d :: r)[r.length]? = _
  rw [List.getLast_eq_getElem, List.getElem?_eq_getElem (by simp)]
  rfl
def derOk (gs : List Gt) (ps : List (Str × Int)) (name : Str) (d : D) : Bool := match derR gs ps d with
  | some t => match t.getLast? with
    | some p => decide (p.1 = name)
    | none => false
  | none => false
theorem derR_last {gs : List Gt} {ps : List (Str × Int)} {v : D} {t : List (Str × Int)} (h : derR gs ps v = some t) : ∃ ds z b w, v = .tup ds ∧ opIx (.tup ds) (.int (-1)) = some (.tup [.str z, .int b, w]) ∧ ∀ name, derOk gs ps name v = decide (z = name) := by
  have h0 := h
  unfold derR at h
  split at h
  · cases h
  · rename_i d r
    obtain ⟨z, b, w, e⟩ := runL_forms h ((d :: r).getLast (by simp)) (List.getLast_mem _)
    refine ⟨d :: r, z, b, w, rfl, by rw [ix_last, e], fun name => ?_⟩
    have q := runL_eq h
    unfold derOk
    rw [h0]
    simp only
    rw [q, List.nil_append, List.getLast?_map, List.getLast?_eq_some_getLast (by simp), e]
    rfl
  · cases h
theorem e_is_derivation_in (n : Nat) (c : Ct) (ps : List (Str × Int)) (name : Str) (d : D) (S : Sto) (h : COk c) (h3 : v3 ps) (ho : okLs d = true) :
    evF pg (n + 6) 21 [encC c, encP ps, .str name, d] S = .ok (.bl (derOk c.gs ps name d)) S := by
  (rw [u_fn (n + 5) (f := d_is_derivation_in) rfl rfl]; unfold runF)
  have q := fun S => e_bits_of_lines n c ps d S h h3 ho
  cases hr : derR c.gs ps d with
  | none =>
    rw [hr] at q
    simp only at q
    have k : derOk c.gs ps name d = false := by simp only [derOk, hr]
    rw [k]
    dsimp! [d_is_derivation_in, b_is_derivation_in, q]
  | some t =>
    rw [hr] at q
    simp only at q
    obtain ⟨ds, z, b, w, rfl, q1, q2⟩ := derR_last hr
    rw [q2]
    dsimp! [d_is_derivation_in, b_is_derivation_in, q, q1, ix3_0]
theorem e_is_derivation (n : Nat) (c : Ct) (ps : List (Str × Int)) (name : Str) (d : D) (S : Sto) (h : COk c) (hp : POk c ps) (hz : name ∈ gN c) (ho : okLs d = true) :
    evF pg (n + 10) 23 [encC c, encP ps, .str name, d] S = .ok (.bl (derOk c.gs ps name d)) S := by
  (rw [u_fn (n + 9) (f := d_is_derivation) rfl rfl]; unfold runF)
  have q1 := fun S => e_require_all n c ps name S h hp hz
  have q2 := fun S => e_is_derivation_in (n + 3) c ps name d S h hp.v3 ho
  dsimp! [d_is_derivation, b_is_derivation, q1, q2]
end LW
namespace LW
open PySem PySem.Spec PyProof.Rows L2 GG
/-! the law's own rows, gates, bits -/
theorem e_law_row_of (n : Nat) (g : Gt) (ps told : List (Str × Int)) (S : Sto) : evF pg (n + 1) 34 [encG g, encP ps, encP told] S = .ok (tb (g.src.map (val ps told))) S := by
  (rw [u_fn n (f := d__law_row_of) rfl rfl]; unfold runF)
  have st := still_strs g.src
  have e := fun S => lc_map (cl := evF pg n) (ε := [.v (encG g), .v (encP ps), .v (encP told), .u]) (S := S) (e := .ife (.cmp .In (.v 3) (.v 1)) (.ix (.v 1) (.v 3)) (.dget (.v 2) (.v 3) (.c (.int 2)))) (own := [3]) (i := 3) (it := .itv (.ix (.v 0) (.c (.int 1)))) (S1 := S) (b := true) (xs := g.src) (en := .str)
    (ε' := [.v (encG g), .v (encP ps), .v (encP told), .u]) (fun z => .int (val ps told z)) (by dsimp! [ix3_1, st]) (by simp) (by dsimp! []) (fun z _ => by
      have q1 := inP false ps z
      have q2 := ixP ps z
      have q3 := getP told z
      by_cases h : z ∈ ps.map (·.1)
      · obtain ⟨p, _, _, hp⟩ := find_mem (fun p : Str × Int => p.1) h
        rw [hp] at q2
        simp only [h, decide_true] at q1
        dsimp! [q1, q2, val, hp]
      · have hp := find_none (fun p : Str × Int => p.1) h
        simp only [h, decide_false] at q1
        cases h2 : told.find? fun p => decide (p.1 = z)
        · rw [h2] at q3
          dsimp! [q1, q3, val, hp, h2]
        · rw [h2] at q3
          dsimp! [q1, q3, val, hp, h2])
  dsimp! [d__law_row_of, b__law_row_of, ↓e]
theorem ixl_0 (x : D) (r : List D) : opIx (.lst (x :: r)) (.int 0) = some x := by
  have h : (0 : Int) < ((r.length + 1 : Nat) : Int) := by omega
  simp [opIx, keysOf, seqOf, atI, ixN, h]
theorem find_filter {α : Type} (p : α → Bool) {g : α} : ∀ {xs : List α}, xs.find? p = some g → ∃ r, xs.filter p = g :: r
  | [], h => by cases h
  | x :: xs, h => by
    rw [List.find?_cons] at h
    cases hp : p x
    · rw [hp] at h
      rw [List.filter_cons, hp]
      exact find_filter p h
    · rw [hp] at h
      cases h
      exact ⟨xs.filter p, by rw [List.filter_cons, hp]; rfl⟩
theorem e_law_gate (n : Nat) (c : Ct) (z : Str) (g : Gt) (S : Sto) (h : (c.gs.find? fun g => decide (g.name = z)) = some g) : evF pg (n + 1) 35 [encC c, .str z] S = .ok (encG g) S := by
  (rw [u_fn n (f := d__law_gate) rfl rfl]; unfold runF)
  have sG := still_Gs c.gs
  have e := fun S => lc_filT (cl := evF pg n) (ε := [.v (encC c), .v (.str z), .u]) (S := S) (e := .v 2) (c := .cmp .Eq (.ix (.v 2) (.c (.int 0))) (.v 1)) (own := [2]) (tg := .n 2) (it := .itv (.ix (.v 0) (.c (.int 1)))) (S1 := S) (b := true) (xs := c.gs) (en := encG)
    (ε' := [.v (encC c), .v (.str z), .u]) (fun g => [.v (encC c), .v (.str z), .v (encG g)]) (fun g => decide (g.name = z)) encG (by dsimp! [ix2_1, sG]) (by dsimp! []) (fun g _ => by dsimp! []) (fun g _ => by dsimp! [ix3_0]) (fun g _ _ => by dsimp! [])
  obtain ⟨r, hr⟩ := find_filter (fun g : Gt => decide (g.name = z)) h
  simp only [hr, List.map_cons] at e
  have q := ixl_0 (encG g) (r.map encG)
  dsimp! [d__law_gate, b__law_gate, ↓e, q]
theorem e_law_is_bit (n : Nat) (d : D) (S : Sto) (h : okT d = true) : evF pg (n + 1) 36 [d] S = .ok (.bl (isVal 0 1 d)) S := by
  (rw [u_fn n (f := d__law_is_bit) rfl rfl]; unfold runF)
  cases d with
  | int i =>
    have q := in_ints false i [0, 1]
    have k : (decide (i ∈ ([0, 1] : List Int))) = isVal 0 1 (.int i) := by
      simp only [isVal]
      rw [Bool.eq_iff_iff]
      simp only [List.mem_cons, List.not_mem_nil, or_false, decide_eq_true_eq, Bool.and_eq_true]
      omega
    rw [k] at q
    have q : opIn false (.int i) (.tup [.int 0, .int 1]) = some (.bl (isVal 0 1 (.int i))) := q
    dsimp! [d__law_is_bit, b__law_is_bit, ↓q]
  | wdt _ => simp [okT] at h
  | _ => dsimp! [d__law_is_bit, b__law_is_bit, isVal]
end LW
namespace LW
open PySem PySem.Spec PyProof.Rows L2 GG
/-! ascending wires, told in two ways -/
theorem ltI_pw : ∀ {l : List Int}, ltI l = true → l.Pairwise (· < ·)
  | [], _ => .nil
  | [x], _ => List.pairwise_singleton _ _
  | x :: y :: r, h => by
    simp only [ltI, Bool.and_eq_true, decide_eq_true_eq] at h
    have h2 : ltI (y :: r) = true := by simp only [ltI, Bool.and_eq_true]; exact h.2
    have ih := ltI_pw h2
    refine List.pairwise_cons.mpr ⟨fun z m => ?_, ih⟩
    rcases List.mem_cons.mp m with rfl | m
    · exact h.1
    · have := (List.pairwise_cons.mp ih).1 z m
      have := h.1
      omega
theorem pw_ltI : ∀ {l : List Int}, l.Pairwise (· < ·) → ltI l = true
  | [], _ => rfl
  | [x], _ => rfl
  | x :: y :: r, h => by
    obtain ⟨h1, h2⟩ := List.pairwise_cons.mp h
    have := pw_ltI h2
    have h3 := h1 y List.mem_cons_self
    rw [ltI]
    simp only [h3, decide_true, Bool.true_and]
    exact this
theorem asc_ext : ∀ {xs ys : List Int}, xs.Pairwise (· < ·) → ys.Pairwise (· < ·) → (∀ z, z ∈ xs ↔ z ∈ ys) → xs = ys
  | [], [], _, _, _ => rfl
  | [], y :: ys, _, _, h => absurd ((h y).mpr List.mem_cons_self) List.not_mem_nil
  | x :: xs, [], _, _, h => absurd ((h x).mp List.mem_cons_self) List.not_mem_nil
  | x :: xs, y :: ys, p, q, h => by
    obtain ⟨p1, p2⟩ := List.pairwise_cons.mp p
    obtain ⟨q1, q2⟩ := List.pairwise_cons.mp q
    have e : x = y := by
      rcases List.mem_cons.mp ((h x).mp List.mem_cons_self) with e | m
      · exact e
      · rcases List.mem_cons.mp ((h y).mpr List.mem_cons_self) with e | m2
        · exact e.symm
        · have := q1 x m
          have := p1 y m2
          omega
    subst e
    congr 1
    refine asc_ext p2 q2 fun z => ⟨fun m => ?_, fun m => ?_⟩
    · rcases List.mem_cons.mp ((h z).mp (List.mem_cons_of_mem _ m)) with e | m2
      · have := p1 z m; omega
      · exact m2
    · rcases List.mem_cons.mp ((h z).mpr (List.mem_cons_of_mem _ m)) with e | m2
      · have := q1 z m; omega
      · exact m2
def rngI (m : Nat) : List Int := (List.range m).map fun (i : Nat) => (i : Int)
theorem rngI_pw (m : Nat) : (rngI m).Pairwise (· < ·) := by
  unfold rngI
  rw [List.pairwise_map]
  exact List.pairwise_lt_range.imp fun h => by omega
theorem mem_rngI {m : Nat} {z : Int} : z ∈ rngI m ↔ 0 ≤ z ∧ z < m := by
  unfold rngI
  rw [List.mem_map]
  constructor
  · rintro ⟨i, hi, rfl⟩
    have := List.mem_range.mp hi
    omega
  · rintro ⟨h1, h2⟩
    exact ⟨z.toNat, List.mem_range.mpr (by omega), by omega⟩
theorem wires_two (m : Nat) (zs : List Int) : (decide (zs = (rngI m).filter fun z => decide (z ∈ zs))) = wiresOk m (tb zs) := by
  have e1 : (zs.map D.int).all (isVal 0 ((m : Int) - 1)) = decide (∀ z ∈ zs, 0 ≤ z ∧ z < m) := by
    rw [Bool.eq_iff_iff, List.all_map, List.all_eq_true, decide_eq_true_eq]
    constructor
    · intro h z hz
      have := h z hz
      simp only [Function.comp, isVal, Bool.and_eq_true, decide_eq_true_eq] at this
      omega
    · intro h z hz
      have := h z hz
      simp only [Function.comp, isVal, Bool.and_eq_true, decide_eq_true_eq]
      omega
  have e2 : intsI (zs.map D.int) = zs := by
    unfold intsI
    rw [List.map_map]
    exact List.map_id' zs
  have k : wiresOk m (tb zs) = (decide (∀ z ∈ zs, 0 ≤ z ∧ z < m) && ltI zs) := by
    show ((zs.map D.int).all (isVal 0 ((m : Int) - 1)) && ltI (intsI (zs.map D.int))) = _
    rw [e1, e2]
  rw [k, Bool.eq_iff_iff, Bool.and_eq_true, decide_eq_true_eq, decide_eq_true_eq]
  constructor
  · intro h
    refine ⟨fun z hz => ?_, ?_⟩
    · rw [h] at hz
      exact mem_rngI.mp (List.mem_filter.mp hz).1
    · rw [h]
      exact pw_ltI ((rngI_pw m).filter _)
  · rintro ⟨h1, h2⟩
    refine asc_ext (ltI_pw h2) ((rngI_pw m).filter _) fun z => ⟨fun hz => ?_, fun hz => ?_⟩
    · exact List.mem_filter.mpr ⟨mem_rngI.mpr (h1 z hz), by simpa using hz⟩
    · simpa using (List.mem_filter.mp hz).2
theorem eq_nilL (neg : Bool) (ds : List D) : opEq neg (.lst ds) (.lst []) = some (.bl (if neg then !ds.isEmpty else ds.isEmpty)) := by
  have e : opEq neg (.lst ds) (.lst []) = (match py (.lst ds), py (.lst []) with
    | some a, some b => if SeqAt.shaped a = true ∧ SeqAt.shaped b = true then some (.bl (if neg then !PyData.eqv a b else PyData.eqv a b)) else emT neg (.lst ds) (.lst [])
    | _, _ => emT neg (.lst ds) (.lst [])) := rfl
  have t : emT neg (.lst ds) (.lst []) = some (.bl (if neg then !ds.isEmpty else ds.isEmpty)) := rfl
  rw [e, t]
  have p0 : py (.lst []) = some (.list []) := rfl
  rw [p0]
  have hp : py (.lst ds) = (pys ds).map .list := by simp only [py]
  rw [hp]
  cases h : pys ds with
  | none => rfl
  | some qs =>
    show (if _ then _ else _) = _
    have : PyData.eqv (.list qs) (.list []) = ds.isEmpty := by
      cases ds with
      | nil => cases h; rfl
      | cons d r =>
        cases qs with
        | nil =>
          simp only [pys] at h
          split at h <;> cases h
        | cons q qs => simp [PyData.eqv, PyData.eqvAll]
    rw [this]
    split <;> rfl
end LW
namespace LW
open PySem PySem.Spec PyProof.Rows L2 GG
/-! the law's own judge of a line -/
theorem in_strsL (neg : Bool) (z : Str) (zs : List Str) : opIn neg (.str z) (.lst (zs.map .str)) = some (.bl (if neg then !decide (z ∈ zs) else decide (z ∈ zs))) := by
  have h : ((zs.map D.str).any fun y => eqFD y (.str z)) = decide (z ∈ zs) := by
    rw [Bool.eq_iff_iff]
    simp [eqFD]
  have f : (zs.map D.str).all flatD = true := by simp [flatD]
  have e : opIn neg (.str z) (.lst (zs.map .str)) = if flatD (.str z) = true ∧ (zs.map D.str).all flatD = true then some (.bl (if neg then !((zs.map D.str).any fun y => eqFD y (.str z)) else (zs.map D.str).any fun y => eqFD y (.str z))) else inT neg (.str z) (zs.map .str) := rfl
  rw [e, if_pos ⟨rfl, f⟩, h]
theorem iterR_m {m : Nat} (h : m ≤ 4) : iterR [.int ((m : Nat) : Int)] = some ((rngI m).map .int) := by
  match m, h with
  | 0, _ => rfl
  | 1, _ => rfl
  | 2, _ => rfl
  | 3, _ => rfl
  | 4, _ => rfl
theorem ints_of {ws : List D} (h : ∀ d ∈ ws, isInt d = true) : ws = (intsI ws).map .int := by
  induction ws with
  | nil => rfl
  | cons d r ih =>
    have := ih fun d m => h d (List.mem_cons_of_mem _ m)
    have hd := h d List.mem_cons_self
    cases d with
    | int i => exact congrArg (_ :: ·) this
    | _ => simp [isInt] at hd
abbrev lE (c : Ct) (ps told : List (Str × Int)) (z : Str) (i : Int) (w : D) (s4 s5 s6 s7 : Sl) : GG.Env := [.v (encC c), .v (encP ps), .v (encP told), .v (.tup [.str z, .int i, w]), s4, s5, s6, s7]
theorem e_law_is_line (n : Nat) (c : Ct) (ps told : List (Str × Int)) (d : D) (S : Sto) (hg : ∀ g ∈ c.gs, g.src.length ≤ 4 ∧ g.tab.length = 2 ^ g.src.length ∧ bits g.tab) (h3 : v3 ps) (t3 : v3 told) (h : okL d = true) :
    evF pg (n + 2) 37 [encC c, encP ps, encP told, d] S = .ok (.bl (lineOk c.gs ps told d)) S := by
  (rw [u_fn (n + 1) (f := d__law_is_line) rfl rfl]; unfold runF)
  cases d with
  | tup ds =>
    match ds, h with
    | [a, b, w], h =>
      simp only [okL, Bool.and_eq_true] at h
      obtain ⟨ha, hb, hw⟩ := h
      cases a with
      | wdt _ => simp [okT] at ha
      | str z =>
        have q3 := fun S => e_law_is_bit n b S hb
        cases hv : isVal 0 1 b
        · have k : lineOk c.gs ps told (.tup [.str z, b, w]) = false := by
            cases b with
            | int i =>
              simp only [lineOk, hv, Bool.false_and, Bool.and_false]
              split <;> rfl
            | _ => rfl
          rw [hv] at q3
          rw [k]
          dsimp! [d__law_is_line, b__law_is_line, ix3_0, ix3_1, q3]
        · rw [hv] at q3
          cases b with
          | int i =>
            have q2 := inP false told z
            by_cases ht : z ∈ told.map (·.1)
            · simp only [ht, decide_true] at q2
              have k : lineOk c.gs ps told (.tup [.str z, .int i, w]) = false := by
                simp only [lineOk, ht, decide_true, Bool.not_true, Bool.false_and]
                split <;> rfl
              rw [k]
              dsimp! [d__law_is_line, b__law_is_line, ix3_0, ix3_1, q3, q2]
            · simp only [ht, decide_false] at q2
              have sG := still_Gs c.gs
              have e1 := fun S => lc_map (cl := evF pg (n + 1)) (ε := lE c ps told z i w .u .u .u .u) (S := S) (e := .ix (.v 4) (.c (.int 0))) (own := [4]) (i := 4) (it := .itv (.ix (.v 0) (.c (.int 1)))) (S1 := S) (b := true) (xs := c.gs) (en := encG)
                (ε' := lE c ps told z i w .u .u .u .u) (fun g => .str g.name) (by dsimp! [ix2_1, sG]) (by simp) (by dsimp! []) (fun g _ => by dsimp! [ix3_0])
              have gn : c.gs.map (fun g => D.str g.name) = (gN c).map D.str := by simp [gN]
              simp only [gn] at e1
              have q1 := in_strsL true z (gN c)
              cases hf : c.gs.find? fun g => decide (g.name = z) with
              | none =>
                have nz : ¬ z ∈ gN c := fun m => by
                  obtain ⟨g, _, _, e⟩ := find_mem (fun g : Gt => g.name) m
                  rw [e] at hf
                  cases hf
                simp only [nz, decide_false] at q1
                have k : lineOk c.gs ps told (.tup [.str z, .int i, w]) = false := by simp only [lineOk, hf]
                rw [k]
                dsimp! [d__law_is_line, b__law_is_line, ix3_0, ix3_1, q3, q2, ↓e1, q1]
              | some g =>
                have mz : z ∈ gN c := by
                  have e := List.find?_some hf
                  have e : g.name = z := by simpa using e
                  rw [← e]
                  exact List.mem_map_of_mem (f := fun g : Gt => g.name) (List.mem_of_find?_eq_some hf)
                simp only [mz, decide_true] at q1
                have k : lineOk c.gs ps told (.tup [.str z, .int i, w]) = lineOf g ps told i w := by
                  simp only [lineOk, hf, ht, decide_false, hv, Bool.not_false, Bool.true_and]
                rw [k]
                have gm := hg g (List.mem_of_find?_eq_some hf)
                cases w with
                | wdt _ => simp [okI] at hw
                | tup ws =>
                  have q4 := fun S => e_law_gate n c z g S hf
                  have e2 := fun S => lc_filT (cl := evF pg (n + 1)) (ε := lE c ps told z i (.tup ws) (.v (encG g)) .u .u .u) (S := S) (e := .c (.int 1)) (c := .or (.not (.isi (.v 6) .int)) [(.isi (.v 6) .bool)]) (own := [6]) (tg := .n 6) (it := .itv (.ix (.v 3) (.c (.int 2)))) (S1 := S) (b := D.stills ws) (xs := ws) (en := id)
                    (ε' := lE c ps told z i (.tup ws) (.v (encG g)) .u .u .u) (fun x => lE c ps told z i (.tup ws) (.v (encG g)) .u (.v x) .u) (fun x => !isInt x) (fun _ => .int 1) (by dsimp! [ix3_2]) (by dsimp! []) (fun x _ => by dsimp! []) (fun x m => by
                      have hx : okT x = true := by simp only [okI, List.all_eq_true] at hw; exact hw x m
                      cases x with
                      | wdt _ => simp [okT] at hx
                      | _ => dsimp! [isInt]) (fun x _ _ => by dsimp! [])
                  have q5 := eq_nilL true ((ws.filter fun x => !isInt x).map fun _ => D.int 1)
                  by_cases hI : ∀ d ∈ ws, isInt d = true
                  · have f0 : ws.filter (fun x => !isInt x) = [] := by
                      rw [List.filter_eq_nil_iff]
                      intro x m
                      rw [hI x m]
                      decide
                    rw [f0] at e2 q5
                    have q5 : opEq true (.lst []) (.lst []) = some (.bl false) := q5
                    simp only [List.map_nil] at e2
                    have hz := ints_of hI
                    generalize intsI ws = zs at hz
                    subst hz
                    have wt := wires_two g.src.length zs
                    have q6 := eq_lst true zs ((rngI g.src.length).filter fun z => decide (z ∈ zs))
                    rw [wt] at q6
                    have im := iterR_m gm.1
                    have e3 := fun S => lc_filT (cl := evF pg (n + 1)) (ε := lE c ps told z i (tb zs) (.v (encG g)) .u .u .u) (S := S) (e := .v 6) (c := .cmp .In (.v 6) (.ix (.v 3) (.c (.int 2)))) (own := [6]) (tg := .n 6) (it := .rng [(.bi .len [(.ix (.v 4) (.c (.int 1)))])]) (S1 := S) (b := true) (xs := rngI g.src.length) (en := .int)
                      (ε' := lE c ps told z i (tb zs) (.v (encG g)) .u .u .u) (fun x => lE c ps told z i (tb zs) (.v (encG g)) .u (.v (.int x)) .u) (fun x => decide (x ∈ zs)) .int (by dsimp! [ix3_1, im]) (by dsimp! []) (fun x _ => by dsimp! []) (fun x m => by
                        have q := in_ints false x zs
                        dsimp! [ix3_2, q]) (fun x _ _ => by dsimp! [])
                    cases hw1 : wiresOk g.src.length (tb zs)
                    · rw [hw1] at q6
                      have k2 : lineOf g ps told i (tb zs) = false := by simp only [lineOf, hw1, Bool.false_and]
                      rw [k2]
                      dsimp! [d__law_is_line, b__law_is_line, ix3_0, ix3_1, ix3_2, q3, q2, ↓e1, q1, q4, ↓e2, ↓q5, ↓e3, ↓q6]
                    · rw [hw1] at q6
                      obtain ⟨_, hz⟩ := wires_ints hw1
                      have wz : wI (tb zs) = zs := by
                        show intsI (zs.map D.int) = zs
                        unfold intsI
                        rw [List.map_map]
                        exact List.map_id' zs
                      rw [wz] at hz
                      have hl := List.length_map (f := val ps told) (as := g.src)
                      have ho : ok3 (g.src.map (val ps told)) := fun x hx => by
                        obtain ⟨y, _, rfl⟩ := List.mem_map.mp hx
                        exact val_v3 h3 t3 y
                      have q7 := fun S => e_law_row_of n g ps told S
                      have k2 : lineOf g ps told i (tb zs) = (!open_ zs (g.src.map (val ps told)) && decide (fin (seen g.tab (kept zs (g.src.map (val ps told)))) = i)) := by simp only [lineOf, hw1, Bool.true_and, wz]
                      rw [k2]
                      rw [← hl] at hz gm
                      generalize g.src.map (val ps told) = r at hl ho q7 gm hz
                      have str' : D.stills (r.map .int) = true := tb_still r
                      have stz' : D.stills (zs.map .int) = true := tb_still zs
                      have e4 := fun S => lc_filT (cl := evF pg (n + 1)) (ε := lE c ps told z i (tb zs) (.v (encG g)) (.v (tb r)) .u .u) (S := S) (e := .c (.int 1)) (c := .cmp .Eq (.ix (.v 5) (.v 6)) (.c (.int 2))) (own := [6]) (tg := .n 6) (it := .itv (.ix (.v 3) (.c (.int 2)))) (S1 := S) (b := true) (xs := zs) (en := .int)
                        (ε' := lE c ps told z i (tb zs) (.v (encG g)) (.v (tb r)) .u .u) (fun x => lE c ps told z i (tb zs) (.v (encG g)) (.v (tb r)) (.v (.int x)) .u) (opn r) (fun _ => .int 1) (by dsimp! [ix3_2, stz']) (by dsimp! []) (fun x _ => by dsimp! []) (fun y m => by
                          obtain ⟨y0, y1⟩ := hz y m
                          have q := ix_tb (t := r) (i := y.toNat) (by omega)
                          rw [Int.toNat_of_nonneg y0] at q
                          dsimp! [q, opn]) (fun x _ _ => by dsimp! [])
                      have q8 := eq_nilL true ((zs.filter (opn r)).map fun _ => D.int 1)
                      have emp : ((zs.filter (opn r)).map fun _ => D.int 1).isEmpty = !open_ zs r := by
                        rw [Bool.eq_iff_iff]
                        simp [open_]
                      rw [emp] at q8
                      have e5 := fun S => lc_mapT (cl := evF pg (n + 1)) (ε := lE c ps told z i (tb zs) (.v (encG g)) (.v (tb r)) .u .u) (S := S) (e := .ife (.cmp .In (.v 6) (.ix (.v 3) (.c (.int 2)))) (.v 7) (.c (.int 2))) (own := [6, 7]) (tg := .t [(.n 6), (.n 7)]) (it := .enum (.v 5)) (S1 := S) (b := true) (xs := r.zipIdx) (en := fun p => .tup [.int (p.2 : Nat), .int p.1])
                        (ε' := lE c ps told z i (tb zs) (.v (encG g)) (.v (tb r)) .u .u) (fun p => lE c ps told z i (tb zs) (.v (encG g)) (.v (tb r)) (.v (.int (p.2 : Nat))) (.v (.int p.1))) (fun p => .int (if (p.2 : Int) ∈ zs then p.1 else 2)) (by
                          have pu := pairUp_tb r 0
                          dsimp! [pu, str']) (by dsimp! []) (fun p _ => by dsimp! []) (fun p _ => by
                          have q := in_ints false (p.2 : Nat) zs
                          by_cases hp : ((p.2 : Nat) : Int) ∈ zs
                          · simp only [hp, decide_true] at q
                            dsimp! [ix3_2, q, hp]
                          · simp only [hp, decide_false] at q
                            dsimp! [ix3_2, q, hp])
                      have m : (r.zipIdx.map fun p => D.int (if ((p.2 : Nat) : Int) ∈ zs then p.1 else 2)) = (kept zs r).map .int := by simp [kept]
                      simp only [m] at e5
                      have q9 := fun S => e_law_forced n S g.tab (kept zs r) gm.2.2 (kept_ok ho) (by rw [kept_len]; exact gm.2.1) (by rw [kept_len]; exact gm.1)
                      cases hO : open_ zs r
                      · rw [hO] at q8
                        dsimp! [d__law_is_line, b__law_is_line, ix3_0, ix3_1, ix3_2, q3, q2, ↓e1, q1, q4, ↓e2, ↓q5, ↓e3, ↓q6, q7, ↓e4, ↓q8, ↓e5, q9]
                      · rw [hO] at q8
                        dsimp! [d__law_is_line, b__law_is_line, ix3_0, ix3_1, ix3_2, q3, q2, ↓e1, q1, q4, ↓e2, ↓q5, ↓e3, ↓q6, q7, ↓e4, ↓q8]
                  · have f1 : (ws.filter (fun x => !isInt x)).isEmpty = false := by
                      rw [Bool.eq_false_iff]
                      intro q
                      have q := List.isEmpty_iff.mp q
                      rw [List.filter_eq_nil_iff] at q
                      refine hI fun d m => ?_
                      have := q d m
                      simpa using this
                    have k2 : lineOf g ps told i (.tup ws) = false := by
                      have : ws.all (isVal 0 ((g.src.length : Int) - 1)) = false := by
                        rw [Bool.eq_false_iff]
                        intro q
                        refine hI fun d m => ?_
                        have := List.all_eq_true.mp q d m
                        cases d with
                        | int _ => rfl
                        | _ => simp [isVal] at this
                      simp only [lineOf, wiresOk, this, Bool.false_and]
                    rw [k2]
                    rw [show ((ws.filter fun x => !isInt x).map fun _ => D.int 1).isEmpty = (ws.filter fun x => !isInt x).isEmpty by cases ws.filter fun x => !isInt x <;> rfl, f1] at q5
                    dsimp! [d__law_is_line, b__law_is_line, ix3_0, ix3_1, ix3_2, q3, q2, ↓e1, q1, q4, ↓e2, ↓q5]
                | _ => dsimp! [d__law_is_line, b__law_is_line, ix3_0, ix3_1, ix3_2, q3, q2, ↓e1, q1, lineOf, wiresOk]
          | _ => simp [isVal] at hv
      | _ => dsimp! [d__law_is_line, b__law_is_line, lineOk, ix3_0]
    | [], _ => dsimp! [d__law_is_line, b__law_is_line, lineOk]
    | [_], _ => dsimp! [d__law_is_line, b__law_is_line, lineOk]
    | [_, _], _ => dsimp! [d__law_is_line, b__law_is_line, lineOk]
    | a :: b :: c :: e :: r, _ =>
      have k : ¬ ((r.length : Int) + 1 + 1 + 1 + 1 = 3) := by omega
      dsimp! [d__law_is_line, b__law_is_line, lineOk, k]
  | wdt _ => simp [okL, okT] at h
  | _ => dsimp! [d__law_is_line, b__law_is_line, lineOk]
end LW
namespace LW
open PySem PySem.Spec PyProof.Rows L2 GG
/-! the law's own judge of lines -/
def jlB : List Sm := [.ife (.not (.call 37 [(.v 0), (.v 1), (.v 4), (.v 5)])) [.ret (.c (.bl false))] [], .put 4 (.ix (.v 5) (.c (.int 0))) (.ix (.v 5) (.c (.int 1)))]
theorem jl_loop (n : Nat) (c : Ct) (ps : List (Str × Int)) (N V : D) (S : Sto) (hg : ∀ g ∈ c.gs, g.src.length ≤ 4 ∧ g.tab.length = 2 ^ g.src.length ∧ bits g.tab) (h3 : v3 ps) : ∀ (ds : List D) (told : List (Str × Int)) (sl : Sl), (∀ d ∈ ds, okL d = true) → v3 told → told.length + ds.length ≤ 10000 →
    ∃ sl', forLoop (tgS (.n 5)) (evSs (evF pg (n + 2)) jlB) ds [.v (encC c), .v (encP ps), .v N, .v V, .o (encP told), sl] S = match runL c.gs ps ds told with
      | some t => .ok (.nx [.v (encC c), .v (encP ps), .v N, .v V, .o (encP t), sl']) S
      | none => .ok (.rt (.bl false)) S
  | [], told, sl, _, _, _ => ⟨sl, rfl⟩
  | d :: r, told, sl, ho, ht, hn => by
    have hn' : told.length < 16777216 := by omega
    have q1 := fun S => e_law_is_line n c ps told d S hg h3 ht (ho d List.mem_cons_self)
    cases hl : lineOk c.gs ps told d
    · rw [hl] at q1
      refine ⟨sl, ?_⟩
      have e2 : evSs (evF pg (n + 2)) jlB [.v (encC c), .v (encP ps), .v N, .v V, .o (encP told), .v d] S = .ok (.rt (.bl false)) S := by
        dsimp! [jlB, q1]
      rw [fl_cons (ε1 := [.v (encC c), .v (encP ps), .v N, .v V, .o (encP told), .v d]) (by dsimp! []), e2]
      simp only [runL, hl]
      rfl
    · rw [hl] at q1
      obtain ⟨z, b, w, rfl, hz, hb, _⟩ := lineOk_form hl
      obtain ⟨sl', ih⟩ := jl_loop n c ps N V S hg h3 r (told ++ [(z, b)]) (.v (.tup [.str z, .int b, w])) (fun d m => ho d (List.mem_cons_of_mem _ m)) (v3_add ht hb) (by simp only [List.length_append, List.length_cons, List.length_nil] at hn ⊢; omega)
      refine ⟨sl', ?_⟩
      have pt := put_told told z b hz
      have e2 : evSs (evF pg (n + 2)) jlB [.v (encC c), .v (encP ps), .v N, .v V, .o (encP told), .v (.tup [.str z, .int b, w])] S = .ok (.nx [.v (encC c), .v (encP ps), .v N, .v V, .o (encP (told ++ [(z, b)])), .v (.tup [.str z, .int b, w])]) S := by
        dsimp! [jlB, q1, ix3_0, ix3_1, pt, hn']
      rw [fl_cons (ε1 := [.v (encC c), .v (encP ps), .v N, .v V, .o (encP told), .v (.tup [.str z, .int b, w])]) (by dsimp! []), e2]
      simp only [runL, hl, if_true, lk]
      exact ih
theorem COk.gs3 {c : Ct} (h : COk c) : ∀ g ∈ c.gs, g.src.length ≤ 4 ∧ g.tab.length = 2 ^ g.src.length ∧ bits g.tab := fun g m => ⟨(h.g g m).sz, (h.g g m).len, (h.g g m).bit⟩
theorem e_law_is_derivation (n : Nat) (c : Ct) (ps : List (Str × Int)) (name : Str) (d : D) (S : Sto) (h : COk c) (h3 : v3 ps) (ho : okLs d = true) :
    evF pg (n + 3) 38 [encC c, encP ps, .str name, d] S = .ok (.bl (derOk c.gs ps name d)) S := by
  (rw [u_fn (n + 2) (f := d__law_is_derivation) rfl rfl]; unfold runF)
  cases d with
  | wdt _ => simp [okLs, okT] at ho
  | tup ds =>
    cases ds with
    | nil =>
      have q := eq_nil false []
      dsimp! [d__law_is_derivation, b__law_is_derivation, q, derOk, derR]
    | cons d r =>
      have q := eq_nil false (d :: r)
      simp only [List.isEmpty_cons] at q
      obtain ⟨sl, k⟩ := jl_loop n c ps (.str name) (.tup (d :: r)) S h.gs3 h3 (d :: r) [] .u (fun d m => by
        simp only [okLs, Bool.and_eq_true] at ho
        exact List.all_eq_true.mp ho.2 d m) (fun p m => absurd m List.not_mem_nil) (by
        simp only [okLs, Bool.and_eq_true, decide_eq_true_eq] at ho
        simpa using ho.1)
      unfold jlB at k
      have e0 : encP [] = .dct (mergeD [] []) := rfl
      rw [e0] at k
      have dr : derR c.gs ps (.tup (d :: r)) = runL c.gs ps (d :: r) [] := rfl
      cases hr : runL c.gs ps (d :: r) [] with
      | none =>
        rw [hr] at k dr
        simp only at k
        have k2 : derOk c.gs ps name (.tup (d :: r)) = false := by simp only [derOk, dr]
        rw [k2]
        dsimp! [d__law_is_derivation, b__law_is_derivation, ↓q, ↓k]
      | some t =>
        rw [hr] at k dr
        simp only at k
        obtain ⟨ds, z, b, w, e, q1, q2⟩ := derR_last dr
        cases e
        rw [q2]
        dsimp! [d__law_is_derivation, b__law_is_derivation, ↓q, ↓k, q1, ix3_0]
  | _ => dsimp! [d__law_is_derivation, b__law_is_derivation, derOk, derR]
end LW
namespace LW
open PySem PySem.Spec PyProof.Rows L2 GG
/-! things in a drawn order -/
abbrev mxB : List Sm := [.apop 3 2 (.call 25 [(.v 0), (.bi .len [(.v 2)])])]
abbrev mxC (cl : Nat → List D → Sto → Out D) : GG.Env → Sto → Out Bool := fun ε S => (evE cl (.cmp .NotEq (.v 2) (.lst [])) ε S).bind fun d S1 => .of S1 (tru d)
theorem seq_ix {r m : Nat} (h : r < m) : seqIndex? ((r : Nat) : Int) m = some r := by
  unfold seqIndex?
  simp
  omega
theorem pick_perm {α : Type} : ∀ {l : List α} {i : Nat} (h : i < l.length), (l[i] :: l.eraseIdx i).Perm l
  | x :: l, 0, _ => by simp
  | x :: l, i + 1, h => by
    have h' : i < l.length := by simpa using h
    simp only [List.getElem_cons_succ, List.eraseIdx_cons_succ]
    exact (List.Perm.swap _ _ _).trans ((pick_perm h').cons x)
theorem wl_step {cond : GG.Env → Sto → Out Bool} {body : GG.Env → Sto → OutS} {n : Nat} {ε ε2 : GG.Env} {S S2 : Sto} (h1 : cond ε S = .ok true S) (h2 : body ε S = .ok (.nx ε2) S2) : whileLoop cond body (n + 1) ε S = whileLoop cond body n ε2 S2 := by
  conv => lhs; unfold whileLoop
  rw [h1, on_ok, if_pos rfl, h2]
theorem mx_loop (n k : Nat) (X : D) : ∀ (m : Nat) (left found : List D) (S : Sto) (fu : Nat), left.length = m → m < fu → left.length + found.length ≤ 10000 → k < S.length →
    ∃ ys S', whileLoop (mxC (evF pg (n + 1))) (evSs (evF pg (n + 1)) mxB) fu [.v (.stm k), .v X, .o (.lst left), .o (.lst found)] S = .ok (.nx [.v (.stm k), .v X, .o (.lst []), .o (.lst ys)]) S' ∧ ys.Perm (found ++ left) ∧ S'.length = S.length
  | m, left, found, S, 0, _, h, _, _ => absurd h (Nat.not_lt_zero _)
  | 0, left, found, S, fu + 1, hl, _, _, _ => by
    have : left = [] := List.eq_nil_of_length_eq_zero hl
    subst this
    refine ⟨found, S, ?_, by simp, rfl⟩
    have q := eq_nilL true []
    have c : mxC (evF pg (n + 1)) [.v (.stm k), .v X, .o (.lst []), .o (.lst found)] S = .ok false S := by
      dsimp! [mxC, q]
    unfold whileLoop
    rw [c]
    rfl
  | m + 1, left, found, S, fu + 1, hl, hf, hn, hk => by
    have q := eq_nilL true left
    have ne : left.isEmpty = false := by
      cases left with
      | nil => cases hl
      | cons _ _ => rfl
    rw [ne] at q
    have c : mxC (evF pg (n + 1)) [.v (.stm k), .v X, .o (.lst left), .o (.lst found)] S = .ok true S := by
      dsimp! [mxC, q]
    obtain ⟨r, S1, e, hr, hl1⟩ := e_draw n k left.length S hk (by omega) (by omega)
    have hr' : r < left.length := by omega
    obtain ⟨ys, S2, e2, p, hl2⟩ := mx_loop n k X m (left.eraseIdx r) (found ++ [left[r]]) S1 fu (by rw [List.length_eraseIdx_of_lt hr']; omega) (by omega) (by rw [List.length_eraseIdx_of_lt hr', List.length_append, List.length_singleton]; omega) (by omega)
    refine ⟨ys, S2, ?_, p.trans ?_, by omega⟩
    · have si := seq_ix hr'
      have gi : left[r]? = some left[r] := List.getElem?_eq_getElem hr'
      have b1 : -(2 ^ 63 : Int) ≤ (r : Nat) := by omega
      have b2 : ((r : Nat) : Int) < 2 ^ 63 := by omega
      have b3 : found.length < sizeLine := by
        have : (10000 : Nat) < sizeLine := by decide
        omega
      have b : evSs (evF pg (n + 1)) mxB [.v (.stm k), .v X, .o (.lst left), .o (.lst found)] S = .ok (.nx [.v (.stm k), .v X, .o (.lst (left.eraseIdx r)), .o (.lst (found ++ [left[r]]))]) S1 := by
        have a : apopF [.v (.stm k), .v X, .o (.lst left), .o (.lst found)] 3 2 (.int (r : Nat)) = some [.v (.stm k), .v X, .o (.lst (left.eraseIdx r)), .o (.lst (found ++ [left[r]]))] := by
          simp only [apopF, List.getElem?_cons_succ, List.getElem?_cons_zero]
          rw [if_pos ⟨b1, b2⟩, si]
          dsimp only
          rw [gi]
          dsimp only
          rw [if_pos b3]
          rfl
        dsimp! [sm_apop, e, a]
      rw [wl_step c b]
      exact e2
    · rw [List.append_assoc]
      exact List.Perm.append_left _ (pick_perm hr')
/-- the things of a list or tuple -/
theorem e_mixed (n k : Nat) (X : D) (xs : List D) (S : Sto) (hX : seqOf X = some xs) (hn : xs.length ≤ 10000) (hk : k < S.length) :
    ∃ ys S', evF pg (n + 2) 27 [.stm k, X] S = .ok (.lst ys) S' ∧ ys.Perm xs ∧ S'.length = S.length := by
  obtain ⟨ys, S1, e, p, hl⟩ := mx_loop n k X xs.length xs [] S wFuel rfl (by have : (10000 : Nat) < wFuel := by decide
                                                                             omega) (by simpa using hn) hk
  refine ⟨ys, S1, ?_, by simpa using p, hl⟩
  (rw [u_fn (n + 1) (f := d__law_mixed) rfl rfl]; unfold runF)
  have m : mbF .list X = some (.lst xs) := by
    cases X with
    | dct _ => simp [seqOf] at hX
    | _ => simp only [mbF, hX, Option.map_some]
  have hm : ∀ S : Sto, evE (evF pg (n + 1)) (.mkB .list (.v 1)) [.v (.stm k), .v X, .u, .u] S = .ok (.lst xs) S := fun S => by
    have v : evE (evF pg (n + 1)) (.v 1) [.v (.stm k), .v X, .u, .u] S = .ok X S := by dsimp! []
    rw [ee_mkB, v, bind_ok, m, of_some]
  dsimp! [d__law_mixed, b__law_mixed, ↓hm, sm_while, ↓e]
end LW
namespace LW
open PySem PySem.Spec PyProof.Rows L2 GG
/-! drawn names and settings -/
def pool : List Str := ["a", "b", "c", "d", "go", "h", "in", "load", "m", "open", "p", "q", "r", "stop", "u", "v", "wait", "x", "y", "zebra"]
def unS : D → Str
  | .str z => z
  | _ => ⟨#[]⟩
theorem perm_strs {ys : List D} {zs : List Str} (h : ys.Perm (zs.map .str)) : ∃ ws : List Str, ys = ws.map .str ∧ ws.Perm zs := by
  refine ⟨ys.map unS, ?_, ?_⟩
  · have : ∀ y ∈ ys, D.str (unS y) = y := fun y m => by
      obtain ⟨z, _, rfl⟩ := List.mem_map.mp (h.mem_iff.mp m)
      rfl
    rw [List.map_map]
    conv => lhs; rw [← List.map_id ys]
    exact List.map_congr_left fun y m => (this y m).symm
  · have := h.map unS
    rw [List.map_map] at this
    have e : zs.map (unS ∘ D.str) = zs := by
      conv => rhs; rw [← List.map_id zs]
      exact List.map_congr_left fun z _ => rfl
    rw [e] at this
    exact this
theorem pool_good : pool.all goodN = true := by decide +kernel
theorem pool_nd : pool.Nodup := by decide +kernel
theorem e_names (n k t : Nat) (S : Sto) (ht : t ≤ 20) (hk : k < S.length) :
    ∃ (zs : List Str) (S' : Sto), evF pg (n + 3) 28 [.stm k, .int (t : Nat)] S = .ok (.lst (zs.map .str)) S' ∧ zs.length = t ∧ zs.Nodup ∧ zs.all goodN = true ∧ (∀ z ∈ zs, z ∈ pool) ∧ S'.length = S.length := by
  obtain ⟨ys, S1, e, p, hl⟩ := e_mixed n k (.lst (pool.map .str)) (pool.map .str) S rfl (by decide) hk
  obtain ⟨zs, rfl, p2⟩ := perm_strs p
  have sub : ∀ z ∈ zs.take t, z ∈ pool := fun z m => p2.mem_iff.mp (List.mem_of_mem_take m)
  refine ⟨zs.take t, S1, ?_, ?_, ?_, ?_, sub, hl⟩
  · (rw [u_fn (n + 2) (f := d__law_names) rfl rfl]; unfold runF)
    have q : opSl (.lst (zs.map .str)) none (some (t : Nat)) = some (.lst ((zs.take t).map .str)) := by
      simp only [opSl, cut_take]
      rw [List.map_take]
    have pe : D.lst (pool.map .str) = .lst [.str "a", .str "b", .str "c", .str "d", .str "go", .str "h", .str "in", .str "load", .str "m", .str "open", .str "p", .str "q", .str "r", .str "stop", .str "u", .str "v", .str "wait", .str "x", .str "y", .str "zebra"] := rfl
    rw [pe] at e
    dsimp! [d__law_names, b__law_names, e, q]
  · rw [List.length_take, p2.length_eq]
    have : pool.length = 20 := rfl
    omega
  · exact (p2.nodup_iff.mpr pool_nd).sublist (List.take_sublist _ _)
  · rw [List.all_eq_true]
    exact fun z m => List.all_eq_true.mp pool_good z (sub z m)
end LW
namespace LW
open PySem PySem.Spec PyProof.Rows L2 GG
/-! drawn settings -/
theorem pairs_told : ∀ ps : List (Str × Int), pairsOf (ps.map fun p => D.tup [.str p.1, .int p.2]) = some (ps.map fun p => ((.inr p.1 : Key), D.int p.2))
  | [] => rfl
  | p :: r => by
    have ih := pairs_told r
    rw [List.map_cons, List.map_cons]
    unfold GG.pairsOf
    rw [ih]
    rfl
theorem merge_told : ∀ (ps told : List (Str × Int)), ((told ++ ps).map (·.1)).Nodup → mergeD (told.map fun p => ((.inr p.1 : Key), D.int p.2)) (ps.map fun p => ((.inr p.1 : Key), D.int p.2)) = (told ++ ps).map fun p => ((.inr p.1 : Key), D.int p.2)
  | [], told, _ => by simp [mergeD]
  | p :: r, told, nd => by
    have hz : p.1 ∉ told.map (·.1) := by
      rw [List.map_append, List.map_cons] at nd
      have := (List.nodup_append.mp nd).2.2
      exact fun m => this p.1 m p.1 List.mem_cons_self rfl
    have pt := put_told told p.1 p.2 hz
    have ih := merge_told r (told ++ [p]) (by rw [List.append_assoc]; exact nd)
    unfold mergeD at ih ⊢
    rw [List.map_cons, List.foldl_cons]
    show List.foldl _ (putD (told.map fun p => ((.inr p.1 : Key), D.int p.2)) (.inr p.1) (.int p.2)) _ = _
    rw [pt, ih, List.append_assoc]
    rfl
theorem all2_pairs : ∀ {xs : List Str} {cs : List (Str × Int)}, All2 (fun z p => p.1 = z ∧ (p.2 = 0 ∨ p.2 = 1 ∨ p.2 = 2)) xs cs → cs.map (·.1) = xs ∧ v3 cs
  | _, _, .nil => ⟨rfl, fun p m => absurd m List.not_mem_nil⟩
  | _, _, .cons h t => by
    obtain ⟨a, b⟩ := all2_pairs t
    refine ⟨by rw [List.map_cons, a, h.1], fun p m => ?_⟩
    rcases List.mem_cons.mp m with rfl | m
    · exact h.2
    · exact b p m
theorem e_law_partial (n k : Nat) (c : Ct) (S : Sto) (hk : k < S.length) (nd : c.ins.Nodup) :
    ∃ (ps : List (Str × Int)) (S' : Sto), evF pg (n + 2) 33 [.stm k, encC c] S = .ok (encP ps) S' ∧ POk c ps ∧ S'.length = S.length := by
  have st := still_strs c.ins
  obtain ⟨ys, S1, e, p, hl⟩ := lc_ex (cl := evF pg (n + 1)) (ε := [.v (.stm k), .v (encC c), .u]) (S := S) (e := .tup [(.v 2), (.call 25 [(.v 0), (.c (.int 3))])]) (own := [2]) (i := 2) (it := .itv (.ix (.v 1) (.c (.int 0)))) (S1 := S) (b := true) (xs := c.ins) (en := .str)
    (ε' := [.v (.stm k), .v (encC c), .u]) (fun z y => ∃ p : Str × Int, y = .tup [.str p.1, .int p.2] ∧ (p.1 = z ∧ (p.2 = 0 ∨ p.2 = 1 ∨ p.2 = 2))) (by dsimp! [ix2_0, st]) (by simp) (by dsimp! []) (fun z _ S2 h2 => by
      obtain ⟨r, S3, e, hr, h3⟩ := e_draw n k 3 S2 (by omega) (by omega) (by omega)
      exact ⟨.tup [.str z, .int (r : Nat)], S3, by dsimp! [e], ⟨(z, (r : Nat)), rfl, rfl, by omega⟩, by omega⟩)
  obtain ⟨cs, rfl, q⟩ := p.pickP
  obtain ⟨ks, v⟩ := all2_pairs q
  refine ⟨cs, S1, ?_, ⟨ks, v⟩, hl⟩
  (rw [u_fn (n + 1) (f := d__law_partial) rfl rfl]; unfold runF)
  have m : mbF .dict (.lst (cs.map fun p => D.tup [.str p.1, .int p.2])) = some (encP cs) := by
    have a := pairs_told cs
    have b := merge_told cs [] (by rw [List.nil_append, ks]; exact nd)
    simp only [List.map_nil, List.nil_append] at b
    simp only [mbF, lstOf, Option.bind_some, a, Option.map_some, b]
  have hm : evE (evF pg (n + 1)) (.mkB .dict (.lc (.tup [(.v 2), (.call 25 [(.v 0), (.c (.int 3))])]) [2] (.n 2) (.itv (.ix (.v 1) (.c (.int 0)))) [])) [.v (.stm k), .v (encC c), .u] S = .ok (encP cs) S1 := by
    rw [ee_mkB, e, bind_ok, m, of_some]
  dsimp! [d__law_partial, b__law_partial, ↓hm]
end LW
namespace LW
open PySem PySem.Spec PyProof.Rows L2 GG
/-! what reads as data may be asked -/
theorem okT_py {d : D} (h : (py d).isSome = true) : okT d = true := by
  cases d with
  | wdt _ => simp [py] at h
  | _ => rfl
theorem py_tup {ds : List D} (h : (py (.tup ds)).isSome = true) : ∀ d ∈ ds, (py d).isSome = true := by
  have h : (pys ds).isSome = true := by
    cases e : pys ds with
    | none => simp [py, e] at h
    | some _ => rfl
  induction ds with
  | nil => exact fun d m => absurd m List.not_mem_nil
  | cons x r ih =>
    intro d m
    cases e1 : py x with
    | none => simp [pys, e1] at h
    | some p =>
      cases e2 : pys r with
      | none => simp [pys, e1, e2] at h
      | some ps =>
        rcases List.mem_cons.mp m with rfl | m
        · rw [e1]; rfl
        · exact ih (by simp [py, e2]) (by rw [e2]; rfl) d m
theorem okI_py {d : D} (h : (py d).isSome = true) : okI d = true := by
  cases d with
  | wdt _ => simp [py] at h
  | tup ds =>
    simp only [okI, List.all_eq_true]
    exact fun x m => okT_py (py_tup h x m)
  | _ => rfl
theorem okL_py {d : D} (h : (py d).isSome = true) : okL d = true := by
  cases d with
  | tup ds =>
    have q := py_tup h
    match ds, q with
    | [a, b, w], q =>
      simp only [okL, Bool.and_eq_true]
      exact ⟨okT_py (q a (by simp)), okT_py (q b (by simp)), okI_py (q w (by simp))⟩
    | [], _ => rfl
    | [_], _ => rfl
    | [_, _], _ => rfl
    | _ :: _ :: _ :: _ :: _, _ => rfl
  | wdt _ => simp [py] at h
  | _ => rfl
theorem okLs_py {d : D} (h : (py d).isSome = true) (hl : ∀ ds, d = .tup ds → ds.length ≤ 10000) : okLs d = true := by
  cases d with
  | tup ds =>
    simp only [okLs, Bool.and_eq_true, decide_eq_true_eq, List.all_eq_true]
    exact ⟨hl ds rfl, fun x m => okL_py (py_tup h x m)⟩
  | wdt _ => simp [py] at h
  | _ => rfl
theorem GD.some {W k : Nat} {d : D} (h : GD W k d) : (py d).isSome = true := by
  obtain ⟨p, e, _⟩ := h
  rw [e]; rfl
/-- both judges, at one value -/
theorem judges (n m : Nat) (c : Ct) (ps : List (Str × Int)) (name : Str) (d : D) (S : Sto) (h : COk c) (hp : POk c ps) (hz : name ∈ gN c) (ho : okLs d = true) :
    evF pg (n + 10) 23 [encC c, encP ps, .str name, d] S = .ok (.bl (derOk c.gs ps name d)) S ∧ evF pg (m + 3) 38 [encC c, encP ps, .str name, d] S = .ok (.bl (derOk c.gs ps name d)) S :=
  ⟨e_is_derivation n c ps name d S h hp hz ho, e_law_is_derivation m c ps name d S h hp.v3 ho⟩
end LW
namespace LW
open PySem PySem.Spec PyProof.Rows L2 GG
/-! odd things -/
def odds : List D := [.non, .bl true, .bl false, .int (-1), .int 0, .int 1, .int 2, .int 3, .int (10 ^ 39), .str "", .str "a", .str "x", .str "A", .tup [], .lst [], .dct [], .tup [.int 0], .tup [.str "a"], .lst [.int 0], .tup [.tup []], .str "a b",
  .tup [.tup [], .tup []], .tup [.str "x", .int (-1)], .dct [(.inr "a", .int 0)], .dct [(.inr "x", .int 2)], .tup [.tup [.str "a"], .tup []], .tup [.str "settles", .int 1, .tup []], .tup [.str "flips", .tup [.tup [], .tup []]], .tup [.int 2]]
theorem odd_1 (cl : Nat → List D → Sto → Out D) (S : Sto) (k : Nat) : evSs cl (b__law_odd.take 2) [.v (.stm k), .u] S = .ok (.nx [.v (.stm k), .v (.lst odds)]) S := by
  kernel_rfl
theorem e_odd (n : Nat) (k : Nat) (S : Sto) (hk : k < S.length) : ∃ (d : D) (S' : Sto), evF pg (n + 3) 39 [.stm k] S = .ok d S' ∧ d ∈ odds ∧ S'.length = S.length := by
  obtain ⟨d, S', e, m, l⟩ := e_pickL n k odds S hk (by decide) (by decide)
  refine ⟨d, S', ?_, m, l⟩
  rw [u_fn (n + 2) (f := d__law_odd) rfl rfl]
  refine fn_ret ?_
  have a := odd_1 (evF pg (n + 2)) S k
  have b : evSs (evF pg (n + 2)) (b__law_odd.drop 2) [.v (.stm k), .v (.lst odds)] S = .ok (.rt d) S' := by
    simp! [b__law_odd, e]
  show evSs (evF pg (n + 2)) b__law_odd [.v (.stm k), .u] S = _
  rw [st_cut 2 a, b]
theorem odds_good : ∀ d ∈ odds, GD 200 5 d := by
  have h : odds.all (gdB 200 5) = true := by decide +kernel
  exact fun d m => GD.ofB (List.all_eq_true.mp h d m)
theorem odds_len : ∀ d ∈ odds, ∀ ds, d = .tup ds → ds.length ≤ 3 := by
  have h : odds.all (fun d => match d with | .tup ds => decide (ds.length ≤ 3) | _ => true) = true := by decide +kernel
  intro d m ds e
  subst e
  have := List.all_eq_true.mp h _ m
  simpa using this
end LW
namespace LW
open PySem PySem.Spec PyProof.Rows L2 GG
/-! what circuits of drawn names show as -/
theorem pool_GD : ∀ z ∈ pool, GD 5 1 (.str z) := by
  have h : (pool.map D.str).all (gdB 5 1) = true := by decide +kernel
  exact fun z m => GD.ofB (List.all_eq_true.mp h _ (List.mem_map_of_mem m))
theorem bit_GD {i : Int} (h : i = 0 ∨ i = 1 ∨ i = 2) : GD 2 1 (.int i) := by
  rcases h with rfl | rfl | rfl <;> exact GD.ofB (by decide +kernel)
theorem strs_GD {zs : List Str} (h : ∀ z ∈ zs, z ∈ pool) {m : Nat} (hl : zs.length ≤ m) : GD (m * 6) 2 (stT zs) :=
  GD.tup (by simpa using hl) fun d hd => by
    obtain ⟨z, hz, rfl⟩ := List.mem_map.mp hd
    exact pool_GD z (h z hz)
theorem tb_GD {t : List Int} (h : ok3 t) {m : Nat} (hl : t.length ≤ m) : GD (m * 3) 2 (tb t) :=
  GD.tup (by simpa using hl) fun d hd => by
    obtain ⟨i, hi, rfl⟩ := List.mem_map.mp hd
    exact bit_GD (h i hi)
theorem gate_GD {g : Gt} (h : ∀ z ∈ g.src, z ∈ pool) (hn : g.name ∈ pool) (hs : g.src.length ≤ 4) (ht : g.tab.length ≤ 16) (hb : bits g.tab) : GD 147 3 (encG g) :=
  have q : ∀ d ∈ [D.str g.name, stT g.src, tb g.tab], GD 48 2 d := fun d hd => by
    rcases List.mem_cons.mp hd with rfl | hd
    · exact (pool_GD _ hn).le (by decide) (by decide)
    rcases List.mem_cons.mp hd with rfl | hd
    · exact (strs_GD h hs).le (by decide) (by decide)
    rcases List.mem_cons.mp hd with rfl | hd
    · exact tb_GD (fun x hx => (hb x hx).elim .inl fun e => .inr (.inl e)) ht
    · exact absurd hd List.not_mem_nil
  GD.tup (ds := [D.str g.name, stT g.src, tb g.tab]) (m := 3) (Nat.le_refl 3) q
end LW
namespace LW
open PySem PySem.Spec PyProof.Rows L2 GG
/-! a setting may be shown -/
theorem pyk_told : ∀ ps : List (Str × Int), pyk (ps.map fun p => ((.inr p.1 : Key), D.int p.2)) = some (ps.map fun p => (PyData.str p.1, PyData.int p.2))
  | [] => rfl
  | p :: r => by
    have ih := pyk_told r
    rw [List.map_cons, List.map_cons]
    unfold pyk
    rw [ih]
    rfl
theorem goodKv : ∀ (m : Nat) (ps : List (Str × Int)), ps.length ≤ m → (∀ p ∈ ps, goodP 5 1 (.str p.1) = true ∧ goodP 5 1 (.int p.2) = true) →
    PyData.showableKv (ps.map fun p => (PyData.str p.1, PyData.int p.2)) = true ∧ PyData.depthKv (ps.map fun p => (PyData.str p.1, PyData.int p.2)) ≤ 1 ∧ PyData.leavesShortKv 60 (ps.map fun p => (PyData.str p.1, PyData.int p.2)) = true ∧ PyData.weightKv (ps.map fun p => (PyData.str p.1, PyData.int p.2)) ≤ m * 12
  | m, [], _, _ => ⟨rfl, Nat.zero_le _, rfl, Nat.zero_le _⟩
  | 0, p :: r, h, _ => by simp at h
  | m + 1, p :: r, h, a => by
    obtain ⟨a1, a2, a3, a4⟩ := goodKv m r (by simpa using h) fun q hq => a q (List.mem_cons_of_mem _ hq)
    obtain ⟨g1, g2⟩ := a p List.mem_cons_self
    simp only [goodP, Bool.and_eq_true, decide_eq_true_eq] at g1 g2
    rw [List.map_cons]
    refine ⟨?_, ?_, ?_, ?_⟩
    · rw [PyData.showableKv, g1.1.1.1, g2.1.1.1, a1]; rfl
    · rw [PyData.depthKv]; omega
    · rw [PyData.leavesShortKv, g1.1.2, g2.1.2, a3]; rfl
    · rw [PyData.weightKv]
      have := g1.2
      have := g2.2
      omega
theorem encP_GD {ps : List (Str × Int)} (hn : ∀ p ∈ ps, p.1 ∈ pool) (h3 : v3 ps) {m : Nat} (hl : ps.length ≤ m) : GD (m * 12) 2 (encP ps) := by
  have e : py (encP ps) = some (.dict (ps.map fun p => (PyData.str p.1, PyData.int p.2))) := by
    have q := pyk_told ps
    simp only [py, q, Option.map_some]
  obtain ⟨a1, a2, a3, a4⟩ := goodKv m ps hl fun p hp => by
    obtain ⟨x, e1, g1⟩ := pool_GD p.1 (hn p hp)
    obtain ⟨y, e2, g2⟩ := (bit_GD (h3 p hp)).le (W' := 5) (k' := 1) (by decide) (by decide)
    simp only [py] at e1 e2
    cases e1
    cases e2
    exact ⟨g1, g2⟩
  refine ⟨_, e, ?_⟩
  simp only [goodP, PyData.showable, PyData.leavesShort, Bool.and_eq_true]
  exact ⟨⟨⟨a1, decide_eq_true (by simp only [PyData.depth]; omega)⟩, a3⟩, decide_eq_true (by simp only [PyData.weight]; exact a4)⟩
end LW
namespace LW
open PySem PySem.Spec PyProof.Rows L2 GG
/-! sorting by names -/
theorem insS_perm {α : Type} (k : α → Str) (x : α) : ∀ l : List α, (insS k x l).Perm (x :: l)
  | [] => by simp [insS]
  | y :: r => by
    unfold insS
    split
    · exact .refl _
    · exact ((insS_perm k x r).cons y).trans (List.Perm.swap _ _ _)
theorem isort_perm {α : Type} (k : α → Str) : ∀ l : List α, (isort k l).Perm l
  | [] => .refl _
  | x :: r => (insS_perm k x _).trans ((isort_perm k r).cons x)
theorem insS_map {α : Type} (en : α → D) (kf : α → Str) (h : ∀ x, headK (en x) = kf x) (x : α) : ∀ l : List α, insS headK (en x) (l.map en) = (insS kf x l).map en
  | [] => rfl
  | y :: r => by
    rw [List.map_cons]
    unfold insS
    rw [h, h]
    split
    · rfl
    · rw [insS_map en kf h x r]; rfl
theorem isort_map {α : Type} (en : α → D) (kf : α → Str) (h : ∀ x, headK (en x) = kf x) : ∀ l : List α, isort headK (l.map en) = (isort kf l).map en
  | [] => rfl
  | x :: r => by
    rw [List.map_cons]
    unfold isort
    rw [isort_map en kf h r, insS_map en kf h]
theorem tri : ∀ a b : List Nat, a < b ∨ a = b ∨ b < a
  | [], [] => .inr (.inl rfl)
  | [], _ :: _ => .inl (List.nil_lt_cons _ _)
  | _ :: _, [] => .inr (.inr (List.nil_lt_cons _ _))
  | x :: a, y :: b => by
    rw [List.cons_lt_cons_iff, List.cons_lt_cons_iff]
    rcases Nat.lt_trichotomy x y with h | rfl | h
    · exact .inl (.inl h)
    · rcases tri a b with h | rfl | h
      · exact .inl (.inr ⟨rfl, h⟩)
      · exact .inr (.inl rfl)
      · exact .inr (.inr (.inr ⟨rfl, h⟩))
    · exact .inr (.inr (.inl h))
theorem strLt_tot {a b : Str} (h : strLt a b = false) (ne : a ≠ b) : strLt b a = true := by
  simp only [strLt, decide_eq_false_iff_not, decide_eq_true_eq] at h ⊢
  rcases tri a.cps.toList b.cps.toList with q | q | q
  · exact absurd q h
  · refine absurd ?_ ne
    cases a
    cases b
    congr 1
    exact Array.ext' q
  · exact q
theorem strLt_tr {a b c : Str} (h : strLt a b = true) (h2 : strLt b c = true) : strLt a c = true := by
  simp only [strLt, decide_eq_true_eq] at h h2 ⊢
  exact List.lt_trans h h2
abbrev pwN (l : List Str) : Prop := l.Pairwise fun a b => strLt a b = true
theorem pw_asc : ∀ {l : List Str}, pwN l → asc l = true
  | [], _ => rfl
  | [x], _ => rfl
  | x :: y :: r, h => by
    obtain ⟨h1, h2⟩ := List.pairwise_cons.mp h
    have := pw_asc h2
    have h3 := h1 y List.mem_cons_self
    rw [asc]
    simp only [h3, Bool.true_and]
    exact this
theorem ins_pw {α : Type} (k : α → Str) (x : α) : ∀ l : List α, pwN (l.map k) → k x ∉ l.map k → pwN ((insS k x l).map k)
  | [], _, _ => List.pairwise_singleton _ _
  | y :: r, h, ne => by
    have h0 := h
    rw [List.map_cons] at h
    obtain ⟨h1, h2⟩ := List.pairwise_cons.mp h
    unfold insS
    split
    · rename_i q
      rw [List.map_cons]
      refine List.pairwise_cons.mpr ⟨fun z m => ?_, h0⟩
      rw [List.map_cons] at m
      rcases List.mem_cons.mp m with rfl | m
      · exact q
      · exact strLt_tr q (h1 z m)
    · rename_i q
      have q : strLt (k x) (k y) = false := by simpa using q
      rw [List.map_cons] at ne ⊢
      have lt := strLt_tot q fun e => ne (by rw [e]; exact List.mem_cons_self)
      refine List.pairwise_cons.mpr ⟨fun z m => ?_, ins_pw k x r h2 fun m => ne (List.mem_cons_of_mem _ m)⟩
      have := ((insS_perm k x r).map k).mem_iff.mp m
      rw [List.map_cons] at this
      rcases List.mem_cons.mp this with rfl | m
      · exact lt
      · exact h1 z m
theorem isort_pw {α : Type} (k : α → Str) : ∀ l : List α, (l.map k).Nodup → pwN ((isort k l).map k)
  | [], _ => .nil
  | x :: r, nd => by
    rw [List.map_cons] at nd
    obtain ⟨n1, n2⟩ := List.nodup_cons.mp nd
    exact ins_pw k x _ (isort_pw k r n2) fun m => n1 (((isort_perm k r).map k).mem_iff.mp m)
end LW
namespace LW
open PySem PySem.Spec PyProof.Rows L2 GG
/-! sorted names, sorted gates -/
theorem sorted_strs (zs : List Str) (h : zs.length < 64) : mbF .sorted (.lst (zs.map .str)) = some (.lst ((isort id zs).map .str)) := by
  have a : (zs.map D.str).all isStrD = true := by simp [isStrD]
  have q := isort_map D.str id (fun _ => rfl) zs
  simp only [mbF, lstOf, Option.bind_some]
  unfold sortL
  rw [if_pos ⟨a, by simpa using h⟩, q]
  rfl
theorem nodupS_of : ∀ {l : List Str}, l.Nodup → nodupS l = true
  | [], _ => rfl
  | x :: r, h => by
    obtain ⟨h1, h2⟩ := List.nodup_cons.mp h
    have := nodupS_of h2
    simp [nodupS, h1, this]
theorem sorted_gates (gs : List Gt) (h : gs.length < 64) (nd : (gs.map (·.name)).Nodup) : mbF .sorted (.lst (gs.map encG)) = some (.lst ((isort (·.name) gs).map encG)) := by
  have q := isort_map encG (·.name) (fun _ => rfl) gs
  have b : (gs.map encG).all isTupD = true := by simp [isTupD]
  have c : nodupS ((gs.map encG).map headK) = true := by
    rw [List.map_map]
    exact nodupS_of nd
  simp only [mbF, lstOf, Option.bind_some]
  unfold sortL
  split
  · rw [q]; rfl
  · rw [if_pos ⟨b, c, by simpa using h⟩, q]; rfl
end LW
namespace LW
open PySem PySem.Spec PyProof.Rows L2 GG
/-! a sorted drawn circuit is one -/
theorem cok_of {zi : List Str} {gs : List Gt} (hi : zi.all goodN = true) (hg : (gs.map (·.name)).all goodN = true) (nd : (zi ++ gs.map (·.name)).Nodup) (li : zi.length ≤ 12) (lg : gs.length ≤ 200)
    (h : ∀ g ∈ gs, GOk (zi ++ gs.map (·.name)) g) : COk ⟨isort id zi, isort (·.name) gs⟩ := by
  obtain ⟨nd1, nd2, dj⟩ := List.nodup_append.mp nd
  have pi := isort_perm id zi
  have pg := isort_perm (·.name) gs
  have pn := pg.map (·.name)
  have all : ∀ {l m : List Str}, l.Perm m → m.all goodN = true → l.all goodN = true := fun p h => by
    rw [List.all_eq_true] at h ⊢
    exact fun z m => h z (p.mem_iff.mp m)
  refine ⟨all pi hi, ?_, all pn hg, pw_asc (isort_pw _ gs nd2), fun s m m2 => ?_, by rw [pi.length_eq]; exact li, by rw [pg.length_eq]; exact lg, fun g m => ?_⟩
  · have := isort_pw id zi (by simpa using nd1)
    rw [List.map_id] at this
    exact pw_asc this
  · exact dj s (pi.mem_iff.mp m2) s (pn.mem_iff.mp m) rfl
  · have q := h g (pg.mem_iff.mp m)
    refine ⟨fun s ms => ?_, q.sz, q.len, q.bit⟩
    have := q.src s ms
    rcases List.mem_append.mp this with m | m
    · exact List.mem_append.mpr (.inl (pi.mem_iff.mpr m))
    · exact List.mem_append.mpr (.inr (pn.mem_iff.mpr m))
end LW
namespace LW
open PySem PySem.Spec PyProof.Rows L2 GG
/-! drawn gates -/
theorem lst_ne_nil {zs : List Str} (h : zs ≠ []) : opEq true (.lst (zs.map .str)) (.lst []) = some (.bl true) := by
  rw [eq_nilL]
  cases zs with
  | nil => exact absurd rfl h
  | cons _ _ => rfl
theorem e_srcs (n k m : Nat) (zs : List Str) (I T d6 d7 : D) (G : List D) (S : Sto) (hk : k < S.length) (hm : m ≤ 4) (hz : zs ≠ []) (hl : zs.length ≤ 100) :
    ∃ (ss : List Str) (S' : Sto), evE (evF pg (n + 2)) (.lc (.call 26 [(.v 0), (.v 4)]) [8] (.n 8) (.rng [(.v 7)]) []) [.v (.stm k), .v I, .v T, .v (.int 4), .v (.lst (zs.map .str)), .o (.lst G), .v d6, .v (.int (m : Nat)), .u] S = .ok (.lst (ss.map .str)) S' ∧ ss.length = m ∧ (∀ s ∈ ss, s ∈ zs) ∧ S'.length = S.length := by
  have im := iterR_m hm
  obtain ⟨ys, S1, e, p, hl1⟩ := lc_ex (cl := evF pg (n + 2)) (ε := [.v (.stm k), .v I, .v T, .v (.int 4), .v (.lst (zs.map .str)), .o (.lst G), .v d6, .v (.int (m : Nat)), .u]) (S := S) (e := .call 26 [(.v 0), (.v 4)]) (own := [8]) (i := 8) (it := .rng [(.v 7)]) (S1 := S) (b := true) (xs := rngI m) (en := .int)
    (ε' := [.v (.stm k), .v I, .v T, .v (.int 4), .v (.lst (zs.map .str)), .o (.lst G), .v d6, .v (.int (m : Nat)), .u]) (fun _ y => ∃ s : Str, y = .str s ∧ s ∈ zs) (by dsimp! [im]) (by simp) (by dsimp! []) (fun x _ S2 h2 => by
      obtain ⟨d, S3, e, hd, h3⟩ := e_pickL n k (zs.map .str) S2 (by omega) (by cases zs with
        | nil => exact absurd rfl hz
        | cons _ _ => simp) (by simp only [List.length_map]; omega)
      obtain ⟨s, ms, rfl⟩ := List.mem_map.mp hd
      exact ⟨.str s, S3, by dsimp! [e], ⟨s, rfl, ms⟩, by omega⟩)
  obtain ⟨ss, rfl, q, hss⟩ := p.pick
  exact ⟨ss, S1, e, by rw [hss]; simp [rngI], q, hl1⟩
end LW
namespace LW
open PySem PySem.Spec PyProof.Rows L2 GG
/-! a drawn gate -/
abbrev cgB : List Sm := [.set (.n 7) (.ix (.lst [(.c (.int 1)), (.c (.int 2)), (.c (.int 2)), (.c (.int 2)), (.c (.int 3)), (.c (.int 3)), (.c (.int 0)), (.c (.int 4))]) (.call 25 [(.v 0), (.c (.int 8))])), .set (.n 7) (.ife (.cmp .NotEq (.v 4) (.lst [])) (.bi .min [(.v 7), (.v 3)]) (.c (.int 0))), .app 5 (.tup [(.v 6), (.bi .tuple [(.lc (.call 26 [(.v 0), (.v 4)]) [8] (.n 8) (.rng [(.v 7)]) [])]), (.call 31 [(.v 0), (.v 7)])])]
theorem size_ix {r : Nat} (h : r < 8) : ∃ m : Nat, m ≤ 4 ∧ opIx (.lst [.int 1, .int 2, .int 2, .int 2, .int 3, .int 3, .int 0, .int 4]) (.int (r : Nat)) = some (.int (m : Nat)) := by
  match r, h with
  | 0, _ => exact ⟨1, by decide, rfl⟩
  | 1, _ => exact ⟨2, by decide, rfl⟩
  | 2, _ => exact ⟨2, by decide, rfl⟩
  | 3, _ => exact ⟨2, by decide, rfl⟩
  | 4, _ => exact ⟨3, by decide, rfl⟩
  | 5, _ => exact ⟨3, by decide, rfl⟩
  | 6, _ => exact ⟨0, by decide, rfl⟩
  | 7, _ => exact ⟨4, by decide, rfl⟩
theorem cg_body (n k : Nat) (z : Str) (zs : List Str) (gs : List Gt) (I T : D) (s7 : Sl) (S : Sto) (hk : k < S.length) (hz : zs ≠ []) (hl : zs.length ≤ 100) (hg : gs.length ≤ 100) :
    ∃ (g : Gt) (m : Nat) (S' : Sto), evSs (evF pg (n + 2)) cgB [.v (.stm k), .v I, .v T, .v (.int 4), .v (.lst (zs.map .str)), .o (.lst (gs.map encG)), .v (.str z), s7, .u] S = .ok (.nx [.v (.stm k), .v I, .v T, .v (.int 4), .v (.lst (zs.map .str)), .o (.lst ((gs ++ [g]).map encG)), .v (.str z), .v (.int (m : Nat)), .u]) S' ∧ g.name = z ∧ GOk zs g ∧ S'.length = S.length := by
  obtain ⟨r, S1, e1, hr, l1⟩ := e_draw (n + 1) k 8 S hk (by decide) (by decide)
  obtain ⟨m, hm, hi⟩ := size_ix (r := r) (by omega)
  obtain ⟨ss, S2, e2, q1, q2, l2⟩ := e_srcs n k m zs I T (.str z) (.str z) (gs.map encG) S1 (by omega) hm hz hl
  obtain ⟨t, S3, e3, q3, q4, l3⟩ := e_table n S2 k m (by omega) hm
  refine ⟨⟨z, ss, t⟩, m, S3, ?_, rfl, ⟨q2, by rw [q1]; exact hm, by rw [q4, q1], q3⟩, by omega⟩
  have ne := lst_ne_nil hz
  have mn : ¬ ((4 : Int) < (m : Nat)) := by omega
  have lb : gs.length < 16777216 := by omega
  have st : D.stills (ss.map .str) = true := still_strs ss
  have a : evSs (evF pg (n + 2)) (cgB.take 2) [.v (.stm k), .v I, .v T, .v (.int 4), .v (.lst (zs.map .str)), .o (.lst (gs.map encG)), .v (.str z), s7, .u] S = .ok (.nx [.v (.stm k), .v I, .v T, .v (.int 4), .v (.lst (zs.map .str)), .o (.lst (gs.map encG)), .v (.str z), .v (.int (m : Nat)), .u]) S1 := by
    dsimp! [e1, ↓hi, ↓ne, mn]
  rw [st_cut 2 a]
  dsimp! [↓e2, e3, lb]
end LW
namespace LW
open PySem PySem.Spec PyProof.Rows L2 GG
/-! all drawn gates -/
theorem cg_loop (n k : Nat) (zs : List Str) (I T : D) (hz : zs ≠ []) (hl : zs.length ≤ 100) : ∀ (todo : List Str) (gs : List Gt) (s6 s7 : Sl) (S : Sto), k < S.length → gs.length + todo.length ≤ 100 →
    ∃ (gs' : List Gt) (s6' s7' : Sl) (S' : Sto), forLoop (tgS (.n 6)) (evSs (evF pg (n + 2)) cgB) (todo.map .str) [.v (.stm k), .v I, .v T, .v (.int 4), .v (.lst (zs.map .str)), .o (.lst (gs.map encG)), s6, s7, .u] S =
      .ok (.nx [.v (.stm k), .v I, .v T, .v (.int 4), .v (.lst (zs.map .str)), .o (.lst ((gs ++ gs').map encG)), s6', s7', .u]) S' ∧ gs'.map (·.name) = todo ∧ (∀ g ∈ gs', GOk zs g) ∧ S'.length = S.length
  | [], gs, s6, s7, S, _, _ => ⟨[], s6, s7, S, by rw [List.append_nil]; rfl, rfl, fun g m => absurd m List.not_mem_nil, rfl⟩
  | z :: r, gs, s6, s7, S, hk, hn => by
    rw [List.length_cons] at hn
    obtain ⟨g, m, S1, e1, q1, q2, l1⟩ := cg_body n k z zs gs I T s7 S hk hz hl (by omega)
    obtain ⟨gs', s6', s7', S2, e2, q3, q4, l2⟩ := cg_loop n k zs I T hz hl r (gs ++ [g]) (.v (.str z)) (.v (.int (m : Nat))) S1 (by omega) (by rw [List.length_append, List.length_singleton]; omega)
    refine ⟨g :: gs', s6', s7', S2, ?_, by rw [List.map_cons, q1, q3], fun x hx => ?_, by omega⟩
    · rw [List.map_cons, fl_cons (ε1 := [.v (.stm k), .v I, .v T, .v (.int 4), .v (.lst (zs.map .str)), .o (.lst (gs.map encG)), .v (.str z), s7, .u]) (by dsimp! []), e1]
      rw [List.append_assoc] at e2
      exact e2
    · rcases List.mem_cons.mp hx with rfl | hx
      · exact q2
      · exact q4 x hx
end LW
namespace LW
open PySem PySem.Spec PyProof.Rows L2 GG
/-! a drawn circuit -/
theorem e_law_circuit (n k I T : Nat) (S : Sto) (hk : k < S.length) (hI : I ≤ 3) (hT : 1 ≤ T ∧ T ≤ 8) :
    ∃ (c : Ct) (S' : Sto), evF pg (n + 4) 32 [.stm k, .int (I : Nat), .int (T : Nat), .int 4] S = .ok (encC c) S' ∧ COk c ∧ c.ins.length = I ∧ c.gs.length = T ∧ (∀ z ∈ names c, z ∈ pool) ∧ S'.length = S.length := by
  obtain ⟨zs, S1, e1, q1, nd, gd, pl, l1⟩ := e_names n k (I + T) S (by omega) hk
  have hz : zs ≠ [] := fun e => by rw [e] at q1; simp at q1; omega
  obtain ⟨gs, s6, s7, S2, e2, q2, q3, l2⟩ := cg_loop (n + 1) k zs (.int (I : Nat)) (.int (T : Nat)) hz (by omega) (zs.drop I) [] .u .u S1 (by omega) (by simp; omega)
  have ta : zs.take I ++ gs.map (·.name) = zs := by rw [q2]; exact List.take_append_drop I zs
  have lg : gs.length = T := by
    have := congrArg List.length q2
    simp only [List.length_map, List.length_drop] at this
    omega
  have li : (zs.take I).length = I := by rw [List.length_take]; omega
  have ok : COk ⟨isort id (zs.take I), isort (·.name) gs⟩ := cok_of (List.all_eq_true.mpr fun z m => List.all_eq_true.mp gd z (List.mem_of_mem_take m)) (by rw [q2]; exact List.all_eq_true.mpr fun z m => List.all_eq_true.mp gd z (List.mem_of_mem_drop m)) (by rw [ta]; exact nd) (by omega) (by omega) (by rw [ta]; exact q3)
  refine ⟨⟨isort id (zs.take I), isort (·.name) gs⟩, S2, ?_, ok, by rw [(isort_perm id _).length_eq, li], by rw [(isort_perm _ gs).length_eq, lg], fun z m => pl z ?_, by omega⟩
  · rw [u_fn (n + 3) (f := d__law_circuit) rfl rfl]
    have a := sorted_strs (zs.take I) (by omega)
    have b := sorted_gates gs (by omega) (by rw [q2]; exact nd.sublist (List.drop_sublist _ _))
    have c1 : opSl (.lst (zs.map .str)) (some (I : Nat)) none = some (.lst ((zs.drop I).map .str)) := by
      simp only [opSl, cut_drop]; rw [List.map_drop]
    have c2 : opSl (.lst (zs.map .str)) none (some (I : Nat)) = some (.lst ((zs.take I).map .str)) := by
      simp only [opSl, cut_take]; rw [List.map_take]
    have it : ((I : Nat) : Int) + ((T : Nat) : Int) = ((I + T : Nat) : Int) := by omega
    rw [List.map_nil, List.nil_append] at e2
    generalize hK : ((I + T : Nat) : Int) = K at e1 it
    generalize hA : zs.take I = A at a c2
    generalize hB : zs.drop I = B at c1 e2
    refine fn_ret ?_
    simp_all! [d__law_circuit, b__law_circuit, it, e1, ↓c1, ↓c2, ↓e2, ↓a, ↓b]
  · rw [← ta]
    rcases List.mem_append.mp m with m | m
    · exact List.mem_append.mpr (.inl ((isort_perm id _).mem_iff.mp m))
    · exact List.mem_append.mpr (.inr (((isort_perm (·.name) gs).map (·.name)).mem_iff.mp m))
end LW
namespace LW
open PySem PySem.Spec PyProof.Rows L2 GG
/-! bent leaves -/
/-- what a drawn name is compared with -/
def okF : D → Bool
  | .str _ | .int _ | .non | .bl _ | .tup _ => true
  | _ => false
def leafB (d : D) : Bool := gdB 60 2 d && okF d
def intEx : Ex := .lst [(.bop .Sub (.c (.int 1)) (.v 1)), (.bop .Add (.v 1) (.c (.int 1))), (.bop .Sub (.v 1) (.c (.int 1))), (.cmp .Eq (.v 1) (.c (.int 1))), (.bi .str [(.v 1)]), (.c .non), (.bop .Mult (.c (.int 2)) (.v 1))]
def strEx : Ex := .lst [(.bop .Add (.v 1) (.c (.str "x"))), (.sl (.v 1) [] [(.neg (.c (.int 1)))]), (.me .upper (.v 1) []), (.c (.str "zzz")), (.c (.str "zz top")), (.c .non), (.c (.int 0))]
def intL : Int → List D
  | 0 => [.int 1, .int 1, .int (-1), .bl false, .str "0", .non, .int 0]
  | 1 => [.int 0, .int 2, .int 0, .bl true, .str "1", .non, .int 2]
  | 2 => [.int (-1), .int 3, .int 1, .bl false, .str "2", .non, .int 4]
  | _ => [.int (-2), .int 4, .int 2, .bl false, .str "3", .non, .int 6]
theorem intL_ok : ∀ i : Int, (intL i).all leafB = true ∧ (intL i).length = 7 := fun i => by
  unfold intL
  split <;> exact ⟨by decide +kernel, rfl⟩
theorem int_ev (cl : Nat → List D → Sto → Out D) (S : Sto) (k : D) (j : D) {i : Int} (h : 0 ≤ i ∧ i ≤ 3) : evE cl intEx [.v k, .v (.int i), .v j, .u, .u] S = .ok (.lst (intL i)) S := by
  have q : i = 0 ∨ i = 1 ∨ i = 2 ∨ i = 3 := by omega
  rcases q with rfl | rfl | rfl | rfl <;> kernel_rfl
def strL (z : Str) : List D := [.str (z ++ "x"), .str (cutS z none (some (-1))), .str (Txt.upper z), .str "zzz", .str "zz top", .non, .int 0]
theorem strL_ok : ∀ z ∈ pool, (strL z).all leafB = true := by decide +kernel
theorem str_ev (cl : Nat → List D → Sto → Out D) (S : Sto) (k : D) (j : D) {z : Str} (h : z ∈ pool) : evE cl strEx [.v k, .v (.str z), .v j, .u, .u] S = .ok (.lst (strL z)) S := by
  have l : ∀ z ∈ pool, z.length ≤ 6 := by decide +kernel
  have l := l z h
  have l1 : z.length + 1 ≤ 16777216 := by omega
  have l2 : z.length ≤ 16777216 := by omega
  have l3 : z.length ≤ 5592405 := by omega
  have x1 : Str.length "x" = 1 := by decide +kernel
  simp_all! [strEx, opSl, l1, l2, l3, meF, strL, x1]
theorem e_bent_int (n k j : Nat) (i : Int) (S : Sto) (hk : k < S.length) (h : 0 ≤ i ∧ i ≤ 3) :
    ∃ d S', evF pg (n + 3) 40 [.stm k, .int i, .int (j : Nat)] S = .ok d S' ∧ leafB d = true ∧ S'.length = S.length := by
  obtain ⟨a, b⟩ := intL_ok i
  obtain ⟨d, S', e, m, l⟩ := e_pickL n k (intL i) S hk (by omega) (by omega)
  refine ⟨d, S', ?_, List.all_eq_true.mp a d m, l⟩
  (rw [u_fn (n + 2) (f := d__law_bent) rfl rfl]; unfold runF)
  have q := fun S => int_ev (evF pg (n + 2)) S (.stm k) (.int (j : Nat)) h
  unfold intEx at q
  simp_all! [d__law_bent, b__law_bent, ↓q, e]
theorem e_bent_str (n k j : Nat) (z : Str) (S : Sto) (hk : k < S.length) (h : z ∈ pool) :
    ∃ d S', evF pg (n + 3) 40 [.stm k, .str z, .int (j : Nat)] S = .ok d S' ∧ leafB d = true ∧ S'.length = S.length := by
  obtain ⟨d, S', e, m, l⟩ := e_pickL n k (strL z) S hk (by simp [strL]) (by simp [strL])
  refine ⟨d, S', ?_, List.all_eq_true.mp (strL_ok z h) d m, l⟩
  (rw [u_fn (n + 2) (f := d__law_bent) rfl rfl]; unfold runF)
  have q := fun S => str_ev (evF pg (n + 2)) S (.stm k) (.int (j : Nat)) h
  unfold strEx at q
  simp_all! [d__law_bent, b__law_bent, ↓q, e]
theorem e_bent_nil (n k j : Nat) (S : Sto) (hk : k < S.length) :
    ∃ d S', evF pg (n + 4) 40 [.stm k, .tup [], .int (j : Nat)] S = .ok d S' ∧ d ∈ odds ∧ S'.length = S.length := by
  obtain ⟨d, S', e, m, l⟩ := e_odd n k S hk
  refine ⟨d, S', ?_, m, l⟩
  (rw [u_fn (n + 3) (f := d__law_bent) rfl rfl]; unfold runF)
  simp_all! [d__law_bent, b__law_bent, e]
end LW
namespace LW
open PySem PySem.Spec PyProof.Rows L2 GG
/-! bent tuples -/
theorem slT_take (ds : List D) (r : Nat) : opSl (.tup ds) none (some ((r : Nat) : Int)) = some (.tup (ds.take r)) := by simp only [opSl, cut_take]
theorem slT_drop (ds : List D) (r : Nat) : opSl (.tup ds) (some ((r : Nat) : Int)) none = some (.tup (ds.drop r)) := by simp only [opSl, cut_drop]
theorem slT_drop1 (ds : List D) (r : Nat) : opSl (.tup ds) (some ((r : Nat) + 1 : Int)) none = some (.tup (ds.drop (r + 1))) := slT_drop ds (r + 1)
theorem ixT {ds : List D} {r : Nat} (h : r < ds.length) : opIx (.tup ds) (.int ((r : Nat) : Int)) = some ds[r] := by
  simp only [opIx, keysOf, seqOf, Option.bind_some, atI_nat h]
/-- a bent tuple: its own things, in some order, or one of them replaced -/
def Bent (ds : List D) (R : Nat → D → Prop) (d : D) : Prop :=
  (∃ es : List D, (d = .tup es ∨ d = .lst es) ∧ es.length ≤ ds.length + 1 ∧ ∀ x ∈ es, x ∈ ds) ∨ ∃ (r : Nat) (e : D), r < ds.length ∧ d = .tup (ds.take r ++ e :: ds.drop (r + 1)) ∧ R r e
theorem e_bent_tup (n k j : Nat) (ds : List D) (R : Nat → D → Prop) (S : Sto) (hk : k < S.length) (hne : ds ≠ []) (hl : ds.length ≤ 100)
    (rec : ∀ (r : Nat) (h : r < ds.length) (S : Sto), k < S.length → ∃ e S', evF pg (n + 1) 40 [.stm k, ds[r], .int (j : Nat)] S = .ok e S' ∧ R r e ∧ S'.length = S.length) :
    ∃ d S', evF pg (n + 2) 40 [.stm k, .tup ds, .int ((j : Nat) + 1)] S = .ok d S' ∧ Bent ds R d ∧ S'.length = S.length := by
  have lp := List.length_pos_iff.mpr hne
  obtain ⟨r, S1, e1, hr, l1⟩ := e_draw n k ds.length S hk (by omega) (by omega)
  obtain ⟨w, S2, e2, hw, l2⟩ := e_draw n k 7 S1 (by omega) (by decide) (by decide)
  have hr' : r < ds.length := by omega
  have a1 := slT_take ds r
  have a2 := slT_drop ds r
  have a3 := slT_drop1 ds r
  have a4 := ixT hr'
  have h1 : ds.length ≠ 0 := by omega
  have h2 : (0 : Int) < (j : Int) + 1 := by omega
  have c1 : (ds.take r).length + (ds.drop (r + 1)).length ≤ 16777216 := by simp only [List.length_take, List.length_drop]; omega
  have c2 : (ds.take r).length + 1 ≤ 16777216 := by simp only [List.length_take]; omega
  have c3 : (ds.take r).length + (ds.drop r).length ≤ 16777216 := by simp only [List.length_take, List.length_drop]; omega
  have st : ∀ x ∈ ds.take r, x ∈ ds := fun x m => List.mem_of_mem_take m
  have sd : ∀ i, ∀ x ∈ ds.drop i, x ∈ ds := fun i x m => List.mem_of_mem_drop m
  by_cases w0 : w = 0
  · subst w0
    refine ⟨.tup (ds.take r ++ ds.drop (r + 1)), S2, ?_, .inl ⟨_, .inl rfl, by simp; omega, fun x m => (List.mem_append.mp m).elim (st x) (sd _ x)⟩, by omega⟩
    (rw [u_fn (n + 1) (f := d__law_bent) rfl rfl]; unfold runF)
    simp only [List.length_take, List.length_drop] at c1
    simp_all! [d__law_bent, b__law_bent, e1, e2, ↓a1, ↓a2, ↓a3, h1, h2, c1, hne, lp]
  by_cases w1 : w = 1
  · subst w1
    refine ⟨.tup (ds.take (r + 1) ++ ds.drop r), S2, ?_, .inl ⟨_, .inl rfl, by simp; omega, fun x m => (List.mem_append.mp m).elim List.mem_of_mem_take (sd _ x)⟩, by omega⟩
    (rw [u_fn (n + 1) (f := d__law_bent) rfl rfl]; unfold runF)
    have c4 : min (r + 1) ds.length + (ds.length - r) ≤ 16777216 := by omega
    simp only [List.length_take] at c2
    simp_all! [d__law_bent, b__law_bent, e1, e2, ↓a1, ↓a2, ↓a3, ↓a4, h1, h2, c2, c4, hne, lp]
  by_cases w2 : w = 2
  · subst w2
    refine ⟨.tup (ds.take r ++ (ds.drop r).reverse), S2, ?_, .inl ⟨_, .inl rfl, by simp; omega, fun x m => (List.mem_append.mp m).elim (st x) fun m => sd _ x (List.mem_reverse.mp m)⟩, by omega⟩
    (rw [u_fn (n + 1) (f := d__law_bent) rfl rfl]; unfold runF)
    simp only [List.length_take, List.length_drop] at c3
    simp_all! [d__law_bent, b__law_bent, e1, e2, ↓a1, ↓a2, ↓a3, ↓a4, h1, h2, c3, hne, lp, opRev]
  by_cases w3 : w = 3
  · subst w3
    refine ⟨.lst ds, S2, ?_, .inl ⟨_, .inr rfl, by omega, fun x m => m⟩, by omega⟩
    (rw [u_fn (n + 1) (f := d__law_bent) rfl rfl]; unfold runF)
    simp_all! [d__law_bent, b__law_bent, e1, e2, ↓a1, ↓a2, ↓a3, ↓a4, h1, h2, hne, lp]
  obtain ⟨e, S3, e3, q, l3⟩ := rec r hr' S2 (by omega)
  refine ⟨.tup (ds.take r ++ e :: ds.drop (r + 1)), S3, ?_, .inr ⟨r, e, hr', rfl, q⟩, by omega⟩
  (rw [u_fn (n + 1) (f := d__law_bent) rfl rfl]; unfold runF)
  have c4 : min r ds.length + 1 + (ds.length - (r + 1)) ≤ 16777216 := by omega
  simp only [List.length_take] at c2
  have hj : (j : Int) + 1 - 1 = j := by omega
  have w1' : ¬ (w : Int) = 1 := by omega
  have w2' : ¬ (w : Int) = 2 := by omega
  have w3' : ¬ (w : Int) = 3 := by omega
  simp_all! [w1', w2', w3', d__law_bent, b__law_bent, e1, e2, ↓a1, ↓a2, ↓a3, ↓a4, h1, h2, hne, lp, w0, w1, w2, w3, e3, hj, c2, c4]
end LW
namespace LW
open PySem PySem.Spec PyProof.Rows L2 GG
/-! bent lines -/
def P1 : D → Bool
  | .tup (e :: _) => okF e
  | _ => true
def Pc (d : D) : Prop := GD 305 5 d
def Ln (d : D) : Prop := GD 1224 6 d ∧ P1 d = true
def Th (d : D) : Prop := GD 8575 7 d ∧ ∀ ds, d = .tup ds → ds.length ≤ 7 ∧ ∀ x ∈ ds, P1 x = true
theorem leaf_GD {d : D} (h : leafB d = true) : GD 60 2 d ∧ okF d = true := by
  simp only [leafB, Bool.and_eq_true] at h
  exact ⟨GD.ofB h.1, h.2⟩
theorem ig {i : Int} (h : -2 ≤ i ∧ i ≤ 5) : GD 4 1 (.int i) := by
  have q : i = -2 ∨ i = -1 ∨ i = 0 ∨ i = 1 ∨ i = 2 ∨ i = 3 ∨ i = 4 ∨ i = 5 := by omega
  rcases q with rfl | rfl | rfl | rfl | rfl | rfl | rfl | rfl <;> exact GD.ofB (by decide +kernel)
theorem ints_GD {ws : List Int} (h : ∀ w ∈ ws, -2 ≤ w ∧ w ≤ 5) {m : Nat} (hl : ws.length ≤ m) : GD (m * 5) 2 (tb ws) :=
  GD.tup (by simpa using hl) fun d hd => by
    obtain ⟨i, hi, rfl⟩ := List.mem_map.mp hd
    exact ig (h i hi)
theorem ln_tup {ds : List D} (h : ds.length ≤ 4) (a : ∀ d ∈ ds, Pc d) (o : ∀ d ∈ ds.head?, okF d = true) : Ln (.tup ds) := by
  refine ⟨GD.tup h a, ?_⟩
  cases ds with
  | nil => rfl
  | cons x r => exact o x rfl
theorem ln_lst {ds : List D} (h : ds.length ≤ 4) (a : ∀ d ∈ ds, Pc d) : Ln (.lst ds) := ⟨GD.lst h a, rfl⟩
theorem th_tup {ds : List D} (h : ds.length ≤ 7) (a : ∀ d ∈ ds, Ln d) : Th (.tup ds) :=
  ⟨GD.tup h fun d m => (a d m).1, fun es e => by cases e; exact ⟨h, fun x m => (a x m).2⟩⟩
theorem th_lst {ds : List D} (h : ds.length ≤ 7) (a : ∀ d ∈ ds, Ln d) : Th (.lst ds) :=
  ⟨GD.lst h fun d m => (a d m).1, fun es e => by cases e⟩
/-- a drawn line -/
structure LF (c : Ct) (d : D) (z : Str) (b : Int) (ws : List Int) : Prop where
  e : d = .tup [.str z, .int b, tb ws]
  z : z ∈ gN c
  b : b = 0 ∨ b = 1
  l : ws.length ≤ 4
  w : ∀ w ∈ ws, 0 ≤ w ∧ w ≤ 3
def LineF (c : Ct) (d : D) : Prop := ∃ z b ws, LF c d z b ws
theorem pc_str {z : Str} (h : z ∈ pool) : Pc (.str z) := (pool_GD z h).le (by decide) (by decide)
theorem pc_int {i : Int} (h : -2 ≤ i ∧ i ≤ 5) : Pc (.int i) := (ig h).le (by decide) (by decide)
theorem pc_ws {ws : List Int} (h : ∀ w ∈ ws, -2 ≤ w ∧ w ≤ 5) (hl : ws.length ≤ 5) : Pc (tb ws) := (ints_GD h hl).le (by decide) (by decide)
theorem pc_leaf {d : D} (h : leafB d = true) : Pc d := (leaf_GD h).1.le (by decide) (by decide)
theorem pc_odd {d : D} (h : d ∈ odds) : Pc d := (odds_good d h).le (by decide) (by decide)
theorem LineF.ln {c : Ct} {d : D} (hp : ∀ z ∈ gN c, z ∈ pool) (h : LineF c d) : Ln d := by
  obtain ⟨z, b, ws, h⟩ := h
  rw [h.e]
  refine ln_tup (by simp) (fun x m => ?_) (fun x m => by cases m; rfl)
  simp only [List.mem_cons, List.not_mem_nil, or_false] at m
  rcases m with rfl | rfl | rfl
  · exact pc_str (hp z h.z)
  · exact pc_int (by rcases h.b with e | e <;> rw [e] <;> decide)
  · exact pc_ws (fun w m => by have := h.w w m; omega) (by have := h.l; omega)
theorem e_bent_wires (n k j : Nat) (ws : List Int) (S : Sto) (hk : k < S.length) (hl : ws.length ≤ 4) (hw : ∀ w ∈ ws, 0 ≤ w ∧ w ≤ 3) :
    ∃ d S', evF pg (n + 4) 40 [.stm k, tb ws, .int ((j : Nat) + 1)] S = .ok d S' ∧ Pc d ∧ S'.length = S.length := by
  cases ws with
  | nil =>
    obtain ⟨d, S', e, m, l⟩ := e_bent_nil n k (j + 1) S hk
    exact ⟨d, S', e, pc_odd m, l⟩
  | cons w0 ws0 =>
    generalize he : w0 :: ws0 = ws at hl hw
    have hne : ws ≠ [] := by rw [← he]; simp
    obtain ⟨d, S', e, q, l⟩ := e_bent_tup (n + 2) k j (ws.map .int) (fun _ d => leafB d = true) S hk (by simpa using hne) (by simp; omega) (fun r h S hk => by
      have h' : r < ws.length := by simpa using h
      have := hw ws[r] (List.getElem_mem h')
      obtain ⟨d, S', e, q, l⟩ := e_bent_int n k j ws[r] S hk (by omega)
      exact ⟨d, S', by simpa using e, q, l⟩)
    refine ⟨d, S', e, ?_, l⟩
    have g : ∀ x ∈ ws.map D.int, GD 60 2 x := fun x m => by
      obtain ⟨i, hi, rfl⟩ := List.mem_map.mp m
      exact (ig (by have := hw i hi; omega)).le (by decide) (by decide)
    rcases q with ⟨es, rfl | rfl, h1, h2⟩ | ⟨r, e, h1, rfl, h2⟩
    · exact (GD.tup (W := 60) (k := 2) (m := 5) (by simp at h1; omega) fun x m => g x (h2 x m)).le (by decide) (by decide)
    · exact (GD.lst (W := 60) (k := 2) (m := 5) (by simp at h1; omega) fun x m => g x (h2 x m)).le (by decide) (by decide)
    · refine (GD.tup (W := 60) (k := 2) (m := 5) (by simp; omega) fun x m => ?_).le (by decide) (by decide)
      rcases List.mem_append.mp m with m | m
      · exact g x (List.mem_of_mem_take m)
      · rcases List.mem_cons.mp m with rfl | m
        · exact (leaf_GD h2).1
        · exact g x (List.mem_of_mem_drop m)
theorem e_bent_line (n k j : Nat) (c : Ct) (d : D) (S : Sto) (hp : ∀ z ∈ gN c, z ∈ pool) (hk : k < S.length) (h : LineF c d) :
    ∃ e S', evF pg (n + 5) 40 [.stm k, d, .int ((j : Nat) + 1 + 1)] S = .ok e S' ∧ Ln e ∧ S'.length = S.length := by
  obtain ⟨z, b, ws, h⟩ := h
  obtain ⟨rfl, hz, hb, hl, hw⟩ := h
  obtain ⟨e, S', q, h1, l⟩ := e_bent_tup (n + 3) k (j + 1) [.str z, .int b, tb ws] (fun r d => Pc d ∧ (r = 0 → okF d = true)) S hk (by simp) (by simp) (fun r h S hk => by
    match r, h with
    | 0, _ =>
      obtain ⟨d, S', e, q, l⟩ := e_bent_str (n + 1) k (j + 1) z S hk (hp z hz)
      exact ⟨d, S', e, ⟨pc_leaf q, fun _ => (leaf_GD q).2⟩, l⟩
    | 1, _ =>
      obtain ⟨d, S', e, q, l⟩ := e_bent_int (n + 1) k (j + 1) b S hk (by omega)
      exact ⟨d, S', e, ⟨pc_leaf q, fun z => by cases z⟩, l⟩
    | 2, _ =>
      obtain ⟨d, S', e, q, l⟩ := e_bent_wires n k j ws S hk hl hw
      exact ⟨d, S', e, ⟨q, fun z => by cases z⟩, l⟩)
  refine ⟨e, S', by simpa using q, ?_, l⟩
  have g : ∀ x ∈ [D.str z, .int b, tb ws], Pc x ∧ okF x = true := fun x m => by
    simp only [List.mem_cons, List.not_mem_nil, or_false] at m
    rcases m with rfl | rfl | rfl
    · exact ⟨pc_str (hp z hz), rfl⟩
    · exact ⟨pc_int (by omega), rfl⟩
    · exact ⟨pc_ws (fun w m => by have := hw w m; omega) (by omega), rfl⟩
  rcases h1 with ⟨es, rfl | rfl, h1, h2⟩ | ⟨r, e, h1, rfl, h2⟩
  · exact ln_tup h1 (fun x m => (g x (h2 x m)).1) fun x m => (g x (h2 x (List.mem_of_mem_head? m))).2
  · exact ln_lst h1 fun x m => (g x (h2 x m)).1
  · refine ln_tup (by simp at h1 ⊢; omega) (fun x m => ?_) fun x m => ?_
    · rcases List.mem_append.mp m with m | m
      · exact (g x (List.mem_of_mem_take m)).1
      · rcases List.mem_cons.mp m with rfl | m
        · exact h2.1
        · exact (g x (List.mem_of_mem_drop m)).1
    · match r, m with
      | 0, m => cases m; exact h2.2 rfl
      | r + 1, m => cases m; rfl
theorem e_bent_lines (n k : Nat) (c : Ct) (ds : List D) (S : Sto) (hp : ∀ z ∈ gN c, z ∈ pool) (hk : k < S.length) (hne : ds ≠ []) (hl : ds.length ≤ 6) (h : ∀ d ∈ ds, LineF c d) :
    ∃ e S', evF pg (n + 6) 40 [.stm k, .tup ds, .int 3] S = .ok e S' ∧ Th e ∧ S'.length = S.length := by
  obtain ⟨e, S', q, h1, l⟩ := e_bent_tup (n + 4) k 2 ds (fun _ d => Ln d) S hk hne (by omega) (fun r h' S hk => e_bent_line n k 0 c ds[r] S hp hk (h _ (List.getElem_mem h')))
  refine ⟨e, S', q, ?_, l⟩
  have g : ∀ x ∈ ds, Ln x := fun x m => (h x m).ln hp
  rcases h1 with ⟨es, rfl | rfl, h1, h2⟩ | ⟨r, e, h1, rfl, h2⟩
  · exact th_tup (by omega) fun x m => g x (h2 x m)
  · exact th_lst (by omega) fun x m => g x (h2 x m)
  · refine th_tup (by simp; omega) fun x m => ?_
    rcases List.mem_append.mp m with m | m
    · exact g x (List.mem_of_mem_take m)
    · rcases List.mem_cons.mp m with rfl | m
      · exact h2
      · exact g x (List.mem_of_mem_drop m)
end LW
namespace LW
open PySem PySem.Spec PyProof.Rows L2 GG
/-! lines that are able -/
theorem filO_sub {α β : Type} {c : α → Sto → Out Bool} {f : α → β} (L : Nat) : ∀ {xs : List α} {S : Sto}, S.length = L → (∀ x ∈ xs, ∀ S, S.length = L → ∃ b S', c x S = .ok b S' ∧ S'.length = L) →
    ∃ (ys : List α) (S' : Sto), filO c (fun x S => .ok (f x) S) xs S = .ok (ys.map f) S' ∧ ys.Sublist xs ∧ S'.length = L
  | [], S, hS, _ => ⟨[], S, rfl, .slnil, hS⟩
  | x :: r, S, hS, h => by
    obtain ⟨b, S1, e, h1⟩ := h x List.mem_cons_self S hS
    obtain ⟨ys, S2, e2, p, h2⟩ := filO_sub (f := f) L h1 fun x m => h x (List.mem_cons_of_mem _ m)
    cases b
    · exact ⟨ys, S2, by unfold filO; rw [e, bind_ok, if_neg (by simp), e2], p.cons _, h2⟩
    · exact ⟨x :: ys, S2, by unfold filO; rw [e, bind_ok, if_pos rfl, bind_ok, e2, bind_ok, List.map_cons], p.cons₂ _, h2⟩
def AL (c : Ct) (told : List (Str × Int)) (d : D) : Prop := ∃ z b ws, LF c d z b ws ∧ z ∉ told.map (·.1)
def alIn : List Sm := [.set (.n 10) (.tup [(.ix (.v 5) (.c (.int 0))), (.call 30 [(.ix (.v 5) (.c (.int 2))), (.v 6)]), (.v 9)]), .ife (.and (.cmp .NotEq (.ix (.v 10) (.c (.int 1))) (.c (.int 2))) [(.call 37 [(.v 1), (.v 2), (.v 3), (.v 10)])]) [.app 4 (.v 10)] []]
theorem al_in (n k : Nat) (c : Ct) (ps told : List (Str × Int)) (g : Gt) (found : List D) (ab : List D) (sm : D) (ws : List Int) (s10 : Sl) (S : Sto) (h : COk c) (h3 : v3 ps) (t3 : v3 told) (hg : g ∈ c.gs) (hl : found.length ≤ 1000) (hw : ws.length ≤ 4 ∧ ∀ w ∈ ws, 0 ≤ w ∧ w ≤ 3) :
    ∃ (X : List D) (d10 : D), evSs (evF pg (n + 2)) alIn [.v (.stm k), .v (encC c), .v (encP ps), .v (encP told), .o (.lst found), .v (encG g), .v (tb (g.src.map (val ps told))), .o (.lst ab), .v sm, .v (tb ws), s10, .u, .u] S =
      .ok (.nx [.v (.stm k), .v (encC c), .v (encP ps), .v (encP told), .o (.lst (found ++ X)), .v (encG g), .v (tb (g.src.map (val ps told))), .o (.lst ab), .v sm, .v (tb ws), .v d10, .u, .u]) S ∧ X.length ≤ 1 ∧ ∀ d ∈ X, AL c told d := by
  obtain ⟨q1, q2, q3⟩ := h.gs3 g hg
  have hr : ok3 (g.src.map (val ps told)) := fun x hx => by
    obtain ⟨y, _, rfl⟩ := List.mem_map.mp hx
    exact val_v3 h3 t3 y
  have hrl : (g.src.map (val ps told)).length = g.src.length := List.length_map ..
  generalize g.src.map (val ps told) = r at hr hrl
  have e1 := fun S => e_law_forced (n + 1) S g.tab r q3 hr (by rw [hrl]; exact q2) (by omega)
  generalize fin (seen g.tab r) = b at e1
  have e2 := fun S => e_law_is_line n c ps told (.tup [.str g.name, .int b, tb ws]) S h.gs3 h3 t3 (by simp [okL, okT, okI_tb])
  have hl' : found.length < 16777216 := by omega
  by_cases hb : b = 2
  · refine ⟨[], .tup [.str g.name, .int b, tb ws], ?_, by simp, fun d m => absurd m List.not_mem_nil⟩
    simp_all! [alIn, ix3_0, ix3_1, ix3_2, e1, hb]
  · cases hk : lineOk c.gs ps told (.tup [.str g.name, .int b, tb ws])
    · refine ⟨[], .tup [.str g.name, .int b, tb ws], ?_, by simp, fun d m => absurd m List.not_mem_nil⟩
      rw [hk] at e2
      simp_all! [alIn, ix3_0, ix3_1, ix3_2, e1, hb, e2]
    · refine ⟨[.tup [.str g.name, .int b, tb ws]], .tup [.str g.name, .int b, tb ws], ?_, by simp, fun d m => ?_⟩
      · rw [hk] at e2
        have st := tb_still ws
        simp_all! [alIn, ix3_0, ix3_1, ix3_2, e1, hb, e2, hl', still_ints (fun x => x)]
      · rw [List.mem_singleton.mp m]
        obtain ⟨z, b', w, e, hz, hb', hm⟩ := lineOk_form hk
        cases e
        exact ⟨_, _, ws, ⟨rfl, hm, hb', hw.1, hw.2⟩, hz⟩
end LW
namespace LW
open PySem PySem.Spec PyProof.Rows L2 GG
/-! all able lines -/
def alB : List Sm := [.set (.n 6) (.call 34 [(.v 5), (.v 2), (.v 3)]), .set (.n 7) (.lc (.v 11) [11, 12] (.t [(.n 11), (.n 12)]) (.enum (.v 6)) [(.cmp .NotEq (.v 12) (.c (.int 2)))]), .set (.n 8) (.bi .tuple [(.lc (.v 11) [11] (.n 11) (.itv (.v 7)) [(.cmp .Gt (.call 25 [(.v 0), (.c (.int 3))]) (.c (.int 0)))])]), .for_ (.n 9) (.itv (.tup [(.bi .tuple [(.v 7)]), (.v 8)])) alIn]
def able (r : List Int) : List Int := (r.zipIdx.filter fun p => !decide (p.1 = 2)).map fun p => ((p.2 : Nat) : Int)
theorem able_ok {r : List Int} (h : r.length ≤ 4) : (able r).length ≤ 4 ∧ ∀ w ∈ able r, 0 ≤ w ∧ w ≤ 3 := by
  refine ⟨?_, fun w m => ?_⟩
  · unfold able
    rw [List.length_map]
    exact Nat.le_trans (List.length_filter_le _ _) (by simpa using h)
  · obtain ⟨p, hp, rfl⟩ := List.mem_map.mp m
    have q := (List.mem_zipIdx (List.mem_filter.mp hp).1).2.1
    omega
theorem able_ev (cl : Nat → List D → Sto → Out D) (r : List Int) (d0 d1 d2 d3 d5 : D) (s4 s7 s8 s9 s10 : Sl) (S : Sto) :
    evE cl (.lc (.v 11) [11, 12] (.t [(.n 11), (.n 12)]) (.enum (.v 6)) [(.cmp .NotEq (.v 12) (.c (.int 2)))]) [.v d0, .v d1, .v d2, .v d3, s4, .v d5, .v (tb r), s7, s8, s9, s10, .u, .u] S = .ok (.lst ((able r).map .int)) S := by
  have pu := pairUp_tb r 0
  have st := still_ints (fun x => x) r
  simp_all! [pu, st]
  simp [able]
theorem some_ev (n k : Nat) (ab : List Int) (d1 d2 d3 d5 d6 : D) (s4 s8 s9 s10 : Sl) (S : Sto) (hk : k < S.length) : ∃ (sm : List Int) (S' : Sto),
    evE (evF pg (n + 2)) (.lc (.v 11) [11] (.n 11) (.itv (.v 7)) [(.cmp .Gt (.call 25 [(.v 0), (.c (.int 3))]) (.c (.int 0)))]) [.v (.stm k), .v d1, .v d2, .v d3, s4, .v d5, .v d6, .o (.lst (ab.map .int)), s8, s9, s10, .u, .u] S = .ok (.lst (sm.map .int)) S' ∧ sm.Sublist ab ∧ S'.length = S.length := by
  rw [e_lc]
  have hi : evI (evF pg (n + 2)) (.itv (.v 7)) [.v (.stm k), .v d1, .v d2, .v d3, s4, .v d5, .v d6, .o (.lst (ab.map .int)), s8, s9, s10, .u, .u] S = .ok (ab.map .int, false) S := by simp_all! []
  rw [hi, bind_ok, q_kLcf]
  have hw : wipeE (fz (vs (.lc (.v 11) [11] (.n 11) (.itv (.v 7)) [(.cmp .Gt (.call 25 [(.v 0), (.c (.int 3))]) (.c (.int 0)))])) [.v (.stm k), .v d1, .v d2, .v d3, s4, .v d5, .v d6, .o (.lst (ab.map .int)), s8, s9, s10, .u, .u]) [11] = [.v (.stm k), .v d1, .v d2, .v d3, s4, .v d5, .v d6, .v (.lst (ab.map .int)), s8, s9, s10, .u, .u] := by
    simp_all! []
  rw [hw]
  have hf : (fun x S => lcT (.n 11) (D.int x) [.v (.stm k), .v d1, .v d2, .v d3, s4, .v d5, .v d6, .v (.lst (ab.map .int)), s8, s9, s10, .u, .u] (evE (evF pg (n + 2)) (.v 11)) S) = fun x S => .ok (D.int x) S := by
    funext x S; simp_all! []
  rw [hf]
  obtain ⟨ys, S', e, q, l⟩ := filO_sub (c := fun x S => lcC (.n 11) (D.int x) [.v (.stm k), .v d1, .v d2, .v d3, s4, .v d5, .v d6, .v (.lst (ab.map .int)), s8, s9, s10, .u, .u] (evE (evF pg (n + 2)) (.cmp .Gt (.call 25 [(.v 0), (.c (.int 3))]) (.c (.int 0)))) S) (f := D.int) (xs := ab) (S := S) S.length rfl (fun x m S2 h2 => by
    obtain ⟨r, S3, e, hr, h3⟩ := e_draw (n + 1) k 3 S2 (by omega) (by omega) (by omega)
    exact ⟨decide (0 < r), S3, by simp_all! [e], by omega⟩)
  exact ⟨ys, S', by rw [e, bind_ok, q_kLst1], q, l⟩
theorem al_body (n k : Nat) (c : Ct) (ps told : List (Str × Int)) (g : Gt) (found : List D) (s6 s7 s8 s9 s10 : Sl) (S : Sto) (hk : k < S.length) (h : COk c) (h3 : v3 ps) (t3 : v3 told) (hg : g ∈ c.gs) (hl : found.length ≤ 900) :
    ∃ (X : List D) (s6' s7' s8' s9' s10' : Sl) (S' : Sto), evSs (evF pg (n + 2)) alB [.v (.stm k), .v (encC c), .v (encP ps), .v (encP told), .o (.lst found), .v (encG g), s6, s7, s8, s9, s10, .u, .u] S =
      .ok (.nx [.v (.stm k), .v (encC c), .v (encP ps), .v (encP told), .o (.lst (found ++ X)), .v (encG g), s6', s7', s8', s9', s10', .u, .u]) S' ∧ X.length ≤ 2 ∧ (∀ d ∈ X, AL c told d) ∧ S'.length = S.length := by
  have e0 := fun S => e_law_row_of (n + 1) g ps told S
  have hrl : (g.src.map (val ps told)).length ≤ 4 := by rw [List.length_map]; exact (h.gs3 g hg).1
  obtain ⟨a1, a2⟩ := able_ok hrl
  have e1 := fun S => able_ev (evF pg (n + 2)) (g.src.map (val ps told)) (.stm k) (encC c) (encP ps) (encP told) (encG g) (.o (.lst found)) s7 s8 s9 s10 S
  obtain ⟨sm, S1, e2, q, l1⟩ := some_ev n k (able (g.src.map (val ps told))) (encC c) (encP ps) (encP told) (encG g) (tb (g.src.map (val ps told))) (.o (.lst found)) s8 s9 s10 S hk
  have b1 : sm.length ≤ 4 := Nat.le_trans q.length_le a1
  have b2 : ∀ w ∈ sm, 0 ≤ w ∧ w ≤ 3 := fun w m => a2 w (q.subset m)
  obtain ⟨X, d1, e3, x1, x2⟩ := al_in n k c ps told g found ((able (g.src.map (val ps told))).map .int) (tb sm) (able (g.src.map (val ps told))) s10 S1 h h3 t3 hg (by omega) ⟨a1, a2⟩
  obtain ⟨Y, d2, e4, y1, y2⟩ := al_in n k c ps told g (found ++ X) ((able (g.src.map (val ps told))).map .int) (tb sm) sm (.v d1) S1 h h3 t3 hg (by rw [List.length_append]; omega) ⟨b1, b2⟩
  refine ⟨X ++ Y, .v (tb (g.src.map (val ps told))), .o (.lst ((able (g.src.map (val ps told))).map .int)), .v (tb sm), .v (tb sm), .v d2, S1, ?_, by rw [List.length_append]; omega, fun d m => (List.mem_append.mp m).elim (x2 d) (y2 d), l1⟩
  have st := tb_still (g.src.map (val ps told))
  have st' : D.stills ((g.src.map (val ps told)).map .int) = true := st
  generalize g.src.map (val ps told) = r at *
  have s1 := still_ints (fun x => x) (able r)
  have s2 := still_ints (fun x => x) sm
  simp_all! [alB, e0, ↓e1, ↓e2, st', s1, s2, ↓e3, ↓e4]
theorem al_loop (n k : Nat) (c : Ct) (ps told : List (Str × Int)) (h : COk c) (h3 : v3 ps) (t3 : v3 told) : ∀ (gs : List Gt) (found : List D) (s5 s6 s7 s8 s9 s10 : Sl) (S : Sto), k < S.length → (∀ g ∈ gs, g ∈ c.gs) → found.length + 2 * gs.length ≤ 900 →
    ∃ (X : List D) (s5' s6' s7' s8' s9' s10' : Sl) (S' : Sto), forLoop (tgS (.n 5)) (evSs (evF pg (n + 2)) alB) (gs.map encG) [.v (.stm k), .v (encC c), .v (encP ps), .v (encP told), .o (.lst found), s5, s6, s7, s8, s9, s10, .u, .u] S =
      .ok (.nx [.v (.stm k), .v (encC c), .v (encP ps), .v (encP told), .o (.lst (found ++ X)), s5', s6', s7', s8', s9', s10', .u, .u]) S' ∧ X.length ≤ 2 * gs.length ∧ (∀ d ∈ X, AL c told d) ∧ S'.length = S.length
  | [], found, s5, s6, s7, s8, s9, s10, S, _, _, _ => ⟨[], s5, s6, s7, s8, s9, s10, S, by rw [List.append_nil]; rfl, by simp, fun d m => absurd m List.not_mem_nil, rfl⟩
  | g :: r, found, s5, s6, s7, s8, s9, s10, S, hk, hg, hn => by
    rw [List.length_cons] at hn
    obtain ⟨X, t6, t7, t8, t9, t10, S1, e1, x1, x2, l1⟩ := al_body n k c ps told g found s6 s7 s8 s9 s10 S hk h h3 t3 (hg g List.mem_cons_self) (by omega)
    obtain ⟨Y, u5, u6, u7, u8, u9, u10, S2, e2, y1, y2, l2⟩ := al_loop n k c ps told h h3 t3 r (found ++ X) (.v (encG g)) t6 t7 t8 t9 t10 S1 (by omega) (fun g m => hg g (List.mem_cons_of_mem _ m)) (by rw [List.length_append]; omega)
    refine ⟨X ++ Y, u5, u6, u7, u8, u9, u10, S2, ?_, by rw [List.length_append, List.length_cons]; omega, fun d m => (List.mem_append.mp m).elim (x2 d) (y2 d), by omega⟩
    rw [List.map_cons, f_cons (ε1 := [.v (.stm k), .v (encC c), .v (encP ps), .v (encP told), .o (.lst found), .v (encG g), s6, s7, s8, s9, s10, .u, .u]) (by simp_all! []), e1, fk_nx, e2, List.append_assoc]
theorem e_law_able (n k : Nat) (c : Ct) (ps told : List (Str × Int)) (S : Sto) (hk : k < S.length) (h : COk c) (h3 : v3 ps) (t3 : v3 told) :
    ∃ (X : List D) (S' : Sto), evF pg (n + 3) 41 [.stm k, encC c, encP ps, encP told] S = .ok (.lst X) S' ∧ X.length ≤ 400 ∧ (∀ d ∈ X, AL c told d) ∧ S'.length = S.length := by
  have lg := h.lg
  obtain ⟨X, s5, s6, s7, s8, s9, s10, S1, e, x1, x2, l1⟩ := al_loop n k c ps told h h3 t3 c.gs [] .u .u .u .u .u .u S hk (fun g m => m) (by simp; omega)
  refine ⟨X, S1, ?_, by omega, x2, l1⟩
  (rw [u_fn (n + 2) (f := d__law_able_lines) rfl rfl]; unfold runF)
  have sG := still_Gs c.gs
  rw [List.nil_append] at e
  unfold alB alIn at e
  simp_all! [d__law_able_lines, b__law_able_lines, ix2_1, sG, ↓e]
end LW
namespace LW
open PySem PySem.Spec PyProof.Rows L2 GG
/-! drawn derivations -/
def linB : List Sm := [.setA 6 (.call 41 [(.v 0), (.v 1), (.v 2), (.v 4)]), .ife (.cmp .NotEq (.v 6) (.lst [])) [.set (.n 7) (.call 26 [(.v 0), (.v 6)]), .put 4 (.ix (.v 7) (.c (.int 0))) (.ix (.v 7) (.c (.int 1))), .app 5 (.v 7)] []]
theorem LF.still {c : Ct} {told : List (Str × Int)} {d : D} (h : AL c told d) : D.still d = true := by
  obtain ⟨z, b, ws, h, _⟩ := h
  rw [h.e]
  simp [D.still, D.stills, still_ints (fun x => x)]
theorem stills_all : ∀ {ds : List D}, (∀ d ∈ ds, D.still d = true) → D.stills ds = true
  | [], _ => rfl
  | d :: r, h => by
    simp only [D.stills, Bool.and_eq_true]
    exact ⟨h d List.mem_cons_self, stills_all fun x m => h x (List.mem_cons_of_mem _ m)⟩
theorem lin_body (n k : Nat) (c : Ct) (ps told : List (Str × Int)) (found : List D) (d3 : D) (s6 s7 : Sl) (S : Sto) (hk : k < S.length) (h : COk c) (h3 : v3 ps) (t3 : v3 told) (hl : found.length ≤ 1000) (ht : told.length ≤ 1000) :
    ∃ (told' : List (Str × Int)) (X : List D) (s6' s7' : Sl) (S' : Sto), evSs (evF pg (n + 3)) linB [.v (.stm k), .v (encC c), .v (encP ps), .v d3, .o (encP told), .o (.lst found), s6, s7] S =
      .ok (.nx [.v (.stm k), .v (encC c), .v (encP ps), .v d3, .o (encP told'), .o (.lst (found ++ X)), s6', s7']) S' ∧ X.length ≤ 1 ∧ (∀ d ∈ X, LineF c d) ∧ v3 told' ∧ told'.length ≤ told.length + 1 ∧ S'.length = S.length := by
  obtain ⟨ab, S1, e1, a1, a2, l1⟩ := e_law_able n k c ps told S hk h h3 t3
  have st : D.stills ab = true := stills_all fun d m => LF.still (a2 d m)
  cases ab with
  | nil =>
    refine ⟨told, [], .v (.lst []), s7, S1, ?_, by simp, fun d m => absurd m List.not_mem_nil, t3, by omega, l1⟩
    have q := eq_nilL true []
    simp_all! [linB, e1, q]
  | cons a r =>
    obtain ⟨d, S2, e2, m, l2⟩ := e_pickL (n + 1) k (a :: r) S1 (by omega) (by simp) (by omega)
    obtain ⟨z, b, ws, hd, hz⟩ := a2 d m
    have q := eq_nilL true (a :: r)
    have pt := put_told told z b hz
    have hl' : found.length < 16777216 := by omega
    have ht' : told.length < 16777216 := by omega
    have std := LF.still (a2 d m)
    obtain ⟨rfl, h1, h2, h4, h5⟩ := hd
    simp only [D.stills, Bool.and_eq_true] at st
    simp only [D.still, D.stills, Bool.and_eq_true] at std
    refine ⟨told ++ [(z, b)], [.tup [.str z, .int b, tb ws]], .v (.lst (a :: r)), .v (.tup [.str z, .int b, tb ws]), S2, ?_, by simp, fun d m => ?_, v3_add t3 h2, by simp, by omega⟩
    · simp_all! [linB, e1, q, st, e2, ix3_0, ix3_1, pt, hl', ht', std]
    · rw [List.mem_singleton.mp m]
      exact ⟨z, b, ws, rfl, h1, h2, h4, h5⟩
theorem lin_loop (n k : Nat) (c : Ct) (ps : List (Str × Int)) (h : COk c) (h3 : v3 ps) : ∀ (ts : List Nat) (told : List (Str × Int)) (found : List D) (s3 s6 s7 : Sl) (S : Sto), k < S.length → v3 told → found.length + ts.length ≤ 1000 → told.length + ts.length ≤ 1000 →
    ∃ (told' : List (Str × Int)) (X : List D) (s3' s6' s7' : Sl) (S' : Sto), forLoop (tgS (.n 3)) (evSs (evF pg (n + 3)) linB) (ts.map fun i : Nat => .int (i : Nat)) [.v (.stm k), .v (encC c), .v (encP ps), s3, .o (encP told), .o (.lst found), s6, s7] S =
      .ok (.nx [.v (.stm k), .v (encC c), .v (encP ps), s3', .o (encP told'), .o (.lst (found ++ X)), s6', s7']) S' ∧ X.length ≤ ts.length ∧ (∀ d ∈ X, LineF c d) ∧ S'.length = S.length
  | [], told, found, s3, s6, s7, S, _, _, _, _ => ⟨told, [], s3, s6, s7, S, by rw [List.append_nil]; rfl, by simp, fun d m => absurd m List.not_mem_nil, rfl⟩
  | t :: r, told, found, s3, s6, s7, S, hk, t3, hn, ht => by
    rw [List.length_cons] at hn ht
    obtain ⟨told1, X, u6, u7, S1, e1, x1, x2, t31, tl, l1⟩ := lin_body n k c ps told found (.int (t : Nat)) s6 s7 S hk h h3 t3 (by omega) (by omega)
    obtain ⟨told2, Y, w3, w6, w7, S2, e2, y1, y2, l2⟩ := lin_loop n k c ps h h3 r told1 (found ++ X) (.v (.int (t : Nat))) u6 u7 S1 (by omega) t31 (by rw [List.length_append]; omega) (by omega)
    refine ⟨told2, X ++ Y, w3, w6, w7, S2, ?_, by rw [List.length_append, List.length_cons]; omega, fun d m => (List.mem_append.mp m).elim (x2 d) (y2 d), by omega⟩
    rw [List.map_cons, f_cons (ε1 := [.v (.stm k), .v (encC c), .v (encP ps), .v (.int (t : Nat)), .o (encP told), .o (.lst found), s6, s7]) (by simp_all! []), e1, fk_nx, e2, List.append_assoc]
theorem e_law_lines (n k : Nat) (c : Ct) (ps : List (Str × Int)) (S : Sto) (hk : k < S.length) (h : COk c) (h3 : v3 ps) (hg : 1 ≤ c.gs.length) :
    ∃ (X : List D) (S' : Sto), evF pg (n + 4) 42 [.stm k, encC c, encP ps] S = .ok (.tup X) S' ∧ X.length ≤ c.gs.length ∧ (∀ d ∈ X, LineF c d) ∧ S'.length = S.length := by
  have lg := h.lg
  obtain ⟨r, S1, e1, hr, l1⟩ := e_draw (n + 2) k c.gs.length S hk (by omega) (by omega)
  obtain ⟨told, X, s3, s6, s7, S2, e2, x1, x2, l2⟩ := lin_loop n k c ps h h3 (List.range (r + 1)) [] [] .u .u .u S1 (by omega) (fun p m => absurd m List.not_mem_nil) (by simp; omega) (by simp; omega)
  rw [List.length_range] at x1
  refine ⟨X, S2, ?_, by omega, x2, by omega⟩
  (rw [u_fn (n + 3) (f := d__law_lines) rfl rfl]; unfold runF)
  have it := iterR_add (m := r) (by omega)
  have e0 : encP [] = .dct (mergeD [] []) := rfl
  rw [List.nil_append, e0] at e2
  unfold linB at e2
  simp_all! [d__law_lines, b__law_lines, ix2_1, e1, ↓it, ↓e2]
end LW
namespace LW
open PySem PySem.Spec PyProof.Rows L2 GG
/-! spoilt derivations -/
def rows8 (z z2 : Str) (b : Int) (ws : List Int) (m : Nat) : List D :=
  [.tup [.str z, .int (1 - b), tb ws], .tup [.str z2, .int b, tb ws], .tup [.str z, .int b, tb (ws ++ [((m : Nat) : Int)])], .tup [.str z, .int b, tb ws.tail], .tup [.str z, .int b, tb ws.reverse], .tup [.str z, .bl (decide (b = 1)), tb ws], .tup [.str z, .int b, .lst (ws.map .int)], .tup [.str z, .int b]]
theorem pc_bl (b : Bool) : Pc (.bl b) := (GD.bl b).le (by decide) (by decide)
theorem rows8_ok {z z2 : Str} {b : Int} {ws : List Int} {m : Nat} (hz : z ∈ pool) (hz2 : z2 ∈ pool) (hb : b = 0 ∨ b = 1) (hl : ws.length ≤ 4) (hw : ∀ w ∈ ws, 0 ≤ w ∧ w ≤ 3) (hm : m ≤ 4) : ∀ d ∈ rows8 z z2 b ws m, Ln d := by
  have p1 := pc_str hz
  have p2 := pc_str hz2
  have p3 : Pc (.int b) := pc_int (by omega)
  have p4 : Pc (.int (1 - b)) := pc_int (by omega)
  have w5 : ∀ w ∈ ws, -2 ≤ w ∧ w ≤ 5 := fun w m => by have := hw w m; omega
  have p5 := pc_ws w5 (by omega)
  have p6 : Pc (tb (ws ++ [((m : Nat) : Int)])) := pc_ws (fun w h => by
    rcases List.mem_append.mp h with h | h
    · exact w5 w h
    · rw [List.mem_singleton.mp h]; omega) (by simp; omega)
  have p7 : Pc (tb ws.tail) := pc_ws (fun w h => w5 w (List.mem_of_mem_tail h)) (by simp; omega)
  have p8 : Pc (tb ws.reverse) := pc_ws (fun w h => w5 w (List.mem_reverse.mp h)) (by simp; omega)
  have p9 := pc_bl (decide (b = 1))
  have p10 : Pc (.lst (ws.map .int)) := (GD.lst (W := 4) (k := 1) (m := 5) (by simp; omega) fun x h => by
    obtain ⟨i, hi, rfl⟩ := List.mem_map.mp h
    exact ig (w5 i hi)).le (by decide) (by decide)
  have t3 : ∀ {z : Str} {x y : D}, Pc (.str z) → Pc x → Pc y → Ln (.tup [.str z, x, y]) := fun {z x y} h1 h2 h3 => ln_tup (by simp) (fun d m => by
    simp only [List.mem_cons, List.not_mem_nil, or_false] at m
    rcases m with rfl | rfl | rfl
    · exact h1
    · exact h2
    · exact h3) (fun d m => by cases m; rfl)
  intro d h
  simp only [rows8, List.mem_cons, List.not_mem_nil, or_false] at h
  rcases h with rfl | rfl | rfl | rfl | rfl | rfl | rfl | rfl
  · exact t3 p1 p4 p5
  · exact t3 p2 p3 p5
  · exact t3 p1 p3 p6
  · exact t3 p1 p3 p7
  · exact t3 p1 p3 p8
  · exact t3 p1 p9 p5
  · exact t3 p1 p3 p10
  · exact ln_tup (by simp) (fun d m => by
      simp only [List.mem_cons, List.not_mem_nil, or_false] at m
      rcases m with rfl | rfl
      · exact p1
      · exact p3) (fun d m => by cases m; rfl)
theorem e_law_spoilt (n k : Nat) (c : Ct) (X : List D) (S : Sto) (hk : k < S.length) (h : COk c) (hp : ∀ z ∈ gN c, z ∈ pool) (hl : X.length ≤ 6) (hX : ∀ d ∈ X, LineF c d) :
    ∃ (d : D) (S' : Sto), evF pg (n + 7) 43 [.stm k, encC c, .tup X] S = .ok d S' ∧ Th d ∧ S'.length = S.length := by
  by_cases hne : X = []
  · subst hne
    refine ⟨.tup [], S, ?_, th_tup (by simp) (fun d m => absurd m List.not_mem_nil), rfl⟩
    (rw [u_fn (n + 6) (f := d__law_spoilt) rfl rfl]; unfold runF)
    have q := eq_nil false []
    simp_all! [d__law_spoilt, b__law_spoilt, q]
  have lp := List.length_pos_iff.mpr hne
  have gln : ∀ d ∈ X, Ln d := fun d m => (hX d m).ln hp
  have lg := h.lg
  obtain ⟨r, S1, e1, hr, l1⟩ := e_draw (n + 5) k X.length S hk (by omega) (by omega)
  obtain ⟨w, S2, e2, hw, l2⟩ := e_draw (n + 5) k 8 S1 (by omega) (by decide) (by decide)
  have hr' : r < X.length := by omega
  obtain ⟨z, b, ws, hf⟩ := hX X[r] (List.getElem_mem hr')
  obtain ⟨hd, hz, hb, hwl, hww⟩ := hf
  have ixr := ixT hr'
  have hgs : 0 < c.gs.length := by
    cases hg : c.gs with
    | nil => simp [gN, hg] at hz
    | cons _ _ => simp
  obtain ⟨dg, S3, e3, mg, l3⟩ := e_pickT (n + 4) k (c.gs.map encG) S2 (by omega) (by simpa using hgs) (by simp; omega)
  obtain ⟨g2, mg2, rfl⟩ := List.mem_map.mp mg
  obtain ⟨g, mgz, _, hgz⟩ := find_mem (fun g : Gt => g.name) hz
  have e4 := fun S => e_law_gate (n + 5) c z g S hgz
  have gsz := (h.gs3 g mgz).1
  have hz2 : g2.name ∈ pool := hp _ (List.mem_map_of_mem mg2)
  have rk := rows8_ok (hp z hz) hz2 hb hwl hww gsz
  have p1 : opSl (tb ws) (some 1) none = some (tb ws.tail) := by simp only [opSl, tb, cut1]
  have p2 : opRev (tb ws) = some (tb ws.reverse) := by simp only [opRev, tb, List.map_reverse]
  have p3 : opAdd (tb ws) (.tup [.int ((g.src.length : Nat) : Int)]) = some (tb (ws ++ [((g.src.length : Nat) : Int)])) := by
    have s : (10000 : Nat) ≤ sizeLine := by decide
    unfold opAdd
    simp only [tb]
    rw [if_pos (by simp; omega)]
    simp
  have nil0 := eq_nil false X
  have emp : X.isEmpty = false := by
    cases X with
    | nil => exact absurd rfl hne
    | cons _ _ => rfl
  rw [emp] at nil0
  have gname : D.stills (ws.map .int) = true := still_ints (fun x => x) ws
  have gsrc := still_strs g2.src
  have gtab := still_ints (fun x => x) g2.tab
  rw [hd] at ixr
  have ne0 : X.length ≠ 0 := by omega
  -- the rows
  have key : ∃ s8 s9 s10 : Sl, evSs (evF pg (n + 6)) (b__law_spoilt.take 7) [.v (.stm k), .v (encC c), .v (.tup X), .u, .u, .u, .u, .u, .u, .u, .u] S =
      .ok (.nx [.v (.stm k), .v (encC c), .v (.tup X), .v (.str g2.name), .v (.int ((g.src.length : Nat) : Int)), .v (.lst (rows8 z g2.name b ws g.src.length)), .v (.int (r : Nat)), .v (.int (w : Nat)), s8, s9, s10]) S3 := by
    refine ⟨.v (.str z), .v (.int b), .v (tb ws), ?_⟩
    simp_all! [b__law_spoilt, nil0, e1, e2, ↓ixr, gname, ix2_1, ix3_0, ix3_1, e3, e4, ↓p1, ↓p2, ↓p3, rows8, gsrc, gtab]
  obtain ⟨s8, s9, s10, key⟩ := key
  have a1 := slT_take X r
  have a3 := slT_drop1 X r
  have st : ∀ x ∈ X.take r, Ln x := fun x m => gln x (List.mem_of_mem_take m)
  have sd : ∀ i, ∀ x ∈ X.drop i, Ln x := fun i x m => gln x (List.mem_of_mem_drop m)
  have suf : (∃ (d : D) (S' : Sto), evSs (evF pg (n + 6)) (b__law_spoilt.drop 7) [.v (.stm k), .v (encC c), .v (.tup X), .v (.str g2.name), .v (.int ((g.src.length : Nat) : Int)), .v (.lst (rows8 z g2.name b ws g.src.length)), .v (.int (r : Nat)), .v (.int (w : Nat)), s8, s9, s10] S3 = .ok (.rt d) S' ∧ Th d ∧ S'.length = S.length) →
      ∃ (d : D) (S' : Sto), evF pg (n + 7) 43 [.stm k, encC c, .tup X] S = .ok d S' ∧ Th d ∧ S'.length = S.length := fun ⟨d, S', e, t, l⟩ => by
    refine ⟨d, S', ?_, t, l⟩
    rw [u_fn (n + 6) (f := d__law_spoilt) rfl rfl]
    refine fn_ret ?_
    show evSs (evF pg (n + 6)) b__law_spoilt [.v (.stm k), .v (encC c), .v (.tup X), .u, .u, .u, .u, .u, .u, .u, .u] S = _
    rw [st_cut 7 key, e]
  apply suf
  by_cases w3 : w < 3
  · obtain ⟨x, S4, e5, mx, l4⟩ := e_pickL (n + 4) k (rows8 z g2.name b ws g.src.length) S3 (by omega) (by simp [rows8]) (by simp [rows8])
    refine ⟨.tup (X.take r ++ x :: X.drop (r + 1)), S4, ?_, th_tup (by simp; omega) fun y m => ?_, by omega⟩
    · have w3' : (w : Int) < 3 := by omega
      have c1 : min r X.length + 1 ≤ 16777216 := by omega
      have c2 : min r X.length + 1 + (X.length - (r + 1)) ≤ 16777216 := by omega
      simp_all! [b__law_spoilt, w3, w3', ↓a1, ↓a3, e5, c1, c2]
    · rcases List.mem_append.mp m with m | m
      · exact st y m
      · rcases List.mem_cons.mp m with rfl | m
        · exact rk y mx
        · exact sd _ y m
  have w3' : ¬ (w : Int) < 3 := by omega
  by_cases w4 : w = 3
  · refine ⟨.tup (X.take r ++ X.drop (r + 1)), S3, ?_, th_tup (by simp; omega) fun y m => (List.mem_append.mp m).elim (st y) (sd _ y), by omega⟩
    have w4' : (w : Int) = 3 := by omega
    have c2 : min r X.length + (X.length - (r + 1)) ≤ 16777216 := by omega
    simp_all! [b__law_spoilt, w3, w3', w4', ↓a1, ↓a3, c2]
  have w4' : ¬ (w : Int) = 3 := by omega
  by_cases w5 : w = 4
  · refine ⟨.tup (X ++ [X[r]]), S3, ?_, th_tup (by simp; omega) fun y m => (List.mem_append.mp m).elim (gln y) fun m => by rw [List.mem_singleton.mp m]; exact gln _ (List.getElem_mem hr'), by omega⟩
    have w5' : (w : Int) = 4 := by omega
    have c2 : X.length + 1 ≤ 16777216 := by omega
    rw [hd]
    simp_all! [b__law_spoilt, w3, w3', w4', w5', ↓ixr, c2]
  have w5' : ¬ (w : Int) = 4 := by omega
  by_cases w6 : w = 5
  · obtain ⟨ys, S4, e5, pm, l4⟩ := e_mixed (n + 4) k (.tup X) X S3 rfl (by omega) (by omega)
    refine ⟨.tup ys, S4, ?_, th_tup (by rw [pm.length_eq]; omega) fun y m => gln y (pm.mem_iff.mp m), by omega⟩
    have w6' : (w : Int) = 5 := by omega
    simp_all! [b__law_spoilt, w3, w3', w4', w5', w6', e5]
  have w6' : ¬ (w : Int) = 5 := by omega
  obtain ⟨x, S4, e5, t, l4⟩ := e_bent_lines n k c X S3 hp (by omega) hne hl hX
  refine ⟨x, S4, ?_, t, by omega⟩
  simp_all! [b__law_spoilt, w3, w3', w4', w5', w6', e5]
end LW
namespace LW
open PySem PySem.Spec PyProof.Rows L2 GG
/-! the gate that is asked for -/
def lastOk (ds : List D) : Bool := match ds.getLast? with
  | some x => P1 x
  | none => true
structure Tk (d : D) : Prop where
  gd : GD 8575 7 d
  ls : ∀ ds, d = .tup ds → ds.length ≤ 10000 ∧ lastOk ds = true
theorem Th.tk {d : D} (h : Th d) : Tk d := ⟨h.1, fun ds e => by
  obtain ⟨a, b⟩ := h.2 ds e
  refine ⟨by omega, ?_⟩
  unfold lastOk
  cases q : ds.getLast? with
  | none => rfl
  | some x => exact b x (List.mem_of_getLast? q)⟩
theorem odd_tk {d : D} (h : d ∈ odds) : Tk d := by
  have a : odds.all (fun d => match d with | .tup ds => lastOk ds | _ => true) = true := by decide +kernel
  refine ⟨(odds_good d h).le (by decide) (by decide), fun ds e => ?_⟩
  have b := odds_len d h ds e
  refine ⟨by omega, ?_⟩
  subst e
  simpa using List.all_eq_true.mp a _ h
theorem lines_tk {c : Ct} {X : List D} (hp : ∀ z ∈ gN c, z ∈ pool) (hl : X.length ≤ 7) (h : ∀ d ∈ X, LineF c d) : Tk (.tup X) := (th_tup hl fun d m => (h d m).ln hp).tk
theorem in_other {e : D} {zs : List Str} (h : okF e = true) (n : ∀ z, e ≠ .str z) : opIn false e (.lst (zs.map .str)) = some (.bl false) := by
  have f : (zs.map D.str).all flatD = true := by simp [flatD]
  have e0 : ∀ e, opIn false e (.lst (zs.map .str)) = if flatD e = true ∧ (zs.map D.str).all flatD = true then some (.bl (if false then !((zs.map D.str).any fun y => eqFD y e) else (zs.map D.str).any fun y => eqFD y e)) else inT false e (zs.map .str) := fun e => by cases e <;> rfl
  have an : ∀ e, (∀ z, e ≠ .str z) → ((zs.map D.str).any fun y => eqFD y e) = false := fun e n => by
    rw [List.any_eq_false]
    intro y hy
    obtain ⟨z, _, rfl⟩ := List.mem_map.mp hy
    cases e with
    | str z => exact absurd rfl (n z)
    | _ => simp [eqFD]
  rw [e0]
  cases e with
  | str z => exact absurd rfl (n z)
  | tup ds => rw [if_neg (by simp [flatD])]; simp only [inT]; rw [if_pos f]
  | lst _ => cases h
  | rol _ => cases h
  | dct _ => cases h
  | stm _ => cases h
  | wdt _ => cases h
  | _ => rw [if_pos ⟨rfl, f⟩, an _ n]; rfl
def sel8 : Sm := .ife (.and (.isi (.v 6) .tuple) [(.cmp .NotEq (.v 6) (.tup [])), (.isi (.ix (.v 6) (.neg (.c (.int 1)))) .tuple), (.cmp .Gt (.bi .len [(.ix (.v 6) (.neg (.c (.int 1))))]) (.c (.int 0)))]) [.set (.n 8) (.ife (.cmp .In (.ix (.ix (.v 6) (.neg (.c (.int 1)))) (.c (.int 0))) (.v 10)) (.ix (.ix (.v 6) (.neg (.c (.int 1)))) (.c (.int 0))) (.v 8))] []
theorem ixt_0 (x : D) (r : List D) : opIx (.tup (x :: r)) (.int 0) = some x := by simp [opIx, keysOf, seqOf, atI, ixN]
theorem e_sel (cl : Nat → List D → Sto → Out D) (S : Sto) (zs : List Str) (d : D) (h : Tk d) (nm : Str) (hn : nm ∈ zs) (s0 s1 s2 s3 s4 s5 s7 s9 s11 : Sl) :
    ∃ nm' ∈ zs, evS cl sel8 [s0, s1, s2, s3, s4, s5, .v d, s7, .v (.str nm), s9, .o (.lst (zs.map .str)), s11] S = .ok (.nx [s0, s1, s2, s3, s4, s5, .v d, s7, .v (.str nm'), s9, .o (.lst (zs.map .str)), s11]) S := by
  have hs := GD.some h.gd
  cases d with
  | wdt _ => simp [py] at hs
  | tup ds =>
    cases ds with
    | nil =>
      have q := eq_nil true []
      exact ⟨nm, hn, by simp_all! [sel8, q]⟩
    | cons x r =>
      have q := eq_nil true (x :: r)
      have lo := (h.ls _ rfl).2
      unfold lastOk at lo
      rw [List.getLast?_eq_some_getLast (by simp)] at lo
      simp only at lo
      have il := ix_last x r
      have ps := py_tup hs _ (List.getLast_mem (by simp : x :: r ≠ []))
      generalize (x :: r).getLast (by simp) = l at lo il ps
      cases l with
      | wdt _ => simp [py] at ps
      | tup es =>
        cases es with
        | nil => exact ⟨nm, hn, by simp_all! [sel8, q, ↓il]⟩
        | cons e es =>
          have okf : okF e = true := lo
          have i0 := ixt_0 e es
          have ge : (0 : Int) < (es.length : Int) + 1 := by omega
          by_cases hst : ∃ z, e = .str z
          · obtain ⟨z, rfl⟩ := hst
            have q2 := in_strsL false z zs
            by_cases hz : z ∈ zs
            · simp only [hz, decide_true] at q2
              exact ⟨z, hz, by simp_all! [sel8, q, ↓il, ↓i0, ge, q2]⟩
            · simp only [hz, decide_false] at q2
              exact ⟨nm, hn, by simp_all! [sel8, q, ↓il, ↓i0, ge, q2]⟩
          · have q2 := in_other (zs := zs) okf fun z e => hst ⟨z, e⟩
            exact ⟨nm, hn, by simp_all! [sel8, q, ↓il, ↓i0, ge, q2]⟩
      | _ => exact ⟨nm, hn, by simp_all! [sel8, q, ↓il]⟩
  | _ => exact ⟨nm, hn, by simp_all! [sel8]⟩
end LW
namespace LW
open PySem PySem.Spec PyProof.Rows L2 GG
/-! at one setting -/
theorem ct_GD {c : Ct} (h : COk c) (hp : ∀ z ∈ names c, z ∈ pool) (hi : c.ins.length ≤ 3) (hg : c.gs.length ≤ 8) : GD 2370 5 (encC c) := by
  have gi : GD 18 2 (stT c.ins) := strs_GD (m := 3) (fun z m => hp z (List.mem_append_left _ m)) hi
  have gg : GD 1184 4 (.tup (c.gs.map encG)) := GD.tup (W := 147) (k := 3) (m := 8) (by simpa using hg) fun d m => by
    obtain ⟨g, hg, rfl⟩ := List.mem_map.mp m
    obtain ⟨a, b, e⟩ := h.gs3 g hg
    refine gate_GD (fun z m => hp z ((h.g g hg).src z m)) (hp _ (List.mem_append_right _ (List.mem_map_of_mem hg))) a ?_ e
    rw [b]
    exact Nat.pow_le_pow_right (by decide) a
  exact GD.tup (W := 1184) (k := 4) (m := 2) (ds := [stT c.ins, .tup (c.gs.map encG)]) (by simp) fun d m => by
    simp only [List.mem_cons, List.not_mem_nil, or_false] at m
    rcases m with rfl | rfl
    · exact gi.le (by decide) (by decide)
    · exact gg
theorem kept_GD {c : Ct} {ps : List (Str × Int)} (h : COk c) (hp : ∀ z ∈ names c, z ∈ pool) (hi : c.ins.length ≤ 3) (hg : c.gs.length ≤ 8) (ho : POk c ps) : GD 4742 6 (.lst [encC c, encP ps]) := by
  have a := ct_GD h hp hi hg
  have ln : ps.length ≤ 3 := by
    have := congrArg List.length ho.ks
    simp only [List.length_map] at this
    omega
  have b : GD 36 2 (encP ps) := encP_GD (m := 3) (fun p m => hp _ (List.mem_append_left _ (by rw [← ho.ks]; exact List.mem_map_of_mem m))) ho.v3 ln
  exact GD.lst (W := 2370) (k := 5) (m := 2) (by simp) fun d m => by
    simp only [List.mem_cons, List.not_mem_nil, or_false] at m
    rcases m with rfl | rfl
    · exact a
    · exact b.le (by decide) (by decide)
def inB : List Sm := [.pars [8, 9, 10] [(.ix (.call 26 [(.v 0), (.ix (.v 1) (.c (.int 1)))]) (.c (.int 0))), (.bi .repr [(.v 6)]), (.lc (.ix (.v 11) (.c (.int 0))) [11] (.n 11) (.itv (.ix (.v 1) (.c (.int 1)))) [])], sel8, .set (.n 7) (.call 23 [(.v 1), (.v 2), (.v 8), (.v 6)]), .ife (.or (.cmp .NotEq (.bi .repr [(.v 7)]) (.bi .repr [(.call 38 [(.v 1), (.v 2), (.v 8), (.v 6)])])) [(.cmp .NotEq (.bi .repr [(.v 6)]) (.v 9))]) [.ret (.c (.bl false))] []]
theorem in_body (n k : Nat) (c : Ct) (ps : List (Str × Int)) (d : D) (s3 s4 s5 s7 s8 s9 s10 : Sl) (S : Sto) (hk : k < S.length) (h : COk c) (ho : POk c ps) (hg : 1 ≤ c.gs.length) (ht : Tk d) :
    ∃ (s7' s8' s9' s10' : Sl) (S' : Sto), evSs (evF pg (n + 10)) inB [.v (.stm k), .v (encC c), .v (encP ps), s3, s4, s5, .v d, s7, s8, s9, s10, .u] S = .ok (.nx [.v (.stm k), .v (encC c), .v (encP ps), s3, s4, s5, .v d, s7', s8', s9', s10', .u]) S' ∧ S'.length = S.length := by
  have lg := h.lg
  obtain ⟨dg, S1, e1, mg, l1⟩ := e_pickT (n + 8) k (c.gs.map encG) S hk (by simp; omega) (by simp; omega)
  obtain ⟨g, hgm, rfl⟩ := List.mem_map.mp mg
  have rd := repr_of ht.gd (by decide) (by decide)
  obtain ⟨nm, hnm, e2⟩ := e_sel (evF pg (n + 10)) S1 (gN c) d ht g.name (List.mem_map_of_mem hgm) (.v (.stm k)) (.v (encC c)) (.v (encP ps)) s3 s4 s5 s7 (.v (.str (shw d))) .u
  have ok : okLs d = true := okLs_py (GD.some ht.gd) fun ds e => (ht.ls ds e).1
  obtain ⟨j1, _⟩ := judges n n c ps nm d S1 h ho hnm ok
  obtain ⟨_, j2⟩ := judges n (n + 7) c ps nm d S1 h ho hnm ok
  have sG := still_Gs c.gs
  have gn : c.gs.map (fun g => D.str g.name) = (gN c).map D.str := by simp [gN]
  have rb := repr_bl (derOk c.gs ps nm d)
  refine ⟨.v (.bl (derOk c.gs ps nm d)), .v (.str nm), .v (.str (shw d)), .o (.lst ((gN c).map .str)), S1, ?_, l1⟩
  simp_all! [inB, ix2_1, e1, ix3_0, rd, sG, gn, ↓e2, j1, j2, rb]
end LW
namespace LW
open PySem PySem.Spec PyProof.Rows L2 GG
/-! twelve turns at one setting -/
def inE (k : Nat) (c : Ct) (ps : List (Str × Int)) (s3 s4 s5 : Sl) (ε : GG.Env) : Prop := ∃ s6 s7 s8 s9 s10 : Sl, ε = [.v (.stm k), .v (encC c), .v (encP ps), s3, s4, s5, s6, s7, s8, s9, s10, .u]
theorem in_loop (n k : Nat) (c : Ct) (ps : List (Str × Int)) (s3 s4 s5 : Sl) (h : COk c) (ho : POk c ps) (hg : 1 ≤ c.gs.length) : ∀ (ds : List D) (ε : GG.Env) (S : Sto), k < S.length → (∀ d ∈ ds, Tk d) → inE k c ps s3 s4 s5 ε →
    ∃ (ε' : GG.Env) (S' : Sto), forLoop (tgS (.n 6)) (evSs (evF pg (n + 10)) inB) ds ε S = .ok (.nx ε') S' ∧ inE k c ps s3 s4 s5 ε' ∧ S'.length = S.length
  | [], ε, S, _, _, he => ⟨ε, S, rfl, he, rfl⟩
  | d :: r, ε, S, hk, hd, ⟨s6, s7, s8, s9, s10, he⟩ => by
    subst he
    obtain ⟨t7, t8, t9, t10, S1, e1, l1⟩ := in_body n k c ps d s3 s4 s5 s7 s8 s9 s10 S hk h ho hg (hd d List.mem_cons_self)
    obtain ⟨ε', S2, e2, q, l2⟩ := in_loop n k c ps s3 s4 s5 h ho hg r [.v (.stm k), .v (encC c), .v (encP ps), s3, s4, s5, .v d, t7, t8, t9, t10, .u] S1 (by omega) (fun x m => hd x (List.mem_cons_of_mem _ m)) ⟨_, _, _, _, _, rfl⟩
    refine ⟨ε', S2, ?_, q, by omega⟩
    rw [f_cons (ε1 := [.v (.stm k), .v (encC c), .v (encP ps), s3, s4, s5, .v d, s7, s8, s9, s10, .u]) (by simp_all! []), e1, fk_nx, e2]
def outB : List Sm := [.set (.n 5) (.call 42 [(.v 0), (.v 1), (.v 2)]), .for_ (.n 6) (.itv (.tup [(.v 5), (.call 43 [(.v 0), (.v 1), (.v 5)]), (.call 39 [(.v 0)])])) inB]
def outE (k : Nat) (c : Ct) (ps : List (Str × Int)) (s3 : Sl) (ε : GG.Env) : Prop := ∃ (s4 : Sl) (d5 : Sl), inE k c ps s3 s4 d5 ε
theorem LineF.still {c : Ct} {X : List D} (h : ∀ d ∈ X, LineF c d) : D.stills X = true := stills_all fun d m => by
  obtain ⟨z, b, ws, h⟩ := h d m
  rw [h.e]
  simp [D.still, D.stills, still_ints (fun x => x)]
theorem out_body (n k : Nat) (c : Ct) (ps : List (Str × Int)) (s3 s4 s5 s6 s7 s8 s9 s10 : Sl) (S : Sto) (hk : k < S.length) (h : COk c) (hp : ∀ z ∈ gN c, z ∈ pool) (ho : POk c ps) (hg : 1 ≤ c.gs.length) (h6 : c.gs.length ≤ 6) :
    ∃ (ε' : GG.Env) (S' : Sto), evSs (evF pg (n + 10)) outB [.v (.stm k), .v (encC c), .v (encP ps), s3, s4, s5, s6, s7, s8, s9, s10, .u] S = .ok (.nx ε') S' ∧ outE k c ps s3 ε' ∧ S'.length = S.length := by
  obtain ⟨X, S1, e1, x1, x2, l1⟩ := e_law_lines (n + 6) k c ps S hk h ho.v3 hg
  obtain ⟨d, S2, e2, t, l2⟩ := e_law_spoilt (n + 3) k c X S1 (by omega) h hp (by omega) x2
  obtain ⟨o, S3, e3, m, l3⟩ := e_odd (n + 7) k S2 (by omega)
  have sX := LineF.still x2
  obtain ⟨ε', S4, e4, q, l4⟩ := in_loop n k c ps s3 s4 (.v (.tup X)) h ho hg [.tup X, d, o] [.v (.stm k), .v (encC c), .v (encP ps), s3, s4, .v (.tup X), s6, s7, s8, s9, s10, .u] S3 (by omega) (fun y my => by
    simp only [List.mem_cons, List.not_mem_nil, or_false] at my
    rcases my with rfl | rfl | rfl
    · exact lines_tk hp (by omega) x2
    · exact t.tk
    · exact odd_tk m) ⟨_, _, _, _, _, rfl⟩
  refine ⟨ε', S4, ?_, ⟨_, _, q⟩, by omega⟩
  have ll : [D.tup X, d, o].length ≤ 16777216 := by simp
  generalize hL : [D.tup X, d, o] = L at e4 ll
  simp_all! [outB, e1, sX, e2, e3, hL, e4, ll]
theorem e_law_right (n k : Nat) (c : Ct) (ps : List (Str × Int)) (S : Sto) (hk : k < S.length) (h : COk c) (hp : ∀ z ∈ names c, z ∈ pool) (ho : POk c ps) (hi : c.ins.length ≤ 3) (hg : 1 ≤ c.gs.length) (h6 : c.gs.length ≤ 6) :
    ∃ S' : Sto, evF pg (n + 11) 44 [.stm k, encC c, encP ps] S = .ok (.bl true) S' ∧ S'.length = S.length := by
  have rk := repr_of (kept_GD h hp hi (by omega) ho) (by decide) (by decide)
  obtain ⟨ε', S1, e1, ⟨s4, s5, s6, s7, s8, s9, s10, he⟩, l1⟩ := for_ex (tgt := tgS (.n 4)) (body := evSs (evF pg (n + 10)) outB) (fun (i : Nat) => D.int (i : Nat)) S.length (outE k c ps (.v (.str (shw (.lst [encC c, encP ps]))))) (xs := List.range 12) (ε := [.v (.stm k), .v (encC c), .v (encP ps), .v (.str (shw (.lst [encC c, encP ps]))), .u, .u, .u, .u, .u, .u, .u, .u]) (S := S) rfl (fun i _ ε S' ⟨s4, s5, s6, s7, s8, s9, s10, hε⟩ hS => by
    subst hε
    obtain ⟨ε', S2, e, q, l⟩ := out_body n k c ps (.v (.str (shw (.lst [encC c, encP ps])))) (.v (.int (i : Nat))) s5 s6 s7 s8 s9 s10 S' (by omega) h (fun z m => hp z (List.mem_append_right _ m)) ho hg h6
    exact ⟨_, ε', S2, rfl, e, q, by omega⟩) ⟨_, _, _, _, _, _, _, rfl⟩
  subst he
  refine ⟨S1, ?_, l1⟩
  (rw [u_fn (n + 10) (f := d__law_right) rfl rfl]; unfold runF)
  have it : iterR [.int 12] = some ((List.range 12).map fun i : Nat => .int ((i : Nat) : Int)) := iterR_nat (m := 12) (by decide)
  unfold outB inB sel8 at e1
  simp_all! [d__law_right, b__law_right, rk, ↓it, ↓e1]
end LW
namespace LW
open PySem PySem.Spec PyProof.Rows L2 GG
/-! the whole law -/
def lawB3 : List Sm := [.ife (.not (.call 44 [(.v 5), (.v 6), (.call 33 [(.v 5), (.v 6)])])) [.ret (.c (.bl false))] []]
def lawB1 : List Sm := [.set (.n 5) (.mkS 24 [(.v 0), (.v 1)]), .set (.n 6) (.call 32 [(.v 5), (.call 25 [(.v 5), (.c (.int 4))]), (.bop .Add (.c (.int 1)) (.call 25 [(.v 5), (.c (.int 6))])), (.c (.int 4))]), .for_ (.n 7) (.rng [(.c (.int 3))]) lawB3]
theorem threeT (k : Nat) (c : Ct) (s0 s1 s5 s7 : Sl) (S : Sto) (hk : k < S.length) (h : COk c) (hp : ∀ z ∈ names c, z ∈ pool) (hi : c.ins.length ≤ 3) (hg : 1 ≤ c.gs.length) (h6 : c.gs.length ≤ 6) :
    ∃ ε' S', forLoop (tgS (.n 7)) (evSs (evF pg 19) lawB3) ((List.range 3).map fun (i : Nat) => .int (i : Nat)) [s0, s1, .u, .u, .u, .v (.stm k), .v (encC c), s7] S = .ok (.nx ε') S' ∧ (∃ s7, ε' = [s0, s1, .u, .u, .u, .v (.stm k), .v (encC c), s7]) ∧ S'.length = S.length :=
  for_ex (fun (i : Nat) => D.int (i : Nat)) S.length (fun ε' => ∃ s7, ε' = [s0, s1, .u, .u, .u, .v (.stm k), .v (encC c), s7]) rfl (fun i _ ε S' ⟨s7, hε⟩ hS => by
    subst hε
    obtain ⟨ps, S2, e1, ho, l2⟩ := e_law_partial 17 k c S' (by omega) (asc_nodup h.a1)
    obtain ⟨S3, e2, l3⟩ := e_law_right 8 k c ps S2 (by omega) h hp ho hi hg h6
    refine ⟨_, [s0, s1, .u, .u, .u, .v (.stm k), .v (encC c), .v (.int (i : Nat))], S3, rfl, ?_, ⟨_, rfl⟩, by omega⟩
    show evSs (evF pg 19) lawB3 [s0, s1, .u, .u, .u, .v (.stm k), .v (encC c), .v (.int (i : Nat))] S' = _
    simp_all! [lawB3, e1, e2]) ⟨_, rfl⟩
theorem lawCells (ns : List Int) (K : Nat) (S : Sto) : ∃ ε' S', forLoop (tgS (.n 1)) (evSs (evF pg 19) lawB1) ((List.range K).map fun (i : Nat) => .int (i : Nat)) [.v (.rol (ns.map .int)), .u, .u, .u, .u, .u, .u, .u] S = .ok (.nx ε') S' ∧
    (∃ s1 s5 s6 s7, ε' = [.v (.rol (ns.map .int)), s1, .u, .u, .u, s5, s6, s7]) :=
  for_exS (fun (i : Nat) => D.int (i : Nat)) (fun ε' => ∃ s1 s5 s6 s7, ε' = [.v (.rol (ns.map .int)), s1, .u, .u, .u, s5, s6, s7]) (fun i _ ε S ⟨s1, s5, s6, s7, hε⟩ => by
    subst hε
    obtain ⟨a, b, e⟩ := e_stream 18 ns i S
    obtain ⟨I, S1, e1, hI, l1⟩ := e_draw 18 S.length 4 (S ++ [(a, b, 0)]) (by simp) (by decide) (by decide)
    obtain ⟨T, S2, e2, hT, l2⟩ := e_draw 18 S.length 6 S1 (by rw [l1]; simp) (by decide) (by decide)
    obtain ⟨c, S3, e3, hc, hi, hg, hp, l3⟩ := e_law_circuit 15 S.length I (1 + T) S2 (by rw [l2, l1]; simp) (by omega) (by omega)
    have e3' : evF pg 19 32 [.stm S.length, .int (I : Nat), .int (1 + (T : Nat)), .int 4] S2 = .ok (encC c) S3 := e3
    obtain ⟨ε4, S4, e4, ⟨s7', rfl⟩, l4⟩ := threeT S.length c (.v (.rol (ns.map .int))) (.v (.int (i : Nat))) (.v (.stm S.length)) s7 S3 (by rw [l3, l2, l1]; simp) hc hp (by omega) (by omega) (by omega)
    refine ⟨_, [.v (.rol (ns.map .int)), .v (.int (i : Nat)), .u, .u, .u, .v (.stm S.length), .v (encC c), s7'], S4, rfl, ?_, ⟨_, _, _, _, rfl⟩⟩
    show evSs (evF pg 19) lawB1 [.v (.rol (ns.map .int)), .v (.int (i : Nat)), .u, .u, .u, s5, s6, s7] S = _
    have it : iterR [.int 3] = some ((List.range 3).map fun i : Nat => .int ((i : Nat) : Int)) := iterR_nat (m := 3) (by decide)
    have si := still_strs c.ins
    have sg := still_Gs c.gs
    have e0 : evS (evF pg 19) (.set (.n 5) (.mkS 24 [(.v 0), (.v 1)])) [.v (.rol (ns.map .int)), .v (.int (i : Nat)), .u, .u, .u, s5, s6, s7] S = .ok (.nx [.v (.rol (ns.map .int)), .v (.int (i : Nat)), .u, .u, .u, .v (.stm S.length), s6, s7]) (S ++ [(a, b, 0)]) := by
      dsimp! [e, mkF]
    unfold lawB1
    rw [st_cons, e0, seq_nx]
    simp_all! [e1, e2, e3', si, sg, ↓it, ↓e4]) ⟨_, _, _, _, rfl⟩
theorem rest17 (S : Sto) (s0 s1 s5 s6 s7 : Sl) : evSs (evF pg 19) (b_law.drop 1) [s0, s1, .u, .u, .u, s5, s6, s7] S = .ok (.rt (.bl true)) S := by
  kernel_rfl
theorem law_ok (ns : List Int) (hl : ns.length ≤ 63) (hb : ∀ z ∈ ns, Builtin.Int.intBits z ≤ 1048576) : ∃ S', evF pg 20 45 [.rol (ns.map D.int)] [] = .ok (.bl true) S' := by
  rw [u_fn 19 (f := d_law) rfl rfl]
  obtain ⟨ε', S2, e, s1, s5, s6, s7, rfl⟩ := lawCells ns (max 1 (min 5 ns.length)) []
  refine ⟨S2, fn_ret ?_⟩
  show evSs (evF pg 19) (.for_ _ _ lawB1 :: b_law.drop 1) [.v (.rol (ns.map .int)), .u, .u, .u, .u, .u, .u, .u] [] = _
  have er : evE (evF pg 19) (.bi .max [(.c (.int 1)), (.bi .min [(.c (.int 5)), (.bi .len [(.v 0)])])]) [.v (.rol (ns.map .int)), .u, .u, .u, .u, .u, .u, .u] [] = .ok (.int ((max 1 (min 5 ns.length) : Nat) : Int)) [] := by
    dsimp! []
    omega
  rw [st_cons, sm_for, rng_nat _ _ _ _ _ (by omega) er, on_ok]
  dsimp only
  rw [if_pos rfl, e, seq_nx, rest17]
end LW
theorem mem_lookup_of {x : PySem.Str} {e : GG.D} : ∀ {g : List (PySem.Str × GG.D)}, g.lookup x = some e → (x, e) ∈ g
  | [], h => by cases h
  | (y, d) :: g, h => by
    rw [List.lookup_cons] at h
    split at h
    · next hb => rw [show x = y from by simpa using hb]; cases h; exact List.mem_cons_self
    · exact List.mem_cons_of_mem _ (mem_lookup_of h)
namespace LW
open PySem PySem.Spec PyProof.Rows L2 GG
def topS (i : Nat) : Stmt := PySem.Challenge.pw_loopgates_k17_derivations_judged.main.body.getD i (.Pass ⟨0, 0, 0, 0⟩)
abbrev s_is_integer : Stmt := topS 9
theorem sc_is_integer : FnScope d_is_integer.N ["value"] (defScope s_is_integer) := ⟨rfl, rfl, rfl, by decide +kernel, rfl, by decide +kernel, by decide +kernel⟩
theorem mt_is_integer : mSs ⟨d_is_integer.N, fnsOf pg, gt, 24⟩ d_is_integer.body (defScope s_is_integer) (defBody s_is_integer) = true := by decide +kernel
abbrev s_is_between : Stmt := topS 10
theorem sc_is_between : FnScope d_is_between.N ["value", "low", "high"] (defScope s_is_between) := ⟨rfl, rfl, rfl, by decide +kernel, rfl, by decide +kernel, by decide +kernel⟩
theorem mt_is_between : mSs ⟨d_is_between.N, fnsOf pg, gt, 24⟩ d_is_between.body (defScope s_is_between) (defBody s_is_between) = true := by decide +kernel
abbrev s_is_name : Stmt := topS 11
theorem sc_is_name : FnScope d_is_name.N ["value"] (defScope s_is_name) := ⟨rfl, rfl, rfl, by decide +kernel, rfl, by decide +kernel, by decide +kernel⟩
theorem mt_is_name : mSs ⟨d_is_name.N, fnsOf pg, gt, 24⟩ d_is_name.body (defScope s_is_name) (defBody s_is_name) = true := by decide +kernel
abbrev s_is_bit : Stmt := topS 12
theorem sc_is_bit : FnScope d_is_bit.N ["value"] (defScope s_is_bit) := ⟨rfl, rfl, rfl, by decide +kernel, rfl, by decide +kernel, by decide +kernel⟩
theorem mt_is_bit : mSs ⟨d_is_bit.N, fnsOf pg, gt, 24⟩ d_is_bit.body (defScope s_is_bit) (defBody s_is_bit) = true := by decide +kernel
abbrev s_is_value : Stmt := topS 13
theorem sc_is_value : FnScope d_is_value.N ["value"] (defScope s_is_value) := ⟨rfl, rfl, rfl, by decide +kernel, rfl, by decide +kernel, by decide +kernel⟩
theorem mt_is_value : mSs ⟨d_is_value.N, fnsOf pg, gt, 24⟩ d_is_value.body (defScope s_is_value) (defBody s_is_value) = true := by decide +kernel
abbrev s_is_table : Stmt := topS 16
theorem sc_is_table : FnScope d_is_table.N ["value"] (defScope s_is_table) := ⟨rfl, rfl, rfl, by decide +kernel, rfl, by decide +kernel, by decide +kernel⟩
theorem mt_is_table : mSs ⟨d_is_table.N, fnsOf pg, gt, 24⟩ d_is_table.body (defScope s_is_table) (defBody s_is_table) = true := by decide +kernel
abbrev s_wires_in : Stmt := topS 17
theorem sc_wires_in : FnScope d_wires_in.N ["table"] (defScope s_wires_in) := ⟨rfl, rfl, rfl, by decide +kernel, rfl, by decide +kernel, by decide +kernel⟩
theorem mt_wires_in : mSs ⟨d_wires_in.N, fnsOf pg, gt, 24⟩ d_wires_in.body (defScope s_wires_in) (defBody s_wires_in) = true := by decide +kernel
abbrev s_forced_in : Stmt := topS 18
theorem sc_forced_in : FnScope d_forced_in.N ["table", "row"] (defScope s_forced_in) := ⟨rfl, rfl, rfl, by decide +kernel, rfl, by decide +kernel, by decide +kernel⟩
theorem mt_forced_in : mSs ⟨d_forced_in.N, fnsOf pg, gt, 24⟩ d_forced_in.body (defScope s_forced_in) (defBody s_forced_in) = true := by decide +kernel
abbrev s_are_names : Stmt := topS 22
theorem sc_are_names : FnScope d_are_names.N ["value"] (defScope s_are_names) := ⟨rfl, rfl, rfl, by decide +kernel, rfl, by decide +kernel, by decide +kernel⟩
theorem mt_are_names : mSs ⟨d_are_names.N, fnsOf pg, gt, 24⟩ d_are_names.body (defScope s_are_names) (defBody s_are_names) = true := by decide +kernel
abbrev s_is_gate_of : Stmt := topS 23
theorem sc_is_gate_of : FnScope d_is_gate_of.N ["known", "value"] (defScope s_is_gate_of) := ⟨rfl, rfl, rfl, by decide +kernel, rfl, by decide +kernel, by decide +kernel⟩
theorem mt_is_gate_of : mSs ⟨d_is_gate_of.N, fnsOf pg, gt, 24⟩ d_is_gate_of.body (defScope s_is_gate_of) (defBody s_is_gate_of) = true := by decide +kernel
abbrev s_is_known : Stmt := topS 24
theorem sc_is_known : FnScope d_is_known.N ["known", "value"] (defScope s_is_known) := ⟨rfl, rfl, rfl, by decide +kernel, rfl, by decide +kernel, by decide +kernel⟩
theorem mt_is_known : mSs ⟨d_is_known.N, fnsOf pg, gt, 24⟩ d_is_known.body (defScope s_is_known) (defBody s_is_known) = true := by decide +kernel
abbrev s_is_circuit : Stmt := topS 25
theorem sc_is_circuit : FnScope d_is_circuit.N ["value"] (defScope s_is_circuit) := ⟨rfl, rfl, rfl, by decide +kernel, rfl, by decide +kernel, by decide +kernel⟩
theorem mt_is_circuit : mSs ⟨d_is_circuit.N, fnsOf pg, gt, 24⟩ d_is_circuit.body (defScope s_is_circuit) (defBody s_is_circuit) = true := by decide +kernel
abbrev s_require_circuit : Stmt := topS 26
theorem sc_require_circuit : FnScope d_require_circuit.N ["circuit"] (defScope s_require_circuit) := ⟨rfl, rfl, rfl, by decide +kernel, rfl, by decide +kernel, by decide +kernel⟩
theorem mt_require_circuit : mSs ⟨d_require_circuit.N, fnsOf pg, gt, 24⟩ d_require_circuit.body (defScope s_require_circuit) (defBody s_require_circuit) = true := by decide +kernel
abbrev s_gates_in : Stmt := topS 27
theorem sc_gates_in : FnScope d_gates_in.N ["circuit"] (defScope s_gates_in) := ⟨rfl, rfl, rfl, by decide +kernel, rfl, by decide +kernel, by decide +kernel⟩
theorem mt_gates_in : mSs ⟨d_gates_in.N, fnsOf pg, gt, 24⟩ d_gates_in.body (defScope s_gates_in) (defBody s_gates_in) = true := by decide +kernel
abbrev s_is_partial_of : Stmt := topS 28
theorem sc_is_partial_of : FnScope d_is_partial_of.N ["circuit", "value"] (defScope s_is_partial_of) := ⟨rfl, rfl, rfl, by decide +kernel, rfl, by decide +kernel, by decide +kernel⟩
theorem mt_is_partial_of : mSs ⟨d_is_partial_of.N, fnsOf pg, gt, 24⟩ d_is_partial_of.body (defScope s_is_partial_of) (defBody s_is_partial_of) = true := by decide +kernel
abbrev s_require_partial : Stmt := topS 29
theorem sc_require_partial : FnScope d_require_partial.N ["circuit", "setting"] (defScope s_require_partial) := ⟨rfl, rfl, rfl, by decide +kernel, rfl, by decide +kernel, by decide +kernel⟩
theorem mt_require_partial : mSs ⟨d_require_partial.N, fnsOf pg, gt, 24⟩ d_require_partial.body (defScope s_require_partial) (defBody s_require_partial) = true := by decide +kernel
abbrev s_require_gate : Stmt := topS 30
theorem sc_require_gate : FnScope d_require_gate.N ["circuit", "gate"] (defScope s_require_gate) := ⟨rfl, rfl, rfl, by decide +kernel, rfl, by decide +kernel, by decide +kernel⟩
theorem mt_require_gate : mSs ⟨d_require_gate.N, fnsOf pg, gt, 24⟩ d_require_gate.body (defScope s_require_gate) (defBody s_require_gate) = true := by decide +kernel
abbrev s_row_in : Stmt := topS 32
theorem sc_row_in : FnScope d_row_in.N ["sources", "setting", "known"] (defScope s_row_in) := ⟨rfl, rfl, rfl, by decide +kernel, rfl, by decide +kernel, by decide +kernel⟩
theorem mt_row_in : mSs ⟨d_row_in.N, fnsOf pg, gt, 24⟩ d_row_in.body (defScope s_row_in) (defBody s_row_in) = true := by decide +kernel
abbrev s_are_wires : Stmt := topS 34
theorem sc_are_wires : FnScope d_are_wires.N ["sources", "value"] (defScope s_are_wires) := ⟨rfl, rfl, rfl, by decide +kernel, rfl, by decide +kernel, by decide +kernel⟩
theorem mt_are_wires : mSs ⟨d_are_wires.N, fnsOf pg, gt, 24⟩ d_are_wires.body (defScope s_are_wires) (defBody s_are_wires) = true := by decide +kernel
abbrev s_is_line_after : Stmt := topS 35
theorem sc_is_line_after : FnScope d_is_line_after.N ["gates", "setting", "known", "value"] (defScope s_is_line_after) := ⟨rfl, rfl, rfl, by decide +kernel, rfl, by decide +kernel, by decide +kernel⟩
theorem mt_is_line_after : mSs ⟨d_is_line_after.N, fnsOf pg, gt, 24⟩ d_is_line_after.body (defScope s_is_line_after) (defBody s_is_line_after) = true := by decide +kernel
abbrev s_bits_of_lines : Stmt := topS 36
theorem sc_bits_of_lines : FnScope d_bits_of_lines.N ["circuit", "setting", "value"] (defScope s_bits_of_lines) := ⟨rfl, rfl, rfl, by decide +kernel, rfl, by decide +kernel, by decide +kernel⟩
theorem mt_bits_of_lines : mSs ⟨d_bits_of_lines.N, fnsOf pg, gt, 24⟩ d_bits_of_lines.body (defScope s_bits_of_lines) (defBody s_bits_of_lines) = true := by decide +kernel
abbrev s_is_derivation_in : Stmt := topS 37
theorem sc_is_derivation_in : FnScope d_is_derivation_in.N ["circuit", "setting", "gate", "value"] (defScope s_is_derivation_in) := ⟨rfl, rfl, rfl, by decide +kernel, rfl, by decide +kernel, by decide +kernel⟩
theorem mt_is_derivation_in : mSs ⟨d_is_derivation_in.N, fnsOf pg, gt, 24⟩ d_is_derivation_in.body (defScope s_is_derivation_in) (defBody s_is_derivation_in) = true := by decide +kernel
abbrev s_require_all : Stmt := topS 38
theorem sc_require_all : FnScope d_require_all.N ["circuit", "setting", "gate"] (defScope s_require_all) := ⟨rfl, rfl, rfl, by decide +kernel, rfl, by decide +kernel, by decide +kernel⟩
theorem mt_require_all : mSs ⟨d_require_all.N, fnsOf pg, gt, 24⟩ d_require_all.body (defScope s_require_all) (defBody s_require_all) = true := by decide +kernel
abbrev s_is_derivation : Stmt := topS 39
theorem sc_is_derivation : FnScope d_is_derivation.N ["circuit", "setting", "gate", "value"] (defScope s_is_derivation) := ⟨rfl, rfl, rfl, by decide +kernel, rfl, by decide +kernel, by decide +kernel⟩
theorem mt_is_derivation : mSs ⟨d_is_derivation.N, fnsOf pg, gt, 24⟩ d_is_derivation.body (defScope s_is_derivation) (defBody s_is_derivation) = true := by decide +kernel
abbrev s__law_stream : Stmt := topS 41
theorem sc__law_stream : FnScope d__law_stream.N ["_law_script", "_law_at"] (defScope s__law_stream) := ⟨rfl, rfl, rfl, by decide +kernel, rfl, by decide +kernel, by decide +kernel⟩
theorem mt__law_stream : mSs ⟨d__law_stream.N, fnsOf pg, gt, 24⟩ d__law_stream.body (defScope s__law_stream) (defBody s__law_stream) = true := by decide +kernel
abbrev s__law_draw : Stmt := topS 42
theorem sc__law_draw : FnScope d__law_draw.N ["_law_stream_here", "_law_total"] (defScope s__law_draw) := ⟨rfl, rfl, rfl, by decide +kernel, rfl, by decide +kernel, by decide +kernel⟩
theorem mt__law_draw : mSs ⟨d__law_draw.N, fnsOf pg, gt, 24⟩ d__law_draw.body (defScope s__law_draw) (defBody s__law_draw) = true := by decide +kernel
abbrev s__law_pick : Stmt := topS 43
theorem sc__law_pick : FnScope d__law_pick.N ["_law_stream_here", "_law_items"] (defScope s__law_pick) := ⟨rfl, rfl, rfl, by decide +kernel, rfl, by decide +kernel, by decide +kernel⟩
theorem mt__law_pick : mSs ⟨d__law_pick.N, fnsOf pg, gt, 24⟩ d__law_pick.body (defScope s__law_pick) (defBody s__law_pick) = true := by decide +kernel
abbrev s__law_mixed : Stmt := topS 44
theorem sc__law_mixed : FnScope d__law_mixed.N ["_law_stream_here", "_law_items"] (defScope s__law_mixed) := ⟨rfl, rfl, rfl, by decide +kernel, rfl, by decide +kernel, by decide +kernel⟩
theorem mt__law_mixed : mSs ⟨d__law_mixed.N, fnsOf pg, gt, 24⟩ d__law_mixed.body (defScope s__law_mixed) (defBody s__law_mixed) = true := by decide +kernel
abbrev s__law_names : Stmt := topS 45
theorem sc__law_names : FnScope d__law_names.N ["_law_stream_here", "_law_total"] (defScope s__law_names) := ⟨rfl, rfl, rfl, by decide +kernel, rfl, by decide +kernel, by decide +kernel⟩
theorem mt__law_names : mSs ⟨d__law_names.N, fnsOf pg, gt, 24⟩ d__law_names.body (defScope s__law_names) (defBody s__law_names) = true := by decide +kernel
abbrev s__law_rows : Stmt := topS 46
theorem sc__law_rows : FnScope d__law_rows.N ["_law_size", "_law_top"] (defScope s__law_rows) := ⟨rfl, rfl, rfl, by decide +kernel, rfl, by decide +kernel, by decide +kernel⟩
theorem mt__law_rows : mSs ⟨d__law_rows.N, fnsOf pg, gt, 24⟩ d__law_rows.body (defScope s__law_rows) (defBody s__law_rows) = true := by decide +kernel
abbrev s__law_forced : Stmt := topS 47
theorem sc__law_forced : FnScope d__law_forced.N ["_law_table_here", "_law_row"] (defScope s__law_forced) := ⟨rfl, rfl, rfl, by decide +kernel, rfl, by decide +kernel, by decide +kernel⟩
theorem mt__law_forced : mSs ⟨d__law_forced.N, fnsOf pg, gt, 24⟩ d__law_forced.body (defScope s__law_forced) (defBody s__law_forced) = true := by decide +kernel
abbrev s__law_table : Stmt := topS 48
theorem sc__law_table : FnScope d__law_table.N ["_law_stream_here", "_law_size"] (defScope s__law_table) := ⟨rfl, rfl, rfl, by decide +kernel, rfl, by decide +kernel, by decide +kernel⟩
theorem mt__law_table : mSs ⟨d__law_table.N, fnsOf pg, gt, 24⟩ d__law_table.body (defScope s__law_table) (defBody s__law_table) = true := by decide +kernel
abbrev s__law_circuit : Stmt := topS 49
theorem sc__law_circuit : FnScope d__law_circuit.N ["_law_stream_here", "_law_inputs", "_law_total", "_law_width"] (defScope s__law_circuit) := ⟨rfl, rfl, rfl, by decide +kernel, rfl, by decide +kernel, by decide +kernel⟩
theorem mt__law_circuit : mSs ⟨d__law_circuit.N, fnsOf pg, gt, 24⟩ d__law_circuit.body (defScope s__law_circuit) (defBody s__law_circuit) = true := by decide +kernel
abbrev s__law_partial : Stmt := topS 50
theorem sc__law_partial : FnScope d__law_partial.N ["_law_stream_here", "_law_circuit_here"] (defScope s__law_partial) := ⟨rfl, rfl, rfl, by decide +kernel, rfl, by decide +kernel, by decide +kernel⟩
theorem mt__law_partial : mSs ⟨d__law_partial.N, fnsOf pg, gt, 24⟩ d__law_partial.body (defScope s__law_partial) (defBody s__law_partial) = true := by decide +kernel
abbrev s__law_row_of : Stmt := topS 51
theorem sc__law_row_of : FnScope d__law_row_of.N ["_law_gate_here", "_law_setting", "_law_told"] (defScope s__law_row_of) := ⟨rfl, rfl, rfl, by decide +kernel, rfl, by decide +kernel, by decide +kernel⟩
theorem mt__law_row_of : mSs ⟨d__law_row_of.N, fnsOf pg, gt, 24⟩ d__law_row_of.body (defScope s__law_row_of) (defBody s__law_row_of) = true := by decide +kernel
abbrev s__law_gate : Stmt := topS 52
theorem sc__law_gate : FnScope d__law_gate.N ["_law_circuit_here", "_law_name"] (defScope s__law_gate) := ⟨rfl, rfl, rfl, by decide +kernel, rfl, by decide +kernel, by decide +kernel⟩
theorem mt__law_gate : mSs ⟨d__law_gate.N, fnsOf pg, gt, 24⟩ d__law_gate.body (defScope s__law_gate) (defBody s__law_gate) = true := by decide +kernel
abbrev s__law_is_bit : Stmt := topS 53
theorem sc__law_is_bit : FnScope d__law_is_bit.N ["_law_thing"] (defScope s__law_is_bit) := ⟨rfl, rfl, rfl, by decide +kernel, rfl, by decide +kernel, by decide +kernel⟩
theorem mt__law_is_bit : mSs ⟨d__law_is_bit.N, fnsOf pg, gt, 24⟩ d__law_is_bit.body (defScope s__law_is_bit) (defBody s__law_is_bit) = true := by decide +kernel
abbrev s__law_is_line : Stmt := topS 54
theorem sc__law_is_line : FnScope d__law_is_line.N ["_law_circuit_here", "_law_setting", "_law_told", "_law_line"] (defScope s__law_is_line) := ⟨rfl, rfl, rfl, by decide +kernel, rfl, by decide +kernel, by decide +kernel⟩
theorem mt__law_is_line : mSs ⟨d__law_is_line.N, fnsOf pg, gt, 24⟩ d__law_is_line.body (defScope s__law_is_line) (defBody s__law_is_line) = true := by decide +kernel
abbrev s__law_is_derivation : Stmt := topS 55
theorem sc__law_is_derivation : FnScope d__law_is_derivation.N ["_law_circuit_here", "_law_setting", "_law_name", "_law_thing"] (defScope s__law_is_derivation) := ⟨rfl, rfl, rfl, by decide +kernel, rfl, by decide +kernel, by decide +kernel⟩
theorem mt__law_is_derivation : mSs ⟨d__law_is_derivation.N, fnsOf pg, gt, 24⟩ d__law_is_derivation.body (defScope s__law_is_derivation) (defBody s__law_is_derivation) = true := by decide +kernel
abbrev s__law_odd : Stmt := topS 56
theorem sc__law_odd : FnScope d__law_odd.N ["_law_stream_here"] (defScope s__law_odd) := ⟨rfl, rfl, rfl, by decide +kernel, rfl, by decide +kernel, by decide +kernel⟩
theorem mt__law_odd : mSs ⟨d__law_odd.N, fnsOf pg, gt, 24⟩ d__law_odd.body (defScope s__law_odd) (defBody s__law_odd) = true := by decide +kernel
abbrev s__law_bent : Stmt := topS 57
theorem sc__law_bent : FnScope d__law_bent.N ["_law_stream_here", "_law_thing", "_law_deep"] (defScope s__law_bent) := ⟨rfl, rfl, rfl, by decide +kernel, rfl, by decide +kernel, by decide +kernel⟩
theorem mt__law_bent : mSs ⟨d__law_bent.N, fnsOf pg, gt, 24⟩ d__law_bent.body (defScope s__law_bent) (defBody s__law_bent) = true := by decide +kernel
abbrev s__law_able_lines : Stmt := topS 58
theorem sc__law_able_lines : FnScope d__law_able_lines.N ["_law_stream_here", "_law_circuit_here", "_law_setting", "_law_told"] (defScope s__law_able_lines) := ⟨rfl, rfl, rfl, by decide +kernel, rfl, by decide +kernel, by decide +kernel⟩
theorem mt__law_able_lines : mSs ⟨d__law_able_lines.N, fnsOf pg, gt, 24⟩ d__law_able_lines.body (defScope s__law_able_lines) (defBody s__law_able_lines) = true := by decide +kernel
abbrev s__law_lines : Stmt := topS 59
theorem sc__law_lines : FnScope d__law_lines.N ["_law_stream_here", "_law_circuit_here", "_law_setting"] (defScope s__law_lines) := ⟨rfl, rfl, rfl, by decide +kernel, rfl, by decide +kernel, by decide +kernel⟩
theorem mt__law_lines : mSs ⟨d__law_lines.N, fnsOf pg, gt, 24⟩ d__law_lines.body (defScope s__law_lines) (defBody s__law_lines) = true := by decide +kernel
abbrev s__law_spoilt : Stmt := topS 60
theorem sc__law_spoilt : FnScope d__law_spoilt.N ["_law_stream_here", "_law_circuit_here", "_law_lines_here"] (defScope s__law_spoilt) := ⟨rfl, rfl, rfl, by decide +kernel, rfl, by decide +kernel, by decide +kernel⟩
theorem mt__law_spoilt : mSs ⟨d__law_spoilt.N, fnsOf pg, gt, 24⟩ d__law_spoilt.body (defScope s__law_spoilt) (defBody s__law_spoilt) = true := by decide +kernel
abbrev s__law_right : Stmt := topS 61
theorem sc__law_right : FnScope d__law_right.N ["_law_stream_here", "_law_circuit_here", "_law_setting"] (defScope s__law_right) := ⟨rfl, rfl, rfl, by decide +kernel, rfl, by decide +kernel, by decide +kernel⟩
theorem mt__law_right : mSs ⟨d__law_right.N, fnsOf pg, gt, 24⟩ d__law_right.body (defScope s__law_right) (defBody s__law_right) = true := by decide +kernel
abbrev s_law : Stmt := topS 62
theorem sc_law : FnScope d_law.N ["_law_script"] (defScope s_law) := ⟨rfl, rfl, rfl, by decide +kernel, rfl, by decide +kernel, by decide +kernel⟩
theorem mt_law : mSs ⟨d_law.N, fnsOf pg, gt, 24⟩ d_law.body (defScope s_law) (defBody s_law) = true := by decide +kernel
theorem ff_mk {K : PySem.W.Frag} {h : Heap} {mg : Str → Option Value} (X : K.In h) (G : h.Ns mainGlobals mg) (f : Fd) (st : Stmt) (ps : List Str) {f1 : Addr} {od an : Option Addr} {sl : Array (Option Value)} {oc kV dc pm cd ct : Value}
    (a : PySem.W.nsIn K mainGlobals f.name = some (some (.ref f1))) (l : K.lookup f1 = some ⟨oc, od, .func (PySem.W.fnOf f.name f.name (defArgs st) (defBody st) (defScope st) .none kV dc pm an cd ct), sl⟩)
    (c : PySem.W.codeIn K cd f.name = true) (k : PySem.W.keepIn K (.ref f1) = true) (sc : FnScope f.N ps (defScope st)) (mt : mSs ⟨f.N, fnsOf pg, gt, 24⟩ f.body (defScope st) (defBody st) = true)
    (bi : ∀ fd, L2.Fun K f.name f.name st f1 fd → Binds K fd ps []) (hl : ps.length = f.ar) : FFact K mg (fnsOf pg) gt 24 f :=
  ⟨f.name, st, f1, _, ps, fun_mk (st := st) l c k, sc, PySem.W.mg_of X G a, bi _ (fun_mk (st := st) l c k), hl, mt⟩
set_option maxHeartbeats 0 in
theorem all_mk {w : World} {K : PySem.W.Frag} {h : Heap} {mg : Str → Option Value} (X : K.In h) (G : h.Ns mainGlobals mg)
    {f0 : Addr} {od0 an0 : Option Addr} {sl0 : Array (Option Value)} {oc0 kV0 dc0 pm0 cd0 ct0 : Value} (a0 : PySem.W.nsIn K mainGlobals d_is_integer.name = some (some (.ref f0))) (l0 : K.lookup f0 = some ⟨oc0, od0, .func (PySem.W.fnOf d_is_integer.name d_is_integer.name (defArgs s_is_integer) (defBody s_is_integer) (defScope s_is_integer) .none kV0 dc0 pm0 an0 cd0 ct0), sl0⟩) (c0 : PySem.W.codeIn K cd0 d_is_integer.name = true) (k0 : PySem.W.keepIn K (.ref f0) = true)
    {f1 : Addr} {od1 an1 : Option Addr} {sl1 : Array (Option Value)} {oc1 kV1 dc1 pm1 cd1 ct1 : Value} (a1 : PySem.W.nsIn K mainGlobals d_is_between.name = some (some (.ref f1))) (l1 : K.lookup f1 = some ⟨oc1, od1, .func (PySem.W.fnOf d_is_between.name d_is_between.name (defArgs s_is_between) (defBody s_is_between) (defScope s_is_between) .none kV1 dc1 pm1 an1 cd1 ct1), sl1⟩) (c1 : PySem.W.codeIn K cd1 d_is_between.name = true) (k1 : PySem.W.keepIn K (.ref f1) = true)
    {f2 : Addr} {od2 an2 : Option Addr} {sl2 : Array (Option Value)} {oc2 kV2 dc2 pm2 cd2 ct2 : Value} (a2 : PySem.W.nsIn K mainGlobals d_is_name.name = some (some (.ref f2))) (l2 : K.lookup f2 = some ⟨oc2, od2, .func (PySem.W.fnOf d_is_name.name d_is_name.name (defArgs s_is_name) (defBody s_is_name) (defScope s_is_name) .none kV2 dc2 pm2 an2 cd2 ct2), sl2⟩) (c2 : PySem.W.codeIn K cd2 d_is_name.name = true) (k2 : PySem.W.keepIn K (.ref f2) = true)
    {f3 : Addr} {od3 an3 : Option Addr} {sl3 : Array (Option Value)} {oc3 kV3 dc3 pm3 cd3 ct3 : Value} (a3 : PySem.W.nsIn K mainGlobals d_is_bit.name = some (some (.ref f3))) (l3 : K.lookup f3 = some ⟨oc3, od3, .func (PySem.W.fnOf d_is_bit.name d_is_bit.name (defArgs s_is_bit) (defBody s_is_bit) (defScope s_is_bit) .none kV3 dc3 pm3 an3 cd3 ct3), sl3⟩) (c3 : PySem.W.codeIn K cd3 d_is_bit.name = true) (k3 : PySem.W.keepIn K (.ref f3) = true)
    {f4 : Addr} {od4 an4 : Option Addr} {sl4 : Array (Option Value)} {oc4 kV4 dc4 pm4 cd4 ct4 : Value} (a4 : PySem.W.nsIn K mainGlobals d_is_value.name = some (some (.ref f4))) (l4 : K.lookup f4 = some ⟨oc4, od4, .func (PySem.W.fnOf d_is_value.name d_is_value.name (defArgs s_is_value) (defBody s_is_value) (defScope s_is_value) .none kV4 dc4 pm4 an4 cd4 ct4), sl4⟩) (c4 : PySem.W.codeIn K cd4 d_is_value.name = true) (k4 : PySem.W.keepIn K (.ref f4) = true)
    {f5 : Addr} {od5 an5 : Option Addr} {sl5 : Array (Option Value)} {oc5 kV5 dc5 pm5 cd5 ct5 : Value} (a5 : PySem.W.nsIn K mainGlobals d_is_table.name = some (some (.ref f5))) (l5 : K.lookup f5 = some ⟨oc5, od5, .func (PySem.W.fnOf d_is_table.name d_is_table.name (defArgs s_is_table) (defBody s_is_table) (defScope s_is_table) .none kV5 dc5 pm5 an5 cd5 ct5), sl5⟩) (c5 : PySem.W.codeIn K cd5 d_is_table.name = true) (k5 : PySem.W.keepIn K (.ref f5) = true)
    {f6 : Addr} {od6 an6 : Option Addr} {sl6 : Array (Option Value)} {oc6 kV6 dc6 pm6 cd6 ct6 : Value} (a6 : PySem.W.nsIn K mainGlobals d_wires_in.name = some (some (.ref f6))) (l6 : K.lookup f6 = some ⟨oc6, od6, .func (PySem.W.fnOf d_wires_in.name d_wires_in.name (defArgs s_wires_in) (defBody s_wires_in) (defScope s_wires_in) .none kV6 dc6 pm6 an6 cd6 ct6), sl6⟩) (c6 : PySem.W.codeIn K cd6 d_wires_in.name = true) (k6 : PySem.W.keepIn K (.ref f6) = true)
    {f7 : Addr} {od7 an7 : Option Addr} {sl7 : Array (Option Value)} {oc7 kV7 dc7 pm7 cd7 ct7 : Value} (a7 : PySem.W.nsIn K mainGlobals d_forced_in.name = some (some (.ref f7))) (l7 : K.lookup f7 = some ⟨oc7, od7, .func (PySem.W.fnOf d_forced_in.name d_forced_in.name (defArgs s_forced_in) (defBody s_forced_in) (defScope s_forced_in) .none kV7 dc7 pm7 an7 cd7 ct7), sl7⟩) (c7 : PySem.W.codeIn K cd7 d_forced_in.name = true) (k7 : PySem.W.keepIn K (.ref f7) = true)
    {f8 : Addr} {od8 an8 : Option Addr} {sl8 : Array (Option Value)} {oc8 kV8 dc8 pm8 cd8 ct8 : Value} (a8 : PySem.W.nsIn K mainGlobals d_are_names.name = some (some (.ref f8))) (l8 : K.lookup f8 = some ⟨oc8, od8, .func (PySem.W.fnOf d_are_names.name d_are_names.name (defArgs s_are_names) (defBody s_are_names) (defScope s_are_names) .none kV8 dc8 pm8 an8 cd8 ct8), sl8⟩) (c8 : PySem.W.codeIn K cd8 d_are_names.name = true) (k8 : PySem.W.keepIn K (.ref f8) = true)
    {f9 : Addr} {od9 an9 : Option Addr} {sl9 : Array (Option Value)} {oc9 kV9 dc9 pm9 cd9 ct9 : Value} (a9 : PySem.W.nsIn K mainGlobals d_is_gate_of.name = some (some (.ref f9))) (l9 : K.lookup f9 = some ⟨oc9, od9, .func (PySem.W.fnOf d_is_gate_of.name d_is_gate_of.name (defArgs s_is_gate_of) (defBody s_is_gate_of) (defScope s_is_gate_of) .none kV9 dc9 pm9 an9 cd9 ct9), sl9⟩) (c9 : PySem.W.codeIn K cd9 d_is_gate_of.name = true) (k9 : PySem.W.keepIn K (.ref f9) = true)
    {f10 : Addr} {od10 an10 : Option Addr} {sl10 : Array (Option Value)} {oc10 kV10 dc10 pm10 cd10 ct10 : Value} (a10 : PySem.W.nsIn K mainGlobals d_is_known.name = some (some (.ref f10))) (l10 : K.lookup f10 = some ⟨oc10, od10, .func (PySem.W.fnOf d_is_known.name d_is_known.name (defArgs s_is_known) (defBody s_is_known) (defScope s_is_known) .none kV10 dc10 pm10 an10 cd10 ct10), sl10⟩) (c10 : PySem.W.codeIn K cd10 d_is_known.name = true) (k10 : PySem.W.keepIn K (.ref f10) = true)
    {f11 : Addr} {od11 an11 : Option Addr} {sl11 : Array (Option Value)} {oc11 kV11 dc11 pm11 cd11 ct11 : Value} (a11 : PySem.W.nsIn K mainGlobals d_is_circuit.name = some (some (.ref f11))) (l11 : K.lookup f11 = some ⟨oc11, od11, .func (PySem.W.fnOf d_is_circuit.name d_is_circuit.name (defArgs s_is_circuit) (defBody s_is_circuit) (defScope s_is_circuit) .none kV11 dc11 pm11 an11 cd11 ct11), sl11⟩) (c11 : PySem.W.codeIn K cd11 d_is_circuit.name = true) (k11 : PySem.W.keepIn K (.ref f11) = true)
    {f12 : Addr} {od12 an12 : Option Addr} {sl12 : Array (Option Value)} {oc12 kV12 dc12 pm12 cd12 ct12 : Value} (a12 : PySem.W.nsIn K mainGlobals d_require_circuit.name = some (some (.ref f12))) (l12 : K.lookup f12 = some ⟨oc12, od12, .func (PySem.W.fnOf d_require_circuit.name d_require_circuit.name (defArgs s_require_circuit) (defBody s_require_circuit) (defScope s_require_circuit) .none kV12 dc12 pm12 an12 cd12 ct12), sl12⟩) (c12 : PySem.W.codeIn K cd12 d_require_circuit.name = true) (k12 : PySem.W.keepIn K (.ref f12) = true)
    {f13 : Addr} {od13 an13 : Option Addr} {sl13 : Array (Option Value)} {oc13 kV13 dc13 pm13 cd13 ct13 : Value} (a13 : PySem.W.nsIn K mainGlobals d_gates_in.name = some (some (.ref f13))) (l13 : K.lookup f13 = some ⟨oc13, od13, .func (PySem.W.fnOf d_gates_in.name d_gates_in.name (defArgs s_gates_in) (defBody s_gates_in) (defScope s_gates_in) .none kV13 dc13 pm13 an13 cd13 ct13), sl13⟩) (c13 : PySem.W.codeIn K cd13 d_gates_in.name = true) (k13 : PySem.W.keepIn K (.ref f13) = true)
    {f14 : Addr} {od14 an14 : Option Addr} {sl14 : Array (Option Value)} {oc14 kV14 dc14 pm14 cd14 ct14 : Value} (a14 : PySem.W.nsIn K mainGlobals d_is_partial_of.name = some (some (.ref f14))) (l14 : K.lookup f14 = some ⟨oc14, od14, .func (PySem.W.fnOf d_is_partial_of.name d_is_partial_of.name (defArgs s_is_partial_of) (defBody s_is_partial_of) (defScope s_is_partial_of) .none kV14 dc14 pm14 an14 cd14 ct14), sl14⟩) (c14 : PySem.W.codeIn K cd14 d_is_partial_of.name = true) (k14 : PySem.W.keepIn K (.ref f14) = true)
    {f15 : Addr} {od15 an15 : Option Addr} {sl15 : Array (Option Value)} {oc15 kV15 dc15 pm15 cd15 ct15 : Value} (a15 : PySem.W.nsIn K mainGlobals d_require_partial.name = some (some (.ref f15))) (l15 : K.lookup f15 = some ⟨oc15, od15, .func (PySem.W.fnOf d_require_partial.name d_require_partial.name (defArgs s_require_partial) (defBody s_require_partial) (defScope s_require_partial) .none kV15 dc15 pm15 an15 cd15 ct15), sl15⟩) (c15 : PySem.W.codeIn K cd15 d_require_partial.name = true) (k15 : PySem.W.keepIn K (.ref f15) = true)
    {f16 : Addr} {od16 an16 : Option Addr} {sl16 : Array (Option Value)} {oc16 kV16 dc16 pm16 cd16 ct16 : Value} (a16 : PySem.W.nsIn K mainGlobals d_require_gate.name = some (some (.ref f16))) (l16 : K.lookup f16 = some ⟨oc16, od16, .func (PySem.W.fnOf d_require_gate.name d_require_gate.name (defArgs s_require_gate) (defBody s_require_gate) (defScope s_require_gate) .none kV16 dc16 pm16 an16 cd16 ct16), sl16⟩) (c16 : PySem.W.codeIn K cd16 d_require_gate.name = true) (k16 : PySem.W.keepIn K (.ref f16) = true)
    {f17 : Addr} {od17 an17 : Option Addr} {sl17 : Array (Option Value)} {oc17 kV17 dc17 pm17 cd17 ct17 : Value} (a17 : PySem.W.nsIn K mainGlobals d_row_in.name = some (some (.ref f17))) (l17 : K.lookup f17 = some ⟨oc17, od17, .func (PySem.W.fnOf d_row_in.name d_row_in.name (defArgs s_row_in) (defBody s_row_in) (defScope s_row_in) .none kV17 dc17 pm17 an17 cd17 ct17), sl17⟩) (c17 : PySem.W.codeIn K cd17 d_row_in.name = true) (k17 : PySem.W.keepIn K (.ref f17) = true)
    {f18 : Addr} {od18 an18 : Option Addr} {sl18 : Array (Option Value)} {oc18 kV18 dc18 pm18 cd18 ct18 : Value} (a18 : PySem.W.nsIn K mainGlobals d_are_wires.name = some (some (.ref f18))) (l18 : K.lookup f18 = some ⟨oc18, od18, .func (PySem.W.fnOf d_are_wires.name d_are_wires.name (defArgs s_are_wires) (defBody s_are_wires) (defScope s_are_wires) .none kV18 dc18 pm18 an18 cd18 ct18), sl18⟩) (c18 : PySem.W.codeIn K cd18 d_are_wires.name = true) (k18 : PySem.W.keepIn K (.ref f18) = true)
    {f19 : Addr} {od19 an19 : Option Addr} {sl19 : Array (Option Value)} {oc19 kV19 dc19 pm19 cd19 ct19 : Value} (a19 : PySem.W.nsIn K mainGlobals d_is_line_after.name = some (some (.ref f19))) (l19 : K.lookup f19 = some ⟨oc19, od19, .func (PySem.W.fnOf d_is_line_after.name d_is_line_after.name (defArgs s_is_line_after) (defBody s_is_line_after) (defScope s_is_line_after) .none kV19 dc19 pm19 an19 cd19 ct19), sl19⟩) (c19 : PySem.W.codeIn K cd19 d_is_line_after.name = true) (k19 : PySem.W.keepIn K (.ref f19) = true)
    {f20 : Addr} {od20 an20 : Option Addr} {sl20 : Array (Option Value)} {oc20 kV20 dc20 pm20 cd20 ct20 : Value} (a20 : PySem.W.nsIn K mainGlobals d_bits_of_lines.name = some (some (.ref f20))) (l20 : K.lookup f20 = some ⟨oc20, od20, .func (PySem.W.fnOf d_bits_of_lines.name d_bits_of_lines.name (defArgs s_bits_of_lines) (defBody s_bits_of_lines) (defScope s_bits_of_lines) .none kV20 dc20 pm20 an20 cd20 ct20), sl20⟩) (c20 : PySem.W.codeIn K cd20 d_bits_of_lines.name = true) (k20 : PySem.W.keepIn K (.ref f20) = true)
    {f21 : Addr} {od21 an21 : Option Addr} {sl21 : Array (Option Value)} {oc21 kV21 dc21 pm21 cd21 ct21 : Value} (a21 : PySem.W.nsIn K mainGlobals d_is_derivation_in.name = some (some (.ref f21))) (l21 : K.lookup f21 = some ⟨oc21, od21, .func (PySem.W.fnOf d_is_derivation_in.name d_is_derivation_in.name (defArgs s_is_derivation_in) (defBody s_is_derivation_in) (defScope s_is_derivation_in) .none kV21 dc21 pm21 an21 cd21 ct21), sl21⟩) (c21 : PySem.W.codeIn K cd21 d_is_derivation_in.name = true) (k21 : PySem.W.keepIn K (.ref f21) = true)
    {f22 : Addr} {od22 an22 : Option Addr} {sl22 : Array (Option Value)} {oc22 kV22 dc22 pm22 cd22 ct22 : Value} (a22 : PySem.W.nsIn K mainGlobals d_require_all.name = some (some (.ref f22))) (l22 : K.lookup f22 = some ⟨oc22, od22, .func (PySem.W.fnOf d_require_all.name d_require_all.name (defArgs s_require_all) (defBody s_require_all) (defScope s_require_all) .none kV22 dc22 pm22 an22 cd22 ct22), sl22⟩) (c22 : PySem.W.codeIn K cd22 d_require_all.name = true) (k22 : PySem.W.keepIn K (.ref f22) = true)
    {f23 : Addr} {od23 an23 : Option Addr} {sl23 : Array (Option Value)} {oc23 kV23 dc23 pm23 cd23 ct23 : Value} (a23 : PySem.W.nsIn K mainGlobals d_is_derivation.name = some (some (.ref f23))) (l23 : K.lookup f23 = some ⟨oc23, od23, .func (PySem.W.fnOf d_is_derivation.name d_is_derivation.name (defArgs s_is_derivation) (defBody s_is_derivation) (defScope s_is_derivation) .none kV23 dc23 pm23 an23 cd23 ct23), sl23⟩) (c23 : PySem.W.codeIn K cd23 d_is_derivation.name = true) (k23 : PySem.W.keepIn K (.ref f23) = true)
    {f24 : Addr} {od24 an24 : Option Addr} {sl24 : Array (Option Value)} {oc24 kV24 dc24 pm24 cd24 ct24 : Value} (a24 : PySem.W.nsIn K mainGlobals d__law_stream.name = some (some (.ref f24))) (l24 : K.lookup f24 = some ⟨oc24, od24, .func (PySem.W.fnOf d__law_stream.name d__law_stream.name (defArgs s__law_stream) (defBody s__law_stream) (defScope s__law_stream) .none kV24 dc24 pm24 an24 cd24 ct24), sl24⟩) (c24 : PySem.W.codeIn K cd24 d__law_stream.name = true) (k24 : PySem.W.keepIn K (.ref f24) = true)
    {f25 : Addr} {od25 an25 : Option Addr} {sl25 : Array (Option Value)} {oc25 kV25 dc25 pm25 cd25 ct25 : Value} (a25 : PySem.W.nsIn K mainGlobals d__law_draw.name = some (some (.ref f25))) (l25 : K.lookup f25 = some ⟨oc25, od25, .func (PySem.W.fnOf d__law_draw.name d__law_draw.name (defArgs s__law_draw) (defBody s__law_draw) (defScope s__law_draw) .none kV25 dc25 pm25 an25 cd25 ct25), sl25⟩) (c25 : PySem.W.codeIn K cd25 d__law_draw.name = true) (k25 : PySem.W.keepIn K (.ref f25) = true)
    {f26 : Addr} {od26 an26 : Option Addr} {sl26 : Array (Option Value)} {oc26 kV26 dc26 pm26 cd26 ct26 : Value} (a26 : PySem.W.nsIn K mainGlobals d__law_pick.name = some (some (.ref f26))) (l26 : K.lookup f26 = some ⟨oc26, od26, .func (PySem.W.fnOf d__law_pick.name d__law_pick.name (defArgs s__law_pick) (defBody s__law_pick) (defScope s__law_pick) .none kV26 dc26 pm26 an26 cd26 ct26), sl26⟩) (c26 : PySem.W.codeIn K cd26 d__law_pick.name = true) (k26 : PySem.W.keepIn K (.ref f26) = true)
    {f27 : Addr} {od27 an27 : Option Addr} {sl27 : Array (Option Value)} {oc27 kV27 dc27 pm27 cd27 ct27 : Value} (a27 : PySem.W.nsIn K mainGlobals d__law_mixed.name = some (some (.ref f27))) (l27 : K.lookup f27 = some ⟨oc27, od27, .func (PySem.W.fnOf d__law_mixed.name d__law_mixed.name (defArgs s__law_mixed) (defBody s__law_mixed) (defScope s__law_mixed) .none kV27 dc27 pm27 an27 cd27 ct27), sl27⟩) (c27 : PySem.W.codeIn K cd27 d__law_mixed.name = true) (k27 : PySem.W.keepIn K (.ref f27) = true)
    {f28 : Addr} {od28 an28 : Option Addr} {sl28 : Array (Option Value)} {oc28 kV28 dc28 pm28 cd28 ct28 : Value} (a28 : PySem.W.nsIn K mainGlobals d__law_names.name = some (some (.ref f28))) (l28 : K.lookup f28 = some ⟨oc28, od28, .func (PySem.W.fnOf d__law_names.name d__law_names.name (defArgs s__law_names) (defBody s__law_names) (defScope s__law_names) .none kV28 dc28 pm28 an28 cd28 ct28), sl28⟩) (c28 : PySem.W.codeIn K cd28 d__law_names.name = true) (k28 : PySem.W.keepIn K (.ref f28) = true)
    {f29 : Addr} {od29 an29 : Option Addr} {sl29 : Array (Option Value)} {oc29 kV29 dc29 pm29 cd29 ct29 : Value} (a29 : PySem.W.nsIn K mainGlobals d__law_rows.name = some (some (.ref f29))) (l29 : K.lookup f29 = some ⟨oc29, od29, .func (PySem.W.fnOf d__law_rows.name d__law_rows.name (defArgs s__law_rows) (defBody s__law_rows) (defScope s__law_rows) .none kV29 dc29 pm29 an29 cd29 ct29), sl29⟩) (c29 : PySem.W.codeIn K cd29 d__law_rows.name = true) (k29 : PySem.W.keepIn K (.ref f29) = true)
    {f30 : Addr} {od30 an30 : Option Addr} {sl30 : Array (Option Value)} {oc30 kV30 dc30 pm30 cd30 ct30 : Value} (a30 : PySem.W.nsIn K mainGlobals d__law_forced.name = some (some (.ref f30))) (l30 : K.lookup f30 = some ⟨oc30, od30, .func (PySem.W.fnOf d__law_forced.name d__law_forced.name (defArgs s__law_forced) (defBody s__law_forced) (defScope s__law_forced) .none kV30 dc30 pm30 an30 cd30 ct30), sl30⟩) (c30 : PySem.W.codeIn K cd30 d__law_forced.name = true) (k30 : PySem.W.keepIn K (.ref f30) = true)
    {f31 : Addr} {od31 an31 : Option Addr} {sl31 : Array (Option Value)} {oc31 kV31 dc31 pm31 cd31 ct31 : Value} (a31 : PySem.W.nsIn K mainGlobals d__law_table.name = some (some (.ref f31))) (l31 : K.lookup f31 = some ⟨oc31, od31, .func (PySem.W.fnOf d__law_table.name d__law_table.name (defArgs s__law_table) (defBody s__law_table) (defScope s__law_table) .none kV31 dc31 pm31 an31 cd31 ct31), sl31⟩) (c31 : PySem.W.codeIn K cd31 d__law_table.name = true) (k31 : PySem.W.keepIn K (.ref f31) = true)
    {f32 : Addr} {od32 an32 : Option Addr} {sl32 : Array (Option Value)} {oc32 kV32 dc32 pm32 cd32 ct32 : Value} (a32 : PySem.W.nsIn K mainGlobals d__law_circuit.name = some (some (.ref f32))) (l32 : K.lookup f32 = some ⟨oc32, od32, .func (PySem.W.fnOf d__law_circuit.name d__law_circuit.name (defArgs s__law_circuit) (defBody s__law_circuit) (defScope s__law_circuit) .none kV32 dc32 pm32 an32 cd32 ct32), sl32⟩) (c32 : PySem.W.codeIn K cd32 d__law_circuit.name = true) (k32 : PySem.W.keepIn K (.ref f32) = true)
    {f33 : Addr} {od33 an33 : Option Addr} {sl33 : Array (Option Value)} {oc33 kV33 dc33 pm33 cd33 ct33 : Value} (a33 : PySem.W.nsIn K mainGlobals d__law_partial.name = some (some (.ref f33))) (l33 : K.lookup f33 = some ⟨oc33, od33, .func (PySem.W.fnOf d__law_partial.name d__law_partial.name (defArgs s__law_partial) (defBody s__law_partial) (defScope s__law_partial) .none kV33 dc33 pm33 an33 cd33 ct33), sl33⟩) (c33 : PySem.W.codeIn K cd33 d__law_partial.name = true) (k33 : PySem.W.keepIn K (.ref f33) = true)
    {f34 : Addr} {od34 an34 : Option Addr} {sl34 : Array (Option Value)} {oc34 kV34 dc34 pm34 cd34 ct34 : Value} (a34 : PySem.W.nsIn K mainGlobals d__law_row_of.name = some (some (.ref f34))) (l34 : K.lookup f34 = some ⟨oc34, od34, .func (PySem.W.fnOf d__law_row_of.name d__law_row_of.name (defArgs s__law_row_of) (defBody s__law_row_of) (defScope s__law_row_of) .none kV34 dc34 pm34 an34 cd34 ct34), sl34⟩) (c34 : PySem.W.codeIn K cd34 d__law_row_of.name = true) (k34 : PySem.W.keepIn K (.ref f34) = true)
    {f35 : Addr} {od35 an35 : Option Addr} {sl35 : Array (Option Value)} {oc35 kV35 dc35 pm35 cd35 ct35 : Value} (a35 : PySem.W.nsIn K mainGlobals d__law_gate.name = some (some (.ref f35))) (l35 : K.lookup f35 = some ⟨oc35, od35, .func (PySem.W.fnOf d__law_gate.name d__law_gate.name (defArgs s__law_gate) (defBody s__law_gate) (defScope s__law_gate) .none kV35 dc35 pm35 an35 cd35 ct35), sl35⟩) (c35 : PySem.W.codeIn K cd35 d__law_gate.name = true) (k35 : PySem.W.keepIn K (.ref f35) = true)
    {f36 : Addr} {od36 an36 : Option Addr} {sl36 : Array (Option Value)} {oc36 kV36 dc36 pm36 cd36 ct36 : Value} (a36 : PySem.W.nsIn K mainGlobals d__law_is_bit.name = some (some (.ref f36))) (l36 : K.lookup f36 = some ⟨oc36, od36, .func (PySem.W.fnOf d__law_is_bit.name d__law_is_bit.name (defArgs s__law_is_bit) (defBody s__law_is_bit) (defScope s__law_is_bit) .none kV36 dc36 pm36 an36 cd36 ct36), sl36⟩) (c36 : PySem.W.codeIn K cd36 d__law_is_bit.name = true) (k36 : PySem.W.keepIn K (.ref f36) = true)
    {f37 : Addr} {od37 an37 : Option Addr} {sl37 : Array (Option Value)} {oc37 kV37 dc37 pm37 cd37 ct37 : Value} (a37 : PySem.W.nsIn K mainGlobals d__law_is_line.name = some (some (.ref f37))) (l37 : K.lookup f37 = some ⟨oc37, od37, .func (PySem.W.fnOf d__law_is_line.name d__law_is_line.name (defArgs s__law_is_line) (defBody s__law_is_line) (defScope s__law_is_line) .none kV37 dc37 pm37 an37 cd37 ct37), sl37⟩) (c37 : PySem.W.codeIn K cd37 d__law_is_line.name = true) (k37 : PySem.W.keepIn K (.ref f37) = true)
    {f38 : Addr} {od38 an38 : Option Addr} {sl38 : Array (Option Value)} {oc38 kV38 dc38 pm38 cd38 ct38 : Value} (a38 : PySem.W.nsIn K mainGlobals d__law_is_derivation.name = some (some (.ref f38))) (l38 : K.lookup f38 = some ⟨oc38, od38, .func (PySem.W.fnOf d__law_is_derivation.name d__law_is_derivation.name (defArgs s__law_is_derivation) (defBody s__law_is_derivation) (defScope s__law_is_derivation) .none kV38 dc38 pm38 an38 cd38 ct38), sl38⟩) (c38 : PySem.W.codeIn K cd38 d__law_is_derivation.name = true) (k38 : PySem.W.keepIn K (.ref f38) = true)
    {f39 : Addr} {od39 an39 : Option Addr} {sl39 : Array (Option Value)} {oc39 kV39 dc39 pm39 cd39 ct39 : Value} (a39 : PySem.W.nsIn K mainGlobals d__law_odd.name = some (some (.ref f39))) (l39 : K.lookup f39 = some ⟨oc39, od39, .func (PySem.W.fnOf d__law_odd.name d__law_odd.name (defArgs s__law_odd) (defBody s__law_odd) (defScope s__law_odd) .none kV39 dc39 pm39 an39 cd39 ct39), sl39⟩) (c39 : PySem.W.codeIn K cd39 d__law_odd.name = true) (k39 : PySem.W.keepIn K (.ref f39) = true)
    {f40 : Addr} {od40 an40 : Option Addr} {sl40 : Array (Option Value)} {oc40 kV40 dc40 pm40 cd40 ct40 : Value} (a40 : PySem.W.nsIn K mainGlobals d__law_bent.name = some (some (.ref f40))) (l40 : K.lookup f40 = some ⟨oc40, od40, .func (PySem.W.fnOf d__law_bent.name d__law_bent.name (defArgs s__law_bent) (defBody s__law_bent) (defScope s__law_bent) .none kV40 dc40 pm40 an40 cd40 ct40), sl40⟩) (c40 : PySem.W.codeIn K cd40 d__law_bent.name = true) (k40 : PySem.W.keepIn K (.ref f40) = true)
    {f41 : Addr} {od41 an41 : Option Addr} {sl41 : Array (Option Value)} {oc41 kV41 dc41 pm41 cd41 ct41 : Value} (a41 : PySem.W.nsIn K mainGlobals d__law_able_lines.name = some (some (.ref f41))) (l41 : K.lookup f41 = some ⟨oc41, od41, .func (PySem.W.fnOf d__law_able_lines.name d__law_able_lines.name (defArgs s__law_able_lines) (defBody s__law_able_lines) (defScope s__law_able_lines) .none kV41 dc41 pm41 an41 cd41 ct41), sl41⟩) (c41 : PySem.W.codeIn K cd41 d__law_able_lines.name = true) (k41 : PySem.W.keepIn K (.ref f41) = true)
    {f42 : Addr} {od42 an42 : Option Addr} {sl42 : Array (Option Value)} {oc42 kV42 dc42 pm42 cd42 ct42 : Value} (a42 : PySem.W.nsIn K mainGlobals d__law_lines.name = some (some (.ref f42))) (l42 : K.lookup f42 = some ⟨oc42, od42, .func (PySem.W.fnOf d__law_lines.name d__law_lines.name (defArgs s__law_lines) (defBody s__law_lines) (defScope s__law_lines) .none kV42 dc42 pm42 an42 cd42 ct42), sl42⟩) (c42 : PySem.W.codeIn K cd42 d__law_lines.name = true) (k42 : PySem.W.keepIn K (.ref f42) = true)
    {f43 : Addr} {od43 an43 : Option Addr} {sl43 : Array (Option Value)} {oc43 kV43 dc43 pm43 cd43 ct43 : Value} (a43 : PySem.W.nsIn K mainGlobals d__law_spoilt.name = some (some (.ref f43))) (l43 : K.lookup f43 = some ⟨oc43, od43, .func (PySem.W.fnOf d__law_spoilt.name d__law_spoilt.name (defArgs s__law_spoilt) (defBody s__law_spoilt) (defScope s__law_spoilt) .none kV43 dc43 pm43 an43 cd43 ct43), sl43⟩) (c43 : PySem.W.codeIn K cd43 d__law_spoilt.name = true) (k43 : PySem.W.keepIn K (.ref f43) = true)
    {f44 : Addr} {od44 an44 : Option Addr} {sl44 : Array (Option Value)} {oc44 kV44 dc44 pm44 cd44 ct44 : Value} (a44 : PySem.W.nsIn K mainGlobals d__law_right.name = some (some (.ref f44))) (l44 : K.lookup f44 = some ⟨oc44, od44, .func (PySem.W.fnOf d__law_right.name d__law_right.name (defArgs s__law_right) (defBody s__law_right) (defScope s__law_right) .none kV44 dc44 pm44 an44 cd44 ct44), sl44⟩) (c44 : PySem.W.codeIn K cd44 d__law_right.name = true) (k44 : PySem.W.keepIn K (.ref f44) = true)
    {f45 : Addr} {od45 an45 : Option Addr} {sl45 : Array (Option Value)} {oc45 kV45 dc45 pm45 cd45 ct45 : Value} (a45 : PySem.W.nsIn K mainGlobals d_law.name = some (some (.ref f45))) (l45 : K.lookup f45 = some ⟨oc45, od45, .func (PySem.W.fnOf d_law.name d_law.name (defArgs s_law) (defBody s_law) (defScope s_law) .none kV45 dc45 pm45 an45 cd45 ct45), sl45⟩) (c45 : PySem.W.codeIn K cd45 d_law.name = true) (k45 : PySem.W.keepIn K (.ref f45) = true)
    {t0 : Tok} (g0 : PySem.W.nsIn K mainGlobals "UNKNOWN" = some (some (.int 2 t0)))
    {t1 : Tok} (g1 : PySem.W.nsIn K mainGlobals "MAX_LETTERS" = some (some (.int 8 t1)))
    {t2 : Tok} (g2 : PySem.W.nsIn K mainGlobals "LETTERS" = some (some (.str "abcdefghijklmnopqrstuvwxyz" t2)))
    {t3 : Addr} {es3 : Array DictEntry} {ep3 : Nat} (g3 : PySem.W.nsIn K mainGlobals "SIZES" = some (some (.ref t3))) (gl3 : K.lookup t3 = some ⟨.type "dict", none, .dict es3 ep3, #[]⟩) (gd3 : (t3 == sysModules) = false) (ge3 : entOk [(1, 0), (2, 1), (4, 2), (8, 3), (16, 4)] es3.toList = true)
    {t4 : Tok} (g4 : PySem.W.nsIn K mainGlobals "MAX_INPUTS" = some (some (.int 12 t4)))
    {t5 : Tok} (g5 : PySem.W.nsIn K mainGlobals "MAX_GATES" = some (some (.int 200 t5)))
    (z0 : PySem.W.nsIn K mainGlobals "len" = some none)
    (z1 : PySem.W.nsIn K mainGlobals "abs" = some none)
    (z2 : PySem.W.nsIn K mainGlobals "int" = some none)
    (z3 : PySem.W.nsIn K mainGlobals "max" = some none)
    (z4 : PySem.W.nsIn K mainGlobals "min" = some none)
    (z5 : PySem.W.nsIn K mainGlobals "repr" = some none)
    (z6 : PySem.W.nsIn K mainGlobals "str" = some none)
    (z7 : PySem.W.nsIn K mainGlobals "list" = some none)
    (z8 : PySem.W.nsIn K mainGlobals "tuple" = some none)
    (z9 : PySem.W.nsIn K mainGlobals "all" = some none)
    (z10 : PySem.W.nsIn K mainGlobals "any" = some none)
    (z11 : PySem.W.nsIn K mainGlobals "sum" = some none)
    (z12 : PySem.W.nsIn K mainGlobals "bool" = some none)
    (z13 : PySem.W.nsIn K mainGlobals "range" = some none)
    (z14 : PySem.W.nsIn K mainGlobals "enumerate" = some none)
    (z15 : PySem.W.nsIn K mainGlobals "zip" = some none)
    (z16 : PySem.W.nsIn K mainGlobals "isinstance" = some none)
    (z17 : PySem.W.nsIn K mainGlobals "dict" = some none)
    (z18 : PySem.W.nsIn K mainGlobals "sorted" = some none)
    (z19 : PySem.W.nsIn K mainGlobals "reversed" = some none) :
    (∀ x ∈ bnames, mg x = none) ∧ (∀ x e, gt.lookup x = some e → ∃ v u, mg x = some u ∧ RelV v u ∧ ∀ ρ H, RV ⟨K, w⟩ ρ H e v) ∧ ∀ f ∈ pg, FFact K mg (fnsOf pg) gt 24 f := by
  refine ⟨?_, ?_, ?_⟩
  · intro x hx
    simp only [bnames, List.mem_cons, List.not_mem_nil, or_false] at hx
    rcases hx with rfl | rfl | rfl | rfl | rfl | rfl | rfl | rfl | rfl | rfl | rfl | rfl | rfl | rfl | rfl | rfl | rfl | rfl | rfl | rfl
    · exact PySem.W.mg_none_of X G z0
    · exact PySem.W.mg_none_of X G z1
    · exact PySem.W.mg_none_of X G z2
    · exact PySem.W.mg_none_of X G z3
    · exact PySem.W.mg_none_of X G z4
    · exact PySem.W.mg_none_of X G z5
    · exact PySem.W.mg_none_of X G z6
    · exact PySem.W.mg_none_of X G z7
    · exact PySem.W.mg_none_of X G z8
    · exact PySem.W.mg_none_of X G z9
    · exact PySem.W.mg_none_of X G z10
    · exact PySem.W.mg_none_of X G z11
    · exact PySem.W.mg_none_of X G z12
    · exact PySem.W.mg_none_of X G z13
    · exact PySem.W.mg_none_of X G z14
    · exact PySem.W.mg_none_of X G z15
    · exact PySem.W.mg_none_of X G z16
    · exact PySem.W.mg_none_of X G z17
    · exact PySem.W.mg_none_of X G z18
    · exact PySem.W.mg_none_of X G z19
  · intro x e hx
    have hm : (x, e) ∈ gt := mem_lookup_of hx
    simp only [gt, List.mem_cons, List.not_mem_nil, or_false, Prod.mk.injEq] at hm
    rcases hm with ⟨rfl, rfl⟩ | ⟨rfl, rfl⟩ | ⟨rfl, rfl⟩ | ⟨rfl, rfl⟩ | ⟨rfl, rfl⟩ | ⟨rfl, rfl⟩
    · exact ⟨.int 2, _, PySem.W.mg_of X G g0, ⟨_, rfl⟩, fun _ _ => .mkInt _⟩
    · exact ⟨.int 8, _, PySem.W.mg_of X G g1, ⟨_, rfl⟩, fun _ _ => .mkInt _⟩
    · exact ⟨.str "abcdefghijklmnopqrstuvwxyz", _, PySem.W.mg_of X G g2, ⟨_, rfl⟩, fun _ _ => .mkStr _⟩
    · exact ⟨.ref t3, _, PySem.W.mg_of X G g3, rfl, fun ρ H => rv_wdt [(1, 0), (2, 1), (4, 2), (8, 3), (16, 4)] gl3 gd3 ge3 (by decide) ρ H⟩
    · exact ⟨.int 12, _, PySem.W.mg_of X G g4, ⟨_, rfl⟩, fun _ _ => .mkInt _⟩
    · exact ⟨.int 200, _, PySem.W.mg_of X G g5, ⟨_, rfl⟩, fun _ _ => .mkInt _⟩
  · unfold pg
    exact List.forall_mem_cons.mpr ⟨ff_mk X G d_is_integer s_is_integer ["value"] a0 l0 c0 k0 sc_is_integer mt_is_integer (fun fd F => F.binds (ps := ["value"]) fun _ _ _ _ _ _ us hl => match us, hl with | [_], _ => rfl) rfl,
      List.forall_mem_cons.mpr ⟨ff_mk X G d_is_between s_is_between ["value", "low", "high"] a1 l1 c1 k1 sc_is_between mt_is_between (fun fd F => F.binds (ps := ["value", "low", "high"]) fun _ _ _ _ _ _ us hl => match us, hl with | [_, _, _], _ => rfl) rfl,
      List.forall_mem_cons.mpr ⟨ff_mk X G d_is_name s_is_name ["value"] a2 l2 c2 k2 sc_is_name mt_is_name (fun fd F => F.binds (ps := ["value"]) fun _ _ _ _ _ _ us hl => match us, hl with | [_], _ => rfl) rfl,
      List.forall_mem_cons.mpr ⟨ff_mk X G d_is_bit s_is_bit ["value"] a3 l3 c3 k3 sc_is_bit mt_is_bit (fun fd F => F.binds (ps := ["value"]) fun _ _ _ _ _ _ us hl => match us, hl with | [_], _ => rfl) rfl,
      List.forall_mem_cons.mpr ⟨ff_mk X G d_is_value s_is_value ["value"] a4 l4 c4 k4 sc_is_value mt_is_value (fun fd F => F.binds (ps := ["value"]) fun _ _ _ _ _ _ us hl => match us, hl with | [_], _ => rfl) rfl,
      List.forall_mem_cons.mpr ⟨ff_mk X G d_is_table s_is_table ["value"] a5 l5 c5 k5 sc_is_table mt_is_table (fun fd F => F.binds (ps := ["value"]) fun _ _ _ _ _ _ us hl => match us, hl with | [_], _ => rfl) rfl,
      List.forall_mem_cons.mpr ⟨ff_mk X G d_wires_in s_wires_in ["table"] a6 l6 c6 k6 sc_wires_in mt_wires_in (fun fd F => F.binds (ps := ["table"]) fun _ _ _ _ _ _ us hl => match us, hl with | [_], _ => rfl) rfl,
      List.forall_mem_cons.mpr ⟨ff_mk X G d_forced_in s_forced_in ["table", "row"] a7 l7 c7 k7 sc_forced_in mt_forced_in (fun fd F => F.binds (ps := ["table", "row"]) fun _ _ _ _ _ _ us hl => match us, hl with | [_, _], _ => rfl) rfl,
      List.forall_mem_cons.mpr ⟨ff_mk X G d_are_names s_are_names ["value"] a8 l8 c8 k8 sc_are_names mt_are_names (fun fd F => F.binds (ps := ["value"]) fun _ _ _ _ _ _ us hl => match us, hl with | [_], _ => rfl) rfl,
      List.forall_mem_cons.mpr ⟨ff_mk X G d_is_gate_of s_is_gate_of ["known", "value"] a9 l9 c9 k9 sc_is_gate_of mt_is_gate_of (fun fd F => F.binds (ps := ["known", "value"]) fun _ _ _ _ _ _ us hl => match us, hl with | [_, _], _ => rfl) rfl,
      List.forall_mem_cons.mpr ⟨ff_mk X G d_is_known s_is_known ["known", "value"] a10 l10 c10 k10 sc_is_known mt_is_known (fun fd F => F.binds (ps := ["known", "value"]) fun _ _ _ _ _ _ us hl => match us, hl with | [_, _], _ => rfl) rfl,
      List.forall_mem_cons.mpr ⟨ff_mk X G d_is_circuit s_is_circuit ["value"] a11 l11 c11 k11 sc_is_circuit mt_is_circuit (fun fd F => F.binds (ps := ["value"]) fun _ _ _ _ _ _ us hl => match us, hl with | [_], _ => rfl) rfl,
      List.forall_mem_cons.mpr ⟨ff_mk X G d_require_circuit s_require_circuit ["circuit"] a12 l12 c12 k12 sc_require_circuit mt_require_circuit (fun fd F => F.binds (ps := ["circuit"]) fun _ _ _ _ _ _ us hl => match us, hl with | [_], _ => rfl) rfl,
      List.forall_mem_cons.mpr ⟨ff_mk X G d_gates_in s_gates_in ["circuit"] a13 l13 c13 k13 sc_gates_in mt_gates_in (fun fd F => F.binds (ps := ["circuit"]) fun _ _ _ _ _ _ us hl => match us, hl with | [_], _ => rfl) rfl,
      List.forall_mem_cons.mpr ⟨ff_mk X G d_is_partial_of s_is_partial_of ["circuit", "value"] a14 l14 c14 k14 sc_is_partial_of mt_is_partial_of (fun fd F => F.binds (ps := ["circuit", "value"]) fun _ _ _ _ _ _ us hl => match us, hl with | [_, _], _ => rfl) rfl,
      List.forall_mem_cons.mpr ⟨ff_mk X G d_require_partial s_require_partial ["circuit", "setting"] a15 l15 c15 k15 sc_require_partial mt_require_partial (fun fd F => F.binds (ps := ["circuit", "setting"]) fun _ _ _ _ _ _ us hl => match us, hl with | [_, _], _ => rfl) rfl,
      List.forall_mem_cons.mpr ⟨ff_mk X G d_require_gate s_require_gate ["circuit", "gate"] a16 l16 c16 k16 sc_require_gate mt_require_gate (fun fd F => F.binds (ps := ["circuit", "gate"]) fun _ _ _ _ _ _ us hl => match us, hl with | [_, _], _ => rfl) rfl,
      List.forall_mem_cons.mpr ⟨ff_mk X G d_row_in s_row_in ["sources", "setting", "known"] a17 l17 c17 k17 sc_row_in mt_row_in (fun fd F => F.binds (ps := ["sources", "setting", "known"]) fun _ _ _ _ _ _ us hl => match us, hl with | [_, _, _], _ => rfl) rfl,
      List.forall_mem_cons.mpr ⟨ff_mk X G d_are_wires s_are_wires ["sources", "value"] a18 l18 c18 k18 sc_are_wires mt_are_wires (fun fd F => F.binds (ps := ["sources", "value"]) fun _ _ _ _ _ _ us hl => match us, hl with | [_, _], _ => rfl) rfl,
      List.forall_mem_cons.mpr ⟨ff_mk X G d_is_line_after s_is_line_after ["gates", "setting", "known", "value"] a19 l19 c19 k19 sc_is_line_after mt_is_line_after (fun fd F => F.binds (ps := ["gates", "setting", "known", "value"]) fun _ _ _ _ _ _ us hl => match us, hl with | [_, _, _, _], _ => rfl) rfl,
      List.forall_mem_cons.mpr ⟨ff_mk X G d_bits_of_lines s_bits_of_lines ["circuit", "setting", "value"] a20 l20 c20 k20 sc_bits_of_lines mt_bits_of_lines (fun fd F => F.binds (ps := ["circuit", "setting", "value"]) fun _ _ _ _ _ _ us hl => match us, hl with | [_, _, _], _ => rfl) rfl,
      List.forall_mem_cons.mpr ⟨ff_mk X G d_is_derivation_in s_is_derivation_in ["circuit", "setting", "gate", "value"] a21 l21 c21 k21 sc_is_derivation_in mt_is_derivation_in (fun fd F => F.binds (ps := ["circuit", "setting", "gate", "value"]) fun _ _ _ _ _ _ us hl => match us, hl with | [_, _, _, _], _ => rfl) rfl,
      List.forall_mem_cons.mpr ⟨ff_mk X G d_require_all s_require_all ["circuit", "setting", "gate"] a22 l22 c22 k22 sc_require_all mt_require_all (fun fd F => F.binds (ps := ["circuit", "setting", "gate"]) fun _ _ _ _ _ _ us hl => match us, hl with | [_, _, _], _ => rfl) rfl,
      List.forall_mem_cons.mpr ⟨ff_mk X G d_is_derivation s_is_derivation ["circuit", "setting", "gate", "value"] a23 l23 c23 k23 sc_is_derivation mt_is_derivation (fun fd F => F.binds (ps := ["circuit", "setting", "gate", "value"]) fun _ _ _ _ _ _ us hl => match us, hl with | [_, _, _, _], _ => rfl) rfl,
      List.forall_mem_cons.mpr ⟨ff_mk X G d__law_stream s__law_stream ["_law_script", "_law_at"] a24 l24 c24 k24 sc__law_stream mt__law_stream (fun fd F => F.binds (ps := ["_law_script", "_law_at"]) fun _ _ _ _ _ _ us hl => match us, hl with | [_, _], _ => rfl) rfl,
      List.forall_mem_cons.mpr ⟨ff_mk X G d__law_draw s__law_draw ["_law_stream_here", "_law_total"] a25 l25 c25 k25 sc__law_draw mt__law_draw (fun fd F => F.binds (ps := ["_law_stream_here", "_law_total"]) fun _ _ _ _ _ _ us hl => match us, hl with | [_, _], _ => rfl) rfl,
      List.forall_mem_cons.mpr ⟨ff_mk X G d__law_pick s__law_pick ["_law_stream_here", "_law_items"] a26 l26 c26 k26 sc__law_pick mt__law_pick (fun fd F => F.binds (ps := ["_law_stream_here", "_law_items"]) fun _ _ _ _ _ _ us hl => match us, hl with | [_, _], _ => rfl) rfl,
      List.forall_mem_cons.mpr ⟨ff_mk X G d__law_mixed s__law_mixed ["_law_stream_here", "_law_items"] a27 l27 c27 k27 sc__law_mixed mt__law_mixed (fun fd F => F.binds (ps := ["_law_stream_here", "_law_items"]) fun _ _ _ _ _ _ us hl => match us, hl with | [_, _], _ => rfl) rfl,
      List.forall_mem_cons.mpr ⟨ff_mk X G d__law_names s__law_names ["_law_stream_here", "_law_total"] a28 l28 c28 k28 sc__law_names mt__law_names (fun fd F => F.binds (ps := ["_law_stream_here", "_law_total"]) fun _ _ _ _ _ _ us hl => match us, hl with | [_, _], _ => rfl) rfl,
      List.forall_mem_cons.mpr ⟨ff_mk X G d__law_rows s__law_rows ["_law_size", "_law_top"] a29 l29 c29 k29 sc__law_rows mt__law_rows (fun fd F => F.binds (ps := ["_law_size", "_law_top"]) fun _ _ _ _ _ _ us hl => match us, hl with | [_, _], _ => rfl) rfl,
      List.forall_mem_cons.mpr ⟨ff_mk X G d__law_forced s__law_forced ["_law_table_here", "_law_row"] a30 l30 c30 k30 sc__law_forced mt__law_forced (fun fd F => F.binds (ps := ["_law_table_here", "_law_row"]) fun _ _ _ _ _ _ us hl => match us, hl with | [_, _], _ => rfl) rfl,
      List.forall_mem_cons.mpr ⟨ff_mk X G d__law_table s__law_table ["_law_stream_here", "_law_size"] a31 l31 c31 k31 sc__law_table mt__law_table (fun fd F => F.binds (ps := ["_law_stream_here", "_law_size"]) fun _ _ _ _ _ _ us hl => match us, hl with | [_, _], _ => rfl) rfl,
      List.forall_mem_cons.mpr ⟨ff_mk X G d__law_circuit s__law_circuit ["_law_stream_here", "_law_inputs", "_law_total", "_law_width"] a32 l32 c32 k32 sc__law_circuit mt__law_circuit (fun fd F => F.binds (ps := ["_law_stream_here", "_law_inputs", "_law_total", "_law_width"]) fun _ _ _ _ _ _ us hl => match us, hl with | [_, _, _, _], _ => rfl) rfl,
      List.forall_mem_cons.mpr ⟨ff_mk X G d__law_partial s__law_partial ["_law_stream_here", "_law_circuit_here"] a33 l33 c33 k33 sc__law_partial mt__law_partial (fun fd F => F.binds (ps := ["_law_stream_here", "_law_circuit_here"]) fun _ _ _ _ _ _ us hl => match us, hl with | [_, _], _ => rfl) rfl,
      List.forall_mem_cons.mpr ⟨ff_mk X G d__law_row_of s__law_row_of ["_law_gate_here", "_law_setting", "_law_told"] a34 l34 c34 k34 sc__law_row_of mt__law_row_of (fun fd F => F.binds (ps := ["_law_gate_here", "_law_setting", "_law_told"]) fun _ _ _ _ _ _ us hl => match us, hl with | [_, _, _], _ => rfl) rfl,
      List.forall_mem_cons.mpr ⟨ff_mk X G d__law_gate s__law_gate ["_law_circuit_here", "_law_name"] a35 l35 c35 k35 sc__law_gate mt__law_gate (fun fd F => F.binds (ps := ["_law_circuit_here", "_law_name"]) fun _ _ _ _ _ _ us hl => match us, hl with | [_, _], _ => rfl) rfl,
      List.forall_mem_cons.mpr ⟨ff_mk X G d__law_is_bit s__law_is_bit ["_law_thing"] a36 l36 c36 k36 sc__law_is_bit mt__law_is_bit (fun fd F => F.binds (ps := ["_law_thing"]) fun _ _ _ _ _ _ us hl => match us, hl with | [_], _ => rfl) rfl,
      List.forall_mem_cons.mpr ⟨ff_mk X G d__law_is_line s__law_is_line ["_law_circuit_here", "_law_setting", "_law_told", "_law_line"] a37 l37 c37 k37 sc__law_is_line mt__law_is_line (fun fd F => F.binds (ps := ["_law_circuit_here", "_law_setting", "_law_told", "_law_line"]) fun _ _ _ _ _ _ us hl => match us, hl with | [_, _, _, _], _ => rfl) rfl,
      List.forall_mem_cons.mpr ⟨ff_mk X G d__law_is_derivation s__law_is_derivation ["_law_circuit_here", "_law_setting", "_law_name", "_law_thing"] a38 l38 c38 k38 sc__law_is_derivation mt__law_is_derivation (fun fd F => F.binds (ps := ["_law_circuit_here", "_law_setting", "_law_name", "_law_thing"]) fun _ _ _ _ _ _ us hl => match us, hl with | [_, _, _, _], _ => rfl) rfl,
      List.forall_mem_cons.mpr ⟨ff_mk X G d__law_odd s__law_odd ["_law_stream_here"] a39 l39 c39 k39 sc__law_odd mt__law_odd (fun fd F => F.binds (ps := ["_law_stream_here"]) fun _ _ _ _ _ _ us hl => match us, hl with | [_], _ => rfl) rfl,
      List.forall_mem_cons.mpr ⟨ff_mk X G d__law_bent s__law_bent ["_law_stream_here", "_law_thing", "_law_deep"] a40 l40 c40 k40 sc__law_bent mt__law_bent (fun fd F => F.binds (ps := ["_law_stream_here", "_law_thing", "_law_deep"]) fun _ _ _ _ _ _ us hl => match us, hl with | [_, _, _], _ => rfl) rfl,
      List.forall_mem_cons.mpr ⟨ff_mk X G d__law_able_lines s__law_able_lines ["_law_stream_here", "_law_circuit_here", "_law_setting", "_law_told"] a41 l41 c41 k41 sc__law_able_lines mt__law_able_lines (fun fd F => F.binds (ps := ["_law_stream_here", "_law_circuit_here", "_law_setting", "_law_told"]) fun _ _ _ _ _ _ us hl => match us, hl with | [_, _, _, _], _ => rfl) rfl,
      List.forall_mem_cons.mpr ⟨ff_mk X G d__law_lines s__law_lines ["_law_stream_here", "_law_circuit_here", "_law_setting"] a42 l42 c42 k42 sc__law_lines mt__law_lines (fun fd F => F.binds (ps := ["_law_stream_here", "_law_circuit_here", "_law_setting"]) fun _ _ _ _ _ _ us hl => match us, hl with | [_, _, _], _ => rfl) rfl,
      List.forall_mem_cons.mpr ⟨ff_mk X G d__law_spoilt s__law_spoilt ["_law_stream_here", "_law_circuit_here", "_law_lines_here"] a43 l43 c43 k43 sc__law_spoilt mt__law_spoilt (fun fd F => F.binds (ps := ["_law_stream_here", "_law_circuit_here", "_law_lines_here"]) fun _ _ _ _ _ _ us hl => match us, hl with | [_, _, _], _ => rfl) rfl,
      List.forall_mem_cons.mpr ⟨ff_mk X G d__law_right s__law_right ["_law_stream_here", "_law_circuit_here", "_law_setting"] a44 l44 c44 k44 sc__law_right mt__law_right (fun fd F => F.binds (ps := ["_law_stream_here", "_law_circuit_here", "_law_setting"]) fun _ _ _ _ _ _ us hl => match us, hl with | [_, _, _], _ => rfl) rfl,
      List.forall_mem_cons.mpr ⟨ff_mk X G d_law s_law ["_law_script"] a45 l45 c45 k45 sc_law mt_law (fun fd F => F.binds (ps := ["_law_script"]) fun _ _ _ _ _ _ us hl => match us, hl with | [_], _ => rfl) rfl,
      fun _ h => by cases h⟩⟩⟩⟩⟩⟩⟩⟩⟩⟩⟩⟩⟩⟩⟩⟩⟩⟩⟩⟩⟩⟩⟩⟩⟩⟩⟩⟩⟩⟩⟩⟩⟩⟩⟩⟩⟩⟩⟩⟩⟩⟩⟩⟩⟩⟩
end LW
open PySem PySem.W PyProof.Rows
set_option maxHeartbeats 0 in
theorem PySem.Challenge.cw_loopgates_k17_derivations_judged_holds : PySem.Challenge.rw_loopgates_k17_derivations_judged.Holds := by
  w_on; o_law; k_head; (case hw => w_witness2)
  k_fill
  refine GG.walk_g (l := PySem.Challenge.rw_loopgates_k17_derivations_judged) (n := 63) (k := 20) (Pg := LW.pg) (gt := LW.gt) (i := 45) (f := LW.d_law) (mk := 24) rfl rfl (by decide) rfl ⟨rfl, by decide, by decide⟩ (by decide +kernel) rfl rfl rfl (fun w h Y => PySem.W.kIn_of Y) ?F LW.law_ok
  case F =>
    intro w mg h KX G
    refine' LW.all_mk KX G ?a0 ?l0 ?c0 ?k0 ?a1 ?l1 ?c1 ?k1 ?a2 ?l2 ?c2 ?k2 ?a3 ?l3 ?c3 ?k3 ?a4 ?l4 ?c4 ?k4 ?a5 ?l5 ?c5 ?k5 ?a6 ?l6 ?c6 ?k6 ?a7 ?l7 ?c7 ?k7 ?a8 ?l8 ?c8 ?k8 ?a9 ?l9 ?c9 ?k9 ?a10 ?l10 ?c10 ?k10 ?a11 ?l11 ?c11 ?k11 ?a12 ?l12 ?c12 ?k12 ?a13 ?l13 ?c13 ?k13 ?a14 ?l14 ?c14 ?k14 ?a15 ?l15 ?c15 ?k15 ?a16 ?l16 ?c16 ?k16 ?a17 ?l17 ?c17 ?k17 ?a18 ?l18 ?c18 ?k18 ?a19 ?l19 ?c19 ?k19 ?a20 ?l20 ?c20 ?k20 ?a21 ?l21 ?c21 ?k21 ?a22 ?l22 ?c22 ?k22 ?a23 ?l23 ?c23 ?k23 ?a24 ?l24 ?c24 ?k24 ?a25 ?l25 ?c25 ?k25 ?a26 ?l26 ?c26 ?k26 ?a27 ?l27 ?c27 ?k27 ?a28 ?l28 ?c28 ?k28 ?a29 ?l29 ?c29 ?k29 ?a30 ?l30 ?c30 ?k30 ?a31 ?l31 ?c31 ?k31 ?a32 ?l32 ?c32 ?k32 ?a33 ?l33 ?c33 ?k33 ?a34 ?l34 ?c34 ?k34 ?a35 ?l35 ?c35 ?k35 ?a36 ?l36 ?c36 ?k36 ?a37 ?l37 ?c37 ?k37 ?a38 ?l38 ?c38 ?k38 ?a39 ?l39 ?c39 ?k39 ?a40 ?l40 ?c40 ?k40 ?a41 ?l41 ?c41 ?k41 ?a42 ?l42 ?c42 ?k42 ?a43 ?l43 ?c43 ?k43 ?a44 ?l44 ?c44 ?k44 ?a45 ?l45 ?c45 ?k45 ?qg0 ?qg1 ?qg2 ?qg3 ?ql3 ?qd3 ?qe3 ?qg4 ?qg5 ?z0 ?z1 ?z2 ?z3 ?z4 ?z5 ?z6 ?z7 ?z8 ?z9 ?z10 ?z11 ?z12 ?z13 ?z14 ?z15 ?z16 ?z17 ?z18 ?z19
    (case a0 => k_is); (case l0 => k_is); (case c0 => k_is); (case k0 => k_is); (case a1 => k_is); (case l1 => k_is); (case c1 => k_is); (case k1 => k_is); (case a2 => k_is); (case l2 => k_is); (case c2 => k_is); (case k2 => k_is); (case a3 => k_is); (case l3 => k_is); (case c3 => k_is); (case k3 => k_is); (case a4 => k_is); (case l4 => k_is); (case c4 => k_is); (case k4 => k_is); (case a5 => k_is); (case l5 => k_is); (case c5 => k_is); (case k5 => k_is); (case a6 => k_is); (case l6 => k_is); (case c6 => k_is); (case k6 => k_is); (case a7 => k_is); (case l7 => k_is); (case c7 => k_is); (case k7 => k_is); (case a8 => k_is); (case l8 => k_is); (case c8 => k_is); (case k8 => k_is); (case a9 => k_is); (case l9 => k_is); (case c9 => k_is); (case k9 => k_is); (case a10 => k_is); (case l10 => k_is); (case c10 => k_is); (case k10 => k_is); (case a11 => k_is); (case l11 => k_is); (case c11 => k_is); (case k11 => k_is); (case a12 => k_is); (case l12 => k_is); (case c12 => k_is); (case k12 => k_is); (case a13 => k_is); (case l13 => k_is); (case c13 => k_is); (case k13 => k_is); (case a14 => k_is); (case l14 => k_is); (case c14 => k_is); (case k14 => k_is); (case a15 => k_is); (case l15 => k_is); (case c15 => k_is); (case k15 => k_is); (case a16 => k_is); (case l16 => k_is); (case c16 => k_is); (case k16 => k_is); (case a17 => k_is); (case l17 => k_is); (case c17 => k_is); (case k17 => k_is); (case a18 => k_is); (case l18 => k_is); (case c18 => k_is); (case k18 => k_is); (case a19 => k_is); (case l19 => k_is); (case c19 => k_is); (case k19 => k_is); (case a20 => k_is); (case l20 => k_is); (case c20 => k_is); (case k20 => k_is); (case a21 => k_is); (case l21 => k_is); (case c21 => k_is); (case k21 => k_is); (case a22 => k_is); (case l22 => k_is); (case c22 => k_is); (case k22 => k_is); (case a23 => k_is); (case l23 => k_is); (case c23 => k_is); (case k23 => k_is); (case a24 => k_is); (case l24 => k_is); (case c24 => k_is); (case k24 => k_is); (case a25 => k_is); (case l25 => k_is); (case c25 => k_is); (case k25 => k_is); (case a26 => k_is); (case l26 => k_is); (case c26 => k_is); (case k26 => k_is); (case a27 => k_is); (case l27 => k_is); (case c27 => k_is); (case k27 => k_is); (case a28 => k_is); (case l28 => k_is); (case c28 => k_is); (case k28 => k_is); (case a29 => k_is); (case l29 => k_is); (case c29 => k_is); (case k29 => k_is); (case a30 => k_is); (case l30 => k_is); (case c30 => k_is); (case k30 => k_is); (case a31 => k_is); (case l31 => k_is); (case c31 => k_is); (case k31 => k_is); (case a32 => k_is); (case l32 => k_is); (case c32 => k_is); (case k32 => k_is); (case a33 => k_is); (case l33 => k_is); (case c33 => k_is); (case k33 => k_is); (case a34 => k_is); (case l34 => k_is); (case c34 => k_is); (case k34 => k_is); (case a35 => k_is); (case l35 => k_is); (case c35 => k_is); (case k35 => k_is); (case a36 => k_is); (case l36 => k_is); (case c36 => k_is); (case k36 => k_is); (case a37 => k_is); (case l37 => k_is); (case c37 => k_is); (case k37 => k_is); (case a38 => k_is); (case l38 => k_is); (case c38 => k_is); (case k38 => k_is); (case a39 => k_is); (case l39 => k_is); (case c39 => k_is); (case k39 => k_is); (case a40 => k_is); (case l40 => k_is); (case c40 => k_is); (case k40 => k_is); (case a41 => k_is); (case l41 => k_is); (case c41 => k_is); (case k41 => k_is); (case a42 => k_is); (case l42 => k_is); (case c42 => k_is); (case k42 => k_is); (case a43 => k_is); (case l43 => k_is); (case c43 => k_is); (case k43 => k_is); (case a44 => k_is); (case l44 => k_is); (case c44 => k_is); (case k44 => k_is); (case a45 => k_is); (case l45 => k_is); (case c45 => k_is); (case k45 => k_is); (case qg0 => k_is); (case qg1 => k_is); (case qg2 => k_is); (case qg3 => k_is); (case ql3 => k_is); (case qd3 => rfl); (case qe3 => rfl); (case qg4 => k_is); (case qg5 => k_is); (case z0 => k_is); (case z1 => k_is); (case z2 => k_is); (case z3 => k_is); (case z4 => k_is); (case z5 => k_is); (case z6 => k_is); (case z7 => k_is); (case z8 => k_is); (case z9 => k_is); (case z10 => k_is); (case z11 => k_is); (case z12 => k_is); (case z13 => k_is); (case z14 => k_is); (case z15 => k_is); (case z16 => k_is); (case z17 => k_is); (case z18 => k_is); (case z19 => k_is)
