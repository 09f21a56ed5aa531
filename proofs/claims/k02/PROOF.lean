import PyProof.Rows.All
import Wide.All
import OpenK.AllK
import Wide.FinOn
import HandS.ForMost
import HandS.ForExc
import HandS.Flow
import HandS.IsInst
import HandS.Style
import HandS.TupAny
import HandS.TupMul
import HandS.Conv
import HandS.Zip
import HandS.Rev
import HandS.DictComp
import HandS.EndBits
import HandS.Wide
import HandS.SetFor
import KE.GoesEnum
import HandS.NoneIn
import PySem.Challenge.RW_loopgates_k02_tables_and_forced_bits
set_option Elab.async false
set_option linter.all false
set_option maxRecDepth 100000
namespace GG
open PySem PySem.Spec PyProof.Rows L2

/-! ## data -/
/-- data of the interpreter: everything is a value; a stream is a name -/
inductive D where
  | non
  | bl (b : Bool)
  | int (i : Int)
  | str (x : Str)
  | tup (ds : List D)
  | lst (ds : List D)
  | rol (ds : List D)
  | dct (kvs : List (Key × D))
  | stm (k : Nat)
  | wdt (kvs : List (Key × D))
mutual
def D.beq : D → D → Bool
  | .non, .non => true
  | .bl x, .bl y => decide (x = y)
  | .int x, .int y => decide (x = y)
  | .str x, .str y => decide (x = y)
  | .stm x, .stm y => decide (x = y)
  | .tup x, .tup y => D.beqs x y
  | .lst x, .lst y => D.beqs x y
  | .rol x, .rol y => D.beqs x y
  | .dct x, .dct y => D.beqk x y
  | .wdt x, .wdt y => D.beqk x y
  | _, _ => false
def D.beqs : List D → List D → Bool
  | [], [] => true
  | x :: xs, y :: ys => D.beq x y && D.beqs xs ys
  | _, _ => false
def D.beqk : List (Key × D) → List (Key × D) → Bool
  | [], [] => true
  | (k, x) :: xs, (l, y) :: ys => decide (k = l) && D.beq x y && D.beqk xs ys
  | _, _ => false
end
mutual
theorem D.beq_iff : ∀ a b : D, D.beq a b = true ↔ a = b
  | .non, b => by cases b <;> simp [D.beq]
  | .bl _, b => by cases b <;> simp [D.beq]
  | .int _, b => by cases b <;> simp [D.beq]
  | .str _, b => by cases b <;> simp [D.beq]
  | .stm _, b => by cases b <;> simp [D.beq]
  | .tup x, b => by
    cases b <;> simp only [D.beq, reduceCtorEq, D.tup.injEq, Bool.false_eq_true, iff_self]
    exact D.beqs_iff x _
  | .lst x, b => by
    cases b <;> simp only [D.beq, reduceCtorEq, D.lst.injEq, Bool.false_eq_true, iff_self]
    exact D.beqs_iff x _
  | .rol x, b => by
    cases b <;> simp only [D.beq, reduceCtorEq, D.rol.injEq, Bool.false_eq_true, iff_self]
    exact D.beqs_iff x _
  | .dct x, b => by
    cases b <;> simp only [D.beq, reduceCtorEq, D.dct.injEq, Bool.false_eq_true, iff_self]
    exact D.beqk_iff x _
  | .wdt x, b => by
    cases b <;> simp only [D.beq, reduceCtorEq, D.wdt.injEq, Bool.false_eq_true, iff_self]
    exact D.beqk_iff x _
theorem D.beqs_iff : ∀ a b : List D, D.beqs a b = true ↔ a = b
  | [], [] => by simp [D.beqs]
  | [], _ :: _ => by simp [D.beqs]
  | _ :: _, [] => by simp [D.beqs]
  | x :: xs, y :: ys => by simp [D.beqs, D.beq_iff x y, D.beqs_iff xs ys]
theorem D.beqk_iff : ∀ a b : List (Key × D), D.beqk a b = true ↔ a = b
  | [], [] => by simp [D.beqk]
  | [], _ :: _ => by simp [D.beqk]
  | _ :: _, [] => by simp [D.beqk]
  | (k, x) :: xs, (l, y) :: ys => by simp [D.beqk, D.beq_iff x y, D.beqk_iff xs ys]
end
instance : DecidableEq D := fun a b => if h : D.beq a b = true then Decidable.isTrue ((D.beq_iff a b).mp h) else Decidable.isFalse fun e => h ((D.beq_iff a b).mpr e)
mutual
/-- nothing in it can change -/
def D.still : D → Bool
  | .non => true
  | .bl _ => true
  | .int _ => true
  | .str _ => true
  | .tup ds => D.stills ds
  | .rol ds => D.stills ds
  | .lst _ => false
  | .dct _ => false
  | .stm _ => true
  | .wdt _ => false
def D.stills : List D → Bool
  | [] => true
  | d :: ds => D.still d && D.stills ds
end
/-- .. but for itself -/
def D.still1 : D → Bool
  | .lst ds => D.stills ds
  | .dct kvs => D.stills (kvs.map (·.2))
  | d => D.still d
abbrev Sto := List (Int × Int × Int)
/-- a slot: without a value, a value, a list or dict of its own -/
inductive Sl where
  | u
  | v (d : D)
  | o (d : D)
abbrev Env := List Sl
inductive Out (α : Type) where
  | ok (a : α) (S : Sto)
  | exc (c : Str) (v : Option (Str × D)) (S : Sto)
  | bad
def Out.bind {α β : Type} (r : Out α) (g : α → Sto → Out β) : Out β :=
  match r with
  | .ok a S => g a S
  | .exc c v S => .exc c v S
  | .bad => .bad
@[simp] theorem Out.bind_ok {α β : Type} (a : α) (S : Sto) (g : α → Sto → Out β) : (Out.ok a S).bind g = g a S := rfl
@[simp] theorem Out.bind_exc {α β : Type} (c : Str) (v : Option (Str × D)) (S : Sto) (g : α → Sto → Out β) : (Out.exc c v S : Out α).bind g = .exc c v S := rfl
@[simp] theorem Out.bind_bad {α β : Type} (g : α → Sto → Out β) : (Out.bad : Out α).bind g = .bad := rfl
/-- a pure operation's answer -/
def Out.of {α : Type} (S : Sto) : Option α → Out α
  | some a => .ok a S
  | none => .bad

/-! ## how data lie in the abstract heap -/
/-- the written part, and the world's settings -/
structure KW where
  K : PySem.W.Frag
  w : World
instance : Coe KW PySem.W.Frag := ⟨KW.K⟩
abbrev kw (X : Cx) : KW := ⟨X.K, X.w⟩
/-- a dict of the written part -/
def WD (K : KW) (d : Addr) (kvs : List (Key × V)) : Prop :=
  ∃ o, K.K.lookup d = some o ∧ (d == sysModules) = false ∧ ∀ (P : Program) (h : Heap), h.get? d = some o → ∃ vs, KV kvs vs ∧ h.DictOf (mixKind P K.w) d vs
/-- where the streams stand, and what is not to be met -/
structure Fx where
  l : List Addr
  n : Addr → Prop
def Fx.to (ρ : Fx) (l : List Addr) : Fx := ⟨l, ρ.n⟩
def Fx.w (ρ : Fx) (n : Addr → Prop) : Fx := ⟨ρ.l, n⟩
section
variable (K : KW)
/-- a list that nobody writes -/
def RoL (H : Hp) (a : Addr) (vs : List V) : Prop :=
  (∃ o, H a = some (.frz o (.lst vs))) ∨
    ∃ (o : Obj) (its : Array Value) (n : Nat), K.K.lookup a = some o ∧ o.cls = .type "list" ∧ o.dict = none ∧ o.data = .seq its n ∧ its.size ≤ sizeLine ∧ Vals vs its.toList
mutual
def RV (ρ : Fx) (H : Hp) : D → V → Prop
  | .non, v => v = .non
  | .bl b, v => v = .bl b
  | .int i, v => v = .int i
  | .str x, v => v = .str x
  | .tup ds, v => ∃ a vs, v = .ref a ∧ ds.length ≤ sizeLine ∧ SqT K H a vs ∧ RVs ρ H ds vs
  | .lst ds, v => ∃ a vs, v = .ref a ∧ ds.length ≤ sizeLine ∧ H a = some (.lst vs) ∧ a ∉ ρ.l ∧ ¬ ρ.n a ∧ RVs ρ H ds vs
  | .rol ds, v => ∃ a vs, v = .ref a ∧ ds.length ≤ sizeLine ∧ RoL K H a vs ∧ RVs ρ H ds vs
  | .dct kvs, v => ∃ a ws, v = .ref a ∧ H a = some (.dK ws) ∧ a ∉ ρ.l ∧ ¬ ρ.n a ∧ RKV ρ H kvs ws
  | .stm k, v => ∃ a, ρ.l[k]? = some a ∧ v = .ref a
  | .wdt kvs, v => ∃ a ws, v = .ref a ∧ WD K a ws ∧ RKV ρ H kvs ws
def RVs (ρ : Fx) (H : Hp) : List D → List V → Prop
  | [], vs => vs = []
  | d :: ds, vs => ∃ v r, vs = v :: r ∧ RV ρ H d v ∧ RVs ρ H ds r
def RKV (ρ : Fx) (H : Hp) : List (Key × D) → List (Key × V) → Prop
  | [], vs => vs = []
  | (k, d) :: ds, vs => ∃ v r, vs = (k, v) :: r ∧ RV ρ H d v ∧ RKV ρ H ds r
end
/-- the streams stand -/
structure Rp (ρ : Fx) (S : Sto) (H : Hp) : Prop where
  len : ρ.l.length = S.length
  nd : ρ.l.Nodup
  obj : ∀ (i : Nat) a t, ρ.l[i]? = some a → S[i]? = some t → H a = some (.lst [.int t.1, .int t.2.1, .int t.2.2])
  dom : ∀ a, ρ.n a → H a ≠ none
end
/-- from one state of the abstract heap to a later one: only streams change -/
structure Sx (l : List Addr) (H : Hp) (l' : List Addr) (H' : Hp) : Prop where
  pre : l <+: l'
  kp : ∀ b u, H b = some u → b ∉ l → H' b = some u
  nw : ∀ b, b ∈ l' → b ∉ l → H b = none
  dm : ∀ b, H b ≠ none → H' b ≠ none
section
variable {K : KW} {ρ : Fx} {l l1 l2 : List Addr} {H H1 H2 : Hp} {S : Sto}
theorem pre_refl {α : Type} (l : List α) : l <+: l := ⟨[], List.append_nil l⟩
theorem get_pre {α : Type} {l l' : List α} (p : l <+: l') {i : Nat} {x : α} (h : l[i]? = some x) : l'[i]? = some x := by
  obtain ⟨t, rfl⟩ := p
  rw [List.getElem?_append_left (List.getElem?_eq_some_iff.mp h).1]
  exact h
theorem Sx.refl : Sx l H l H := ⟨pre_refl _, fun _ _ a _ => a, fun _ a b => absurd a b, fun _ a => a⟩
theorem Sx.trans (a : Sx l H l1 H1) (b : Sx l1 H1 l2 H2) : Sx l H l2 H2 := by
  refine ⟨a.pre.trans b.pre, fun c u e n => ?_, fun c e n => ?_, fun c e => b.dm c (a.dm c e)⟩
  · by_cases h : c ∈ l1
    · have := a.nw c h n; rw [e] at this; cases this
    · exact b.kp c u (a.kp c u e n) h
  · by_cases h : c ∈ l1
    · exact a.nw c h n
    · have := b.nw c e h
      cases q : H c with
      | none => rfl
      | some u => rw [a.kp c u q n] at this; cases this
theorem Sx.fresh {p : Addr} {o : HO} (h : H p = none) : Sx l H l (upd H p o) :=
  ⟨pre_refl _, fun b u e n => by rw [upd_ne (ne_of_none e h)]; exact e, fun _ a b => absurd a b, fun b e => by
    by_cases hb : b = p
    · rw [hb, upd_same]; exact fun z => nomatch z
    · rw [upd_ne hb]; exact e⟩
theorem Sx.out (s : Sx l H l1 H1) {b : Addr} {u : HO} (e : H b = some u) (n : b ∉ l) : b ∉ l1 := fun h => by
  have := s.nw b h n; rw [e] at this; cases this
theorem Rp.tup_out (rp : Rp ρ S H) {b : Addr} {u : HO} (e : H b = some u) (h : ∀ a b c : Int, u ≠ .lst [.int a, .int b, .int c]) : b ∉ ρ.l := fun m => by
  obtain ⟨i, hi⟩ := List.getElem?_of_mem m
  have hl : i < S.length := by rw [← rp.len]; exact (List.getElem?_eq_some_iff.mp hi).1
  have := rp.obj i b S[i] hi (List.getElem?_eq_getElem hl)
  rw [e] at this
  cases this
  exact h _ _ _ rfl
end
end GG
namespace GG
open PySem PySem.Spec PyProof.Rows L2
/-- what data lean on stays -/
structure Kq (ρ : Fx) (H : Hp) (l' : List Addr) (H' : Hp) : Prop where
  pre : ρ.l <+: l'
  tup : ∀ b xs, H b = some (.tup xs) → H' b = some (.tup xs)
  frz : ∀ b o u, H b = some (.frz o u) → H' b = some (.frz o u)
  kp : ∀ b u, H b = some u → b ∉ ρ.l → ¬ ρ.n b → H' b = some u ∧ b ∉ l'
section
variable {K : KW} {ρ : Fx} {l' : List Addr} {H H' : Hp} {S : Sto}
theorem Kq.rdT (k : Kq ρ H l' H') {a : Addr} {xs : List V} (h : SqT K H a xs) : SqT K H' a xs := by
  rcases h with (h | ⟨o, h⟩) | h
  · exact .inl (.inl (k.tup _ _ h))
  · exact .inl (.inr ⟨o, k.frz _ _ _ h⟩)
  · exact .inr h
theorem RoL.gen (k : Kq ρ H l' H') {a : Addr} {vs : List V} (h : RoL K H a vs) : RoL K H' a vs := by
  rcases h with ⟨o, h⟩ | h
  · exact .inl ⟨o, k.frz _ _ _ h⟩
  · exact .inr h
mutual
theorem RV.gen (k : Kq ρ H l' H') : ∀ (d : D) (v : V), RV K ρ H d v → RV K (ρ.to l') H' d v
  | .non, _, h => by simp only [RV] at h ⊢; exact h
  | .bl _, _, h => by simp only [RV] at h ⊢; exact h
  | .int _, _, h => by simp only [RV] at h ⊢; exact h
  | .str _, _, h => by simp only [RV] at h ⊢; exact h
  | .stm l, _, h => by
    simp only [RV] at h ⊢
    obtain ⟨a, e, q⟩ := h
    exact ⟨a, get_pre k.pre e, q⟩
  | .tup ds, _, h => by
    simp only [RV] at h ⊢
    obtain ⟨a, vs, e, z, q, r⟩ := h
    exact ⟨a, vs, e, z, k.rdT q, RVs.gen k ds vs r⟩
  | .rol ds, _, h => by
    simp only [RV] at h ⊢
    obtain ⟨a, vs, e, z, q, r⟩ := h
    exact ⟨a, vs, e, z, q.gen k, RVs.gen k ds vs r⟩
  | .lst ds, _, h => by
    simp only [RV] at h ⊢
    obtain ⟨a, vs, e, z, q, n1, n2, r⟩ := h
    obtain ⟨q', n1'⟩ := k.kp a _ q n1 n2
    exact ⟨a, vs, e, z, q', n1', n2, RVs.gen k ds vs r⟩
  | .dct kvs, _, h => by
    simp only [RV] at h ⊢
    obtain ⟨a, vs, e, q, n1, n2, r⟩ := h
    obtain ⟨q', n1'⟩ := k.kp a _ q n1 n2
    exact ⟨a, vs, e, q', n1', n2, RKV.gen k kvs vs r⟩
  | .wdt kvs, _, h => by
    simp only [RV] at h ⊢
    obtain ⟨a, vs, e, q, r⟩ := h
    exact ⟨a, vs, e, q, RKV.gen k kvs vs r⟩
theorem RVs.gen (k : Kq ρ H l' H') : ∀ (ds : List D) (vs : List V), RVs K ρ H ds vs → RVs K (ρ.to l') H' ds vs
  | [], _, h => by simp only [RVs] at h ⊢; exact h
  | d :: ds, _, h => by
    simp only [RVs] at h ⊢
    obtain ⟨v, r, e, q, t⟩ := h
    exact ⟨v, r, e, RV.gen k d v q, RVs.gen k ds r t⟩
theorem RKV.gen (k : Kq ρ H l' H') : ∀ (ds : List (Key × D)) (vs : List (Key × V)), RKV K ρ H ds vs → RKV K (ρ.to l') H' ds vs
  | [], _, h => by simp only [RKV] at h ⊢; exact h
  | (kk, d) :: ds, _, h => by
    simp only [RKV] at h ⊢
    obtain ⟨v, r, e, q, t⟩ := h
    exact ⟨v, r, e, RV.gen k d v q, RKV.gen k ds r t⟩
end

mutual
theorem RV.anti {n : Addr → Prop} (hn : ∀ a, n a → ρ.n a) : ∀ (d : D) (v : V), RV K ρ H d v → RV K (ρ.w n) H d v
  | .non, _, h => by simp only [RV] at h ⊢; exact h
  | .bl _, _, h => by simp only [RV] at h ⊢; exact h
  | .int _, _, h => by simp only [RV] at h ⊢; exact h
  | .str _, _, h => by simp only [RV] at h ⊢; exact h
  | .stm l, _, h => by simp only [RV] at h ⊢; exact h
  | .tup ds, _, h => by
    simp only [RV] at h ⊢
    obtain ⟨a, vs, e, z, q, r⟩ := h
    exact ⟨a, vs, e, z, q, RVs.anti hn ds vs r⟩
  | .rol ds, _, h => by
    simp only [RV] at h ⊢
    obtain ⟨a, vs, e, z, q, r⟩ := h
    exact ⟨a, vs, e, z, q, RVs.anti hn ds vs r⟩
  | .lst ds, _, h => by
    simp only [RV] at h ⊢
    obtain ⟨a, vs, e, z, q, n1, n2, r⟩ := h
    exact ⟨a, vs, e, z, q, n1, fun x => n2 (hn a x), RVs.anti hn ds vs r⟩
  | .dct kvs, _, h => by
    simp only [RV] at h ⊢
    obtain ⟨a, vs, e, q, n1, n2, r⟩ := h
    exact ⟨a, vs, e, q, n1, fun x => n2 (hn a x), RKV.anti hn kvs vs r⟩
  | .wdt kvs, _, h => by
    simp only [RV] at h ⊢
    obtain ⟨a, vs, e, q, r⟩ := h
    exact ⟨a, vs, e, q, RKV.anti hn kvs vs r⟩
theorem RVs.anti {n : Addr → Prop} (hn : ∀ a, n a → ρ.n a) : ∀ (ds : List D) (vs : List V), RVs K ρ H ds vs → RVs K (ρ.w n) H ds vs
  | [], _, h => by simp only [RVs] at h ⊢; exact h
  | d :: ds, _, h => by
    simp only [RVs] at h ⊢
    obtain ⟨v, r, e, q, t⟩ := h
    exact ⟨v, r, e, RV.anti hn d v q, RVs.anti hn ds r t⟩
theorem RKV.anti {n : Addr → Prop} (hn : ∀ a, n a → ρ.n a) : ∀ (ds : List (Key × D)) (vs : List (Key × V)), RKV K ρ H ds vs → RKV K (ρ.w n) H ds vs
  | [], _, h => by simp only [RKV] at h ⊢; exact h
  | (kk, d) :: ds, _, h => by
    simp only [RKV] at h ⊢
    obtain ⟨v, r, e, q, t⟩ := h
    exact ⟨v, r, e, RV.anti hn d v q, RKV.anti hn ds r t⟩
end

mutual
theorem RV.still {n : Addr → Prop} : ∀ (d : D) (v : V), D.still d = true → RV K ρ H d v → RV K (ρ.w n) H d v
  | .non, _, _, h => by simp only [RV] at h ⊢; exact h
  | .bl _, _, _, h => by simp only [RV] at h ⊢; exact h
  | .int _, _, _, h => by simp only [RV] at h ⊢; exact h
  | .str _, _, _, h => by simp only [RV] at h ⊢; exact h
  | .stm l, _, _, h => by simp only [RV] at h ⊢; exact h
  | .tup ds, _, s, h => by
    simp only [RV, D.still] at h s ⊢
    obtain ⟨a, vs, e, z, q, r⟩ := h
    exact ⟨a, vs, e, z, q, RVs.still ds vs s r⟩
  | .rol ds, _, s, h => by
    simp only [RV, D.still] at h s ⊢
    obtain ⟨a, vs, e, z, q, r⟩ := h
    exact ⟨a, vs, e, z, q, RVs.still ds vs s r⟩
  | .lst ds, _, s, h => by simp [D.still] at s
  | .dct kvs, _, s, h => by simp [D.still] at s
  | .wdt kvs, _, s, h => by simp [D.still] at s
theorem RVs.still {n : Addr → Prop} : ∀ (ds : List D) (vs : List V), D.stills ds = true → RVs K ρ H ds vs → RVs K (ρ.w n) H ds vs
  | [], _, _, h => by simp only [RVs] at h ⊢; exact h
  | d :: ds, _, s, h => by
    simp only [RVs, D.stills, Bool.and_eq_true] at h s ⊢
    obtain ⟨v, r, e, q, t⟩ := h
    exact ⟨v, r, e, RV.still d v s.1 q, RVs.still ds r s.2 t⟩
end
theorem RKV.still {n : Addr → Prop} : ∀ (ds : List (Key × D)) (vs : List (Key × V)), D.stills (ds.map (·.2)) = true → RKV K ρ H ds vs → RKV K (ρ.w n) H ds vs
  | [], _, _, h => by simp only [RKV] at h ⊢; exact h
  | (kk, d) :: ds, _, s, h => by
    simp only [RKV, List.map_cons, D.stills, Bool.and_eq_true] at h s ⊢
    obtain ⟨v, r, e, q, t⟩ := h
    exact ⟨v, r, e, RV.still d v s.1 q, RKV.still ds r s.2 t⟩
theorem Sx.kq {l : List Addr} (s : Sx ρ.l H l H') (rp : Rp ρ S H) : Kq ρ H l H' :=
  ⟨s.pre, fun b xs e => s.kp b _ e (rp.tup_out e fun _ _ _ z => nomatch z), fun b o u e => s.kp b _ e (rp.tup_out e fun _ _ _ z => nomatch z), fun b u e n _ => ⟨s.kp b u e n, s.out e n⟩⟩
theorem RV.mono {l : List Addr} {d : D} {v : V} (h : RV K ρ H d v) (rp : Rp ρ S H) (s : Sx ρ.l H l H') : RV K (ρ.to l) H' d v := RV.gen (s.kq rp) d v h
theorem RVs.mono {l : List Addr} {d : List D} {v : List V} (h : RVs K ρ H d v) (rp : Rp ρ S H) (s : Sx ρ.l H l H') : RVs K (ρ.to l) H' d v := RVs.gen (s.kq rp) d v h
theorem RKV.mono {l : List Addr} {d : List (Key × D)} {v : List (Key × V)} (h : RKV K ρ H d v) (rp : Rp ρ S H) (s : Sx ρ.l H l H') : RKV K (ρ.to l) H' d v := RKV.gen (s.kq rp) d v h
theorem Rp.fresh {p : Addr} {o : HO} (h : Rp ρ S H) (hp : H p = none) : Rp ρ S (upd H p o) :=
  ⟨h.len, h.nd, fun i a t e1 e2 => by
    have e := h.obj i a t e1 e2
    rw [upd_ne (ne_of_none e hp)]; exact e, fun a ha => by
    by_cases e : a = p
    · rw [e, upd_same]; exact fun z => nomatch z
    · rw [upd_ne e]; exact h.dom a ha⟩
theorem Rp.nin (h : Rp ρ S H) {p : Addr} (hp : H p = none) : p ∉ ρ.l ∧ ¬ ρ.n p := by
  refine ⟨fun m => ?_, fun m => h.dom p m hp⟩
  obtain ⟨i, hi⟩ := List.getElem?_of_mem m
  have hl : i < S.length := by rw [← h.len]; exact (List.getElem?_eq_some_iff.mp hi).1
  have := h.obj i p S[i] hi (List.getElem?_eq_getElem hl)
  rw [hp] at this; cases this
theorem Rp.to_self (ρ : Fx) : ρ.to ρ.l = ρ := rfl
theorem Rp.w (h : Rp ρ S H) {n : Addr → Prop} (hn : ∀ a, n a → H a ≠ none) : Rp (ρ.w n) S H := ⟨h.len, h.nd, h.obj, hn⟩
theorem RoL.sq {a : Addr} {vs : List V} (h : RoL K H a vs) : SqL K H a vs := by
  rcases h with ⟨o, h⟩ | h
  · exact .inl (.inr ⟨o, h⟩)
  · exact .inr h
theorem RVs.len : ∀ {ds : List D} {vs : List V}, RVs K ρ H ds vs → ds.length = vs.length
  | [], _, h => by simp only [RVs] at h; subst h; rfl
  | d :: ds, _, h => by
    simp only [RVs] at h
    obtain ⟨v, r, rfl, _, t⟩ := h
    simp [t.len]
theorem RKV.len : ∀ {ds : List (Key × D)} {vs : List (Key × V)}, RKV K ρ H ds vs → ds.length = vs.length
  | [], _, h => by simp only [RKV] at h; subst h; rfl
  | (kk, d) :: ds, _, h => by
    simp only [RKV] at h
    obtain ⟨v, r, rfl, _, t⟩ := h
    simp [t.len]
theorem RVs.get : ∀ {ds : List D} {vs : List V} {i : Nat} {d : D}, RVs K ρ H ds vs → ds[i]? = some d → ∃ v, vs[i]? = some v ∧ RV K ρ H d v
  | [], _, _, _, _, e => by simp at e
  | d :: ds, _, 0, _, h, e => by
    simp only [RVs] at h
    obtain ⟨v, r, rfl, q, _⟩ := h
    simp at e; subst e
    exact ⟨v, rfl, q⟩
  | d :: ds, _, i + 1, x, h, e => by
    simp only [RVs] at h
    obtain ⟨v, r, rfl, _, t⟩ := h
    simpa using RVs.get (i := i) (d := x) t (by simpa using e)
theorem RVs.append : ∀ {ds es : List D} {vs us : List V}, RVs K ρ H ds vs → RVs K ρ H es us → RVs K ρ H (ds ++ es) (vs ++ us)
  | [], _, _, _, h, t => by simp only [RVs] at h; subst h; exact t
  | d :: ds, _, _, _, h, t => by
    simp only [RVs] at h
    obtain ⟨v, r, rfl, q, t0⟩ := h
    show RVs K ρ H (d :: (ds ++ _)) (v :: (r ++ _))
    simp only [RVs]
    exact ⟨v, _, rfl, q, t0.append t⟩
theorem RVs.one {d : D} {v : V} (h : RV K ρ H d v) : RVs K ρ H [d] [v] := by simp only [RVs]; exact ⟨v, [], rfl, h, rfl⟩
theorem RVs.nil : RVs K ρ H [] [] := by simp only [RVs]
theorem RVs.cons {d : D} {v : V} {ds : List D} {vs : List V} (h : RV K ρ H d v) (t : RVs K ρ H ds vs) : RVs K ρ H (d :: ds) (v :: vs) := by simp only [RVs]; exact ⟨v, vs, rfl, h, t⟩
theorem RVs.uncons {d : D} {ds : List D} {vs : List V} (h : RVs K ρ H (d :: ds) vs) : ∃ v r, vs = v :: r ∧ RV K ρ H d v ∧ RVs K ρ H ds r := by simpa only [RVs] using h
theorem RVs.one' {d : D} {vs : List V} (r : RVs K ρ H [d] vs) : ∃ v, vs = [v] ∧ RV K ρ H d v := by
  obtain ⟨v, vr, rfl, rv, rr⟩ := r.uncons
  simp only [RVs] at rr; subst rr
  exact ⟨v, rfl, rv⟩
theorem RVs.two' {d e : D} {vs : List V} (r : RVs K ρ H [d, e] vs) : ∃ v w, vs = [v, w] ∧ RV K ρ H d v ∧ RV K ρ H e w := by
  obtain ⟨v, vr, rfl, rv, rr⟩ := r.uncons
  obtain ⟨w, rfl, rw'⟩ := rr.one'
  exact ⟨v, w, rfl, rv, rw'⟩
theorem RVs.isNil {ds : List D} {vs : List V} (r : RVs K ρ H ds vs) : ds = [] ↔ vs = [] := by
  have e := r.len
  constructor
  · rintro rfl; exact List.length_eq_zero_iff.mp e.symm
  · rintro rfl; exact List.length_eq_zero_iff.mp e
theorem RV.int {i : Int} {v : V} (h : RV K ρ H (.int i) v) : v = .int i := by simpa only [RV] using h
theorem RV.bl {i : Bool} {v : V} (h : RV K ρ H (.bl i) v) : v = .bl i := by simpa only [RV] using h
theorem RV.str {i : Str} {v : V} (h : RV K ρ H (.str i) v) : v = .str i := by simpa only [RV] using h
theorem RV.non {v : V} (h : RV K ρ H .non v) : v = .non := by simpa only [RV] using h
theorem RV.tup {ds : List D} {v : V} (h : RV K ρ H (.tup ds) v) : ∃ a vs, v = .ref a ∧ ds.length ≤ sizeLine ∧ SqT K H a vs ∧ RVs K ρ H ds vs := by simpa only [RV] using h
theorem RV.rol {ds : List D} {v : V} (h : RV K ρ H (.rol ds) v) : ∃ a vs, v = .ref a ∧ ds.length ≤ sizeLine ∧ RoL K H a vs ∧ RVs K ρ H ds vs := by simpa only [RV] using h
theorem RV.lst {ds : List D} {v : V} (h : RV K ρ H (.lst ds) v) : ∃ a vs, v = .ref a ∧ ds.length ≤ sizeLine ∧ H a = some (.lst vs) ∧ a ∉ ρ.l ∧ ¬ ρ.n a ∧ RVs K ρ H ds vs := by simpa only [RV] using h
theorem RV.dct {kvs : List (Key × D)} {v : V} (h : RV K ρ H (.dct kvs) v) : ∃ a ws, v = .ref a ∧ H a = some (.dK ws) ∧ a ∉ ρ.l ∧ ¬ ρ.n a ∧ RKV K ρ H kvs ws := by simpa only [RV] using h
theorem RV.stm {k : Nat} {v : V} (h : RV K ρ H (.stm k) v) : ∃ a, ρ.l[k]? = some a ∧ v = .ref a := by simpa only [RV] using h
theorem RV.wdt {kvs : List (Key × D)} {v : V} (h : RV K ρ H (.wdt kvs) v) : ∃ a ws, v = .ref a ∧ WD K a ws ∧ RKV K ρ H kvs ws := by simpa only [RV] using h
theorem RV.mkInt (i : Int) : RV K ρ H (.int i) (.int i) := by simp only [RV]
theorem RV.mkBl (i : Bool) : RV K ρ H (.bl i) (.bl i) := by simp only [RV]
theorem RV.mkStr (i : Str) : RV K ρ H (.str i) (.str i) := by simp only [RV]
theorem RV.mkNon : RV K ρ H .non .non := by simp only [RV]
theorem RV.mkTup {a : Addr} {ds : List D} {vs : List V} (z : ds.length ≤ sizeLine) (h : SqT K H a vs) (r : RVs K ρ H ds vs) : RV K ρ H (.tup ds) (.ref a) := by simp only [RV]; exact ⟨a, vs, rfl, z, h, r⟩
theorem RV.mkLst {a : Addr} {ds : List D} {vs : List V} (z : ds.length ≤ sizeLine) (h : H a = some (.lst vs)) (n1 : a ∉ ρ.l) (n2 : ¬ ρ.n a) (r : RVs K ρ H ds vs) : RV K ρ H (.lst ds) (.ref a) := by simp only [RV]; exact ⟨a, vs, rfl, z, h, n1, n2, r⟩
theorem RV.mkDct {a : Addr} {ds : List (Key × D)} {vs : List (Key × V)} (h : H a = some (.dK vs)) (n1 : a ∉ ρ.l) (n2 : ¬ ρ.n a) (r : RKV K ρ H ds vs) : RV K ρ H (.dct ds) (.ref a) := by simp only [RV]; exact ⟨a, vs, rfl, h, n1, n2, r⟩
theorem RV.mkStm {a : Addr} {k : Nat} (h : ρ.l[k]? = some a) : RV K ρ H (.stm k) (.ref a) := by simp only [RV]; exact ⟨a, h, rfl⟩
end
end GG
namespace GG
open PySem PySem.Spec PyProof.Rows L2
/-! ## readings by functions -/
/-- how an error lies -/
def RX (K : KW) (mg : Str → Option Value) (ρ : Fx) (H : Hp) (c : Str) (v : Option (Str × D)) (cls : Value) (d : Option Addr) : Prop :=
  ∃ C, mg c = some (.ref C) ∧ cls = .ref C ∧ match v with
    | none => d = none
    | some (f, x) => ∃ dd u, d = some dd ∧ H dd = some (.xd [(f, u)]) ∧ RV K ρ H x u
/-- the lists and dicts of the slots' own, but for the slots xs -/
def Av (ε : Env) (σ : L2.St) (xs : List Nat) : Addr → Prop := fun a => ∃ i d, i ∉ xs ∧ ε[i]? = some (.o d) ∧ σ[i]? = some (some (.ref a))
def Fx.plus (ρ : Fx) (n : Addr → Prop) : Fx := ρ.w fun a => ρ.n a ∨ n a
section
variable (K : KW) (mg : Str → Option Value)
def Post {α β : Type} (RA : Fx → Hp → α → β → Prop) (E : XK) (ρ : Fx) (H : Hp) (r : Out α) (Q : β → Hp → Prop) : Prop :=
  match r with
  | .ok d S => ∀ l v H', Sx ρ.l H l H' → Rp (ρ.to l) S H' → RA (ρ.to l) H' d v → Q v H'
  | .exc c x S => ∀ l H' cls dd, Sx ρ.l H l H' → Rp (ρ.to l) S H' → RX K mg (ρ.to l) H' c x cls dd → E cls dd H'
  | .bad => False
/-- what stands at the place of a slot's own thing -/
def Own (ρ : Fx) (H : Hp) (d : D) (a : Addr) : Prop :=
  match d with
  | .lst ds => ∃ vs, ds.length ≤ sizeLine ∧ H a = some (.lst vs) ∧ a ∉ ρ.l ∧ ¬ ρ.n a ∧ RVs K (ρ.plus (· = a)) H ds vs
  | .dct kvs => ∃ ws, H a = some (.dK ws) ∧ a ∉ ρ.l ∧ ¬ ρ.n a ∧ RKV K (ρ.plus (· = a)) H kvs ws
  | _ => False
structure Rs (ρ : Fx) (H : Hp) (ε : Env) (σ : L2.St) : Prop where
  len : ε.length = σ.length
  val : ∀ (i : Nat) d, ε[i]? = some (.v d) → ∃ v, σ[i]? = some (some v) ∧ RV K (ρ.plus (Av ε σ [])) H d v
  own : ∀ (i : Nat) d, ε[i]? = some (.o d) → ∃ a, σ[i]? = some (some (.ref a)) ∧ Own K (ρ.plus (Av ε σ [i])) H d a
end
def RB : Fx → Hp → Bool → Bool → Prop := fun _ _ a b => b = a
def XW (W : WX) (σ : L2.St) : XK := fun cls d H => W cls d σ H
section
variable (K : KW) (mg : Str → Option Value)
def TG0 {α β : Type} (RA : Fx → Hp → α → β → Prop) (W : WX) (xs : List Nat) (f : Env → Sto → Out α) (σ : L2.St) (H : Hp) (Q : β → Hp → Prop) : Prop :=
  ∃ ρ ε S, Rs K ρ H ε σ ∧ Rp ρ S H ∧ Post K mg RA (XW W σ) (ρ.plus (Av ε σ xs)) H (f ε S) Q
def TF (W : WX) (xs : List Nat) (f : Env → Sto → Out D) : TE := TG0 K mg (RV K) W xs f
def TFs (W : WX) (xs : List Nat) (f : Env → Sto → Out (List D)) : TA := TG0 K mg (RVs K) W xs f
def TFt (W : WX) (xs : List Nat) (f : Env → Sto → Out Bool) : TT := TG0 K mg RB W xs f
end
section
variable {K : KW} {mg : Str → Option Value} {α β γ δ : Type} {RA : Fx → Hp → α → β → Prop} {RC : Fx → Hp → γ → δ → Prop} {E : XK} {ρ : Fx} {H H1 : Hp} {W : WX} {S : Sto} {ε : Env} {σ : L2.St}
theorem RX.anti {n : Addr → Prop} {c : Str} {x : Option (Str × D)} {cls : Value} {dd : Option Addr} (hn : ∀ a, n a → ρ.n a) (h : RX K mg ρ H c x cls dd) : RX K mg (ρ.w n) H c x cls dd := by
  obtain ⟨C, a, b, r⟩ := h
  refine ⟨C, a, b, ?_⟩
  cases x with
  | none => exact r
  | some fx => obtain ⟨d, u, e1, e2, e3⟩ := r; exact ⟨d, u, e1, e2, e3.anti hn⟩
theorem Post.weak {l : List Addr} {r : Out α} {Q : β → Hp → Prop} (s : Sx ρ.l H l H1) (h : Post K mg RA E ρ H r Q) : Post K mg RA E (ρ.to l) H1 r Q := by
  cases r with
  | ok d S => exact fun l' v H' s' => h l' v H' (s.trans s')
  | exc c x S => exact fun l' H' cls dd s' => h l' H' cls dd (s.trans s')
  | bad => exact h
theorem Post.imp {r : Out α} {Q Q' : β → Hp → Prop} (h : Post K mg RA E ρ H r Q) (i : ∀ v H', Q v H' → Q' v H') : Post K mg RA E ρ H r Q' := by
  cases r with
  | ok d S => exact fun ρ' v H' s' r' q => i _ _ (h ρ' v H' s' r' q)
  | exc c x S => exact h
  | bad => exact h
/-- the first part is met with more that is not to be met -/
theorem Post.seqN {n : Addr → Prop} {r : Out α} {g : α → Sto → Out γ} {Q : δ → Hp → Prop} {Q1 : β → Hp → Prop} (hn : ∀ a, ρ.n a → n a) (h : Post K mg RC E ρ H (r.bind g) Q)
    (step : ∀ l v H1 d S1, Sx ρ.l H l H1 → Rp (ρ.to l) S1 H1 → Rp ((ρ.w n).to l) S1 H1 → RA ((ρ.w n).to l) H1 d v → Post K mg RC E (ρ.to l) H1 (g d S1) Q → Q1 v H1) : Post K mg RA E (ρ.w n) H r Q1 := by
  have low : ∀ {l : List Addr} {S : Sto} {H' : Hp}, Rp ((ρ.w n).to l) S H' → Rp (ρ.to l) S H' := fun rp => ⟨rp.len, rp.nd, rp.obj, fun a ha => rp.dom a (hn a ha)⟩
  cases r with
  | ok d S => exact fun l' v H' s' r' q => step l' v H' d S s' (low r') r' q (Post.weak s' h)
  | exc c x S => exact fun l' H' cls dd s' r' rx => h l' H' cls dd s' (low r') (RX.anti (n := ρ.n) hn rx)
  | bad => exact h
theorem Post.seq {r : Out α} {g : α → Sto → Out γ} {Q : δ → Hp → Prop} {Q1 : β → Hp → Prop} (h : Post K mg RC E ρ H (r.bind g) Q)
    (step : ∀ l v H1 d S1, Sx ρ.l H l H1 → Rp (ρ.to l) S1 H1 → RA (ρ.to l) H1 d v → Post K mg RC E (ρ.to l) H1 (g d S1) Q → Q1 v H1) : Post K mg RA E ρ H r Q1 :=
  Post.seqN (n := ρ.n) (ρ := ρ) (fun _ a => a) h fun l v H1 d S1 s rp _ ra q => step l v H1 d S1 s rp ra q
/-- the end: a value of the very heap -/
theorem Post.here {d : α} {v : β} {Q : β → Hp → Prop} (h : Post K mg RA E ρ H (.ok d S) Q) (rp : Rp ρ S H) (r : RA ρ H d v) : Q v H := h ρ.l v H Sx.refl rp r
theorem Post.ofH {o : Option α} {Q : β → Hp → Prop} (h : Post K mg RA E ρ H (.of S o) Q) : ∃ d, o = some d ∧ Post K mg RA E ρ H (.ok d S) Q := by
  cases o with
  | none => exact h.elim
  | some d => exact ⟨d, rfl, h⟩
theorem Fx.plus_to (ρ : Fx) (l : List Addr) (n : Addr → Prop) : (ρ.plus n).to l = (ρ.to l).plus n := rfl
theorem Fx.plus_w (ρ : Fx) (n : Addr → Prop) : ρ.plus n = ρ.w fun a => ρ.n a ∨ n a := rfl
theorem Av.anti {xs ys : List Nat} (h : ∀ i, i ∈ xs → i ∈ ys) (a : Addr) : Av ε σ ys a → Av ε σ xs a := fun ⟨i, d, n, e1, e2⟩ => ⟨i, d, fun m => n (h i m), e1, e2⟩
theorem plus_anti {n m : Addr → Prop} (h : ∀ a, m a → n a) {d : D} {v : V} (r : RV K (ρ.plus n) H d v) : RV K (ρ.plus m) H d v := RV.anti (ρ := ρ.plus n) (n := fun a => ρ.n a ∨ m a) (fun a z => z.imp id (h a)) d v r
theorem plus_antis {n m : Addr → Prop} (h : ∀ a, m a → n a) {d : List D} {v : List V} (r : RVs K (ρ.plus n) H d v) : RVs K (ρ.plus m) H d v := RVs.anti (ρ := ρ.plus n) (n := fun a => ρ.n a ∨ m a) (fun a z => z.imp id (h a)) d v r
theorem plus_antik {n m : Addr → Prop} (h : ∀ a, m a → n a) {d : List (Key × D)} {v : List (Key × V)} (r : RKV K (ρ.plus n) H d v) : RKV K (ρ.plus m) H d v := RKV.anti (ρ := ρ.plus n) (n := fun a => ρ.n a ∨ m a) (fun a z => z.imp id (h a)) d v r
theorem Own.dom {d : D} {a : Addr} (h : Own K ρ H d a) : H a ≠ none := by
  unfold Own at h
  split at h
  · obtain ⟨vs, _, e, _⟩ := h; rw [e]; exact fun z => nomatch z
  · obtain ⟨vs, e, _⟩ := h; rw [e]; exact fun z => nomatch z
  · exact h.elim
theorem Rs.dom (h : Rs K ρ H ε σ) {xs : List Nat} {a : Addr} (av : Av ε σ xs a) : H a ≠ none := by
  obtain ⟨i, d, _, e1, e2⟩ := av
  obtain ⟨b, e3, o⟩ := h.own i d e1
  rw [e2] at e3; cases e3
  exact o.dom
theorem Rs.rp (h : Rs K ρ H ε σ) (rp : Rp ρ S H) (xs : List Nat) : Rp (ρ.plus (Av ε σ xs)) S H := rp.w fun a z => z.elim (rp.dom a) fun z => h.dom z
theorem Rp.low {n : Addr → Prop} (rp : Rp (ρ.plus n) S H) : Rp ρ S H := ⟨rp.len, rp.nd, rp.obj, fun a ha => rp.dom a (.inl ha)⟩
theorem Own.mono {l : List Addr} {H' : Hp} {d : D} {a : Addr} (h : Own K ρ H d a) (rp : Rp ρ S H) (s : Sx ρ.l H l H') : Own K (ρ.to l) H' d a := by
  unfold Own at h ⊢
  split at h
  · obtain ⟨vs, z, e, n1, n2, r⟩ := h
    have rp2 : Rp (ρ.plus (· = a)) S H := rp.w fun b z => z.elim (rp.dom b) fun z => by rw [z, e]; exact fun z => nomatch z
    exact ⟨vs, z, s.kp a _ e n1, s.out e n1, n2, r.mono rp2 s⟩
  · obtain ⟨vs, e, n1, n2, r⟩ := h
    have rp2 : Rp (ρ.plus (· = a)) S H := rp.w fun b z => z.elim (rp.dom b) fun z => by rw [z, e]; exact fun z => nomatch z
    exact ⟨vs, s.kp a _ e n1, s.out e n1, n2, r.mono rp2 s⟩
  · exact h
theorem Rs.mono {l : List Addr} {H' : Hp} (h : Rs K ρ H ε σ) (rp : Rp ρ S H) (s : Sx ρ.l H l H') : Rs K (ρ.to l) H' ε σ :=
  ⟨h.len, fun i d e => let ⟨v, a, b⟩ := h.val i d e; ⟨v, a, b.mono (h.rp rp []) s⟩, fun i d e => let ⟨a, e1, o⟩ := h.own i d e; ⟨a, e1, o.mono (h.rp rp [i]) s⟩⟩
/-- a slot's own thing, read -/
theorem Own.rv {d : D} {a : Addr} (h : Own K ρ H d a) : RV K ρ H d (.ref a) := by
  unfold Own at h
  split at h
  · obtain ⟨vs, z, e, n1, n2, r⟩ := h
    exact .mkLst z e n1 n2 (RVs.anti (ρ := ρ.plus (· = a)) (n := ρ.n) (fun b z => .inl z) _ _ r)
  · obtain ⟨vs, e, n1, n2, r⟩ := h
    exact .mkDct e n1 n2 (RKV.anti (ρ := ρ.plus (· = a)) (n := ρ.n) (fun b z => .inl z) _ _ r)
  · exact h.elim
end
/-! ### nothing that is not there is met -/
section
variable {K : KW} {ρ : Fx} {H : Hp} {n : Addr → Prop}
mutual
theorem RV.dom (hn : ∀ a, n a → H a = none) : ∀ (d : D) (v : V), RV K ρ H d v → RV K (ρ.plus n) H d v
  | .non, _, h => by simp only [RV] at h ⊢; exact h
  | .bl _, _, h => by simp only [RV] at h ⊢; exact h
  | .int _, _, h => by simp only [RV] at h ⊢; exact h
  | .str _, _, h => by simp only [RV] at h ⊢; exact h
  | .stm l, _, h => by simp only [RV] at h ⊢; exact h
  | .tup ds, _, h => by
    simp only [RV] at h ⊢
    obtain ⟨a, vs, e, z, q, r⟩ := h
    exact ⟨a, vs, e, z, q, RVs.dom hn ds vs r⟩
  | .rol ds, _, h => by
    simp only [RV] at h ⊢
    obtain ⟨a, vs, e, z, q, r⟩ := h
    exact ⟨a, vs, e, z, q, RVs.dom hn ds vs r⟩
  | .lst ds, _, h => by
    simp only [RV] at h ⊢
    obtain ⟨a, vs, e, z, q, n1, n2, r⟩ := h
    exact ⟨a, vs, e, z, q, n1, (fun x => x.elim n2 fun x => by rw [hn a x] at q; cases q), RVs.dom hn ds vs r⟩
  | .dct kvs, _, h => by
    simp only [RV] at h ⊢
    obtain ⟨a, vs, e, q, n1, n2, r⟩ := h
    exact ⟨a, vs, e, q, n1, (fun x => x.elim n2 fun x => by rw [hn a x] at q; cases q), RKV.dom hn kvs vs r⟩
  | .wdt kvs, _, h => by
    simp only [RV] at h ⊢
    obtain ⟨a, vs, e, q, r⟩ := h
    exact ⟨a, vs, e, q, RKV.dom hn kvs vs r⟩
theorem RVs.dom (hn : ∀ a, n a → H a = none) : ∀ (ds : List D) (vs : List V), RVs K ρ H ds vs → RVs K (ρ.plus n) H ds vs
  | [], _, h => by simp only [RVs] at h ⊢; exact h
  | d :: ds, _, h => by
    simp only [RVs] at h ⊢
    obtain ⟨v, r, e, q, t⟩ := h
    exact ⟨v, r, e, RV.dom hn d v q, RVs.dom hn ds r t⟩
theorem RKV.dom (hn : ∀ a, n a → H a = none) : ∀ (ds : List (Key × D)) (vs : List (Key × V)), RKV K ρ H ds vs → RKV K (ρ.plus n) H ds vs
  | [], _, h => by simp only [RKV] at h ⊢; exact h
  | (kk, d) :: ds, _, h => by
    simp only [RKV] at h ⊢
    obtain ⟨v, r, e, q, t⟩ := h
    exact ⟨v, r, e, RV.dom hn d v q, RKV.dom hn ds r t⟩
end
theorem Kq.plus {l : List Addr} {H' : Hp} (k : Kq ρ H l H') : Kq (ρ.plus n) H l H' := ⟨k.pre, k.tup, k.frz, fun b u e n1 n2 => k.kp b u e n1 fun z => n2 (.inl z)⟩
theorem Fx.swap (ρ : Fx) (n m : Addr → Prop) {d : D} {v : V} (r : RV K ((ρ.plus n).plus m) H d v) : RV K ((ρ.plus m).plus n) H d v :=
  RV.anti (ρ := (ρ.plus n).plus m) (n := ((ρ.plus m).plus n).n) (fun a z => by rcases z with (z | z) | z; exact .inl (.inl z); exact .inr z; exact .inl (.inr z)) d v r
def Fx.nw (ρ : Fx) (H : Hp) : Fx := ρ.plus fun a => H a = none
theorem RVs.nw {ds : List D} {vs : List V} (r : RVs K ρ H ds vs) : RVs K (ρ.nw H) H ds vs := RVs.dom (fun _ z => z) ds vs r
theorem Own.plus {d : D} {a : Addr} (hn : ∀ a, n a → H a = none) (o : Own K ρ H d a) : Own K (ρ.plus n) H d a := by
  unfold Own at o ⊢
  split at o
  · obtain ⟨vs, z, e, n1, n2, r⟩ := o
    refine ⟨vs, z, e, n1, (fun q => q.elim n2 fun q => by rw [hn a q] at e; cases e), ?_⟩
    have := RVs.dom (ρ := ρ.plus (· = a)) hn _ _ r
    exact RVs.anti (ρ := (ρ.plus (· = a)).plus n) (n := ((ρ.plus n).plus (· = a)).n) (fun a z => by rcases z with (z | z) | z; exact .inl (.inl z); exact .inr z; exact .inl (.inr z)) _ _ this
  · obtain ⟨vs, e, n1, n2, r⟩ := o
    refine ⟨vs, e, n1, (fun q => q.elim n2 fun q => by rw [hn a q] at e; cases e), ?_⟩
    have := RKV.dom (ρ := ρ.plus (· = a)) hn _ _ r
    exact RKV.anti (ρ := (ρ.plus (· = a)).plus n) (n := ((ρ.plus n).plus (· = a)).n) (fun a z => by rcases z with (z | z) | z; exact .inl (.inl z); exact .inr z; exact .inl (.inr z)) _ _ this
  · exact o
theorem Own.swap {n m : Addr → Prop} {d : D} {a : Addr} (o : Own K ((ρ.plus n).plus m) H d a) : Own K ((ρ.plus m).plus n) H d a := by
  have e : ((ρ.plus n).plus m) = ((ρ.plus m).plus n) := by
    unfold Fx.plus Fx.w
    congr 1
    funext a
    apply propext
    constructor
    · rintro ((z | z) | z); exact .inl (.inl z); exact .inr z; exact .inl (.inr z)
    · rintro ((z | z) | z); exact .inl (.inl z); exact .inr z; exact .inl (.inr z)
  rw [← e]; exact o
theorem Rs.plus {ε : Env} {σ : L2.St} (hn : ∀ a, n a → H a = none) (h : Rs K ρ H ε σ) : Rs K (ρ.plus n) H ε σ :=
  ⟨h.len, fun i d e => let ⟨v, a, b⟩ := h.val i d e; ⟨v, a, Fx.swap _ _ _ (RV.dom hn d v b)⟩, fun i d e => let ⟨a, e1, o⟩ := h.own i d e; ⟨a, e1, Own.swap (Own.plus hn o)⟩⟩
theorem Own.gen {l : List Addr} {H' : Hp} {d : D} {a : Addr} (h : Own K ρ H d a) (k : Kq ρ H l H') : Own K (ρ.to l) H' d a := by
  unfold Own at h ⊢
  split at h
  · obtain ⟨vs, z, e, n1, n2, r⟩ := h
    obtain ⟨e', n1'⟩ := k.kp a _ e n1 n2
    exact ⟨vs, z, e', n1', n2, RVs.gen (Kq.plus k) _ _ r⟩
  · obtain ⟨vs, e, n1, n2, r⟩ := h
    obtain ⟨e', n1'⟩ := k.kp a _ e n1 n2
    exact ⟨vs, e', n1', n2, RKV.gen (Kq.plus k) _ _ r⟩
  · exact h
theorem Rs.gen {l : List Addr} {H' : Hp} {ε : Env} {σ : L2.St} (h : Rs K ρ H ε σ) (k : Kq ρ H l H') : Rs K (ρ.to l) H' ε σ :=
  ⟨h.len, fun i d e => let ⟨v, a, b⟩ := h.val i d e; ⟨v, a, RV.gen (Kq.plus k) d v b⟩, fun i d e => let ⟨a, e1, o⟩ := h.own i d e; ⟨a, e1, Own.gen o (Kq.plus k)⟩⟩
end
/-! ### rules by values serve functions -/
section
variable (K : KW) (mg : Str → Option Value)
def VR2 (r : R2) (h : D → D → Option D) : Prop :=
  ∀ (E : XK) (ρ : Fx) (S : Sto) (H : Hp) (x y : D) (vx vy : V) (Q : VK), Rp ρ S H → RV K ρ H x vx → RV K ρ H y vy → Post K mg (RV K) E ρ H (.of S (h x y)) Q → r vx vy H Q
def VR1 (r : V → Hp → VK → Prop) (h : D → Option D) : Prop :=
  ∀ (E : XK) (ρ : Fx) (S : Sto) (H : Hp) (x : D) (vx : V) (Q : VK), Rp ρ S H → RV K ρ H x vx → Post K mg (RV K) E ρ H (.of S (h x)) Q → r vx H Q
def VRn (r : List V → Hp → VK → Prop) (h : List D → Option D) : Prop :=
  ∀ (E : XK) (ρ : Fx) (S : Sto) (H : Hp) (xs : List D) (vs : List V) (Q : VK), Rp ρ S H → RVs K ρ H xs vs → Post K mg (RV K) E ρ H (.of S (h xs)) Q → r vs H Q
end
section
variable {K : KW} {mg : Str → Option Value} {E : XK} {ρ : Fx} {H : Hp} {W : WX} {S : Sto}
theorem PE.imp {X : Cx} {e : Expr} {t t' : TE} (h : PE X e t) (i : ∀ σ H Q, t' σ H Q → t σ H Q) : PE X e t' := ⟨fun pins s σ H Q I q => h.run pins s σ H Q I (i σ H Q q)⟩
theorem PA.imp {X : Cx} {e : List Expr} {t t' : TA} (h : PA X e t) (i : ∀ σ H Q, t' σ H Q → t σ H Q) : PA X e t' := ⟨fun pos pins s σ H Q I q => h.run pos pins s σ H Q I (i σ H Q q)⟩
theorem PT.imp {X : Cx} {e : Expr} {t t' : TT} (h : PT X e t) (i : ∀ σ H Q, t' σ H Q → t σ H Q) : PT X e t' := ⟨fun pins s σ H Q I q => h.run pins s σ H Q I (i σ H Q q)⟩
theorem PW.imp {X : Cx} {e : Expr} {t t' : TT} (h : PW X e t) (i : ∀ σ H Q, t' σ H Q → t σ H Q) : PW X e t' := ⟨fun w pins s σ H Q I q => h.run w pins s σ H Q I (i σ H Q q)⟩
theorem PS.imp {X : Cx} {e : Stmt} {t t' : TS} (h : PS X e t) (i : ∀ D σ H, t' D σ H → t D σ H) : PS X e t' := ⟨fun pins s σ H D I q => h.run pins s σ H D I (i D σ H q)⟩
theorem PSs.imp {X : Cx} {e : List Stmt} {t t' : TS} (h : PSs X e t) (i : ∀ D σ H, t' D σ H → t D σ H) : PSs X e t' := ⟨fun pins s σ H D I q => h.run pins s σ H D I (i D σ H q)⟩
theorem TG0.go {γ δ : Type} {RC : Fx → Hp → γ → δ → Prop} {xs ys : List Nat} {ρ : Fx} {ε : Env} {S : Sto} {σ : L2.St} {r : Env → Sto → Out γ} {Q : δ → Hp → Prop} (hs : Rs K ρ H ε σ) (rp : Rp ρ S H) (q : Post K mg RC (XW W σ) (ρ.plus (Av ε σ xs)) H (r ε S) Q) : TG0 K mg RC W xs r σ H Q :=
  ⟨ρ, ε, S, hs, rp, q⟩
theorem TG0.go2 {γ δ α β : Type} {RA : Fx → Hp → α → β → Prop} {RC : Fx → Hp → γ → δ → Prop} {xs ys : List Nat} {ρ : Fx} {ε : Env} {S : Sto} {σ : L2.St} {f : Env → Sto → Out α} {g : α → Sto → Out γ} {Q : δ → Hp → Prop} {Q1 : β → Hp → Prop} (hx : ∀ i, i ∈ ys → i ∈ xs)
    (hs : Rs K ρ H ε σ) (rp : Rp ρ S H) (q : Post K mg RC (XW W σ) (ρ.plus (Av ε σ xs)) H ((f ε S).bind g) Q)
    (step : ∀ l v H1 d S1, Sx ρ.l H l H1 → Rs K (ρ.to l) H1 ε σ → Rp (ρ.to l) S1 H1 → RA ((ρ.to l).plus (Av ε σ ys)) H1 d v → Post K mg RC (XW W σ) ((ρ.to l).plus (Av ε σ xs)) H1 (g d S1) Q → Q1 v H1) : TG0 K mg RA W ys f σ H Q1 :=
  ⟨ρ, ε, S, hs, rp, Post.seqN (ρ := ρ.plus (Av ε σ xs)) (n := (ρ.plus (Av ε σ ys)).n) (fun a z => z.imp id (Av.anti hx a)) q fun l v H1 d S1 s rp1 rp2 ra q1 =>
    step l v H1 d S1 s (hs.mono rp s) (Rp.low (ρ := ρ.to l) (n := Av ε σ xs) rp1) ra q1⟩
theorem tf_op {r : R2} {xa xb : List Nat} {fa fb : Env → Sto → Out D} {h : D → D → Option D} (v : VR2 K mg r h) (σ : L2.St) (H : Hp) (Q : VK)
    (q : TF K mg W (xa ++ xb) (fun ε S => (fa ε S).bind fun x S1 => (fb ε S1).bind fun y S2 => .of S2 (h x y)) σ H Q) : tOp r (TF K mg W xa fa) (TF K mg W xb fb) σ H Q := by
  obtain ⟨ρ, ε, S, hs, hp, q⟩ := q
  refine TG0.go2 (xs := xa ++ xb) (fun i m => List.mem_append_left _ m) hs hp q fun l vx H1 x S1 s1 hs1 rp1 rx q1 => ?_
  refine TG0.go2 (xs := xa ++ xb) (fun i m => List.mem_append_right _ m) hs1 rp1 q1 fun l2 vy H2 y S2 s2 hs2 rp2 ry q2 => ?_
  refine v _ _ _ _ _ _ _ _ _ (hs2.rp rp2 _) ?_ ?_ q2
  · exact plus_anti (Av.anti fun i m => List.mem_append_left _ m) (rx.mono (hs1.rp rp1 _) s2)
  · exact plus_anti (Av.anti fun i m => List.mem_append_right _ m) ry
theorem tf_un {r : V → Hp → VK → Prop} {xa : List Nat} {fa : Env → Sto → Out D} {h : D → Option D} (v : VR1 K mg r h) (σ : L2.St) (H : Hp) (Q : VK)
    (q : TF K mg W xa (fun ε S => (fa ε S).bind fun x S1 => .of S1 (h x)) σ H Q) : tUn r (TF K mg W xa fa) σ H Q := by
  obtain ⟨ρ, ε, S, hs, hp, q⟩ := q
  exact TG0.go2 (xs := xa) (fun i m => m) hs hp q fun l vx H1 x S1 s1 hs1 rp1 rx q1 => v _ _ _ _ _ _ _ (hs1.rp rp1 _) rx q1
theorem tf_cb {r : List V → Hp → VK → Prop} {xa : List Nat} {fa : Env → Sto → Out (List D)} {h : List D → Option D} (v : VRn K mg r h) (σ : L2.St) (H : Hp) (Q : VK)
    (q : TF K mg W xa (fun ε S => (fa ε S).bind fun x S1 => .of S1 (h x)) σ H Q) : tCB r (TFs K mg W xa fa) σ H Q := by
  obtain ⟨ρ, ε, S, hs, hp, q⟩ := q
  exact TG0.go2 (xs := xa) (fun i m => m) hs hp q fun l vx H1 x S1 s1 hs1 rp1 rx q1 => v _ _ _ _ _ _ _ (hs1.rp rp1 _) rx q1
theorem tf_nil (σ : L2.St) (H : Hp) (Q : List V → Hp → Prop) (q : TFs K mg W [] (fun _ S => .ok [] S) σ H Q) : tNil σ H Q := by
  obtain ⟨ρ, ε, S, hs, hp, q⟩ := q
  exact q.here (hs.rp hp _) RVs.nil
theorem tf_cons {xa xb : List Nat} {fa : Env → Sto → Out D} {fr : Env → Sto → Out (List D)} (σ : L2.St) (H : Hp) (Q : List V → Hp → Prop)
    (q : TFs K mg W (xa ++ xb) (fun ε S => (fa ε S).bind fun x S1 => (fr ε S1).bind fun xs S2 => .ok (x :: xs) S2) σ H Q) : tCons (TF K mg W xa fa) (TFs K mg W xb fr) σ H Q := by
  obtain ⟨ρ, ε, S, hs, hp, q⟩ := q
  refine TG0.go2 (xs := xa ++ xb) (fun i m => List.mem_append_left _ m) hs hp q fun l vx H1 x S1 s1 hs1 rp1 rx q1 => ?_
  refine TG0.go2 (xs := xa ++ xb) (fun i m => List.mem_append_right _ m) hs1 rp1 q1 fun l2 vy H2 y S2 s2 hs2 rp2 ry q2 => ?_
  exact q2.here (hs2.rp rp2 _) (.cons (plus_anti (Av.anti fun i m => List.mem_append_left _ m) (rx.mono (hs1.rp rp1 _) s2)) (plus_antis (Av.anti fun i m => List.mem_append_right _ m) ry))
def rdE (ε : Env) (i : Nat) : Option D := match ε[i]? with
  | some (.v d) => some d
  | some (.o d) => some d
  | _ => none
theorem Rs.rd {ε : Env} {σ : L2.St} {i : Nat} {d : D} (hs : Rs K ρ H ε σ) (e : rdE ε i = some d) : ∃ v, σ[i]? = some (some v) ∧ RV K (ρ.plus (Av ε σ [i])) H d v := by
  unfold rdE at e
  split at e
  · rename_i d' e'; cases e
    obtain ⟨v, e1, r⟩ := hs.val i d e'
    exact ⟨v, e1, plus_anti (Av.anti fun i m => by cases m) r⟩
  · rename_i d' e'; cases e
    obtain ⟨a, e1, o⟩ := hs.own i d e'
    exact ⟨.ref a, e1, o.rv⟩
  · cases e
theorem tf_var {i : Nat} (σ : L2.St) (H : Hp) (Q : VK) (q : TF K mg W [i] (fun ε S => .of S (rdE ε i)) σ H Q) : tVar i σ H Q := by
  obtain ⟨ρ, ε, S, hs, hp, q⟩ := q
  obtain ⟨d, e, q⟩ := q.ofH
  obtain ⟨v, e1, r⟩ := hs.rd e
  exact ⟨v, e1, q.here (hs.rp hp _) r⟩
theorem tf_c {d : D} {v : V} (r : ∀ ρ H, RV K ρ H d v) (σ : L2.St) (H : Hp) (Q : VK) (q : TF K mg W [] (fun _ S => .ok d S) σ H Q) : tC v σ H Q := by
  obtain ⟨ρ, ε, S, hs, hp, q⟩ := q
  exact q.here (hs.rp hp _) (r _ _)
/-- a new tuple -/
theorem post_tup {Q : VK} {ds : List D} {vs : List V} (rp : Rp ρ S H) (z : ds.length ≤ sizeLine) (r : RVs K ρ H ds vs) (q : Post K mg (RV K) E ρ H (.ok (.tup ds) S) Q) (p : Addr) (hp : H p = none) : Q (.ref p) (upd H p (.tup vs)) :=
  q ρ.l (.ref p) _ (Sx.fresh hp) (rp.fresh hp) (.mkTup z (.inl (.inl upd_same)) (r.mono rp (Sx.fresh hp)))
/-- a new list -/
theorem post_lst {Q : VK} {ds : List D} {vs : List V} (rp : Rp ρ S H) (z : ds.length ≤ sizeLine) (r : RVs K ρ H ds vs) (q : Post K mg (RV K) E ρ H (.ok (.lst ds) S) Q) (p : Addr) (hp : H p = none) : Q (.ref p) (upd H p (.lst vs)) :=
  q ρ.l (.ref p) _ (Sx.fresh hp) (rp.fresh hp) (.mkLst z upd_same (rp.nin hp).1 (rp.nin hp).2 (r.mono rp (Sx.fresh hp)))
theorem post_dict {Q : VK} {ds : List (Key × D)} {vs : List (Key × V)} (rp : Rp ρ S H) (r : RKV K ρ H ds vs) (q : Post K mg (RV K) E ρ H (.ok (.dct ds) S) Q) (p : Addr) (hp : H p = none) : Q (.ref p) (upd H p (.dK vs)) :=
  q ρ.l (.ref p) _ (Sx.fresh hp) (rp.fresh hp) (.mkDct upd_same (rp.nin hp).1 (rp.nin hp).2 (r.mono rp (Sx.fresh hp)))
end
end GG
namespace GG
open PySem PySem.Spec PyProof.Rows L2
/-! ## operations on data -/
def tru : D → Option Bool
  | .non => some false
  | .bl b => some b
  | .int i => some (i != 0)
  | .str x => if x.length ≤ sizeLine then some ((x.length : Int) != 0) else none
  | .tup ds => some (!ds.isEmpty)
  | .rol ds => some (!ds.isEmpty)
  | .lst ds => some (!ds.isEmpty)
  | .dct kvs => some (!kvs.isEmpty)
  | .stm _ => none
  | .wdt _ => none
/-- the items of a list or a tuple -/
def seqOf : D → Option (List D)
  | .tup ds => some ds
  | .rol ds => some ds
  | .lst ds => some ds
  | _ => none
def opAdd (x y : D) : Option D :=
  match x, y with
  | .int i, .int j => some (.int (i + j))
  | .str i, .str j => if i.length + j.length ≤ sizeLine then some (.str (i ++ j)) else none
  | .tup xs, .tup ys => if xs.length + ys.length ≤ sizeLine then some (.tup (xs ++ ys)) else none
  | .lst xs, .lst ys => if xs.length + ys.length ≤ sizeLine then some (.lst (xs ++ ys)) else none
  | _, _ => none
def opSub (x y : D) : Option D :=
  match x, y with
  | .int i, .int j => some (.int (i - j))
  | _, _ => none
def rep {α : Type} (k : Int) (xs : List α) : List α := (List.replicate k.toNat xs).flatten
def opMul (x y : D) : Option D :=
  match x, y with
  | .int i, .int j => if (-(2 ^ 64) < i ∧ i < 2 ^ 64) ∨ (-(2 ^ 64) < j ∧ j < 2 ^ 64) then some (.int (i * j)) else none
  | .lst xs, .int k => if -(2 ^ 63) ≤ k ∧ k < 2 ^ 63 ∧ xs.length * k.toNat ≤ sizeLine then some (.lst (rep k xs)) else none
  | .tup xs, .int k => if k ≤ 1000 ∧ -(2 ^ 63) ≤ k ∧ xs.length ≤ 1000 then some (.tup (rep k xs)) else none
  | _, _ => none
def opDiv (x y : D) : Option D :=
  match x, y with
  | .int i, .int j => if 0 < j ∧ j < 1073741824 then some (.int (i / j)) else none
  | _, _ => none
def opMod (x y : D) : Option D :=
  match x, y with
  | .int i, .int j => if 0 < j then some (.int (i % j)) else none
  | _, _ => none
theorem rep_len {α : Type} (k : Int) (xs : List α) : (rep k xs).length = xs.length * k.toNat := by
  unfold rep
  induction k.toNat with
  | zero => simp
  | succ n ih => rw [List.replicate_succ, List.flatten_cons, List.length_append, ih, Nat.mul_succ]; omega
section
variable {K : KW} {mg : Str → Option Value} {ρ : Fx} {H : Hp} {S : Sto}
theorem seqOf_ok {d : D} {v : V} {ds : List D} (r : RV K ρ H d v) (h : seqOf d = some ds) : ∃ a vs, v = .ref a ∧ ds.length ≤ sizeLine ∧ (SqL K H a vs ∨ SqT K H a vs) ∧ RVs K ρ H ds vs := by
  cases d with
  | tup xs => cases h; obtain ⟨a, vs, e, z, q, t⟩ := r.tup; exact ⟨a, vs, e, z, .inr q, t⟩
  | rol xs => cases h; obtain ⟨a, vs, e, z, q, t⟩ := r.rol; exact ⟨a, vs, e, z, .inl q.sq, t⟩
  | lst xs => cases h; obtain ⟨a, vs, e, z, q, _, _, t⟩ := r.lst; exact ⟨a, vs, e, z, .inl (SqL.of q), t⟩
  | _ => simp [seqOf] at h
theorem RVs.rep {ds : List D} {vs : List V} (r : RVs K ρ H ds vs) (k : Int) : RVs K ρ H (GG.rep k ds) (List.replicate k.toNat vs).flatten := by
  unfold GG.rep
  induction k.toNat with
  | zero => exact RVs.nil
  | succ n ih =>
    rw [List.replicate_succ, List.replicate_succ, List.flatten_cons, List.flatten_cons]
    exact r.append ih
theorem emp_eq {ds : List D} {vs : List V} (t : RVs K ρ H ds vs) : (!ds.isEmpty) = !vs.isEmpty := by
  have e := t.len
  cases ds <;> cases vs <;> simp_all
theorem tru_V {d : D} {v : V} {b : Bool} (r : RV K ρ H d v) (h : tru d = some b) : TruV K v H b := by
  cases d with
  | non => rw [r.non]; cases h; rfl
  | bl x => rw [r.bl]; cases h; rfl
  | int i => rw [r.int]; cases h; rfl
  | str x =>
    rw [r.str]
    simp only [tru] at h
    split at h
    · rename_i z; cases h; exact ⟨z, rfl⟩
    · cases h
  | tup ds =>
    obtain ⟨a, vs, rfl, z, q, t⟩ := r.tup
    cases h
    exact .inr (.inl ⟨vs, q, emp_eq t⟩)
  | rol ds =>
    obtain ⟨a, vs, rfl, z, q, t⟩ := r.rol
    cases h
    exact .inl ⟨vs, q.sq, emp_eq t⟩
  | lst ds =>
    obtain ⟨a, vs, rfl, z, q, _, _, t⟩ := r.lst
    cases h
    exact .inl ⟨vs, SqL.of q, emp_eq t⟩
  | dct kvs =>
    obtain ⟨a, vs, rfl, q, _, _, t⟩ := r.dct
    cases h
    refine .inr (.inr ⟨vs, q, ?_⟩)
    have e := t.len
    cases kvs <;> cases vs <;> simp_all
  | stm k => simp [tru] at h
  | wdt k => simp [tru] at h
/-! ### the operators' rules, joined -/
abbrev rAddA (K : KW) : R2 := fun x y H Q => (rI0 (fun i j => .int (i + j)) x y H Q ∨ (fun x y (H : Hp) (Q : VK) => ∃ i j, x = .str i ∧ y = .str j ∧ i.length + j.length ≤ sizeLine ∧ Q (.str (i ++ j)) H) x y H Q) ∨ (rCatA K x y H Q ∨ rCat x y H Q)
theorem op_addA {X : Cx} : OpR X (binaryOp .Add) (rAddA (kw X)) := (op_add.or op_add_str).or (op_catA.or op_cat)
theorem vr_add : VR2 K mg (rAddA K) opAdd := by
  intro E ρ S H x y vx vy Q rp rx ry q
  obtain ⟨d, e, q⟩ := q.ofH
  unfold opAdd at e
  split at e
  · cases e; rw [rx.int, ry.int]; exact .inl (.inl ⟨_, _, rfl, rfl, q.here rp (.mkInt _)⟩)
  · split at e
    · rename_i z; cases e; rw [rx.str, ry.str]; exact .inl (.inr ⟨_, _, rfl, rfl, z, q.here rp (.mkStr _)⟩)
    · cases e
  · rename_i xs ys
    split at e
    · rename_i z
      cases e
      obtain ⟨a, us, rfl, za, qa, ta⟩ := rx.tup
      obtain ⟨b, ws, rfl, zb, qb, tb⟩ := ry.tup
      refine .inr (.inl ⟨a, b, us, ws, rfl, rfl, qa, qb, ?_, fun e => ?_, fun e f => ?_, fun e f p hp => post_tup rp (by rw [List.length_append]; exact z) (ta.append tb) q p hp⟩)
      · rw [← ta.len, ← tb.len]; exact z
      · subst e
        have e : xs = [] := ta.isNil.mpr rfl
        subst e
        exact q.here rp (.mkTup zb qb tb)
      · subst f
        have e : ys = [] := tb.isNil.mpr rfl
        subst e
        rw [List.append_nil] at q
        exact q.here rp (.mkTup za qa ta)
    · cases e
  · split at e
    · rename_i z
      cases e
      obtain ⟨a, us, rfl, za, qa, _, _, ta⟩ := rx.lst
      obtain ⟨b, ws, rfl, zb, qb, _, _, tb⟩ := ry.lst
      exact .inr (.inr ⟨a, b, us, ws, rfl, rfl, qa, qb, by rw [← ta.len, ← tb.len]; exact z, fun p hp => post_lst rp (by rw [List.length_append]; exact z) (ta.append tb) q p hp⟩)
    · cases e
  · cases e
theorem vr_sub : VR2 K mg (rI0 fun i j => .int (i - j)) opSub := by
  intro E ρ S H x y vx vy Q rp rx ry q
  obtain ⟨d, e, q⟩ := q.ofH
  unfold opSub at e
  split at e
  · cases e; rw [rx.int, ry.int]; exact ⟨_, _, rfl, rfl, q.here rp (.mkInt _)⟩
  · cases e
theorem vr_div : VR2 K mg (rI CDiv fun i j => .int (i / j)) opDiv := by
  intro E ρ S H x y vx vy Q rp rx ry q
  obtain ⟨d, e, q⟩ := q.ofH
  unfold opDiv at e
  split at e
  · split at e
    · rename_i z; cases e; rw [rx.int, ry.int]; exact ⟨_, _, rfl, rfl, z, q.here rp (.mkInt _)⟩
    · cases e
  · cases e
theorem vr_mod : VR2 K mg (rI (fun _ j => 0 < j) fun i j => .int (i % j)) opMod := by
  intro E ρ S H x y vx vy Q rp rx ry q
  obtain ⟨d, e, q⟩ := q.ofH
  unfold opMod at e
  split at e
  · split at e
    · rename_i z; cases e; rw [rx.int, ry.int]; exact ⟨_, _, rfl, rfl, z, q.here rp (.mkInt _)⟩
    · cases e
  · cases e
end
/-! ## t * k for small k -/
/-- t * 1, or an empty t: the same object -/
theorem tuple_mul1 (l : Addr) (items : Array Value) (n : Nat) (dd : Option Addr) (sl : Array (Option Value)) (x : Int) (u : Tok)
    (c0 : (decide (x < -(2 ^ 63)) || decide (x ≥ 2 ^ 63)) = false) (c1 : (items.isEmpty || x == 1) = true) :
    Meets (Builtin.«tuple.__mul__» ⟨[.ref l, .int x u], []⟩) (fun _ R s => s.heap.get? l = some { cls := .type "tuple", dict := dd, data := .seq items n, slots := sl } ∧
      R (.ok (.ret (Value.ref l))) s) :=
  .of_wp fun prog w A R s h => by
    obtain ⟨hp, g, d, tk, os⟩ := s
    obtain ⟨hl, h⟩ := h
    have f1 := AutoSeq1.idx_int
    have z0 := decide_eq_false (p := (decide (x < -(2 ^ 63)) || decide (x ≥ 2 ^ 63)) = true) (by rw [c0]; exact Bool.false_ne_true)
    wp_walk using wpAny_loadPart' hl
    refine wpAny_ite_false z0 ?_
    wp_walk using wpAny_loadPart' hl
    exact ⟨_, rfl, h⟩
/-- t * k, k not positive: an empty tuple -/
theorem tuple_mul0 (l : Addr) (items : Array Value) (n : Nat) (dd : Option Addr) (sl : Array (Option Value)) (x : Int) (u : Tok)
    (c0 : (decide (x < -(2 ^ 63)) || decide (x ≥ 2 ^ 63)) = false) (c1 : (items.isEmpty || x == 1) = false) (c2 : (decide (x ≤ 0) || items.isEmpty) = true) :
    Meets (Builtin.«tuple.__mul__» ⟨[.ref l, .int x u], []⟩) (fun _ R s => s.heap.get? l = some { cls := .type "tuple", dict := dd, data := .seq items n, slots := sl } ∧
      R (.ok (.ret (Value.ref s.heap.objs.size))) { s with heap := s.heap.push { cls := Value.type "tuple", data := Data.seq #[] } }) :=
  .of_wp fun prog w A R s h => by
    obtain ⟨hp, g, d, tk, os⟩ := s
    obtain ⟨hl, h⟩ := h
    have f1 := AutoSeq1.idx_int
    have z0 := decide_eq_false (p := (decide (x < -(2 ^ 63)) || decide (x ≥ 2 ^ 63)) = true) (by rw [c0]; exact Bool.false_ne_true)
    wp_walk using wpAny_loadPart' hl
    refine wpAny_ite_false z0 ?_
    wp_walk using wpAny_loadPart' hl
    exact ⟨_, rfl, h⟩
def rRepS (K : KW) : R2 := fun x y H Q => ∃ l k xs, x = .ref l ∧ y = .int k ∧ SqT K H l xs ∧ -(2 ^ 63) ≤ k ∧ k < 2 ^ 63 ∧
  (((xs = [] ∨ k = 1) ∧ Q (.ref l) H) ∨ (xs ≠ [] ∧ k ≤ 0 ∧ ∀ p, H p = none → Q (.ref p) (upd H p (.tup []))))
theorem op_repS {X : Cx} : OpR X (binaryOp .Mult) (rRepS (kw X)) := by
  intro pins s σ H x y v u Q I rx ry h
  obtain ⟨l, k, xs, rfl, rfl, hT, h1, h2, q⟩ := h
  cases rx
  obtain ⟨t, rfl⟩ := ry
  obtain ⟨its, r, ⟨⟨cls, dd, data, sl⟩, ho, hc, n, hd⟩, hs⟩ := I.tuple hT
  simp only at hc hd
  subst hc hd
  have hle : its.length = xs.length := r.length.symm
  have c0 : (decide (k < -(2 ^ 63)) || decide (k ≥ 2 ^ 63)) = false := by
    rw [decide_eq_false (by omega), decide_eq_false (by omega)]; rfl
  refine wpAny_binaryOp_repeat_ref (T := "tuple") (U := "int") (by decide) ⟨_, ho, rfl⟩
    (fun s' => typeIs_int s' k t) noFill_tuple_mul F.fills_int_mul F.slot_int_rmul repeat_tuple F.slot_int_index.lookup ?_
  refine call_meets F.slot_int_rmul (typeIs_int s k t) F.entry_int_rmul (F.args_int_rmul_2 _ _)
    (int_rmul_tuple k t l its.toArray n dd sl) ⟨ho, rfl, ⟨_, ho, rfl⟩, ?_⟩
  have emp : its.toArray.isEmpty = its.isEmpty := by cases its <;> rfl
  rcases q with ⟨hx, q⟩ | ⟨hx, hk, q⟩
  · have c1 : (its.toArray.isEmpty || k == 1) = true := by
      rcases hx with hx | hx
      · have : its = [] := List.eq_nil_of_length_eq_zero (by rw [hle, hx]; rfl)
        subst this; rfl
      · subst hx; simp
    exact call_meets F.slot_tuple_mul ⟨_, ho, rfl⟩ F.entry_tuple_mul (F.args_tuple_mul_2 _ _)
      (tuple_mul1 l its.toArray n dd sl k t c0 c1) ⟨ho, ⟨.ref l, H, I.tok _, rfl, q⟩⟩
  · have hne : its.isEmpty = false := by
      cases its with
      | nil => exact absurd (List.eq_nil_of_length_eq_zero hle.symm) hx
      | cons a b => rfl
    have c1 : (its.toArray.isEmpty || k == 1) = false := by
      rw [emp, hne, Bool.false_or]; exact beq_eq_false_iff_ne.mpr (by omega)
    have c2 : (decide (k ≤ 0) || its.toArray.isEmpty) = true := by
      rw [decide_eq_true hk]; rfl
    refine call_meets F.slot_tuple_mul ⟨_, ho, rfl⟩ F.entry_tuple_mul (F.args_tuple_mul_2 _ _)
      (tuple_mul0 l its.toArray n dd sl k t c0 c1 c2) ⟨ho, ?_⟩
    have hf : H s.heap.objs.size = none := I.hok.fresh (Nat.le_refl _)
    refine ⟨.ref s.heap.objs.size, upd H s.heap.objs.size (.tup []), I.laid (t' := s.toks) (fun b u e => Heap.get?_push_of_some _ e) (Nat.le_refl _) ?_, rfl, q _ hf⟩
    exact ⟨Nat.zero_le _, [], .nil, IsTup.new s.heap #[]⟩
abbrev rMulA (K : KW) : R2 := fun x y H Q => (rI CMul (fun i j => .int (i * j)) x y H Q ∨ rRep x y H Q) ∨ (rRepT K x y H Q ∨ rRepS K x y H Q)
theorem op_mulA {X : Cx} : OpR X (binaryOp .Mult) (rMulA (kw X)) := (op_mul.or op_rep).or (op_repT.or op_repS)
section
variable {K : KW} {mg : Str → Option Value}
theorem vr_mul : VR2 K mg (rMulA K) opMul := by
  intro E ρ S H x y vx vy Q rp rx ry q
  obtain ⟨d, e, q⟩ := q.ofH
  unfold opMul at e
  split at e
  · split at e
    · rename_i z; cases e; rw [rx.int, ry.int]; exact .inl (.inl ⟨_, _, rfl, rfl, z, q.here rp (.mkInt _)⟩)
    · cases e
  · split at e
    · rename_i z
      cases e
      obtain ⟨a, us, rfl, za, qa, _, _, ta⟩ := rx.lst
      rw [ry.int]
      exact .inl (.inr ⟨a, _, us, rfl, rfl, qa, z.1, z.2.1, by rw [← ta.len]; exact z.2.2, fun p hp => post_lst rp (by rw [rep_len]; exact z.2.2) (ta.rep _) q p hp⟩)
    · cases e
  · rename_i xs k
    split at e
    · rename_i z
      cases e
      obtain ⟨a, us, rfl, za, qa, ta⟩ := rx.tup
      rw [ry.int]
      refine .inr ?_
      by_cases hn : us = []
      · refine .inr ⟨a, k, us, rfl, rfl, qa, z.2.1, by omega, .inl ⟨.inl hn, ?_⟩⟩
        have e : xs = [] := ta.isNil.mpr hn
        subst e
        have e2 : rep k ([] : List D) = [] := by unfold rep; simp
        rw [e2] at q
        exact q.here rp (.mkTup za qa ta)
      · by_cases hk : k = 1
        · subst hk
          refine .inr ⟨a, 1, us, rfl, rfl, qa, z.2.1, by omega, .inl ⟨.inr rfl, ?_⟩⟩
          have e2 : rep 1 xs = xs := by unfold rep; simp
          rw [e2] at q
          exact q.here rp (.mkTup za qa ta)
        · by_cases hk0 : k ≤ 0
          · refine .inr ⟨a, k, us, rfl, rfl, qa, z.2.1, by omega, .inr ⟨hn, hk0, fun p hp => ?_⟩⟩
            have e2 : rep k xs = [] := by
              unfold rep
              rw [show k.toNat = 0 by omega]; rfl
            rw [e2] at q
            exact post_tup rp (Nat.zero_le _) RVs.nil q p hp
          · refine .inl ⟨a, k, us, rfl, rfl, qa, hn, by omega, z.1, by rw [← ta.len]; exact z.2.2, fun p hp => post_tup rp ?_ (ta.rep k) q p hp⟩
            rw [rep_len]
            have h1 : xs.length * k.toNat ≤ 1000 * 1000 := Nat.mul_le_mul z.2.2 (by omega)
            have h2 : 1000 * 1000 ≤ sizeLine := by decide
            omega
    · cases e
  · cases e
end
end GG
namespace GG
open PySem PySem.Spec PyProof.Rows L2
/-! ## data as the library's data -/
def kPy : Key → PyData
  | .inl i => .int i
  | .inr x => .str x
mutual
def py : D → Option PyData
  | .non => some .none
  | .bl b => some (.bool b)
  | .int i => some (.int i)
  | .str x => some (.str x)
  | .tup ds => (pys ds).map .tuple
  | .rol ds => (pys ds).map .list
  | .lst ds => (pys ds).map .list
  | .dct kvs => (pyk kvs).map .dict
  | .stm _ => none
  | .wdt _ => none
def pys : List D → Option (List PyData)
  | [] => some []
  | x :: r => match py x, pys r with
    | some y, some ys => some (y :: ys)
    | _, _ => none
def pyk : List (Key × D) → Option (List (PyData × PyData))
  | [] => some []
  | (k, x) :: r => match py x, pyk r with
    | some y, some ys => some ((kPy k, y) :: ys)
    | _, _ => none
end
section
variable {K : KW} {mg : Str → Option Value} {ρ : Fx} {H : Hp} {S : Sto}
mutual
theorem py_dp : ∀ (d : D) (v : V) (p : PyData), py d = some p → p.canLay0 = true → RV K ρ H d v → Dp K H v p
  | .non, v, p, e, c, r => by simp only [py] at e; cases e; rw [r.non]; exact .non
  | .bl b, v, p, e, c, r => by simp only [py] at e; cases e; rw [r.bl]; exact .bl b
  | .int b, v, p, e, c, r => by simp only [py] at e; cases e; rw [r.int]; exact .int b
  | .str b, v, p, e, c, r => by simp only [py] at e; cases e; rw [r.str]; exact .str b
  | .tup ds, v, p, e, c, r => by
    simp only [py, Option.map_eq_some_iff] at e
    obtain ⟨ps, e, rfl⟩ := e
    obtain ⟨a, vs, rfl, _, q, t⟩ := r.tup
    simp only [PyData.canLay0] at c
    exact .tup q (pys_dp ds vs ps e c t)
  | .rol ds, v, p, e, c, r => by
    simp only [py, Option.map_eq_some_iff] at e
    obtain ⟨ps, e, rfl⟩ := e
    obtain ⟨a, vs, rfl, _, q, t⟩ := r.rol
    simp only [PyData.canLay0] at c
    exact .lst q.sq (pys_dp ds vs ps e c t)
  | .lst ds, v, p, e, c, r => by
    simp only [py, Option.map_eq_some_iff] at e
    obtain ⟨ps, e, rfl⟩ := e
    obtain ⟨a, vs, rfl, _, q, _, _, t⟩ := r.lst
    simp only [PyData.canLay0] at c
    exact .lst (SqL.of q) (pys_dp ds vs ps e c t)
  | .dct kvs, v, p, e, c, r => by
    simp only [py, Option.map_eq_some_iff] at e
    obtain ⟨ps, e, rfl⟩ := e
    simp [PyData.canLay0] at c
  | .stm k, v, p, e, c, r => by simp [py] at e
  | .wdt k, v, p, e, c, r => by simp [py] at e
theorem pys_dp : ∀ (ds : List D) (vs : List V) (ps : List PyData), pys ds = some ps → PyData.canLayAll0 ps = true → RVs K ρ H ds vs → DpAll K H vs ps
  | [], vs, ps, e, _, r => by
    simp only [RVs] at r; subst r
    simp only [pys] at e; cases e
    exact .nil
  | d :: ds, vs, ps, e, c, r => by
    obtain ⟨v, vr, rfl, rv, rr⟩ := r.uncons
    simp only [pys] at e
    split at e
    · rename_i p pr e1 e2
      cases e
      simp only [PyData.canLayAll0, Bool.and_eq_true] at c
      exact .cons (py_dp d v p e1 c.1 rv) (pys_dp ds vr pr e2 c.2 rr)
    · cases e
end
end
def opEq (neg : Bool) (x y : D) : Option D :=
  match x, y with
  | .int i, .int j => some (.bl (if neg then !decide (i = j) else decide (i = j)))
  | .str i, .str j => some (.bl (if neg then !decide (i = j) else decide (i = j)))
  | x, y => match py x, py y with
    | some a, some b => if SeqAt.shaped a = true ∧ SeqAt.shaped b = true then some (.bl (if neg then !PyData.eqv a b else PyData.eqv a b)) else none
    | _, _ => none
def opInt (f : Int → Int → Bool) (g : List Nat → List Nat → Bool) (x y : D) : Option D :=
  match x, y with
  | .int i, .int j => some (.bl (f i j))
  | .str i, .str j => some (.bl (g i.cps.toList j.cps.toList))
  | _, _ => none
def flatD : D → Bool
  | .non | .bl _ | .int _ | .str _ => true
  | _ => false
def eqFD : D → D → Bool
  | .non, .non => true
  | .bl a, .bl b => a == b
  | .bl a, .int b => (if a then 1 else 0) == b
  | .int a, .bl b => a == (if b then 1 else 0)
  | .int a, .int b => a == b
  | .str a, .str b => a == b
  | _, _ => false
/-- written keys of flat data -/
def keyOf : D → Option Key
  | .int i => some (.inl i)
  | .str x => some (.inr x)
  | _ => none
def keysOf : D → Option (List (Key × D))
  | .dct kvs => some kvs
  | .wdt kvs => some kvs
  | _ => none
def getK (kvs : List (Key × D)) (k : Key) : Option D := (kvs.find? fun kv => decide (kv.1 = k)).map (·.2)
def hasK (kvs : List (Key × D)) (k : Key) : Bool := kvs.any fun kv => decide (kv.1 = k)
def opIn (neg : Bool) (x y : D) : Option D :=
  match x, y with
  | .str i, .str j => match i.cps.toList with
    | [c] => some (.bl (if neg then !decide (c ∈ j.cps.toList) else decide (c ∈ j.cps.toList)))
    | _ => some (.bl (if neg then !(!(Builtin.Str.occurrences j i 0 j.length 1).isEmpty) else !(Builtin.Str.occurrences j i 0 j.length 1).isEmpty))
  | x, y => match seqOf y with
    | some ds => if flatD x = true ∧ ds.all flatD = true then some (.bl (if neg then !(ds.any fun z => eqFD z x) else ds.any fun z => eqFD z x)) else none
    | none => match keysOf y, keyOf x with
      | some kvs, some k => some (.bl (if neg then !hasK kvs k else hasK kvs k))
      | _, _ => none
def opIs (neg : Bool) (x y : D) : Option D :=
  match y with
  | .non => some (.bl (if neg then !decide (x = .non) else decide (x = .non)))
  | .bl b => match x with
    | .bl a => some (.bl (if neg then !decide (a = b) else decide (a = b)))
    | _ => none
  | _ => none
section
variable {K : KW} {mg : Str → Option Value}
theorem shaped_lay {a : PyData} (h : SeqAt.shaped a = true) : a.canLay0 = true := by
  simp only [SeqAt.shaped, Bool.and_eq_true] at h
  exact h.1
theorem vr_eq : VR2 K mg (fun x y H Q => rEq x y H Q ∨ rEqD K x y H Q) (opEq false) := by
  intro E ρ S H x y vx vy Q rp rx ry q
  obtain ⟨d, e, q⟩ := q.ofH
  unfold opEq at e
  split at e
  · cases e; rw [rx.int, ry.int]
    exact .inl ⟨rfl, by simp only [V.int.injEq]; exact q.here rp (.mkBl _)⟩
  · cases e; rw [rx.str, ry.str]
    exact .inl ⟨rfl, by simp only [V.str.injEq]; exact q.here rp (.mkBl _)⟩
  · split at e
    · rename_i a b e1 e2
      split at e
      · rename_i z
        cases e
        exact .inr ⟨a, b, py_dp _ vx a e1 (shaped_lay z.1) rx, py_dp _ vy b e2 (shaped_lay z.2) ry, z.1, z.2, q.here rp (.mkBl _)⟩
      · cases e
    · cases e
theorem vr_ne : VR2 K mg (fun x y H Q => rNe x y H Q ∨ rNeD K x y H Q) (opEq true) := by
  intro E ρ S H x y vx vy Q rp rx ry q
  obtain ⟨d, e, q⟩ := q.ofH
  unfold opEq at e
  split at e
  · cases e; rw [rx.int, ry.int]
    exact .inl ⟨rfl, by simp only [V.int.injEq]; exact q.here rp (.mkBl _)⟩
  · cases e; rw [rx.str, ry.str]
    exact .inl ⟨rfl, by simp only [V.str.injEq]; exact q.here rp (.mkBl _)⟩
  · split at e
    · rename_i a b e1 e2
      split at e
      · rename_i z
        cases e
        exact .inr ⟨a, b, py_dp _ vx a e1 (shaped_lay z.1) rx, py_dp _ vy b e2 (shaped_lay z.2) ry, z.1, z.2, q.here rp (.mkBl _)⟩
      · cases e
    · cases e
theorem vr_int {f : Int → Int → Bool} {g : List Nat → List Nat → Bool} : VR2 K mg (fun x y H Q => rI0 (fun i j => .bl (f i j)) x y H Q ∨ (∃ i j, x = .str i ∧ y = .str j ∧ Q (.bl (g i.cps.toList j.cps.toList)) H)) (opInt f g) := by
  intro E ρ S H x y vx vy Q rp rx ry q
  obtain ⟨d, e, q⟩ := q.ofH
  unfold opInt at e
  split at e
  · cases e; rw [rx.int, ry.int]; exact .inl ⟨_, _, rfl, rfl, q.here rp (.mkBl _)⟩
  · cases e; rw [rx.str, ry.str]; exact .inr ⟨_, _, rfl, rfl, q.here rp (.mkBl _)⟩
  · cases e
theorem flat_V {ρ : Fx} {H : Hp} {d : D} {v : V} (r : RV K ρ H d v) (h : flatD d = true) : flatV v = true := by
  cases d with
  | non => rw [r.non]; rfl
  | bl b => rw [r.bl]; rfl
  | int b => rw [r.int]; rfl
  | str b => rw [r.str]; rfl
  | _ => simp [flatD] at h
theorem flat_Vs {ρ : Fx} {H : Hp} : ∀ {ds : List D} {vs : List V}, RVs K ρ H ds vs → ds.all flatD = true → vs.all flatV = true
  | [], vs, r, _ => by simp only [RVs] at r; subst r; rfl
  | d :: ds, vs, r, h => by
    obtain ⟨v, vr, rfl, rv, rr⟩ := r.uncons
    simp only [List.all_cons, Bool.and_eq_true] at h ⊢
    exact ⟨flat_V rv h.1, flat_Vs rr h.2⟩
theorem eqF_V {ρ : Fx} {H : Hp} {a b : D} {v w : V} (r : RV K ρ H a v) (t : RV K ρ H b w) (ha : flatD a = true) (hb : flatD b = true) : eqV v w = eqFD a b := by
  cases a <;> cases b <;> simp [flatD] at ha hb <;>
    first
    | (rw [r.non, t.non]; rfl) | (rw [r.non, t.bl]; rfl) | (rw [r.non, t.int]; rfl) | (rw [r.non, t.str]; rfl)
    | (rw [r.bl, t.non]; rfl) | (rw [r.bl, t.bl]; rfl) | (rw [r.bl, t.int]; rfl) | (rw [r.bl, t.str]; rfl)
    | (rw [r.int, t.non]; rfl) | (rw [r.int, t.bl]; rfl) | (rw [r.int, t.int]; rfl) | (rw [r.int, t.str]; rfl)
    | (rw [r.str, t.non]; rfl) | (rw [r.str, t.bl]; rfl) | (rw [r.str, t.int]; rfl) | (rw [r.str, t.str]; rfl)
theorem inF_V {ρ : Fx} {H : Hp} {x : D} {vx : V} (r : RV K ρ H x vx) (hx : flatD x = true) : ∀ {ds : List D} {vs : List V}, RVs K ρ H ds vs → ds.all flatD = true → inV vx vs = ds.any fun z => eqFD z x
  | [], vs, rs, _ => by simp only [RVs] at rs; subst rs; rfl
  | d :: ds, vs, rs, h => by
    obtain ⟨v, vr, rfl, rv, rr⟩ := rs.uncons
    simp only [List.all_cons, Bool.and_eq_true] at h
    show (eqV v vx || inV vx vr) = _
    rw [List.any_cons, eqF_V rv r h.1 hx, inF_V r hx rr h.2]
/-- what a dict, tracked or written, holds at a key -/
def KGet (K : KW) (H : Hp) (a : Addr) (k : Key) (o : Option V) : Prop := (∃ kvs, H a = some (.dK kvs) ∧ o = valV kvs k) ∨ ∃ kvs, WD K a kvs ∧ o = valV kvs k
def rInD (K : KW) (neg : Bool) : R2 := fun x y H Q => ∃ a k o, x = kV k ∧ y = .ref a ∧ KGet K H a k o ∧ Q (.bl (if neg then !o.isSome else o.isSome)) H
theorem op_inD {X : Cx} : OpR X (compareOp .In) (rInD (kw X) false) := by
  intro pins s σ H x y v u Q I rx ry h
  obtain ⟨a, k, o, rfl, rfl, g, q⟩ := h
  cases ry
  obtain ⟨vs, hd, rel, dd⟩ : ∃ vs, (a == sysModules) = false ∧ RelO o (valueAt vs k) ∧ s.heap.DictOf (mixKind X.prog X.w) a vs := by
    rcases g with ⟨kvs, e, rfl⟩ | ⟨kvs, ⟨ob, e1, e2, e3⟩, rfl⟩
    · obtain ⟨z, hd, vs, rel, dd⟩ := dk_of I.hok e
      exact ⟨vs, hd, rel.val k, dd⟩
    · obtain ⟨vs, rel, dd⟩ := e3 X.prog s.heap (I.kIn _ _ e1)
      exact ⟨vs, e2, rel.val k, dd⟩
  refine wpAny_in_of (kV_is rx) hd dd.mapOf ?_
  rw [← rel.isSome_eq]
  exact ⟨.bl o.isSome, H, I.tok _, rfl, q⟩
theorem op_notInD {X : Cx} : OpR X (compareOp .NotIn) (rInD (kw X) true) := by
  intro pins s σ H x y v u Q I rx ry h
  obtain ⟨a, k, o, rfl, rfl, g, q⟩ := h
  cases ry
  obtain ⟨vs, hd, rel, dd⟩ : ∃ vs, (a == sysModules) = false ∧ RelO o (valueAt vs k) ∧ s.heap.DictOf (mixKind X.prog X.w) a vs := by
    rcases g with ⟨kvs, e, rfl⟩ | ⟨kvs, ⟨ob, e1, e2, e3⟩, rfl⟩
    · obtain ⟨z, hd, vs, rel, dd⟩ := dk_of I.hok e
      exact ⟨vs, hd, rel.val k, dd⟩
    · obtain ⟨vs, rel, dd⟩ := e3 X.prog s.heap (I.kIn _ _ e1)
      exact ⟨vs, e2, rel.val k, dd⟩
  refine wpAny_notIn_of (kV_is rx) hd dd.mapOf ?_
  rw [← rel.isSome_eq]
  exact ⟨.bl (!o.isSome), H, I.tok _, rfl, q⟩
theorem RKV.getK {ρ : Fx} {H : Hp} {k : Key} : ∀ {ds : List (Key × D)} {vs : List (Key × V)}, RKV K ρ H ds vs → (GG.getK ds k = none ∧ valV vs k = none) ∨ ∃ d v, GG.getK ds k = some d ∧ valV vs k = some v ∧ RV K ρ H d v
  | [], _, h => by simp only [RKV] at h; subst h; exact .inl ⟨rfl, rfl⟩
  | (kk, d) :: ds, _, h => by
    simp only [RKV] at h
    obtain ⟨v, r, rfl, q, t⟩ := h
    by_cases e : kk = k
    · exact .inr ⟨d, v, by simp [GG.getK, e], by simp [valV, e], q⟩
    · rcases RKV.getK (k := k) t with ⟨h1, h2⟩ | ⟨d', v', h1, h2, h3⟩
      · exact .inl ⟨by simpa [GG.getK, e] using h1, by simpa [valV, e] using h2⟩
      · exact .inr ⟨d', v', by simpa [GG.getK, e] using h1, by simpa [valV, e] using h2, h3⟩
theorem hasK_get (kvs : List (Key × D)) (k : Key) : hasK kvs k = (getK kvs k).isSome := by
  unfold hasK getK
  rw [Option.isSome_map, Bool.eq_iff_iff, List.find?_isSome]
  simp [List.any_eq_true]
theorem keyOf_V {ρ : Fx} {H : Hp} {x : D} {vx : V} {k : Key} (r : RV K ρ H x vx) (e : keyOf x = some k) : vx = kV k := by
  cases x with
  | int i => cases e; rw [r.int]; rfl
  | str i => cases e; rw [r.str]; rfl
  | _ => simp [keyOf] at e
theorem keysOf_V {ρ : Fx} {H : Hp} {y : D} {vy : V} {kvs : List (Key × D)} (r : RV K ρ H y vy) (e : keysOf y = some kvs) (k : Key) : ∃ a ws, vy = .ref a ∧ RKV K ρ H kvs ws ∧ KGet K H a k (valV ws k) := by
  cases y with
  | dct i => cases e; obtain ⟨a, ws, rfl, h, _, _, t⟩ := r.dct; exact ⟨a, ws, rfl, t, .inl ⟨ws, h, rfl⟩⟩
  | wdt i => cases e; obtain ⟨a, ws, rfl, h, t⟩ := r.wdt; exact ⟨a, ws, rfl, t, .inr ⟨ws, h, rfl⟩⟩
  | _ => simp [keysOf] at e
abbrev rInA (K : KW) (neg : Bool) : R2 := fun x y H Q =>
  ((∃ (c : Nat) (z : Str), x = .str ⟨#[c]⟩ ∧ y = .str z ∧ Q (.bl (if neg then !decide (c ∈ z.cps.toList) else decide (c ∈ z.cps.toList))) H) ∨
    (∃ i j, x = .str i ∧ y = .str j ∧ Q (.bl (if neg then !(!(Builtin.Str.occurrences j i 0 j.length 1).isEmpty) else !(Builtin.Str.occurrences j i 0 j.length 1).isEmpty)) H)) ∨ (rIn K neg x y H Q ∨ rInD K neg x y H Q)
theorem op_inA {X : Cx} : OpR X (compareOp .In) (rInA (kw X) false) := (op_in_sign.or op_in_str).or (op_in_seq.or op_inD)
theorem op_notInA {X : Cx} : OpR X (compareOp .NotIn) (rInA (kw X) true) := (op_notIn_sign.or op_notin_str).or (op_notIn_seq.or op_notInD)
theorem vr_in (neg : Bool) : VR2 K mg (rInA K neg) (opIn neg) := by
  intro E ρ S H x y vx vy Q rp rx ry q
  obtain ⟨d, e, q⟩ := q.ofH
  have seq : ∀ {x y : D}, RV K ρ H x vx → RV K ρ H y vy → (match seqOf y with
    | some ds => if flatD x = true ∧ ds.all flatD = true then some (D.bl (if neg then !(ds.any fun z => eqFD z x) else ds.any fun z => eqFD z x)) else none
    | none => match keysOf y, keyOf x with
      | some kvs, some k => some (.bl (if neg then !hasK kvs k else hasK kvs k))
      | _, _ => none) = some d → rInA K neg vx vy H Q := fun {x y} rx ry e => by
    split at e
    · rename_i ds e1
      split at e
      · rename_i z
        cases e
        obtain ⟨a, vs, rfl, _, sq, t⟩ := seqOf_ok ry e1
        refine .inr (.inl ⟨a, vs, rfl, sq, flat_V rx z.1, flat_Vs t z.2, ?_⟩)
        rw [inF_V rx z.1 t z.2]
        exact q.here rp (.mkBl _)
      · cases e
    · split at e
      · rename_i kvs k e1 e2
        cases e
        obtain ⟨a, ws, rfl, t, g⟩ := keysOf_V ry e1 k
        refine .inr (.inr ⟨a, k, _, keyOf_V rx e2, rfl, g, ?_⟩)
        have hk : hasK kvs k = (valV ws k).isSome := by
          rw [hasK_get]
          rcases t.getK (k := k) with ⟨h1, h2⟩ | ⟨d', v', h1, h2, _⟩
          · rw [h1, h2]; rfl
          · rw [h1, h2]; rfl
        rw [← hk]
        exact q.here rp (.mkBl _)
      · cases e
  unfold opIn at e
  split at e
  · split at e
    · rename_i i j _ c e1
      cases e
      rw [rx.str, ry.str]
      refine .inl (.inl ⟨c, j, ?_, rfl, q.here rp (.mkBl _)⟩)
      obtain ⟨cps⟩ := i
      have : cps = #[c] := by
        apply Array.ext'
        simpa using e1
      rw [this]
    · cases e
      rw [rx.str, ry.str]
      exact .inl (.inr ⟨_, _, rfl, rfl, q.here rp (.mkBl _)⟩)
  · exact seq rx ry e
theorem vr_is (neg : Bool) : VR2 K mg (fun x y H Q => (y = .non ∧ Q (.bl (if neg then !decide (x = .non) else decide (x = .non))) H) ∨ (∃ a b : Bool, x = .bl a ∧ y = .bl b ∧ Q (.bl (if neg then !decide (a = b) else decide (a = b))) H)) (opIs neg) := by
  intro E ρ S H x y vx vy Q rp rx ry q
  obtain ⟨d, e, q⟩ := q.ofH
  unfold opIs at e
  split at e
  · cases e
    refine .inl ⟨ry.non, ?_⟩
    have e : decide (vx = V.non) = decide (x = .non) := by
      cases x with
      | non => rw [rx.non]; rfl
      | bl b => rw [rx.bl]; rfl
      | int b => rw [rx.int]; rfl
      | str b => rw [rx.str]; rfl
      | tup ds => obtain ⟨a, vs, rfl, _⟩ := rx.tup; rfl
      | rol ds => obtain ⟨a, vs, rfl, _⟩ := rx.rol; rfl
      | lst ds => obtain ⟨a, vs, rfl, _⟩ := rx.lst; rfl
      | dct ds => obtain ⟨a, vs, rfl, _⟩ := rx.dct; rfl
      | stm ds => obtain ⟨a, vs, rfl⟩ := rx.stm; rfl
      | wdt ds => obtain ⟨a, vs, rfl, _⟩ := rx.wdt; rfl
    rw [e]
    exact q.here rp (.mkBl _)
  · split at e
    · cases e; rw [rx.bl, ry.bl]; exact .inr ⟨_, _, rfl, rfl, q.here rp (.mkBl _)⟩
    · cases e
  · cases e
theorem opr_no {X : Cx} {f : Value → Value → Sem Value} : OpR X f (fun _ _ _ _ => False) := fun _ _ _ _ _ _ _ _ _ _ _ _ h => h.elim
def cmpF : CmpOp → D → D → Option D
  | .Eq => opEq false
  | .NotEq => opEq true
  | .Lt => opInt (fun i j => decide (i < j)) (fun i j => decide (i < j))
  | .LtE => opInt (fun i j => decide (i ≤ j)) (fun i j => !decide (j < i))
  | .Gt => opInt (fun i j => decide (j < i)) (fun i j => decide (j < i))
  | .GtE => opInt (fun i j => decide (j ≤ i)) (fun i j => !decide (i < j))
  | .In => opIn false
  | .NotIn => opIn true
  | .Is => opIs false
  | .IsNot => opIs true
theorem op_cmp {X : Cx} (hu : X.A.units + 64 < cLine) (o : CmpOp) : ∃ r, OpR X (compareOp o) r ∧ VR2 (kw X) mg r (cmpF o) := by
  cases o with
  | Eq => exact ⟨_, op_eq.or (op_eqD hu), vr_eq⟩
  | NotEq => exact ⟨_, op_ne.or (op_neD hu), vr_ne⟩
  | Lt => exact ⟨_, op_lt.or op_lt_str, vr_int (f := fun i j => decide (i < j)) (g := fun i j => decide (i < j))⟩
  | LtE => exact ⟨_, op_le.or op_le_str, vr_int (f := fun i j => decide (i ≤ j)) (g := fun i j => !decide (j < i))⟩
  | Gt => exact ⟨_, op_gt.or op_gt_str, vr_int (f := fun i j => decide (j < i)) (g := fun i j => decide (j < i))⟩
  | GtE => exact ⟨_, op_ge.or op_ge_str, vr_int (f := fun i j => decide (j ≤ i)) (g := fun i j => !decide (i < j))⟩
  | In => exact ⟨_, op_inA, vr_in false⟩
  | NotIn => exact ⟨_, op_notInA, vr_in true⟩
  | Is => exact ⟨_, op_isN.or op_isBl, vr_is false⟩
  | IsNot => exact ⟨_, op_notN.or op_notBl, vr_is true⟩
def opPow (x y : D) : Option D :=
  match x, y with
  | .int i, .int j => if 0 ≤ j ∧ (Builtin.Int.intBits i : Int) * j ≤ 2 ^ 27 then some (.int (i ^ j.toNat)) else none
  | _, _ => none
theorem op_powA {X : Cx} : OpR X (binaryOp .Pow) (rI (fun i j => 0 ≤ j ∧ (Builtin.Int.intBits i : Int) * j ≤ 2 ^ 27) fun i j => .int (i ^ j.toNat)) := opI fun _ _ _ _ _ _ _ hc q => pow_int hc.1 hc.2 q
theorem vr_pow : VR2 K mg (rI (fun i j => 0 ≤ j ∧ (Builtin.Int.intBits i : Int) * j ≤ 2 ^ 27) fun i j => .int (i ^ j.toNat)) opPow := by
  intro E ρ S H x y vx vy Q rp rx ry q
  obtain ⟨d, e, q⟩ := q.ofH
  unfold opPow at e
  split at e
  · split at e
    · rename_i z; cases e; rw [rx.int, ry.int]; exact ⟨_, _, rfl, rfl, z, q.here rp (.mkInt _)⟩
    · cases e
  · cases e
def opSh (f : Int → Int → Int) (x y : D) : Option D :=
  match x, y with
  | .int i, .int j => if 0 ≤ j ∧ j ≤ 1000000 ∧ i.natAbs < 2 ^ 64 then some (.int (f i j)) else none
  | _, _ => none
def opBit (f : Int → Int → Int) (x y : D) : Option D :=
  match x, y with
  | .int i, .int j => some (.int (f i j))
  | _, _ => none
theorem vr_bit {f : Int → Int → Int} : VR2 K mg (rI0 fun i j => .int (f i j)) (opBit f) := by
  intro E ρ S H x y vx vy Q rp rx ry q
  obtain ⟨d, e, q⟩ := q.ofH
  unfold opBit at e
  split at e
  · cases e; rw [rx.int, ry.int]; exact ⟨_, _, rfl, rfl, q.here rp (.mkInt _)⟩
  · cases e
theorem vr_shl : VR2 K mg (rI CPow fun i j => .int (i * 2 ^ j.toNat)) (opSh fun i j => i * 2 ^ j.toNat) := by
  intro E ρ S H x y vx vy Q rp rx ry q
  obtain ⟨d, e, q⟩ := q.ofH
  unfold opSh at e
  split at e
  · split at e
    · rename_i z; cases e; rw [rx.int, ry.int]; exact ⟨_, _, rfl, rfl, z, q.here rp (.mkInt _)⟩
    · cases e
  · cases e
theorem vr_shr : VR2 K mg (rI (fun _ j => 0 ≤ j) fun i j => .int (i / 2 ^ j.toNat)) (opSh fun i j => i / 2 ^ j.toNat) := by
  intro E ρ S H x y vx vy Q rp rx ry q
  obtain ⟨d, e, q⟩ := q.ofH
  unfold opSh at e
  split at e
  · split at e
    · rename_i z; cases e; rw [rx.int, ry.int]; exact ⟨_, _, rfl, rfl, z.1, q.here rp (.mkInt _)⟩
    · cases e
  · cases e
def binF : Operator → D → D → Option D
  | .Add => opAdd
  | .Sub => opSub
  | .Mult => opMul
  | .FloorDiv => opDiv
  | .Mod => opMod
  | .Pow => opPow
  | .LShift => opSh fun i j => i * 2 ^ j.toNat
  | .RShift => opSh fun i j => i / 2 ^ j.toNat
  | .BitAnd => opBit Builtin.bitAnd
  | .BitOr => opBit Builtin.bitOr
  | .BitXor => opBit Builtin.bitXor
  | _ => fun _ _ => none
theorem op_bin {X : Cx} (o : Operator) : ∃ r, OpR X (binaryOp o) r ∧ VR2 (kw X) mg r (binF o) := by
  cases o with
  | Add => exact ⟨_, op_addA, vr_add⟩
  | Sub => exact ⟨_, op_sub, vr_sub⟩
  | Mult => exact ⟨_, op_mulA, vr_mul⟩
  | FloorDiv => exact ⟨_, op_fdiv, vr_div⟩
  | Mod => exact ⟨_, op_mod, vr_mod⟩
  | Pow => exact ⟨_, op_powA, vr_pow⟩
  | LShift => exact ⟨_, op_shl, vr_shl⟩
  | RShift => exact ⟨_, op_shr, vr_shr⟩
  | BitAnd => exact ⟨_, op_and, vr_bit⟩
  | BitOr => exact ⟨_, op_or, vr_bit⟩
  | BitXor => exact ⟨_, op_xor, vr_bit⟩
  | _ => exact ⟨_, opr_no, fun _ _ _ _ _ _ _ _ _ _ _ _ q => q⟩
end
end GG
namespace GG
open PySem PySem.Spec PyProof.Rows L2
/-! ## repr -/
/-- the dict of the modules stands where it stands -/
def SmOk (base : Heap) : Prop := ∃ o es ep, base.get? sysModules = some o ∧ o.data = .dict es ep
section
variable {X : Cx} {pins : List (Addr × Obj)} {σ : L2.St} {H : Hp} {s : Shared} {ρ : Fx} {S : Sto}
theorem sm_ne (I : Inv X pins σ H s) (sm : SmOk X.base) {a : Addr} {u : HO} (h : H a = some u) : a ≠ sysModules := by
  intro e
  subst e
  obtain ⟨o, es, ep, q, _⟩ := sm
  rw [(I.bs _ _ q).2] at h
  cases h
mutual
theorem py_reads (I : Inv X pins σ H s) (sm : SmOk X.base) : ∀ (d : D) (v : V) (p : PyData) (u : Value), py d = some p → RV (kw X) ρ H d v → RelV v u → ∃ as, Reads s.heap u p as ∧ sysModules ∉ as
  | .non, v, p, u, e, r, t => by simp only [py] at e; cases e; rw [r.non] at t; cases t; exact ⟨_, .none, by simp⟩
  | .bl b, v, p, u, e, r, t => by simp only [py] at e; cases e; rw [r.bl] at t; cases t; exact ⟨_, .bool b, by simp⟩
  | .int b, v, p, u, e, r, t => by simp only [py] at e; cases e; rw [r.int] at t; obtain ⟨tt, rfl⟩ := t; exact ⟨_, .int b tt, by simp⟩
  | .str b, v, p, u, e, r, t => by simp only [py] at e; cases e; rw [r.str] at t; obtain ⟨tt, rfl⟩ := t; exact ⟨_, .str b tt, by simp⟩
  | .tup ds, v, p, u, e, r, t => by
    simp only [py, Option.map_eq_some_iff] at e
    obtain ⟨ps, e, rfl⟩ := e
    obtain ⟨a, vs, rfl, _, q, tt⟩ := r.tup
    cases t
    obtain ⟨its, rv, ⟨o, ho, hc, n, hd⟩, _⟩ := I.tuple q
    obtain ⟨as, hr, hn⟩ := pys_reads I sm ds vs ps its e tt rv
    exact ⟨_, .tuple ho hc hd hr, hn⟩
  | .rol ds, v, p, u, e, r, t => by
    simp only [py, Option.map_eq_some_iff] at e
    obtain ⟨ps, e, rfl⟩ := e
    obtain ⟨a, vs, rfl, _, q, tt⟩ := r.rol
    cases t
    obtain ⟨its, rv, ⟨o, n, ho, hc, _, hd⟩, _⟩ := I.list q.sq
    obtain ⟨as, hr, hn⟩ := pys_reads I sm ds vs ps its e tt rv
    refine ⟨_, .list ho hc hd hr, ?_⟩
    rcases q with ⟨o', q⟩ | ⟨o', its', n', q, qc, _, qd, _⟩
    · have := sm_ne I sm q
      simp only [List.mem_cons, not_or]
      exact ⟨fun z => this z.symm, hn⟩
    · simp only [List.mem_cons, not_or]
      refine ⟨fun z => ?_, hn⟩
      subst z
      obtain ⟨o2, es, ep, hb, hc2⟩ := sm
      have z := I.ok.mod.kin _ _ q
      rw [hb] at z
      cases z
      rw [hc2] at qd
      cases qd
  | .lst ds, v, p, u, e, r, t => by
    simp only [py, Option.map_eq_some_iff] at e
    obtain ⟨ps, e, rfl⟩ := e
    obtain ⟨a, vs, rfl, _, q, _, _, tt⟩ := r.lst
    cases t
    obtain ⟨its, rv, ⟨o, n, ho, hc, _, hd⟩, _⟩ := I.list (SqL.of q)
    obtain ⟨as, hr, hn⟩ := pys_reads I sm ds vs ps its e tt rv
    refine ⟨_, .list ho hc hd hr, ?_⟩
    have := sm_ne I sm q
    simp only [List.mem_cons, not_or]
    exact ⟨fun z => this z.symm, hn⟩
  | .dct ds, v, p, u, e, r, t => by
    simp only [py, Option.map_eq_some_iff] at e
    obtain ⟨ps, e, rfl⟩ := e
    obtain ⟨a, vs, rfl, q, _, _, tt⟩ := r.dct
    cases t
    obtain ⟨_, hne, ws, kv, o, es, ep, ho, hx, hd, _, hp, _⟩ := dk_of I.hok q
    obtain ⟨as, bs, q1, q2, n1, n2⟩ := pyk_reads I sm ds vs ps ws es.toList e tt kv hp
    refine ⟨_, .dict ho hx.1 hd q1 q2, ?_⟩
    have := sm_ne I sm q
    simp only [List.cons_append, List.mem_cons, List.mem_append, not_or]
    exact ⟨fun z => this z.symm, n1, n2⟩
  | .stm k, v, p, u, e, r, t => by simp [py] at e
  | .wdt k, v, p, u, e, r, t => by simp [py] at e
theorem pys_reads (I : Inv X pins σ H s) (sm : SmOk X.base) :
    ∀ (ds : List D) (vs : List V) (ps : List PyData) (us : List Value), pys ds = some ps → RVs (kw X) ρ H ds vs → Vals vs us → ∃ as, ReadsAll s.heap us ps as ∧ sysModules ∉ as
  | [], vs, ps, us, e, r, t => by
    simp only [RVs] at r; subst r
    cases t
    simp only [pys] at e; cases e
    exact ⟨_, .nil, by simp⟩
  | d :: ds, vs, ps, us, e, r, t => by
    obtain ⟨v, vr, rfl, rv, rr⟩ := r.uncons
    cases t with
    | cons t1 t2 =>
      simp only [pys] at e
      split at e
      · rename_i p pr e1 e2
        cases e
        obtain ⟨as, q1, n1⟩ := py_reads I sm d v p _ e1 rv t1
        obtain ⟨bs, q2, n2⟩ := pys_reads I sm ds vr pr _ e2 rr t2
        exact ⟨_, .cons q1 q2, by simp [n1, n2]⟩
      · cases e
theorem pyk_reads (I : Inv X pins σ H s) (sm : SmOk X.base) :
    ∀ (ds : List (Key × D)) (vs : List (Key × V)) (ps : List (PyData × PyData)) (ws : List (Key × Value)) (es : List DictEntry), pyk ds = some ps → RKV (kw X) ρ H ds vs → KV vs ws → Pairs (mixKind X.prog X.w) es ws →
      ∃ as bs, ReadsAll s.heap (es.map (·.key)) (ps.map (·.1)) as ∧ ReadsAll s.heap (es.map (·.val)) (ps.map (·.2)) bs ∧ sysModules ∉ as ∧ sysModules ∉ bs
  | [], vs, ps, ws, es, e, r, t, g => by
    simp only [RKV] at r; subst r
    cases t
    cases g
    simp only [pyk] at e; cases e
    exact ⟨_, _, .nil, .nil, by simp, by simp⟩
  | (dk, d) :: ds, vs, ps, ws, es, e, r, t, g => by
    simp only [RKV] at r
    obtain ⟨v, vr, rfl, rv, rr⟩ := r
    cases t with
    | cons t1 t2 =>
      cases g with
      | @cons e0 kv0 es0 kvs0 g1 g2 g3 =>
        simp only [pyk] at e
        split at e
        · rename_i p pr e1 e2
          cases e
          obtain ⟨h1, h2⟩ := t1
          obtain ⟨bs, q1, n1⟩ := py_reads I sm d v p _ e1 rv h2
          obtain ⟨cs, ds', q2, q3, n2, n3⟩ := pyk_reads I sm ds vr pr _ _ e2 rr t2 g3
          have hk : Reads s.heap e0.key (kPy dk) [] := by
            have h1' := h1
            dsimp only at h1'
            rw [h1']
            rcases keyIs_shape (show keyIs _ _ = true from g1) with ⟨i, tt, ei, ev⟩ | ⟨x, tt, ei, ev⟩
            · rw [ei, ev]; exact .int i tt
            · rw [ei, ev]; exact .str x tt
          refine ⟨_, _, .cons hk q2, .cons (g2 ▸ q1) q3, by simpa using n2, by simp [n1, n3]⟩
        · cases e
end
/-- repr of data -/
def rRepr (K : KW) : List V → Hp → VK → Prop := fun xs H Q => ∃ ρ d p x, xs = [x] ∧ RV K ρ H d x ∧ py d = some p ∧ p.showable = true ∧ p.depth ≤ 60 ∧ p.shown.length ≤ sizeLine ∧ Q (.str p.shown) H
theorem call_reprA (sm : SmOk X.base) (hg : X.A.guards = some []) (hu : X.A.units + 64 < cLine) : CallR X (.builtin "repr") (rRepr (kw X)) := by
  intro pins s σ H xs us Q I r h
  obtain ⟨ρ, d, p, x, rfl, rv, e, hs, hd, hz, q⟩ := h
  obtain ⟨u, rfl, ru⟩ := vals1 r
  obtain ⟨as, rd, na⟩ := py_reads I sm d x p u e rv ru
  have fin : ∀ (h' : Heap) (t : Tok) (tk : Nat), (∀ b o, s.heap.get? b = some o → h'.get? b = some o) → EP X pins σ Q (.str p.shown t) { s with heap := h', toks := tk } :=
    fun h' t tk k => ⟨.str p.shown, H, I.kept (t' := tk) k, ⟨t, rfl⟩, q⟩
  cases u with
  | ref a => exact repr_of_reads' rd hs (fun _ => na) hg (by omega) (fun _ _ z => z) (fun h' u tk k => fin h' u tk k) hz
  | none => cases rd; exact PySem.P.repr_of_none (fin _ _ _ fun _ _ z => z)
  | bool b => cases rd; exact PySem.P.repr_of_bool (fin _ _ _ fun _ _ z => z)
  | int i t => cases rd; exact PySem.P.repr_of_int (by simpa [PyData.showable] using hs) (fin _ _ _ fun _ _ z => z)
  | str z t => cases rd; exact PySem.P.repr_of_str (fin _ _ _ fun _ _ z => z) hz
  | _ => cases rd
/-! ## subscripts, slices -/
def opIx (x y : D) : Option D :=
  match keysOf x with
  | some kvs => (keyOf y).bind (getK kvs)
  | none => match y with
    | .int i => match x with
      | .str z => if z.length ≤ sizeLine then (match atI z.cps.toList i with | some c => some (.str ⟨#[c]⟩) | none => none) else none
      | x => (seqOf x).bind fun ds => atI ds i
    | _ => none
def cutD (xs : List D) (lo hi : Option Int) : List D := (xs.drop (HT.sIx xs.length 0 lo)).take (HT.sIx xs.length xs.length hi - HT.sIx xs.length 0 lo)
def opSl (x : D) (lo hi : Option Int) : Option D :=
  match x with
  | .str z => if z.length ≤ sizeLine then some (.str (cutS z lo hi)) else none
  | .tup ds => some (.tup (cutD ds lo hi))
  | .lst ds => some (.lst (cutD ds lo hi))
  | .rol ds => some (.lst (cutD ds lo hi))
  | _ => none
def opRev (x : D) : Option D :=
  match x with
  | .tup ds => some (.tup ds.reverse)
  | .lst ds => some (.lst ds.reverse)
  | .rol ds => some (.lst ds.reverse)
  | _ => none
def rIxK (K : KW) : R2 := fun x y H Q => ∃ a k v, x = .ref a ∧ y = kV k ∧ KGet K H a k (some v) ∧ Q v H
theorem ix_dict : IxR X (rIxK (kw X)) := by
  intro value slice pins s σ H x y v u Q I rx ry h hs
  obtain ⟨a, k, r, rfl, rfl, g, q⟩ := h
  obtain rfl : v = Value.ref a := rx
  obtain ⟨vs, rel, dd⟩ : ∃ vs, RelO (some r) (valueAt vs k) ∧ s.heap.DictOf (mixKind X.prog X.w) a vs := by
    rcases g with ⟨kvs, e, e4⟩ | ⟨kvs, ⟨ob, e1, e2, e3⟩, e4⟩
    · obtain ⟨z, hd, vs, rel, dd⟩ := dk_of I.hok e
      exact ⟨vs, by rw [e4]; exact rel.val k, dd⟩
    · obtain ⟨vs, rel, dd⟩ := e3 X.prog s.heap (I.kIn _ _ e1)
      exact ⟨vs, by rw [e4]; exact rel.val k, dd⟩
  obtain ⟨w', hw, rw'⟩ := RelO.some_of (v := r) rel
  exact tail_any dd.typeIs slot_dict_getitem.lookup (wpAny_getItem_of (kV_is ry) dd.mapOf hw ⟨r, H, I.tok _, rw', q⟩) hs
theorem IxR.or' {r1 r2 : R2} (h1 : IxR X r1) (h2 : IxR X r2) : IxR X (fun x y H Q => r1 x y H Q ∨ r2 x y H Q) := fun value slice pins s σ H x y v u Q I rx ry h hs =>
  h.elim (fun h => h1 value slice pins s σ H x y v u Q I rx ry h hs) fun h => h2 value slice pins s σ H x y v u Q I rx ry h hs
abbrev rIxA (K : KW) : R2 := fun x y H Q => rIx K x y H Q ∨ rIxK K x y H Q
theorem ix_all : IxR X (rIxA (kw X)) := IxR.or' ix_seq ix_dict
end
section
variable {K : KW} {mg : Str → Option Value} {ρ : Fx} {H : Hp} {S : Sto}
theorem RVs.atI {ds : List D} {vs : List V} {i : Int} {d : D} (r : RVs K ρ H ds vs) (h : L2.atI ds i = some d) : ∃ v, L2.atI vs i = some v ∧ RV K ρ H d v := by
  unfold L2.atI at h ⊢
  rw [← r.len]
  cases e : ixN ds.length i with
  | none => rw [e] at h; cases h
  | some j =>
    rw [e] at h
    exact r.get (i := j) h
theorem RVs.drop : ∀ (n : Nat) {ds : List D} {vs : List V}, RVs K ρ H ds vs → RVs K ρ H (ds.drop n) (vs.drop n)
  | 0, _, _, r => r
  | n + 1, [], vs, r => by simp only [RVs] at r; subst r; exact RVs.nil
  | n + 1, d :: ds, vs, r => by
    obtain ⟨v, vr, rfl, _, rr⟩ := r.uncons
    exact RVs.drop n rr
theorem RVs.take : ∀ (n : Nat) {ds : List D} {vs : List V}, RVs K ρ H ds vs → RVs K ρ H (ds.take n) (vs.take n)
  | 0, _, _, _ => RVs.nil
  | n + 1, [], vs, r => by simp only [RVs] at r; subst r; exact RVs.nil
  | n + 1, d :: ds, vs, r => by
    obtain ⟨v, vr, rfl, rv, rr⟩ := r.uncons
    exact .cons rv (RVs.take n rr)
theorem RVs.cutV {ds : List D} {vs : List V} (r : RVs K ρ H ds vs) (lo hi : Option Int) : RVs K ρ H (cutD ds lo hi) (L2.cutV vs lo hi) := by
  unfold cutD L2.cutV
  rw [← r.len]
  exact (r.drop _).take _
theorem RVs.rev : ∀ {ds : List D} {vs : List V}, RVs K ρ H ds vs → RVs K ρ H ds.reverse vs.reverse
  | [], vs, r => by simp only [RVs] at r; subst r; exact RVs.nil
  | d :: ds, vs, r => by
    obtain ⟨v, vr, rfl, rv, rr⟩ := r.uncons
    rw [List.reverse_cons, List.reverse_cons]
    exact rr.rev.append (.one rv)
theorem cut_len (ds : List D) (lo hi : Option Int) : (cutD ds lo hi).length ≤ ds.length := by
  unfold cutD
  rw [List.length_take, List.length_drop]; omega
theorem vr_ix : VR2 K mg (rIxA K) opIx := by
  intro E ρ S H x y vx vy Q rp rx ry q
  obtain ⟨d, e, q0⟩ := q.ofH; clear q; rename Post K mg (RV K) E ρ H (.ok d S) Q => q
  unfold opIx at e
  split at e
  · rename_i kvs e1
    obtain ⟨k, e2, e3⟩ := Option.bind_eq_some_iff.mp e
    obtain ⟨a, ws, rfl, t, g⟩ := keysOf_V rx e1 k
    rcases t.getK (k := k) with ⟨h1, h2⟩ | ⟨d', v', h1, h2, h3⟩
    · rw [h1] at e3; cases e3
    · rw [h1] at e3; cases e3
      rw [h2] at g
      exact .inr ⟨a, k, v', rfl, keyOf_V ry e2, g, q.here rp h3⟩
  · split at e
    · rename_i i
      have seq : ∀ {x : D}, RV K ρ H x vx → ((seqOf x).bind fun ds => L2.atI ds i) = some d → rIxA K vx vy H Q := fun {x} rx e => by
        obtain ⟨ds, e1, e2⟩ := Option.bind_eq_some_iff.mp e
        obtain ⟨a, vs, rfl, _, sq, t⟩ := seqOf_ok rx e1
        obtain ⟨v, e3, rv⟩ := t.atI e2
        rcases sq with sq | sq
        · exact .inl (.inl ⟨a, vs, i, v, rfl, ry.int, sq, e3, q.here rp rv⟩)
        · exact .inl (.inr (.inl ⟨a, vs, i, v, rfl, ry.int, sq, e3, q.here rp rv⟩))
      split at e
      · split at e
        · rename_i z
          split at e
          · rename_i c e1
            cases e
            rw [rx.str]
            exact .inl (.inr (.inr ⟨_, i, c, rfl, ry.int, z, e1, q.here rp (.mkStr _)⟩))
          · cases e
        · cases e
      · exact seq rx e
    · cases e
def VRsl (K : KW) (mg : Str → Option Value) (r : V → Option Int → Option Int → Hp → VK → Prop) (h : D → Option Int → Option Int → Option D) : Prop :=
  ∀ (E : XK) (ρ : Fx) (S : Sto) (H : Hp) (x : D) (vx : V) (lo hi : Option Int) (Q : VK), Rp ρ S H → RV K ρ H x vx → Post K mg (RV K) E ρ H (.of S (h x lo hi)) Q → r vx lo hi H Q
abbrev rSlX (K : KW) : V → Option Int → Option Int → Hp → VK → Prop := fun x lo hi H Q => rSlA K x lo hi H Q ∨ (rSlL K x lo hi H Q ∨ rSlS x lo hi H Q)
theorem sl_all {X : Cx} : SlR X (rSlX (kw X)) := sl_tupA.or (sl_list.or sl_str)
theorem vr_sl : VRsl K mg (rSlX K) opSl := by
  intro E ρ S H x vx lo hi Q rp rx q
  obtain ⟨d, e, q0⟩ := q.ofH; clear q; rename Post K mg (RV K) E ρ H (.ok d S) Q => q
  unfold opSl at e
  split at e
  · split at e
    · rename_i z; cases e; rw [rx.str]; exact .inr (.inr ⟨_, rfl, z, q.here rp (.mkStr _)⟩)
    · cases e
  · rename_i ds
    cases e
    obtain ⟨a, vs, rfl, z, sq, t⟩ := rx.tup
    refine .inl ⟨a, vs, rfl, sq, fun w => ?_, fun _ p hp => post_tup rp (Nat.le_trans (cut_len _ _ _) z) (t.cutV lo hi) q p hp⟩
    have e : cutD ds lo hi = ds := by
      unfold cutD
      rw [t.len, w.1, w.2, ← t.len]
      simp
    rw [e] at q
    exact q.here rp (.mkTup z sq t)
  · cases e
    obtain ⟨a, vs, rfl, z, sq, _, _, t⟩ := rx.lst
    exact .inr (.inl ⟨a, vs, rfl, SqL.of sq, fun p hp => post_lst rp (Nat.le_trans (cut_len _ _ _) z) (t.cutV lo hi) q p hp⟩)
  · cases e
    obtain ⟨a, vs, rfl, z, sq, t⟩ := rx.rol
    exact .inr (.inl ⟨a, vs, rfl, sq.sq, fun p hp => post_lst rp (Nat.le_trans (cut_len _ _ _) z) (t.cutV lo hi) q p hp⟩)
  · cases e
end
end GG
namespace GG
open PySem PySem.Spec PyProof.Rows L2
/-! ### built-in functions -/
inductive Bi where
  | len | abs | int | max | min | repr | str | list | tuple | all | any | sum | bool
  deriving DecidableEq
def Bi.name : Bi → Str
  | .len => "len" | .abs => "abs" | .int => "int" | .max => "max" | .min => "min" | .repr => "repr" | .str => "str" | .list => "list" | .tuple => "tuple" | .all => "all" | .any => "any" | .sum => "sum" | .bool => "bool"
def Bi.val : Bi → Value
  | .len => .builtin "len" | .abs => .builtin "abs" | .int => .type "int" | .max => .builtin "max" | .min => .builtin "min" | .repr => .builtin "repr" | .str => .type "str" | .list => .type "list" | .tuple => .type "tuple" | .all => .builtin "all" | .any => .builtin "any" | .sum => .builtin "sum" | .bool => .type "bool"
def boolsOf : List D → Option (List Bool)
  | [] => some []
  | .bl b :: r => (boolsOf r).map (b :: ·)
  | _ :: _ => none
def intsOf : List D → Option (List Int)
  | [] => some []
  | .int b :: r => (intsOf r).map (b :: ·)
  | _ :: _ => none
def strsOf : List D → Option (List Str)
  | [] => some []
  | .str b :: r => (strsOf r).map (b :: ·)
  | _ :: _ => none
/-- the items of a list, not of a tuple -/
def lstOf : D → Option (List D)
  | .rol ds => some ds
  | .lst ds => some ds
  | _ => none
def lenOf : D → Option Int
  | .str z => if z.length ≤ sizeLine then some z.length else none
  | .tup ds => some ds.length
  | .lst ds => some ds.length
  | .rol ds => some ds.length
  | .dct kvs => some kvs.length
  | _ => none
def biF : Bi → List D → Option D
  | .len, [d] => (lenOf d).map .int
  | .abs, [.int i] => some (.int (if i < 0 then -i else i))
  | .int, [.int i] => some (.int i)
  | .int, [.bl b] => some (.int (if b then 1 else 0))
  | .bool, [.int i] => some (.bl (i != 0))
  | .bool, [.bl b] => some (.bl b)
  | .max, [.int i, .int j] => some (.int (if j > i then j else i))
  | .min, [.int i, .int j] => some (.int (if j < i then j else i))
  | .repr, [d] => match py d with
    | some p => if p.showable = true ∧ p.depth ≤ 60 ∧ p.shown.length ≤ sizeLine then some (.str p.shown) else none
    | none => none
  | .str, [.int i] => if i.natAbs.log2 < 1920 then some (.str (toString i)) else none
  | .str, [.str x] => some (.str x)
  | .list, [d] => (seqOf d).map .lst
  | .tuple, [d] => (seqOf d).map .tup
  | .all, [d] => ((lstOf d).bind boolsOf).map fun bs => .bl (bs.all id)
  | .any, [d] => ((lstOf d).bind boolsOf).map fun bs => .bl (bs.any id)
  | .sum, [d] => ((lstOf d).bind intsOf).map fun ns => .int ns.sum
  | _, _ => none
section
variable {X : Cx}
theorem call_str_str' : CallR X (.type "str") (fun xs H Q => ∃ a, xs = [.str a] ∧ Q (.str a) H) := by
  intro pins s σ H xs us Q I r h
  obtain ⟨a, rfl, q⟩ := h
  obtain ⟨u, rfl, tt⟩ := vals1 r
  obtain ⟨t, rfl⟩ := tt
  exact PySem.P.str_of_str ⟨.str a, H, I, ⟨t, rfl⟩, q⟩
end
section
variable {K : KW} {mg : Str → Option Value}
theorem bools_V {ρ : Fx} {H : Hp} : ∀ {ds : List D} {vs : List V} {bs : List Bool}, RVs K ρ H ds vs → boolsOf ds = some bs → vs = bs.map V.bl
  | [], vs, bs, r, e => by simp only [RVs] at r; subst r; cases e; rfl
  | d :: ds, vs, bs, r, e => by
    obtain ⟨v, vr, rfl, rv, rr⟩ := r.uncons
    cases d with
    | bl b =>
      simp only [boolsOf, Option.map_eq_some_iff] at e
      obtain ⟨cs, e, rfl⟩ := e
      rw [rv.bl, bools_V rr e]; rfl
    | _ => simp [boolsOf] at e
theorem ints_V {ρ : Fx} {H : Hp} : ∀ {ds : List D} {vs : List V} {bs : List Int}, RVs K ρ H ds vs → intsOf ds = some bs → vs = bs.map V.int
  | [], vs, bs, r, e => by simp only [RVs] at r; subst r; cases e; rfl
  | d :: ds, vs, bs, r, e => by
    obtain ⟨v, vr, rfl, rv, rr⟩ := r.uncons
    cases d with
    | int b =>
      simp only [intsOf, Option.map_eq_some_iff] at e
      obtain ⟨cs, e, rfl⟩ := e
      rw [rv.int, ints_V rr e]; rfl
    | _ => simp [intsOf] at e
theorem strs_V {ρ : Fx} {H : Hp} : ∀ {ds : List D} {vs : List V} {bs : List Str}, RVs K ρ H ds vs → strsOf ds = some bs → vs = bs.map V.str
  | [], vs, bs, r, e => by simp only [RVs] at r; subst r; cases e; rfl
  | d :: ds, vs, bs, r, e => by
    obtain ⟨v, vr, rfl, rv, rr⟩ := r.uncons
    cases d with
    | str b =>
      simp only [strsOf, Option.map_eq_some_iff] at e
      obtain ⟨cs, e, rfl⟩ := e
      rw [rv.str, strs_V rr e]; rfl
    | _ => simp [strsOf] at e
theorem lstOf_ok {ρ : Fx} {H : Hp} {d : D} {v : V} {ds : List D} (r : RV K ρ H d v) (h : lstOf d = some ds) : ∃ a vs, v = .ref a ∧ SqL K H a vs ∧ RVs K ρ H ds vs := by
  cases d with
  | rol xs => cases h; obtain ⟨a, vs, e, _, q, t⟩ := r.rol; exact ⟨a, vs, e, q.sq, t⟩
  | lst xs => cases h; obtain ⟨a, vs, e, _, q, _, _, t⟩ := r.lst; exact ⟨a, vs, e, SqL.of q, t⟩
  | _ => simp [lstOf] at h
theorem bi_ok {X : Cx} (hc : X.calm = true) (sm : SmOk X.base) (hg : X.A.guards = some []) (hu : X.A.units + 64 < cLine) (b : Bi) :
    ∃ r, CallR X b.val r ∧ VRn (kw X) mg r (biF b) := by
  cases b with
  | len =>
    refine ⟨_, call_len.or call_lenD, fun E ρ S H xs vs Q rp rx q => ?_⟩
    obtain ⟨d, e, q0⟩ := q.ofH; clear q; rename Post (kw X) mg (RV (kw X)) E ρ H (.ok d S) Q => q
    match xs, e, rx with
    | [x], e, rx =>
      obtain ⟨v, rfl, rv⟩ := rx.one'
      simp only [biF, Option.map_eq_some_iff] at e
      obtain ⟨n, e, rfl⟩ := e
      cases x with
      | str z =>
        simp only [lenOf] at e
        split at e
        · rename_i z; cases e; rw [rv.str]
          exact .inl ⟨_, _, rfl, ⟨z, rfl⟩, q.here rp (.mkInt _)⟩
        · cases e
      | tup ds =>
        cases e
        obtain ⟨a, ws, rfl, _, sq, t⟩ := rv.tup
        rw [t.len] at q
        exact .inl ⟨_, _, rfl, .inr ⟨ws, sq, rfl⟩, q.here rp (.mkInt _)⟩
      | rol ds =>
        cases e
        obtain ⟨a, ws, rfl, _, sq, t⟩ := rv.rol
        rw [t.len] at q
        exact .inl ⟨_, _, rfl, .inl ⟨ws, sq.sq, rfl⟩, q.here rp (.mkInt _)⟩
      | lst ds =>
        cases e
        obtain ⟨a, ws, rfl, _, h1, _, _, t⟩ := rv.lst
        rw [t.len] at q
        exact .inl ⟨_, _, rfl, .inl ⟨ws, SqL.of h1, rfl⟩, q.here rp (.mkInt _)⟩
      | dct ds =>
        cases e
        obtain ⟨a, ws, rfl, h1, _, _, t⟩ := rv.dct
        rw [t.len] at q
        exact .inr ⟨a, ws, rfl, h1, q.here rp (.mkInt _)⟩
      | _ => simp [lenOf] at e
    | [], e, rx => simp [biF] at e
    | _ :: _ :: _, e, rx => simp [biF] at e
  | abs =>
    refine ⟨_, call_abs, fun E ρ S H xs vs Q rp rx q => ?_⟩
    obtain ⟨d, e, q0⟩ := q.ofH; clear q; rename Post (kw X) mg (RV (kw X)) E ρ H (.ok d S) Q => q
    match xs, e, rx with
    | [x], e, rx =>
      obtain ⟨v, rfl, rv⟩ := rx.one'
      cases x with
      | int i => simp only [biF, Option.some.injEq] at e; subst e; rw [rv.int]; exact ⟨_, rfl, q.here rp (.mkInt _)⟩
      | _ => simp [biF] at e
    | [], e, rx => simp [biF] at e
    | _ :: _ :: _, e, rx => simp [biF] at e
  | int =>
    refine ⟨_, call_int1, fun E ρ S H xs vs Q rp rx q => ?_⟩
    obtain ⟨d, e, q0⟩ := q.ofH; clear q; rename Post (kw X) mg (RV (kw X)) E ρ H (.ok d S) Q => q
    match xs, e, rx with
    | [x], e, rx =>
      obtain ⟨v, rfl, rv⟩ := rx.one'
      cases x with
      | int i => simp only [biF, Option.some.injEq] at e; subst e; rw [rv.int]; exact .inl ⟨_, rfl, q.here rp (.mkInt _)⟩
      | bl i => simp only [biF, Option.some.injEq] at e; subst e; rw [rv.bl]; exact .inr ⟨_, rfl, q.here rp (.mkInt _)⟩
      | _ => simp [biF] at e
    | [], e, rx => simp [biF] at e
    | _ :: _ :: _, e, rx => simp [biF] at e
  | bool =>
    refine ⟨_, call_bool1, fun E ρ S H xs vs Q rp rx q => ?_⟩
    obtain ⟨d, e, q0⟩ := q.ofH; clear q; rename Post (kw X) mg (RV (kw X)) E ρ H (.ok d S) Q => q
    match xs, e, rx with
    | [x], e, rx =>
      obtain ⟨v, rfl, rv⟩ := rx.one'
      cases x with
      | int i => simp only [biF, Option.some.injEq] at e; subst e; rw [rv.int]; exact .inl ⟨_, rfl, q.here rp (.mkBl _)⟩
      | bl i => simp only [biF, Option.some.injEq] at e; subst e; rw [rv.bl]; exact .inr ⟨_, rfl, q.here rp (.mkBl _)⟩
      | _ => simp [biF] at e
    | [], e, rx => simp [biF] at e
    | _ :: _ :: _, e, rx => simp [biF] at e
  | max =>
    refine ⟨_, call_max2 hc, fun E ρ S H xs vs Q rp rx q => ?_⟩
    obtain ⟨d, e, q0⟩ := q.ofH; clear q; rename Post (kw X) mg (RV (kw X)) E ρ H (.ok d S) Q => q
    match xs, e, rx with
    | [x, y], e, rx =>
      obtain ⟨v, w, rfl, rv, rw'⟩ := rx.two'
      cases x with
      | int i =>
        cases y with
        | int j => simp only [biF, Option.some.injEq] at e; subst e; rw [rv.int, rw'.int]; exact ⟨_, _, rfl, q.here rp (.mkInt _)⟩
        | _ => simp [biF] at e
      | _ => simp [biF] at e
    | [], e, rx => simp [biF] at e
    | [_], e, rx => simp [biF] at e
    | _ :: _ :: _ :: _, e, rx => simp [biF] at e
  | min =>
    refine ⟨_, call_min2 hc, fun E ρ S H xs vs Q rp rx q => ?_⟩
    obtain ⟨d, e, q0⟩ := q.ofH; clear q; rename Post (kw X) mg (RV (kw X)) E ρ H (.ok d S) Q => q
    match xs, e, rx with
    | [x, y], e, rx =>
      obtain ⟨v, w, rfl, rv, rw'⟩ := rx.two'
      cases x with
      | int i =>
        cases y with
        | int j => simp only [biF, Option.some.injEq] at e; subst e; rw [rv.int, rw'.int]; exact ⟨_, _, rfl, q.here rp (.mkInt _)⟩
        | _ => simp [biF] at e
      | _ => simp [biF] at e
    | [], e, rx => simp [biF] at e
    | [_], e, rx => simp [biF] at e
    | _ :: _ :: _ :: _, e, rx => simp [biF] at e
  | repr =>
    refine ⟨_, call_reprA sm hg hu, fun E ρ S H xs vs Q rp rx q => ?_⟩
    obtain ⟨d, e, q0⟩ := q.ofH; clear q; rename Post (kw X) mg (RV (kw X)) E ρ H (.ok d S) Q => q
    match xs, e, rx with
    | [x], e, rx =>
      obtain ⟨v, rfl, rv⟩ := rx.one'
      simp only [biF] at e
      split at e
      · rename_i p e1
        split at e
        · rename_i z
          cases e
          exact ⟨ρ, _, p, v, rfl, rv, e1, z.1, z.2.1, z.2.2, q.here rp (.mkStr _)⟩
        · cases e
      · cases e
    | [], e, rx => simp [biF] at e
    | _ :: _ :: _, e, rx => simp [biF] at e
  | str =>
    refine ⟨_, call_str_int.or call_str_str', fun E ρ S H xs vs Q rp rx q => ?_⟩
    obtain ⟨d, e, q0⟩ := q.ofH; clear q; rename Post (kw X) mg (RV (kw X)) E ρ H (.ok d S) Q => q
    match xs, e, rx with
    | [x], e, rx =>
      obtain ⟨v, rfl, rv⟩ := rx.one'
      cases x with
      | int i =>
        simp only [biF] at e
        split at e
        · rename_i z; cases e; rw [rv.int]; exact .inl ⟨_, rfl, z, q.here rp (.mkStr _)⟩
        · cases e
      | str i => simp only [biF, Option.some.injEq] at e; subst e; rw [rv.str]; exact .inr ⟨_, rfl, q.here rp (.mkStr _)⟩
      | _ => simp [biF] at e
    | [], e, rx => simp [biF] at e
    | _ :: _ :: _, e, rx => simp [biF] at e
  | list =>
    refine ⟨_, call_list_of, fun E ρ S H xs vs Q rp rx q => ?_⟩
    obtain ⟨d, e, q0⟩ := q.ofH; clear q; rename Post (kw X) mg (RV (kw X)) E ρ H (.ok d S) Q => q
    match xs, e, rx with
    | [x], e, rx =>
      obtain ⟨v, rfl, rv⟩ := rx.one'
      simp only [biF, Option.map_eq_some_iff] at e
      obtain ⟨ds, e9, rfl⟩ := e
      obtain ⟨a, ws, rfl, z, sq, t⟩ := seqOf_ok rv e9
      exact ⟨a, ws, rfl, sq, fun p hp => post_lst rp z t q p hp⟩
    | [], e, rx => simp [biF] at e
    | _ :: _ :: _, e, rx => simp [biF] at e
  | tuple =>
    refine ⟨_, call_tuple_of, fun E ρ S H xs vs Q rp rx q => ?_⟩
    obtain ⟨d, e, q0⟩ := q.ofH; clear q; rename Post (kw X) mg (RV (kw X)) E ρ H (.ok d S) Q => q
    match xs, e, rx with
    | [x], e, rx =>
      obtain ⟨v, rfl, rv⟩ := rx.one'
      simp only [biF, Option.map_eq_some_iff] at e
      obtain ⟨ds, e9, rfl⟩ := e
      obtain ⟨a, ws, rfl, z, sq, t⟩ := seqOf_ok rv e9
      refine ⟨a, ws, rfl, ?_⟩
      rcases sq with sq | sq
      · exact .inl ⟨sq, fun p hp => post_tup rp z t q p hp⟩
      · exact .inr ⟨sq, q.here rp (.mkTup z sq t)⟩
    | [], e, rx => simp [biF] at e
    | _ :: _ :: _, e, rx => simp [biF] at e
  | all =>
    refine ⟨_, cr_all hc, fun E ρ S H xs vs Q rp rx q => ?_⟩
    obtain ⟨d, e, q0⟩ := q.ofH; clear q; rename Post (kw X) mg (RV (kw X)) E ρ H (.ok d S) Q => q
    match xs, e, rx with
    | [x], e, rx =>
      obtain ⟨v, rfl, rv⟩ := rx.one'
      simp only [biF, Option.map_eq_some_iff] at e
      obtain ⟨bs, e9, rfl⟩ := e
      obtain ⟨ds, e1, e2⟩ := Option.bind_eq_some_iff.mp e9
      obtain ⟨a, ws, rfl, sq, t⟩ := lstOf_ok rv e1
      have e3 := bools_V t e2
      subst e3
      exact ⟨a, bs, rfl, sq, q.here rp (.mkBl _)⟩
    | [], e, rx => simp [biF] at e
    | _ :: _ :: _, e, rx => simp [biF] at e
  | any =>
    refine ⟨_, cr_any hc, fun E ρ S H xs vs Q rp rx q => ?_⟩
    obtain ⟨d, e, q0⟩ := q.ofH; clear q; rename Post (kw X) mg (RV (kw X)) E ρ H (.ok d S) Q => q
    match xs, e, rx with
    | [x], e, rx =>
      obtain ⟨v, rfl, rv⟩ := rx.one'
      simp only [biF, Option.map_eq_some_iff] at e
      obtain ⟨bs, e9, rfl⟩ := e
      obtain ⟨ds, e1, e2⟩ := Option.bind_eq_some_iff.mp e9
      obtain ⟨a, ws, rfl, sq, t⟩ := lstOf_ok rv e1
      have e3 := bools_V t e2
      subst e3
      exact ⟨a, bs, rfl, sq, q.here rp (.mkBl _)⟩
    | [], e, rx => simp [biF] at e
    | _ :: _ :: _, e, rx => simp [biF] at e
  | sum =>
    refine ⟨_, cr_sum hc, fun E ρ S H xs vs Q rp rx q => ?_⟩
    obtain ⟨d, e, q0⟩ := q.ofH; clear q; rename Post (kw X) mg (RV (kw X)) E ρ H (.ok d S) Q => q
    match xs, e, rx with
    | [x], e, rx =>
      obtain ⟨v, rfl, rv⟩ := rx.one'
      simp only [biF, Option.map_eq_some_iff] at e
      obtain ⟨bs, e9, rfl⟩ := e
      obtain ⟨ds, e1, e2⟩ := Option.bind_eq_some_iff.mp e9
      obtain ⟨a, ws, rfl, sq, t⟩ := lstOf_ok rv e1
      have e3 := ints_V t e2
      subst e3
      exact ⟨a, bs, rfl, sq, q.here rp (.mkInt _)⟩
    | [], e, rx => simp [biF] at e
    | _ :: _ :: _, e, rx => simp [biF] at e
end
end GG
namespace GG
open PySem PySem.Spec PyProof.Rows L2
/-! ## what is walked -/
/-- the same, or one thing more -/
def Gw (H H' : Hp) : Prop := H' = H ∨ ∃ T o, H T = none ∧ H' = upd H T o
structure Wk (K : KW) (ρ : Fx) (H0 : Hp) (ds : List D) (J : It) : Prop where
  sz : ds.length ≤ sizeLine
  go : ∀ (l : List Addr) (H : Hp) (i : Nat) (d : D), Kq ρ H0 l H → ds[i]? = some d → J.go i H
  stop : ∀ (l : List Addr) (H : Hp), Kq ρ H0 l H → J.stop ds.length H
  yld : ∀ (l : List Addr) (H : Hp) (i : Nat) (d : D) (x : V) (H' : Hp), Kq ρ H0 l H → ds[i]? = some d → J.yld i H x H' → Gw H H' ∧ RV K ((ρ.nw H0).to l) H' d x
theorem Gw.sx {H H' : Hp} {l : List Addr} (g : Gw H H') : Sx l H l H' := by
  rcases g with rfl | ⟨T, o, h, rfl⟩
  · exact .refl
  · exact .fresh h
theorem Kq.fresh {ρ : Fx} {H : Hp} {T : Addr} {o : HO} (h : H T = none) : Kq ρ H ρ.l (upd H T o) :=
  ⟨pre_refl _, fun b xs e => by rw [upd_ne (ne_of_none e h)]; exact e, fun b o u e => by rw [upd_ne (ne_of_none e h)]; exact e, fun b u e n _ => ⟨by rw [upd_ne (ne_of_none e h)]; exact e, n⟩⟩
theorem Kq.refl {ρ : Fx} {H : Hp} : Kq ρ H ρ.l H := ⟨pre_refl _, fun _ _ e => e, fun _ _ _ e => e, fun _ _ e n _ => ⟨e, n⟩⟩
theorem Kq.trans {ρ : Fx} {l l2 : List Addr} {H H1 H2 : Hp} (a : Kq ρ H l H1) (b : Kq (ρ.to l) H1 l2 H2) : Kq ρ H l2 H2 :=
  ⟨a.pre.trans b.pre, fun c xs e => b.tup _ _ (a.tup _ _ e), fun c o u e => b.frz _ _ _ (a.frz _ _ _ e), fun c u e n1 n2 => let ⟨e1, n3⟩ := a.kp c u e n1 n2; b.kp c u e1 n3 n2⟩
/-- .. and whatever is written, where nothing of it can change -/
def WkB (K : KW) (ρ : Fx) (H : Hp) (p : List D × Bool) (J : It) : Prop := Wk K ρ H p.1 J ∧ (p.2 = true → ∀ n, Wk K (ρ.w n) H p.1 J)
def TFi (K : KW) (mg : Str → Option Value) (W : WX) (xs : List Nat) (f : Env → Sto → Out (List D × Bool)) : TI := TG0 K mg (WkB K) W xs f
theorem PI.imp {X : Cx} {tg e : Expr} {t t' : TI} (h : PI X tg e t) (i : ∀ σ H Q, t' σ H Q → t σ H Q) : PI X tg e t' := ⟨fun pins s σ H Q I q => h.run pins s σ H Q I (i σ H Q q)⟩
theorem pi_or {X : Cx} {tg e : Expr} {t t' : TI} (h : PI X tg e t) (h' : PI X tg e t') : PI X tg e (fun σ H Q => t σ H Q ∨ t' σ H Q) := ⟨fun pins s σ H Q I q => q.elim (h.run pins s σ H Q I) (h'.run pins s σ H Q I)⟩
def iterV (d : D) : Option (List D) :=
  match d with
  | .str x => if x.length ≤ sizeLine then some (x.cps.toList.map fun c => .str ⟨#[c]⟩) else none
  | d => seqOf d
section
variable {K : KW} {mg : Str → Option Value} {W : WX} {ρ : Fx} {H : Hp}
theorem lst_keep {d : D} {v : V} {ds : List D} (r : RV K ρ H d v) (e : lstOf d = some ds) : ∃ a vs, v = .ref a ∧ ds.length ≤ sizeLine ∧ SqL K H a vs ∧ ∀ l H', Kq ρ H l H' → SqL K H' a vs ∧ RVs K ((ρ.nw H).to l) H' ds vs := by
  cases d with
  | rol xs => cases e; obtain ⟨a, vs, e, z, q, t⟩ := r.rol; exact ⟨a, vs, e, z, q.sq, fun l H' k => ⟨(q.gen k).sq, RVs.gen (Kq.plus k) _ _ t.nw⟩⟩
  | lst xs => cases e; obtain ⟨a, vs, e, z, q, n1, n2, t⟩ := r.lst; exact ⟨a, vs, e, z, SqL.of q, fun l H' k => ⟨SqL.of (k.kp a _ q n1 n2).1, RVs.gen (Kq.plus k) _ _ t.nw⟩⟩
  | _ => simp [lstOf] at e
theorem tup_keep {v : V} {ds : List D} (r : RV K ρ H (.tup ds) v) : ∃ a vs, v = .ref a ∧ ds.length ≤ sizeLine ∧ SqT K H a vs ∧ ∀ l H', Kq ρ H l H' → SqT K H' a vs ∧ RVs K ((ρ.nw H).to l) H' ds vs := by
  obtain ⟨a, vs, e, z, q, t⟩ := r.tup
  exact ⟨a, vs, e, z, q, fun l H' k => ⟨k.rdT q, RVs.gen (Kq.plus k) _ _ t.nw⟩⟩
theorem wk_tup {a : Addr} {ds : List D} {vs : List V} (z : ds.length ≤ sizeLine) (s : ∀ l H', Kq ρ H l H' → SqT K H' a vs ∧ RVs K ((ρ.nw H).to l) H' ds vs) : Wk K ρ H ds (Itt K a) where
  sz := z
  go := fun l H' i d k e => by
    obtain ⟨sq, t⟩ := s l H' k
    obtain ⟨v, e1, _⟩ := t.get e
    exact ⟨vs, v, sq, e1⟩
  stop := fun l H' k => by
    obtain ⟨sq, t⟩ := s l H' k
    exact ⟨vs, sq, by rw [t.len]; exact Nat.le_refl _⟩
  yld := fun l H' i d x H2 k e y => by
    obtain ⟨rfl, y⟩ := y
    obtain ⟨sq, t⟩ := s l _ k
    obtain ⟨v, e1, r⟩ := t.get e
    have e2 := y vs sq
    rw [e1] at e2; cases e2
    exact ⟨.inl rfl, r⟩
theorem wk_lst {a : Addr} {ds : List D} {vs : List V} (z : ds.length ≤ sizeLine) (s : ∀ l H', Kq ρ H l H' → SqL K H' a vs ∧ RVs K ((ρ.nw H).to l) H' ds vs) : Wk K ρ H ds (Itl K a) where
  sz := z
  go := fun l H' i d k e => by
    obtain ⟨sq, t⟩ := s l H' k
    obtain ⟨v, e1, _⟩ := t.get e
    exact ⟨vs, v, sq, e1⟩
  stop := fun l H' k => by
    obtain ⟨sq, t⟩ := s l H' k
    exact ⟨vs, sq, by rw [t.len]; exact Nat.le_refl _⟩
  yld := fun l H' i d x H2 k e y => by
    obtain ⟨rfl, y⟩ := y
    obtain ⟨sq, t⟩ := s l _ k
    obtain ⟨v, e1, r⟩ := t.get e
    have e2 := y vs sq
    rw [e1] at e2; cases e2
    exact ⟨.inl rfl, r⟩
theorem wk_str {x : Str} (z : x.length ≤ sizeLine) : Wk K ρ H (x.cps.toList.map fun c => .str ⟨#[c]⟩) (L2.Its x) where
  sz := by simpa [Str.length] using z
  go := fun l H' i d k e => by
    show i < x.cps.size
    have := (List.getElem?_eq_some_iff.mp e).1
    simpa using this
  stop := fun l H' k => by
    show x.cps.size ≤ _
    simp
  yld := fun l H' i d y H2 k e z => by
    obtain ⟨rfl, c, e1, rfl⟩ := z
    simp only [List.getElem?_map, Option.map_eq_some_iff] at e
    obtain ⟨c', e2, rfl⟩ := e
    rw [Array.getElem?_toList, e1] at e2
    cases e2
    exact ⟨.inl rfl, .mkStr _⟩
theorem wk_rng {lo : Int} {n : Nat} (hz : n ≤ sizeLine) : Wk K ρ H ((List.range n).map fun i => .int (lo + (i : Nat))) (Itr lo n) where
  sz := by simpa using hz
  go := fun l H' i d k e => by
    show i < n
    have := (List.getElem?_eq_some_iff.mp e).1
    simpa using this
  stop := fun l H' k => by
    show n ≤ _
    simp
  yld := fun l H' i d y H2 k e z => by
    obtain ⟨rfl, rfl⟩ := z
    have hi : i < n := by
      have := (List.getElem?_eq_some_iff.mp e).1
      simpa using this
    have e1 : ((List.range n).map fun i => D.int (lo + ((i : Nat) : Int)))[i]? = some (.int (lo + ((i : Nat) : Int))) := by
      rw [List.getElem?_map, List.getElem?_range hi]; rfl
    have e2 := e1.symm.trans e
    cases e2
    exact ⟨.inl rfl, .mkInt _⟩
theorem wk_rngC {lo c : Int} {n : Nat} (hz : n ≤ sizeLine) : Wk K ρ H ((List.range n).map fun i => .int (lo + (i : Nat) * c)) (Itc lo c n) where
  sz := by simpa using hz
  go := fun l H' i d k e => by
    show i < n
    have := (List.getElem?_eq_some_iff.mp e).1
    simpa using this
  stop := fun l H' k => by
    show n ≤ _
    simp
  yld := fun l H' i d y H2 k e z => by
    obtain ⟨rfl, rfl⟩ := z
    have hi : i < n := by
      have := (List.getElem?_eq_some_iff.mp e).1
      simpa using this
    have e1 : ((List.range n).map fun i => D.int (lo + ((i : Nat) : Int) * c))[i]? = some (.int (lo + ((i : Nat) : Int) * c)) := by
      rw [List.getElem?_map, List.getElem?_range hi]; rfl
    have e2 := e1.symm.trans e
    cases e2
    exact ⟨.inl rfl, .mkInt _⟩
theorem pi_val {X : Cx} {tg e : Expr} {xs : List Nat} {fa : Env → Sto → Out D} (he : PE X e (TF (kw X) mg W xs fa)) : PI X tg e (TFi (kw X) mg W xs fun ε S => (fa ε S).bind fun d S1 => .of S1 ((iterV d).map fun its => (its, d.still))) := by
  refine PI.imp (pi_or (pi_list he) (pi_or (pi_tup he) (pi_str he))) fun σ H R q => ?_
  obtain ⟨ρ, ε, S, hs, hp, q⟩ := q
  dsimp only at q
  have hp2 := hs.rp hp xs
  cases h : fa ε S with
  | bad => rw [h] at q; exact q.elim
  | exc c x S1 => rw [h] at q; exact .inl ⟨ρ, ε, S, hs, hp, by rw [h]; exact q⟩
  | ok d S1 =>
    rw [h, Out.bind_ok] at q
    obtain ⟨dp, e0, q⟩ := q.ofH
    obtain ⟨ds, e, rfl⟩ := Option.map_eq_some_iff.mp e0
    by_cases hl : (lstOf d).isSome = true
    · obtain ⟨ds', e'⟩ := Option.isSome_iff_exists.mp hl
      have : ds' = ds := by cases d <;> simp_all [lstOf, iterV, seqOf]
      subst this
      refine .inl ⟨ρ, ε, S, hs, hp, ?_⟩
      rw [h]
      intro l v H1 sx rp r
      obtain ⟨a, vs, rfl, z, sq, s⟩ := lst_keep r e'
      refine ⟨a, rfl, ⟨vs, sq⟩, q l _ H1 sx rp ⟨wk_lst z s, fun st n => ?_⟩⟩
      obtain ⟨a2, vs2, e2, z2, _, s2⟩ := lst_keep (RV.still (n := n) _ _ st r) e'
      cases e2
      exact wk_lst z2 s2
    · cases d with
      | tup ds' =>
        cases e
        refine .inr (.inl ⟨ρ, ε, S, hs, hp, ?_⟩)
        rw [h]
        intro l v H1 sx rp r
        obtain ⟨a, vs, rfl, z, sq, s⟩ := tup_keep r
        refine ⟨a, rfl, ⟨vs, sq⟩, q l _ H1 sx rp ⟨wk_tup z s, fun st n => ?_⟩⟩
        obtain ⟨a2, vs2, e2, z2, _, s2⟩ := tup_keep (RV.still (n := n) _ _ st r)
        cases e2
        exact wk_tup z2 s2
      | str x =>
        simp only [iterV] at e
        split at e
        · rename_i z
          cases e
          refine .inr (.inr ⟨ρ, ε, S, hs, hp, ?_⟩)
          rw [h]
          intro l v H1 sx rp r
          exact ⟨x, r.str, q l _ H1 sx rp ⟨wk_str z, fun _ n => wk_str z⟩⟩
        · cases e
      | lst _ => simp [lstOf] at hl
      | rol _ => simp [lstOf] at hl
      | _ => simp [iterV, seqOf] at e
def iterR (ds : List D) : Option (List D) :=
  match ds with
  | [.int j] => if -(2 ^ 62) ≤ j ∧ j < 2 ^ 62 ∧ j.toNat ≤ sizeLine then some ((List.range j.toNat).map fun i => .int ((0 : Int) + (i : Nat))) else none
  | [.int i, .int j] => if -(2 ^ 62) ≤ i ∧ i < 2 ^ 62 ∧ -(2 ^ 62) ≤ j ∧ j < 2 ^ 62 ∧ (j - i).toNat ≤ sizeLine then some ((List.range (j - i).toNat).map fun k => .int (i + (k : Nat))) else none
  | [.int i, .int j, .int c] => if c ≠ 0 ∧ c.natAbs < 1073741824 ∧ Builtin.Range.small i j c = true ∧ 0 ≤ Builtin.Range.rangeSize i j c ∧ (Builtin.Range.rangeSize i j c).toNat ≤ sizeLine then some ((List.range (Builtin.Range.rangeSize i j c).toNat).map fun k => .int (i + (k : Nat) * c)) else none
  | _ => none
theorem rng_case {xs : List Nat} {fa : Env → Sto → Out (List D)} {σ : L2.St} {R : It → Hp → Prop} {Q1 : List V → Hp → Prop} (n : Nat) (h1 : ∀ ε S ds S1, fa ε S = .ok ds S1 → ds.length = n)
    (q : TFi K mg W xs (fun ε S => (fa ε S).bind fun d S1 => .of S1 ((iterR d).map fun its => (its, true))) σ H R)
    (step : ∀ ρ S1 ds vs its H1, Rp ρ S1 H1 → ds.length = n → iterR ds = some its → RVs K ρ H1 ds vs → (∀ J, (∀ n, Wk K (ρ.w n) H1 its J) → R J H1) → Q1 vs H1) : TFs K mg W xs fa σ H Q1 := by
  obtain ⟨ρ, ε, S, hs, hp, q⟩ := q
  refine ⟨ρ, ε, S, hs, hp, ?_⟩
  dsimp only at q
  cases h : fa ε S with
  | bad => rw [h] at q; exact q.elim
  | exc c x S1 => rw [h] at q; exact q
  | ok ds S1 =>
    rw [h, Out.bind_ok] at q
    obtain ⟨dp, e0, q⟩ := q.ofH
    obtain ⟨its, e, rfl⟩ := Option.map_eq_some_iff.mp e0
    intro l vs H1 sx rp r
    exact step _ S1 ds vs its H1 rp (h1 _ _ _ _ h) e r fun J w => q l J H1 sx rp ⟨w _, fun _ n => w n⟩
theorem pi_rng1 {X : Cx} {tg a : Expr} {p pos : Pos} {xs : List Nat} {fa : Env → Sto → Out (List D)} (hg : Gl X "range") (hm : X.mg "range" = none) (ha : PA X [a] (TFs (kw X) mg W xs fa)) (hs : starEach [a] X.env = [(false, eval a X.env)])
    (h1 : ∀ ε S ds S1, fa ε S = .ok ds S1 → ds.length = 1) : PI X tg (.Call (.Name "range" p) [a] [] pos) (TFi (kw X) mg W xs fun ε S => (fa ε S).bind fun d S1 => .of S1 ((iterR d).map fun its => (its, true))) := by
  refine PI.imp (pi_range1 hg hm ha hs) fun σ H R q => rng_case 1 h1 q fun ρ S1 ds vs its H1 rp hl e r w => ?_
  match ds, hl, e, r with
  | [x], _, e, r =>
    obtain ⟨v, rfl, rv⟩ := r.one'
    cases x with
    | int j =>
      simp only [iterR] at e
      split at e
      · rename_i z; cases e; rw [rv.int]; exact ⟨_, rfl, z.1, z.2.1, w _ fun _ => wk_rng z.2.2⟩
      · cases e
    | _ => simp [iterR] at e
theorem pi_rng2 {X : Cx} {tg a b : Expr} {p pos : Pos} {xs : List Nat} {fa : Env → Sto → Out (List D)} (hg : Gl X "range") (hm : X.mg "range" = none) (ha : PA X [a, b] (TFs (kw X) mg W xs fa)) (hs : starEach [a, b] X.env = [(false, eval a X.env), (false, eval b X.env)])
    (hs2 : starEach [b] X.env = [(false, eval b X.env)]) (h1 : ∀ ε S ds S1, fa ε S = .ok ds S1 → ds.length = 2) : PI X tg (.Call (.Name "range" p) [a, b] [] pos) (TFi (kw X) mg W xs fun ε S => (fa ε S).bind fun d S1 => .of S1 ((iterR d).map fun its => (its, true))) := by
  refine PI.imp (pi_range2 hg hm ha hs hs2) fun σ H R q => rng_case 2 h1 q fun ρ S1 ds vs its H1 rp hl e r w => ?_
  match ds, hl, e, r with
  | [x, y], _, e, r =>
    obtain ⟨v, v2, rfl, rv, rv2⟩ := r.two'
    cases x with
    | int i =>
      cases y with
      | int j =>
        simp only [iterR] at e
        split at e
        · rename_i z; cases e; rw [rv.int, rv2.int]; exact ⟨_, _, rfl, ⟨z.1, z.2.1, z.2.2.1, z.2.2.2.1⟩, w _ fun _ => wk_rng z.2.2.2.2⟩
        · cases e
      | _ => simp [iterR] at e
    | _ => simp [iterR] at e
theorem pi_rng3 {X : Cx} {tg a b c : Expr} {p pos : Pos} {xs : List Nat} {fa : Env → Sto → Out (List D)} (hg : Gl X "range") (hm : X.mg "range" = none) (ha : PA X [a, b, c] (TFs (kw X) mg W xs fa)) (hs : starEach [a, b, c] X.env = (false, eval a X.env) :: starEach [b, c] X.env)
    (hs2 : (backTo pos (starEach [b, c] X.env)).any (·.1) = false) (h1 : ∀ ε S ds S1, fa ε S = .ok ds S1 → ds.length = 3) : PI X tg (.Call (.Name "range" p) [a, b, c] [] pos) (TFi (kw X) mg W xs fun ε S => (fa ε S).bind fun d S1 => .of S1 ((iterR d).map fun its => (its, true))) := by
  refine PI.imp (pi_range3 hg hm ha hs hs2) fun σ H R q => rng_case 3 h1 q fun ρ S1 ds vs its H1 rp hl e r w => ?_
  match ds, hl, e, r with
  | [x, y, y2], _, e, r =>
    obtain ⟨v, vr, rfl, rv, rr⟩ := r.uncons
    obtain ⟨v2, v3, rfl, rv2, rv3⟩ := rr.two'
    cases x with
    | int i =>
      cases y with
      | int j =>
        cases y2 with
        | int k =>
          simp only [iterR] at e
          split at e
          · rename_i z; cases e; rw [rv.int, rv2.int, rv3.int]; exact ⟨_, _, _, _, rfl, ⟨z.1, z.2.1, z.2.2.1, (Int.toNat_of_nonneg z.2.2.2.1).symm⟩, w _ fun _ => wk_rngC z.2.2.2.2⟩
          · cases e
        | _ => simp [iterR] at e
      | _ => simp [iterR] at e
    | _ => simp [iterR] at e
end
def pairUp : Nat → List D → List D
  | _, [] => []
  | n, d :: r => .tup [.int (n : Nat), d] :: pairUp (n + 1) r
def zipUp : List D → List D → List D
  | a :: r, b :: t => .tup [a, b] :: zipUp r t
  | _, _ => []
/-- enumerate -/
def iterN (d : D) : Option (List D) := (seqOf d).map (pairUp 0)
/-- zip of two lists or two tuples -/
def iterZ (d d' : D) : Option (List D) :=
  match d, d' with
  | .tup xs, .tup ys => some (zipUp xs ys)
  | d, d' => match lstOf d, lstOf d' with
    | some xs, some ys => some (zipUp xs ys)
    | _, _ => none
def isTup : Expr → Bool
  | .Tuple _ _ _ => true
  | _ => false
def noStar : Expr → Bool
  | .Starred _ _ => false
  | _ => true
theorem star_cons {e : Expr} {es : List Expr} {env : PySem.Env} (h : noStar e = true) : starEach (e :: es) env = (false, eval e env) :: starEach es env := by
  cases e <;> first | rfl | (simp [noStar] at h)
theorem pairUp_get : ∀ (ds : List D) (n i : Nat) (d : D), (pairUp n ds)[i]? = some d → ∃ x, ds[i]? = some x ∧ d = .tup [.int ((n + i : Nat) : Int), x]
  | [], n, i, d, e => by simp [pairUp] at e
  | a :: r, n, 0, d, e => by simp [pairUp] at e; exact ⟨a, rfl, by rw [← e]; rfl⟩
  | a :: r, n, i + 1, d, e => by
    simp only [pairUp, List.getElem?_cons_succ] at e
    obtain ⟨x, e1, e2⟩ := pairUp_get r (n + 1) i d e
    exact ⟨x, by simpa using e1, by rw [e2]; congr 3; omega⟩
theorem pairUp_len : ∀ (ds : List D) (n : Nat), (pairUp n ds).length = ds.length
  | [], n => rfl
  | a :: r, n => by simp [pairUp, pairUp_len r]
theorem zipUp_get : ∀ (xs ys : List D) (i : Nat) (d : D), (zipUp xs ys)[i]? = some d → ∃ x y, xs[i]? = some x ∧ ys[i]? = some y ∧ d = .tup [x, y]
  | [], ys, i, d, e => by simp [zipUp] at e
  | a :: r, [], i, d, e => by simp [zipUp] at e
  | a :: r, b :: t, 0, d, e => by simp [zipUp] at e; exact ⟨a, b, rfl, rfl, e.symm⟩
  | a :: r, b :: t, i + 1, d, e => by
    simp only [zipUp, List.getElem?_cons_succ] at e
    obtain ⟨x, y, e1, e2, e3⟩ := zipUp_get r t i d e
    exact ⟨x, y, by simpa using e1, by simpa using e2, e3⟩
theorem zipUp_len : ∀ (xs ys : List D), xs.length ≤ (zipUp xs ys).length ∨ ys.length ≤ (zipUp xs ys).length
  | [], ys => .inl (Nat.zero_le _)
  | a :: r, [] => .inr (Nat.zero_le _)
  | a :: r, b :: t => by
    simp only [zipUp, List.length_cons]
    rcases zipUp_len r t with h | h
    · exact .inl (by omega)
    · exact .inr (by omega)
/-! ## enumerate over a tuple -/
set_option maxHeartbeats 1000000 in
theorem meets_enum1 {v : Value} {ob : Obj} {B : Heap → Prop} (bg : Begins v ob B) :
    Meets (Builtin.«enumerate.__new__» ⟨[.type "enumerate", v], []⟩) (fun _ R s => B s.heap ∧
      R (.ok (.ret (.ref (s.heap.push ob).objs.size))) { s with heap := (s.heap.push ob).push { cls := .type "enumerate", data := .fields #[.none, .bool false, .ref s.heap.objs.size, rawInt 0, .none, .none] } }) :=
  .of_wp fun prog w A R s h => by
    obtain ⟨hp, g, d, tk, os⟩ := s; obtain ⟨h1, h⟩ := h; have hsub := sub_enumerate
    have q1 : ∀ {A' : Around} {E : Value → Shared → Prop} {Q : Value → Shared → Prop}, Q (.ref hp.objs.size) ⟨hp.push ob, g, d, tk, os⟩ → wpAny (model prog w) A' (pyIter v) Q E ⟨hp, g, d, tk, os⟩ := fun q => bg.iter prog w _ _ ⟨hp, g, d, tk, os⟩ _ h1 q
    wp_walk using q1
    refine wpAny_stack_any fun st => wpAny_pure ?_
    split
    · rename_i c _ _ _ _ _
      cases (c == Value.type "enumerate") <;> (wp_walk using q1; exact ⟨_, rfl, h⟩)
    · wp_walk using q1; exact ⟨_, rfl, h⟩
section
variable {prog : Program} {w : World} {A : Around} {E : Value → Shared → Prop} {s : Shared}
theorem call_enum1 {v : Value} {ob : Obj} {B : Heap → Prop} {Q : Value → Shared → Prop} (bg : Begins v ob B) (hb : B s.heap)
    (h : ∀ h', IsEnum h' (s.heap.objs.size + 1) s.heap.objs.size 0 .none → h'.get? s.heap.objs.size = some ob → (∀ b o, s.heap.get? b = some o → h'.get? b = some o) → Q (.ref (s.heap.objs.size + 1)) { s with heap := h' }) :
    wpAny (model prog w) A (call (.type "enumerate") [v]) Q E s := by
  refine callType_new F.called_enumerate (by decide) (F.typeCall_enumerate_1 _) (F.newCall_enumerate_1 _) (fun obj => F.args_object_init_2 obj _) F.entry_enumerate_new (meets_enum1 bg) ⟨hb, ?_⟩
  have sz : (s.heap.push ob).objs.size = s.heap.objs.size + 1 := Heap.size_push ..
  show _ ∧ _
  rw [sz]
  have en : IsEnum ((s.heap.push ob).push { cls := .type "enumerate", data := .fields #[.none, .bool false, .ref s.heap.objs.size, rawInt 0, .none, .none] }) (s.heap.objs.size + 1) s.heap.objs.size 0 .none := by
    have z := Heap.get?_push_size (s.heap.push ob) (o := { cls := .type "enumerate", data := .fields #[.none, .bool false, .ref s.heap.objs.size, rawInt 0, .none, .none] }) rfl
    rw [sz] at z; exact z
  exact ⟨⟨_, en, rfl⟩, h _ en (Heap.get?_push_of_some _ (Heap.get?_push_size _ bg.free)) fun b o x => Heap.get?_push_of_some _ (Heap.get?_push_of_some _ x)⟩
end
/-- the tuple at a, its items in new pairs -/
def IteT (K : PySem.W.Frag) (a : Addr) : It :=
  ⟨fun i H => ∃ (xs : List V) (x : V), SqT K H a xs ∧ xs[i]? = some x, fun i H v H' => ∃ T x, v = .ref T ∧ H T = none ∧ H' = upd H T (.tup [.int (i : Nat), x]) ∧ ∀ xs, SqT K H a xs → xs[i]? = some x, fun i H => ∃ xs : List V, SqT K H a xs ∧ i = xs.length⟩
theorem turn_enumT {P : Program} {w : World} {K : PySem.W.Frag} {elts : List Expr} {kk : Nat} {tpos : Pos} (a e it : Addr) :
    Turn P w K (.Tuple elts kk tpos) (IteT K a) [e, it] e (fun i h => (∃ old, IsEnum h e it ((i : Nat) : Int) old) ∧ h.IsTupleIter it a i ∧ e ≠ it) where
  mem := by simp
  obj := fun i h st b hb => by
    obtain ⟨⟨old, he⟩, ⟨o, ho, hc, hd⟩, _⟩ := st
    rcases (show b = e ∨ b = it by simpa using hb) with z | z <;> rw [z]
    · exact ⟨_, he, fun v q => nomatch q⟩
    · exact ⟨o, ho, fun v q => by rw [hd] at q; cases q⟩
  keep := fun i h h' st k => let ⟨⟨old, he⟩, hi, hne⟩ := st; ⟨⟨old, k e (by simp) _ he⟩, hi.at fun o q => k it (by simp) o q, hne⟩
  item := by
    intro X hP hw hK hc i pins s σ H E I hf st hg
    subst hP hw hK
    obtain ⟨⟨old, he⟩, hit, hne⟩ := st
    obtain ⟨xs, x, hq, hx⟩ := hg
    obtain ⟨its, rv, p, hz⟩ := I.tuple hq
    obtain ⟨u, hu, ru⟩ := rv.get hx
    have hel : e < s.heap.objs.size := Heap.lt_size he
    have hil : it < s.heap.objs.size := by obtain ⟨_, q, _⟩ := hit; exact Heap.lt_size q
    have p2 : s.heap.IsTuple a its.toArray := p
    have ne1 : a ≠ it := fun z => by
      obtain ⟨o, e1, c1, _⟩ := hit
      obtain ⟨o', e2, c2, _⟩ := p2
      rw [z, e1] at e2; cases e2; rw [c1] at c2; simp at c2
    have ne2 : e ≠ a := fun z => by
      obtain ⟨o', e2, c2, _⟩ := p2
      have he' := he
      unfold IsEnum at he'
      rw [z, e2] at he'; cases he'; simp at c2
    have lt : i < its.toArray.size := by rw [List.size_toArray]; exact (List.getElem?_eq_some_iff.mp hu).1
    refine wpAny_pyNext_enum_itemD (Draws.tuple (prog := X.prog) (w := X.w) (A := X.A.in1) (I.ok.hd hc) it a ne1 its.toArray) he ⟨hit, p2⟩ lt hne (by simp [hne, ne2]) fun y h' tk hy ho st' hT hsz hk => ?_
    have ey : y = u := by
      have hy2 : its.toArray[i]? = some y := hy
      rw [List.getElem?_toArray, hu] at hy2; cases hy2; rfl
    subst ey
    refine ⟨_, rfl, wpAny_letOwnedTupleGo_enum (s := { s with heap := h', toks := tk + 1 }) ho fun h'' he' sb => ?_⟩
    have hT2 : h''.get? s.heap.objs.size = some { cls := .type "tuple", data := .seq #[.int i tk, y] } := (sb.2 _ (Nat.ne_of_gt hel)).trans hT
    have new : ObjOk X.prog X.w (upd H s.heap.objs.size (.tup [.int (i : Nat), x])) h'' s.heap.objs.size (.tup [.int (i : Nat), x]) :=
      ⟨by show 2 ≤ sizeLine; decide, [.int i tk, y], .cons ⟨_, rfl⟩ (.cons ru .nil), ⟨_, hT2, rfl, _, rfl⟩⟩
    have I1 : Inv X pins σ (upd H s.heap.objs.size (.tup [.int (i : Nat), x])) { s with heap := h'', toks := tk + 1 } :=
      I.turnedNew (ch := [e, it]) (fun b ob hb q => (sb.2 b (fun z => hb (by simp [z]))).trans (hk b ob (fun z => hb (by simp [z])) (fun z => hb (by simp [z])) q)) hf (Nat.le_refl _) new
    refine ⟨.ref s.heap.objs.size, _, I1, rfl, ⟨_, x, rfl, I.hok.fresh (Nat.le_refl _), rfl, fun ys hy => by rw [I.tuple_inj hy hq]; exact hx⟩, ⟨⟨y, ?_⟩, st'.1.at fun o q => (sb.2 it (Ne.symm hne)).trans q, hne⟩, fun b hb => ?_⟩
    · rw [show ((i + 1 : Nat) : Int) = (i : Int) + 1 by omega]; exact he'
    · have hb' : b < s.heap.objs.size := by
        rcases (show b = e ∨ b = it by simpa using hb) with z | z <;> rw [z]
        · exact hel
        · exact hil
      rw [upd_ne (Nat.ne_of_lt hb')]
      exact (hf b hb).1
  done := by
    intro X hP hw hK hc i pins s σ H E I hf st hg
    subst hP hw hK
    obtain ⟨⟨old, he⟩, hit, hne⟩ := st
    obtain ⟨xs, hq, hx⟩ := hg
    obtain ⟨its, rv, p, hz⟩ := I.tuple hq
    obtain ⟨f0, f1, f2, f3, f4, f5⟩ := hf it (by simp)
    have hl := rv.length
    have p2 : s.heap.IsTuple a its.toArray := p
    have ne1 : a ≠ it := fun z => by
      obtain ⟨o, e1, c1, _⟩ := hit
      obtain ⟨o', e2, c2, _⟩ := p2
      rw [z, e1] at e2; cases e2; rw [c1] at c2; simp at c2
    have hi : i = its.toArray.size := by rw [List.size_toArray]; omega
    rw [hi] at hit
    exact wpAny_pyNext_enum_endD (Draws.tuple (prog := X.prog) (w := X.w) (A := X.A.in1) (I.ok.hd hc) it a ne1 its.toArray) he ⟨hit, p2⟩ fun h' eb => ⟨rfl, I.turned (t' := s.toks) (fun b o hb q => eb b o hb q) f0 f1 f3 f4 f5⟩
  self := fun A i s Q E st h => let ⟨⟨_, he⟩, _⟩ := st; wpAny_pyIter_enum he h
def iEnumA (K : PySem.W.Frag) (ta : TA) : TI := fun σ H R => ta σ H fun vs H1 => ∃ a xs, vs = [.ref a] ∧ ((SqL K H1 a xs ∧ R (Ite K a) H1) ∨ (SqT K H1 a xs ∧ R (IteT K a) H1))
theorem pi_enumA {X : Cx} {e : Expr} {ta : TA} {p pos tpos : Pos} {elts : List Expr} {kk : Nat} (hg : Gl X "enumerate") (hm : X.mg "enumerate" = none) (ha : PA X [e] ta) (hs : starEach [e] X.env = [(false, eval e X.env)] := by rfl) :
    PI X (.Tuple elts kk tpos) (.Call (.Name "enumerate" p) [e] [] pos) (iEnumA X.K ta) := by
  refine ⟨fun pins s σ H R I h => ?_⟩
  refine Call_ (ld_blt I hg hm boot_enumerate (PyProof.Rows.callWith_type1 (thn (ha.run pos pins s σ H _ I h) fun us s1 ⟨vs, H1, I1, r1, q1⟩ => ?_) hs rfl))
  obtain ⟨a, xs, ex, q⟩ := q1
  subst ex
  cases r1 with
  | cons r rr =>
    cases rr
    cases r
    have far : ∀ b ∈ [s1.heap.objs.size + 1, s1.heap.objs.size], FpOk X pins H1 b := fun b hb => by
      have hle : s1.heap.objs.size ≤ b := by
        rcases (show b = s1.heap.objs.size + 1 ∨ b = s1.heap.objs.size by simpa using hb) with z | z <;> rw [z]
        · exact Nat.le_add_right _ _
        · exact Nat.le_refl _
      exact I1.fpOk hle (I1.hok.fresh hle)
    rcases q with ⟨hq, q⟩ | ⟨hq, q⟩
    · obtain ⟨its, rv, p', hz⟩ := I1.list hq
      refine call_enum1 (begins_list a its.toArray) p'.isList fun h' he hit hk => wpAny_pyIter_enum he ?_
      exact ⟨s1.heap.objs.size + 1, _, _, _, H1, rfl, I1.kept (t' := s1.toks) hk, turn_enum a (s1.heap.objs.size + 1) s1.heap.objs.size, ⟨⟨.none, he⟩, ⟨_, hit, rfl, rfl⟩, Nat.succ_ne_self _⟩, far, q⟩
    · obtain ⟨its, rv, p', hz⟩ := I1.tuple hq
      refine call_enum1 (begins_tuple a its.toArray) p' fun h' he hit hk => wpAny_pyIter_enum he ?_
      exact ⟨s1.heap.objs.size + 1, _, _, _, H1, rfl, I1.kept (t' := s1.toks) hk, turn_enumT a (s1.heap.objs.size + 1) s1.heap.objs.size, ⟨⟨.none, he⟩, ⟨_, hit, rfl, rfl⟩, Nat.succ_ne_self _⟩, far, q⟩
theorem zipUp_le (xs ys : List D) : (zipUp xs ys).length ≤ xs.length := by
  induction xs generalizing ys with
  | nil => simp [zipUp]
  | cons a r ih =>
    cases ys with
    | nil => simp [zipUp]
    | cons b t => simpa [zipUp] using ih t
section
variable {K : KW} {mg : Str → Option Value} {W : WX} {ρ : Fx} {H : Hp}
theorem two_le : (2 : Nat) ≤ sizeLine := by decide
theorem mk_pair {l : List Addr} {H' : Hp} {T : Addr} {d1 d2 : D} {x y : V} (hT : H' T = none) (r1 : RV K (ρ.to l) H' d1 x) (r2 : RV K (ρ.to l) H' d2 y) : RV K (ρ.to l) (upd H' T (.tup [x, y])) (.tup [d1, d2]) (.ref T) :=
  .mkTup two_le (.inl (.inl upd_same)) (.cons (RV.gen (ρ := ρ.to l) (Kq.fresh hT) _ _ r1) (.one (RV.gen (ρ := ρ.to l) (Kq.fresh hT) _ _ r2)))
theorem wk_enum {a : Addr} {ds : List D} {vs : List V} (z : ds.length ≤ sizeLine) (s : ∀ l H', Kq ρ H l H' → SqL K H' a vs ∧ RVs K ((ρ.nw H).to l) H' ds vs) : Wk K ρ H (pairUp 0 ds) (Ite K a) where
  sz := by rw [pairUp_len]; exact z
  go := fun l H' i d k e => by
    obtain ⟨sq, t⟩ := s l H' k
    obtain ⟨x, e1, _⟩ := pairUp_get ds 0 i d e
    obtain ⟨v, e2, _⟩ := t.get e1
    exact ⟨vs, v, sq, e2⟩
  stop := fun l H' k => by
    obtain ⟨sq, t⟩ := s l H' k
    exact ⟨vs, sq, by rw [pairUp_len, t.len]; exact Nat.le_refl _⟩
  yld := fun l H' i d x H2 k e y => by
    obtain ⟨T, z, rfl, hT, rfl, y⟩ := y
    obtain ⟨sq, t⟩ := s l H' k
    obtain ⟨x, e1, rfl⟩ := pairUp_get ds 0 i d e
    obtain ⟨v, e2, r⟩ := t.get e1
    have e3 := y vs sq
    rw [e2] at e3; cases e3
    refine ⟨.inr ⟨T, _, hT, rfl⟩, mk_pair (ρ := ρ.nw H) hT ?_ r⟩
    rw [Nat.zero_add]
    exact .mkInt _
theorem wk_enumT {a : Addr} {ds : List D} {vs : List V} (z : ds.length ≤ sizeLine) (s : ∀ l H', Kq ρ H l H' → SqT K H' a vs ∧ RVs K ((ρ.nw H).to l) H' ds vs) : Wk K ρ H (pairUp 0 ds) (IteT K a) where
  sz := by rw [pairUp_len]; exact z
  go := fun l H' i d k e => by
    obtain ⟨sq, t⟩ := s l H' k
    obtain ⟨x, e1, _⟩ := pairUp_get ds 0 i d e
    obtain ⟨v, e2, _⟩ := t.get e1
    exact ⟨vs, v, sq, e2⟩
  stop := fun l H' k => by
    obtain ⟨sq, t⟩ := s l H' k
    exact ⟨vs, sq, by rw [pairUp_len, t.len]⟩
  yld := fun l H' i d x H2 k e y => by
    obtain ⟨T, z, rfl, hT, rfl, y⟩ := y
    obtain ⟨sq, t⟩ := s l H' k
    obtain ⟨x, e1, rfl⟩ := pairUp_get ds 0 i d e
    obtain ⟨v, e2, r⟩ := t.get e1
    have e3 := y vs sq
    rw [e2] at e3; cases e3
    refine ⟨.inr ⟨T, _, hT, rfl⟩, mk_pair (ρ := ρ.nw H) hT ?_ r⟩
    rw [Nat.zero_add]
    exact .mkInt _
theorem pi_enumG {X : Cx} {e t : Expr} {p pos : Pos} {xs : List Nat} {fa : Env → Sto → Out D} (ht : isTup t = true) (hg : Gl X "enumerate") (hm : X.mg "enumerate" = none) (ha : PE X e (TF (kw X) mg W xs fa)) (hs : noStar e = true) :
    PI X t (.Call (.Name "enumerate" p) [e] [] pos) (TFi (kw X) mg W xs fun ε S => (fa ε S).bind fun d S1 => .of S1 ((iterN d).map fun its => (its, d.still))) := by
  cases t with
  | Tuple es kk tp =>
    have s1 : starEach [e] X.env = [(false, eval e X.env)] := star_cons hs
    refine PI.imp (pi_enumA hg hm (pa_cons ha pa_nil s1) s1) fun σ H R q => ?_
    obtain ⟨ρ, ε, S, hs, hp, q⟩ := q
    refine TG0.go2 (xs := xs) (fun i m => m) hs hp q fun l v H1 d S1 s hs1 rp1 r q1 => ?_
    obtain ⟨dp, e0, q2⟩ := q1.ofH
    obtain ⟨its, e1, rfl⟩ := Option.map_eq_some_iff.mp e0
    simp only [iterN, Option.map_eq_some_iff] at e1
    obtain ⟨ds, e, rfl⟩ := e1
    have rp2 := hs1.rp rp1 xs
    cases d with
    | tup ds' =>
      cases e
      obtain ⟨a, vs, rfl, z, sq, s⟩ := tup_keep r
      refine ⟨a, vs, rfl, .inr ⟨sq, q2.here rp2 ⟨wk_enumT z s, fun st n => ?_⟩⟩⟩
      obtain ⟨a2, vs2, e2, z2, _, s2⟩ := tup_keep (RV.still (n := n) _ _ st r)
      cases e2
      exact wk_enumT z2 s2
    | lst ds' =>
      obtain ⟨a, vs, rfl, z, sq, s⟩ := lst_keep r e
      refine ⟨a, vs, rfl, .inl ⟨sq, q2.here rp2 ⟨wk_enum z s, fun st n => ?_⟩⟩⟩
      obtain ⟨a2, vs2, e2, z2, _, s2⟩ := lst_keep (RV.still (n := n) _ _ st r) e
      cases e2
      exact wk_enum z2 s2
    | rol ds' =>
      obtain ⟨a, vs, rfl, z, sq, s⟩ := lst_keep r e
      refine ⟨a, vs, rfl, .inl ⟨sq, q2.here rp2 ⟨wk_enum z s, fun st n => ?_⟩⟩⟩
      obtain ⟨a2, vs2, e2, z2, _, s2⟩ := lst_keep (RV.still (n := n) _ _ st r) e
      cases e2
      exact wk_enum z2 s2
    | _ => simp [seqOf] at e
  | _ => simp [isTup] at ht
theorem wk_zip {a b : Addr} {xs ys : List D} {vs ws : List V} (z : xs.length ≤ sizeLine) (s : ∀ l H', Kq ρ H l H' → SqL K H' a vs ∧ RVs K ((ρ.nw H).to l) H' xs vs) (s2 : ∀ l H', Kq ρ H l H' → SqL K H' b ws ∧ RVs K ((ρ.nw H).to l) H' ys ws) : Wk K ρ H (zipUp xs ys) (Itz K a b) where
  sz := Nat.le_trans (zipUp_le xs ys) z
  go := fun l H' i d k e => by
    obtain ⟨sq, t⟩ := s l H' k
    obtain ⟨sq2, t2⟩ := s2 l H' k
    obtain ⟨x, y, e1, e2, _⟩ := zipUp_get xs ys i d e
    obtain ⟨v, e3, _⟩ := t.get e1
    obtain ⟨w, e4, _⟩ := t2.get e2
    exact ⟨vs, ws, v, w, sq, sq2, e3, e4⟩
  stop := fun l H' k => by
    obtain ⟨sq, t⟩ := s l H' k
    obtain ⟨sq2, t2⟩ := s2 l H' k
    refine ⟨vs, ws, sq, sq2, ?_⟩
    rw [← t.len, ← t2.len]
    exact zipUp_len xs ys
  yld := fun l H' i d x H2 k e y => by
    obtain ⟨T, z, z2, rfl, hT, rfl, y, y2⟩ := y
    obtain ⟨sq, t⟩ := s l H' k
    obtain ⟨sq2, t2⟩ := s2 l H' k
    obtain ⟨x, y', e1, e2, rfl⟩ := zipUp_get xs ys i d e
    obtain ⟨v, e3, r⟩ := t.get e1
    obtain ⟨w, e4, r2⟩ := t2.get e2
    have e5 := y vs sq
    rw [e3] at e5; cases e5
    have e6 := y2 ws sq2
    rw [e4] at e6; cases e6
    exact ⟨.inr ⟨T, _, hT, rfl⟩, mk_pair (ρ := ρ.nw H) hT r r2⟩
theorem wk_zipT {a b : Addr} {xs ys : List D} {vs ws : List V} (z : xs.length ≤ sizeLine) (s : ∀ l H', Kq ρ H l H' → SqT K H' a vs ∧ RVs K ((ρ.nw H).to l) H' xs vs) (s2 : ∀ l H', Kq ρ H l H' → SqT K H' b ws ∧ RVs K ((ρ.nw H).to l) H' ys ws) : Wk K ρ H (zipUp xs ys) (RZ.ItzT K a b) where
  sz := Nat.le_trans (zipUp_le xs ys) z
  go := fun l H' i d k e => by
    obtain ⟨sq, t⟩ := s l H' k
    obtain ⟨sq2, t2⟩ := s2 l H' k
    obtain ⟨x, y, e1, e2, _⟩ := zipUp_get xs ys i d e
    obtain ⟨v, e3, _⟩ := t.get e1
    obtain ⟨w, e4, _⟩ := t2.get e2
    exact ⟨vs, ws, v, w, sq, sq2, e3, e4⟩
  stop := fun l H' k => by
    obtain ⟨sq, t⟩ := s l H' k
    obtain ⟨sq2, t2⟩ := s2 l H' k
    refine ⟨vs, ws, sq, sq2, ?_⟩
    rw [← t.len, ← t2.len]
    exact zipUp_len xs ys
  yld := fun l H' i d x H2 k e y => by
    obtain ⟨T, z, z2, rfl, hT, rfl, y, y2⟩ := y
    obtain ⟨sq, t⟩ := s l H' k
    obtain ⟨sq2, t2⟩ := s2 l H' k
    obtain ⟨x, y', e1, e2, rfl⟩ := zipUp_get xs ys i d e
    obtain ⟨v, e3, r⟩ := t.get e1
    obtain ⟨w, e4, r2⟩ := t2.get e2
    have e5 := y vs sq
    rw [e3] at e5; cases e5
    have e6 := y2 ws sq2
    rw [e4] at e6; cases e6
    exact ⟨.inr ⟨T, _, hT, rfl⟩, mk_pair (ρ := ρ.nw H) hT r r2⟩
theorem pi_zipG {X : Cx} {e e2 t : Expr} {p pos : Pos} {xa xb : List Nat} {fa fb : Env → Sto → Out D} (ht : isTup t = true) (hg : Gl X "zip") (hm : X.mg "zip" = none) (ha : PE X e (TF (kw X) mg W xa fa)) (hb : PE X e2 (TF (kw X) mg W xb fb)) (h1 : noStar e = true) (h2 : noStar e2 = true) :
    PI X t (.Call (.Name "zip" p) [e, e2] [] pos) (TFi (kw X) mg W (xa ++ xb) fun ε S => (fa ε S).bind fun d S1 => (fb ε S1).bind fun d' S2 => .of S2 ((iterZ d d').map fun its => (its, d.still && d'.still))) := by
  cases t with
  | Tuple es kk tp =>
    have s2 : starEach [e2] X.env = [(false, eval e2 X.env)] := star_cons h2
    have s1 : starEach [e, e2] X.env = (false, eval e X.env) :: starEach [e2] X.env := star_cons h1
    refine PI.imp (RZ.pi_zipA hg hm (pa_cons ha (pa_cons hb pa_nil s2) s1) s1 (by rw [s2]; rfl)) fun σ H R q => ?_
    obtain ⟨ρ, ε, S, hs, hp, q⟩ := q
    refine TG0.go2 (xs := xa ++ xb) (fun i m => List.mem_append_left _ m) hs hp q fun l v H1 d S1 s hs1 rp1 r q1 => ?_
    refine TG0.go2 (xs := xa ++ xb) (fun i m => List.mem_append_right _ m) hs1 rp1 q1 fun l2 v2 H2 d2 S2 sx2 hs2 rp2 r2 q2 => ?_
    have r' : RV (kw X) ((((ρ.to l).to l2)).plus (Av ε σ (xa ++ xb))) H2 d v := plus_anti (Av.anti (xs := xa) (ys := xa ++ xb) fun i m => List.mem_append_left _ m) (r.mono (hs1.rp rp1 _) sx2)
    have r2' := plus_anti (Av.anti (xs := xb) (ys := xa ++ xb) fun i m => List.mem_append_right _ m) r2
    obtain ⟨dp, e00, q3⟩ := q2.ofH
    obtain ⟨its, e0, rfl⟩ := Option.map_eq_some_iff.mp e00
    have rpx := hs2.rp rp2 (xa ++ xb)
    by_cases ht : ∃ xs ys, d = .tup xs ∧ d2 = .tup ys
    · obtain ⟨xs, ys, rfl, rfl⟩ := ht
      cases e0
      obtain ⟨a, vs, rfl, z, sq, s⟩ := tup_keep r'
      obtain ⟨b, ws, rfl, z2, sq2, s2⟩ := tup_keep r2'
      refine ⟨a, b, vs, ws, rfl, .inr ⟨sq, sq2, q3.here rpx ⟨wk_zipT z s s2, fun st n => ?_⟩⟩⟩
      rw [Bool.and_eq_true] at st
      obtain ⟨a2, vs2, e2, z2, _, s3⟩ := tup_keep (RV.still (n := n) _ _ st.1 r')
      obtain ⟨b2, ws2, e3, z3, _, s4⟩ := tup_keep (RV.still (n := n) _ _ st.2 r2')
      cases e2; cases e3
      exact wk_zipT z2 s3 s4
    · have e1 : ∃ xs ys, lstOf d = some xs ∧ lstOf d2 = some ys ∧ its = zipUp xs ys := by
        unfold iterZ at e0
        split at e0
        · exact absurd ⟨_, _, rfl, rfl⟩ ht
        · split at e0
          · rename_i xs ys e1 e2; cases e0; exact ⟨xs, ys, e1, e2, rfl⟩
          · cases e0
      obtain ⟨xs, ys, e1, e2, rfl⟩ := e1
      obtain ⟨a, vs, rfl, z, sq, s⟩ := lst_keep r' e1
      obtain ⟨b, ws, rfl, z2, sq2, s2⟩ := lst_keep r2' e2
      refine ⟨a, b, vs, ws, rfl, .inl ⟨sq, sq2, q3.here rpx ⟨wk_zip z s s2, fun st n => ?_⟩⟩⟩
      rw [Bool.and_eq_true] at st
      obtain ⟨a2, vs2, e3, z2, _, s3⟩ := lst_keep (RV.still (n := n) _ _ st.1 r') e1
      obtain ⟨b2, ws2, e4, z3, _, s4⟩ := lst_keep (RV.still (n := n) _ _ st.2 r2') e2
      cases e3; cases e4
      exact wk_zip z2 s3 s4
  | _ => simp [isTup] at ht
end
end GG
namespace GG
open PySem PySem.Spec PyProof.Rows L2
/-! ## the language -/
inductive Tg where
  | n (i : Nat)
  | t (ts : List Tg)
inductive Ty where
  | int | bool | str | tuple | list | dict
  deriving DecidableEq
/-- methods that change nothing -/
inductive Me where
  | join | upper | count
  deriving DecidableEq
inductive Ex where
  | v (i : Nat)
  | c (d : D)
  | g (x : Str) (d : D)
  | bop (o : Operator) (a b : Ex)
  | neg (a : Ex)
  | not (a : Ex)
  | cmp (o : CmpOp) (a b : Ex)
  | chain (o o' : CmpOp) (a b c : Ex)
  | and (a : Ex) (es : List Ex)
  | or (a : Ex) (es : List Ex)
  | ife (t a b : Ex)
  | tup (es : List Ex)
  | lst (es : List Ex)
  | dct (ks : List Key) (es : List Ex)
  | ix (a i : Ex)
  | sl (a : Ex) (lo hi : List Ex)
  | rev (a : Ex)
  | call (f : Nat) (es : List Ex)
  | bi (b : Bi) (es : List Ex)
  | isi (a : Ex) (t : Ty)
  | me (m : Me) (o : Ex) (es : List Ex)
  | lc (e : Ex) (own : List Nat) (tg : Tg) (it : Ex) (ifs : List Ex)
  | rng (es : List Ex)
  | enum (e : Ex)
  | zip (a b : Ex)
  | itv (e : Ex)
  | six (i j : Nat)
  | mkS (f : Nat) (es : List Ex)
mutual
/-- the slots that are read -/
def vs : Ex → List Nat
  | .v i => [i]
  | .c _ => []
  | .g _ _ => []
  | .bop _ a b => vs a ++ vs b
  | .neg a => vs a
  | .not a => vs a
  | .cmp _ a b => vs a ++ vs b
  | .chain _ _ a b c => vs a ++ (vs b ++ vs c)
  | .and a es => vs a ++ vss es
  | .or a es => vs a ++ vss es
  | .ife t a b => vs t ++ (vs a ++ vs b)
  | .tup es => vss es
  | .lst es => vss es
  | .dct _ es => vss es
  | .ix a i => vs a ++ vs i
  | .sl a lo hi => vs a ++ (vss lo ++ vss hi)
  | .rev a => vs a
  | .call _ es => vss es
  | .bi _ es => vss es
  | .isi a _ => vs a
  | .me _ o es => vs o ++ vss es
  | .lc e own _ it ifs => own ++ (vs it ++ (vss ifs ++ vs e))
  | .rng es => vss es
  | .enum e => vs e
  | .zip a b => vs a ++ vs b
  | .itv e => vs e
  | .six i _ => [i]
  | .mkS _ es => vss es
def vss : List Ex → List Nat
  | [] => []
  | e :: es => vs e ++ vss es
end
/-! ### its meaning -/
mutual
def tgS : Tg → D → Env → Option Env
  | .n i, d, ε => if i < ε.length then some (ε.set i (.v d)) else none
  | .t ts, d, ε => match d with
    | .tup ds => tgsS ts ds ε
    | .lst ds => tgsS ts ds ε
    | _ => none
def tgsS : List Tg → List D → Env → Option Env
  | [], [], ε => some ε
  | t :: ts, d :: ds, ε => match tgS t d ε with
    | some ε1 => tgsS ts ds ε1
    | none => none
  | _, _, _ => none
end
def wipeE (ε : Env) : List Nat → Env
  | [] => ε
  | v :: vs => (wipeE ε vs).set v .u
def Sl.frz : Sl → Sl
  | .o d => .v d
  | s => s
def fzF (xs : List Nat) : Nat → Env → Env
  | _, [] => []
  | k, s :: r => (if xs.contains k then s.frz else s) :: fzF xs (k + 1) r
/-- the slots xs have nothing of their own any more -/
def fz (xs : List Nat) (ε : Env) : Env := fzF xs 0 ε
def noX {α : Type} : Out α → Out α
  | .exc _ _ _ => .bad
  | r => r
def lcLoop (tgt : D → Option Env) (cond : Env → Sto → Out Bool) (elt : Env → Sto → Out D) : List D → Sto → Out (List D)
  | [], S => .ok [] S
  | d :: r, S => match tgt d with
    | none => .bad
    | some ε => (noX (cond ε S)).bind fun b S1 =>
      if b = true then (noX (elt ε S1)).bind fun y S2 => (lcLoop tgt cond elt r S2).bind fun ys S3 => .ok (y :: ys) S3
      else lcLoop tgt cond elt r S1
def tyName : D → Option String
  | .non => some "NoneType"
  | .bl _ => some "bool"
  | .int _ => some "int"
  | .str _ => some "str"
  | .tup _ => some "tuple"
  | .rol _ => some "list"
  | .lst _ => some "list"
  | .dct _ => some "dict"
  | .stm _ => some "list"
  | .wdt _ => none
def Ty.name : Ty → String
  | .int => "int" | .bool => "bool" | .str => "str" | .tuple => "tuple" | .list => "list" | .dict => "dict"
def isiF (t : Ty) (d : D) : Option D := (tyName d).map fun n => .bl (decide (n = t.name) || (decide (n = "bool") && decide (t = .int)))
/-- what a method asks of its object -/
def meR : Me → D → Bool
  | .join, .str _ => true
  | .upper, .str _ => true
  | .count, .lst _ => true
  | .count, .rol _ => true
  | _, _ => false
def meF : Me → D → List D → Option D
  | .join, .str a, [d] => match (seqOf d).bind strsOf with
    | some ys => if (ys.map (·.length)).sum + ys.length * a.length ≤ 16777216 then some (.str (Txt.join a ys)) else none
    | none => none
  | .upper, .str a, [] => if a.length ≤ 5592405 then some (.str (Txt.upper a)) else none
  | .count, d, [.int k] => ((lstOf d).bind intsOf).map fun ns => .int (ns.count k)
  | _, _, _ => none
def putD (kvs : List (Key × D)) (k : Key) (v : D) : List (Key × D) :=
  if hasK kvs k = true then kvs.map (fun kv => if kv.1 = k then (kv.1, v) else kv) else kvs ++ [(k, v)]
def mergeD (kvs more : List (Key × D)) : List (Key × D) := more.foldl (fun acc kv => putD acc kv.1 kv.2) kvs
/-- a stream's numbers -/
def t3 (t : Int × Int × Int) : Nat → Option Int
  | 0 => some t.1
  | 1 => some t.2.1
  | 2 => some t.2.2
  | _ => none
def t3set (t : Int × Int × Int) (x : Int) : Nat → Option (Int × Int × Int)
  | 0 => some (x, t.2.1, t.2.2)
  | 1 => some (t.1, x, t.2.2)
  | 2 => some (t.1, t.2.1, x)
  | _ => none
def sixF (d : D) (j : Nat) (S : Sto) : Option D :=
  match d with
  | .stm k => (S[k]?).bind fun t => (t3 t j).map .int
  | _ => none
def mkF (d : D) (S : Sto) : Out D :=
  match d with
  | .lst [.int a, .int b, .int c] => .ok (.stm S.length) (S ++ [(a, b, c)])
  | _ => .bad
def asInt (d : D) : Option (Option Int) :=
  match d with
  | .int i => some (some i)
  | _ => none
section
variable (cl : Nat → List D → Sto → Out D)
mutual
def evE : Ex → Env → Sto → Out D
  | .v i => fun ε S => .of S (rdE ε i)
  | .c d => fun _ S => .ok d S
  | .g _ d => fun _ S => .ok d S
  | .bop o a b => fun ε S => (evE a ε S).bind fun x S1 => (evE b ε S1).bind fun y S2 => .of S2 (binF o x y)
  | .neg a => fun ε S => (evE a ε S).bind fun x S1 => match x with
    | .int i => .ok (.int (-i)) S1
    | _ => .bad
  | .not a => fun ε S => (evE a ε S).bind fun x S1 => (Out.of S1 (tru x)).bind fun b S2 => .ok (.bl (!b)) S2
  | .cmp o a b => fun ε S => (evE a ε S).bind fun x S1 => (evE b ε S1).bind fun y S2 => .of S2 (cmpF o x y)
  | .chain o o' a b c => fun ε S => (evE a ε S).bind fun x S1 => (evE b ε S1).bind fun y S2 => (Out.of S2 (cmpF o x y)).bind fun r S3 => match r with
    | .bl true => (evE c ε S3).bind fun z S4 => .of S4 (cmpF o' y z)
    | .bl false => .ok (.bl false) S3
    | _ => .bad
  | .and a es => fun ε S => (evE a ε S).bind fun x S1 => evAnd es x ε S1
  | .or a es => fun ε S => (evE a ε S).bind fun x S1 => evOr es x ε S1
  | .ife t a b => fun ε S => (evE t ε S).bind fun x S1 => (Out.of S1 (tru x)).bind fun k S2 => if k = true then evE a ε S2 else evE b ε S2
  | .tup es => fun ε S => (evEs es ε S).bind fun ds S1 => if ds.length ≤ sizeLine then .ok (.tup ds) S1 else .bad
  | .lst es => fun ε S => (evEs es ε S).bind fun ds S1 => if ds.length ≤ sizeLine then .ok (.lst ds) S1 else .bad
  | .dct ks es => fun ε S => (evEs es ε S).bind fun ds S1 => if ds.length ≤ 15 then .ok (.dct (mergeD [] (ks.zip ds))) S1 else .bad
  | .ix a i => fun ε S => (evE a ε S).bind fun x S1 => (evE i ε S1).bind fun y S2 => .of S2 (opIx x y)
  | .sl a lo hi => fun ε S => (evE a ε S).bind fun x S1 => (evO lo ε S1).bind fun l S2 => (evO hi ε S2).bind fun h S3 => .of S3 (opSl x l h)
  | .rev a => fun ε S => (evE a ε S).bind fun x S1 => .of S1 (opRev x)
  | .call f es => fun ε S => (evEs es ε S).bind fun ds S1 => cl f ds S1
  | .bi b es => fun ε S => (evEs es ε S).bind fun ds S1 => .of S1 (biF b ds)
  | .isi a t => fun ε S => (evE a ε S).bind fun x S1 => .of S1 (isiF t x)
  | .me m o es => fun ε S => (evE o ε S).bind fun x S1 => if meR m x = true then (evEs es ε S1).bind fun ds S2 => .of S2 (meF m x ds) else .bad
  | .lc e own tg it ifs => fun ε S => (evI it ε S).bind fun p S1 =>
    (lcLoop (fun d => tgS tg d (wipeE (fz (vs (.lc e own tg it ifs)) ε) own)) (evTs ifs) (evE e) p.1 S1).bind fun ys S2 => .ok (.lst ys) S2
  | .rng _ => fun _ _ => .bad
  | .enum _ => fun _ _ => .bad
  | .zip _ _ => fun _ _ => .bad
  | .itv _ => fun _ _ => .bad
  | .six i j => fun ε S => .of S ((rdE ε i).bind fun d => sixF d j S)
  | .mkS f es => fun ε S => (evEs es ε S).bind fun ds S1 => (cl f ds S1).bind mkF
def evEs : List Ex → Env → Sto → Out (List D)
  | [] => fun _ S => .ok [] S
  | e :: es => fun ε S => (evE e ε S).bind fun x S1 => (evEs es ε S1).bind fun xs S2 => .ok (x :: xs) S2
def evAnd : List Ex → D → Env → Sto → Out D
  | [] => fun x _ S => .ok x S
  | e :: es => fun x ε S => (Out.of S (tru x)).bind fun b S1 => if b = true then (evE e ε S1).bind fun y S2 => evAnd es y ε S2 else .ok x S1
def evOr : List Ex → D → Env → Sto → Out D
  | [] => fun x _ S => .ok x S
  | e :: es => fun x ε S => (Out.of S (tru x)).bind fun b S1 => if b = true then .ok x S1 else (evE e ε S1).bind fun y S2 => evOr es y ε S2
def evO : List Ex → Env → Sto → Out (Option Int)
  | [] => fun _ S => .ok none S
  | e :: _ => fun ε S => (evE e ε S).bind fun d S1 => .of S1 (asInt d)
/-- the tests of a comprehension: none or one -/
def evTs : List Ex → Env → Sto → Out Bool
  | [] => fun _ S => .ok true S
  | e :: _ => fun ε S => (evE e ε S).bind fun d S1 => .of S1 (tru d)
/-- what is walked; that nothing of it can change -/
def evI : Ex → Env → Sto → Out (List D × Bool)
  | .rng es => fun ε S => (evEs es ε S).bind fun ds S1 => .of S1 ((iterR ds).map fun its => (its, true))
  | .enum e => fun ε S => (evE e ε S).bind fun d S1 => .of S1 ((iterN d).map fun its => (its, d.still))
  | .zip a b => fun ε S => (evE a ε S).bind fun d S1 => (evE b ε S1).bind fun d' S2 => .of S2 ((iterZ d d').map fun its => (its, d.still && d'.still))
  | .itv e => fun ε S => (evE e ε S).bind fun d S1 => .of S1 ((iterV d).map fun its => (its, d.still))
  | _ => fun _ _ => .bad
end
end
/-! ## statements -/
inductive Sm where
  | ret (e : Ex)
  | retN
  | set (tg : Tg) (e : Ex)
  | aug (i : Nat) (o : Operator) (e : Ex)
  | par (i j : Nat) (a b : Ex)
  | put (i : Nat) (k e : Ex)
  | app (i : Nat) (e : Ex)
  | ext (i : Nat) (e : Ex)
  | sput (i j : Nat) (e : Ex)
  | ife (c : Ex) (t e : List Sm)
  | for_ (tg : Tg) (it : Ex) (b : List Sm)
  | while_ (c : Ex) (b : List Sm)
  | ex (e : Ex)
  | pass
  | brk
  | cont
  | never
inductive Fl where
  | nx (ε : Env)
  | rt (d : D)
  | bk (ε : Env)
  | ct (ε : Env)
inductive OutS where
  | ok (f : Fl) (S : Sto)
  | exc (c : Str) (v : Option (Str × D)) (ε : Env) (S : Sto)
  | bad
/-- an expression's outcome within a statement -/
def Out.on {α : Type} (r : Out α) (ε : Env) (g : α → Sto → OutS) : OutS :=
  match r with
  | .ok a S => g a S
  | .exc c v S => .exc c v ε S
  | .bad => .bad
def OutS.seq (r : OutS) (g : Env → Sto → OutS) : OutS :=
  match r with
  | .ok (.nx ε) S => g ε S
  | r => r
def forLoop (tgt : D → Env → Option Env) (body : Env → Sto → OutS) : List D → Env → Sto → OutS
  | [], ε, S => .ok (.nx ε) S
  | d :: r, ε, S => match tgt d ε with
    | none => .bad
    | some ε1 => match body ε1 S with
      | .ok (.nx ε2) S2 => forLoop tgt body r ε2 S2
      | .ok (.ct ε2) S2 => forLoop tgt body r ε2 S2
      | .ok (.bk ε2) S2 => .ok (.nx ε2) S2
      | .ok (.rt v) S2 => .ok (.rt v) S2
      | .exc c v ε2 S2 => .exc c v ε2 S2
      | .bad => .bad
def whileLoop (cond : Env → Sto → Out Bool) (body : Env → Sto → OutS) : Nat → Env → Sto → OutS
  | 0, _, _ => .bad
  | n + 1, ε, S => (cond ε S).on ε fun b S1 => if b = true then (match body ε S1 with
      | .ok (.nx ε2) S2 => whileLoop cond body n ε2 S2
      | .ok (.ct ε2) S2 => whileLoop cond body n ε2 S2
      | .ok (.bk ε2) S2 => .ok (.nx ε2) S2
      | .ok (.rt v) S2 => .ok (.rt v) S2
      | .exc c v ε2 S2 => .exc c v ε2 S2
      | .bad => .bad) else .ok (.nx ε) S1
/-- it makes a new list or dict, held by nobody -/
def fresh : Ex → Bool
  | .lst _ => true
  | .lc _ _ _ _ _ => true
  | .dct _ _ => true
  | _ => false
/-- the slots behind a value that comes from e -/
def fzV (e : Ex) (d : D) (ε : Env) : Env := if d.still = true then ε else fz (vs e) ε
def fzN (e : Ex) (d : D) (ε : Env) : Env := if d.still1 = true then ε else fz (vs e) ε
def setF (tg : Tg) (e : Ex) (d : D) (ε : Env) : Option Env :=
  match tg with
  | .n i => if fresh e = true then (if i < ε.length then some ((fzN e d ε).set i (.o d)) else none) else tgS (.n i) d (fzV e d ε)
  | tg => tgS tg d (fzV e d ε)
def putF (o k d : D) : Option D :=
  match o with
  | .lst ds => match k with
    | .int j => (ixN ds.length j).map fun n => .lst (ds.set n d)
    | _ => none
  | .dct kvs => (keyOf k).bind fun k => if kvs.length < sizeLine then some (.dct (putD kvs k d)) else none
  | _ => none
def appF (o d : D) : Option D :=
  match o with
  | .lst ds => if ds.length < sizeLine then some (.lst (ds ++ [d])) else none
  | _ => none
def extF (o d : D) : Option D :=
  match o, d with
  | .lst ds, .lst es => if ds.length + es.length ≤ sizeLine then some (.lst (ds ++ es)) else none
  | _, _ => none
/-- the slot's own thing becomes another one -/
def chg (ε : Env) (i : Nat) (f : D → Option D) : Option Env :=
  match ε[i]? with
  | some (.o o) => (f o).map fun o' => ε.set i (.o o')
  | _ => none
def sputF (o : Option D) (d : D) (j : Nat) (S : Sto) : Option Sto :=
  match o, d with
  | some (.stm k), .int x => (S[k]?).bind fun t => (t3set t x j).map fun t' => S.set k t'
  | _, _ => none
def ownB (ε : Env) (i : Nat) : Bool :=
  match ε[i]? with
  | some (.o _) => true
  | _ => false
def ownL (ε : Env) (i : Nat) : Bool :=
  match ε[i]? with
  | some (.o (.lst _)) => true
  | _ => false
def wFuel : Nat := 1000000
def onO {α : Type} (o : Option α) (g : α → OutS) : OutS :=
  match o with
  | some a => g a
  | none => .bad
section
variable (cl : Nat → List D → Sto → Out D)
mutual
def evS : Sm → Env → Sto → OutS
  | .ret e => fun ε S => (evE cl e ε S).on ε fun d S1 => .ok (.rt d) S1
  | .retN => fun ε S => .ok (.rt .non) S
  | .set tg e => fun ε S => (evE cl e ε S).on ε fun d S1 => onO (setF tg e d ε) fun ε1 => .ok (.nx ε1) S1
  | .aug i o e => fun ε S => onO (rdE ε i) fun x => (evE cl e ε S).on ε fun y S1 => onO (binF o x y) fun d => if d.still = true ∧ i < ε.length then .ok (.nx (ε.set i (.v d))) S1 else .bad
  | .par i j a b => fun ε S => (evE cl a ε S).on ε fun x S1 => (evE cl b ε S1).on ε fun y S2 => if i < ε.length ∧ j < ε.length then .ok (.nx (((fzV a x (fzV b y ε)).set i (.v x)).set j (.v y))) S2 else .bad
  | .put i k e => fun ε S => if ownB ε i = true then (evE cl e ε S).on ε fun d S1 => (evE cl k ε S1).on ε fun y S2 => onO (chg (fzV e d ε) i fun o => putF o y d) fun ε1 => .ok (.nx ε1) S2 else .bad
  | .app i e => fun ε S => if ownL ε i = true then (evE cl e ε S).on ε fun d S1 => onO (chg (fzV e d ε) i fun o => appF o d) fun ε1 => .ok (.nx ε1) S1 else .bad
  | .ext i e => fun ε S => if ownL ε i = true then (evE cl e ε S).on ε fun d S1 => onO (chg (fzN e d ε) i fun o => extF o d) fun ε1 => .ok (.nx ε1) S1 else .bad
  | .sput i j e => fun ε S => (evE cl e ε S).on ε fun d S1 => onO (sputF (rdE ε i) d j S1) fun S2 => .ok (.nx ε) S2
  | .ife c t e => fun ε S => ((evE cl c ε S).bind fun d S1 => .of S1 (tru d)).on ε fun b S1 => if b = true then evSs t ε S1 else evSs e ε S1
  | .for_ tg it b => fun ε S => (evI cl it ε S).on ε fun p S1 => forLoop (tgS tg) (evSs b) p.1 (if p.2 = true then ε else fz (vs it) ε) S1
  | .while_ c b => fun ε S => whileLoop (fun ε S => (evE cl c ε S).bind fun d S1 => .of S1 (tru d)) (evSs b) wFuel ε S
  | .ex e => fun ε S => (evE cl e ε S).on ε fun _ S1 => .ok (.nx ε) S1
  | .pass => fun ε S => .ok (.nx ε) S
  | .brk => fun ε S => .ok (.bk ε) S
  | .cont => fun ε S => .ok (.ct ε) S
  | .never => fun _ _ => .bad
def evSs : List Sm → Env → Sto → OutS
  | [] => fun ε S => .ok (.nx ε) S
  | s :: r => fun ε S => (evS s ε S).seq (evSs r)
end
end
end GG
namespace GG
open PySem PySem.Spec PyProof.Rows L2
/-! ## which syntax a term of the language stands for -/
structure Cn where
  N : List Str
  fns : List (Str × Nat)
  gt : List (Str × D)
  mkr : Nat
def visB (sc : Scope) (x : Str) : Bool := match sc.names.lookup x with
  | some .local => true
  | some .cell => true
  | some .free => true
  | _ => false
def locB (sc : Scope) (x : Str) : Bool := match sc.names.lookup x with
  | some .local => true
  | some .cell => true
  | _ => false
def glB (sc : Scope) (x : Str) : Bool := decide (sc.names.lookup x = some .globalImplicit)
def plainN (x : Str) : Bool := !(x == ("__debug__" : Str)) && !(x == ("__classdict__" : Str)) && !decide (x = ("__name__" : Str))
def noSlice : Expr → Bool
  | .Slice _ _ _ _ => false
  | _ => true
def noCall0 : Expr → Bool
  | .Call _ _ _ _ => false
  | _ => true
def noSet : Expr → Bool
  | .Set _ _ _ => false
  | _ => true
def noComp : Expr → Bool
  | .ListComp _ _ _ _ => false
  | .SetComp _ _ _ _ => false
  | .DictComp _ _ _ _ _ => false
  | _ => true
def constIs : D → Const → Bool
  | .non, .none => true
  | .bl b, .bool b' => decide (b = b')
  | .int i, .int j => decide (i = j)
  | .str x, .str y => decide (x = y)
  | _, _ => false
def Me.name : Me → Str
  | .join => "join" | .upper => "upper" | .count => "count"
def Me.ar : Me → Nat
  | .join => 1 | .upper => 0 | .count => 1
mutual
def mG (okN : Str → Bool) (N : List Str) : Tg → Expr → Bool
  | .n i => fun e => match e with
    | .Name x _ => decide (N[i]? = some x) && okN x
    | _ => false
  | .t ts => fun e => match e with
    | .Tuple es _ _ => mGs okN N ts es
    | _ => false
def mGs (okN : Str → Bool) (N : List Str) : List Tg → List Expr → Bool
  | [] => fun es => match es with
    | [] => true
    | _ => false
  | t :: ts => fun es => match es with
    | e :: es => mG okN N t e && noStar e && mGs okN N ts es
    | _ => false
end
mutual
def tgIn (own : List Nat) : Tg → Bool
  | .n i => decide (i ∈ own)
  | .t ts => tgsIn own ts
def tgsIn (own : List Nat) : List Tg → Bool
  | [] => true
  | t :: ts => tgIn own t && tgsIn own ts
end
def ownOf (N : List Str) (own : List Nat) : List (Str × Nat) := own.map fun i => (N.getD i "", i)
def blkN (scope sc : Scope) (x : Str) : Bool := match (relS scope sc).names.lookup x with
  | some .local => true
  | some .cell => scope.names.lookup x == some .cell
  | _ => false
/-- written keys -/
def keyIsC : Key → Expr → Bool
  | .inl i, .Constant (.int j) _ _ => decide (i = j)
  | .inr x, .Constant (.str y) _ _ => decide (x = y)
  | _, _ => false
def mK : List Key → List (Option Expr) → Bool
  | [], [] => true
  | k :: ks, some e :: es => keyIsC k e && mK ks es
  | _, _ => false
def revStep : Expr → Bool
  | .UnaryOp .USub (.Constant (.int i) _ _) _ => decide (i = 1)
  | _ => false
section
variable (cn : Cn)
mutual
def mE : Ex → Scope → Expr → Bool
  | .v i => fun sc e => match e with
    | .Name x _ => decide (cn.N[i]? = some x) && visB sc x && plainN x
    | _ => false
  | .c d => fun sc e => match e with
    | .Constant k _ _ => constIs d k
    | _ => false
  | .g x d => fun sc e => match e with
    | .Name y _ => decide (x = y) && glB sc x && plainN x && decide (cn.gt.lookup x = some d)
    | _ => false
  | .bop o a b => fun sc e => match e with
    | .BinOp l o' r _ => decide (o = o') && mE a sc l && mE b sc r
    | _ => false
  | .neg a => fun sc e => match e with
    | .UnaryOp .USub l _ => mE a sc l
    | _ => false
  | .not a => fun sc e => match e with
    | .UnaryOp .Not l _ => mE a sc l
    | _ => false
  | .cmp o a b => fun sc e => match e with
    | .Compare l [o'] [r] _ => decide (o = o') && mE a sc l && mE b sc r && noSet r
    | _ => false
  | .chain o o2 a b c => fun sc e => match e with
    | .Compare l [p, p2] [m, r] _ => decide (o = p) && decide (o2 = p2) && mE a sc l && mE b sc m && mE c sc r && noSet r
    | _ => false
  | .and a es => fun sc e => match e with
    | .BoolOp .And (l :: vs) _ => mE a sc l && mEs es sc vs && !vs.isEmpty
    | _ => false
  | .or a es => fun sc e => match e with
    | .BoolOp .Or (l :: vs) _ => mE a sc l && mEs es sc vs && !vs.isEmpty
    | _ => false
  | .ife t a b => fun sc e => match e with
    | .IfExp c l r _ => mE t sc c && mE a sc l && mE b sc r
    | _ => false
  | .tup es => fun sc e => match e with
    | .Tuple vs _ _ => mEs es sc vs
    | _ => false
  | .lst es => fun sc e => match e with
    | .List vs _ => mEs es sc vs
    | _ => false
  | .dct ks es => fun sc e => match e with
    | .Dict keys vs _ => mK ks keys && mEs es sc vs && decide (ks.length = es.length) && decide (ks.length ≤ 15)
    | _ => false
  | .ix a i => fun sc e => match e with
    | .Subscript l s _ => mE a sc l && mE i sc s && noSlice s
    | _ => false
  | .sl a lo hi => fun sc e => match e with
    | .Subscript l (.Slice lo' hi' none _) _ => mE a sc l && mO lo sc lo' && mO hi sc hi'
    | _ => false
  | .rev a => fun sc e => match e with
    | .Subscript l (.Slice none none (some st) _) _ => mE a sc l && revStep st
    | _ => false
  | .call f es => fun sc e => match e with
    | .Call (.Name x _) (v :: vs) [] _ => decide (cn.fns[f]? = some (x, es.length)) && glB sc x && plainN x && mEs es sc (v :: vs)
    | _ => false
  | .bi b es => fun sc e => match e with
    | .Call (.Name x _) (v :: vs) [] _ => decide (x = b.name) && glB sc x && mEs es sc (v :: vs)
    | _ => false
  | .isi a t => fun sc e => match e with
    | .Call (.Name x _) [v, .Name y _] [] _ => decide (x = "isinstance") && glB sc x && mE a sc v && noStar v && decide (y = Str.ofString t.name) && glB sc y
    | _ => false
  | .me m o es => fun sc e => match e with
    | .Call (.Attribute v nm ap) vs [] cp => decide (nm = m.name) && mE o sc v && mEs es sc vs && noCall0 v && (ap.endLine == cp.line) && decide (es.length = m.ar)
    | _ => false
  | .lc e own tg it ifs => fun sc e' => match e' with
    | .ListComp el [⟨t, i, fs, 0⟩] scope _ => blkC cn.N sc scope (ownOf cn.N own) && mG (blkN scope sc) cn.N tg t && tgIn own tg && mI it sc i t && noSet i && mTs ifs (relS scope sc) fs && mE e (relS scope sc) el
    | _ => false
  | .rng _ => fun sc e => false
  | .enum _ => fun sc e => false
  | .zip _ _ => fun sc e => false
  | .itv _ => fun sc e => false
  | .six i j => fun sc e => match e with
    | .Subscript (.Name x p) (.Constant (.int z) _ _) _ => decide (cn.N[i]? = some x) && visB sc x && plainN x && decide (z = (j : Int))
    | _ => false
  | .mkS f es => fun sc e => match e with
    | .Call (.Name x _) (v :: vs) [] _ => decide (f = cn.mkr) && decide (cn.fns[f]? = some (x, es.length)) && glB sc x && plainN x && mEs es sc (v :: vs)
    | _ => false
def mEs : List Ex → Scope → List Expr → Bool
  | [] => fun sc es => match es with
    | [] => true
    | _ => false
  | a :: r => fun sc es => match es with
    | e :: es => mE a sc e && noStar e && mEs r sc es
    | _ => false
def mO : List Ex → Scope → Option Expr → Bool
  | [] => fun sc o => match o with
    | none => true
    | _ => false
  | a :: r => fun sc o => match o with
    | some e => mE a sc e && r.isEmpty
    | _ => false
def mTs : List Ex → Scope → List Expr → Bool
  | [] => fun sc es => match es with
    | [] => true
    | _ => false
  | a :: r => fun sc es => match es with
    | [e] => mE a sc e && r.isEmpty
    | _ => false
def mI : Ex → Scope → Expr → Expr → Bool
  | .itv a => fun sc e t => mE a sc e
  | .rng es => fun sc e t => match e with
    | .Call (.Name x _) (v :: vs) [] _ => decide (x = "range") && glB sc x && mEs es sc (v :: vs) && decide (vs.length ≤ 2)
    | _ => false
  | .enum a => fun sc e t => match e with
    | .Call (.Name x _) [v] [] _ => decide (x = "enumerate") && glB sc x && mE a sc v && noStar v && isTup t
    | _ => false
  | .zip a b => fun sc e t => match e with
    | .Call (.Name x _) [v, w] [] _ => decide (x = "zip") && glB sc x && mE a sc v && mE b sc w && noStar v && noStar w && isTup t
    | _ => false
  | _ => fun sc e t => false
end
end
theorem blockK {env : PySem.Env} (h : env.scope.kind = .function) : env.blockKind = .function := by
  unfold Env.blockKind; rw [h]; rfl
theorem sw_two {x y : Str} {px py pt p2 : Pos} {kt k2 : Nat} {a b : Expr} {env : PySem.Env} (hk : env.scope.kind = .function) (hx : env.scope.names.lookup x = some .local) (hy : env.scope.names.lookup y = some .local) (hne : x ≠ y)
    (hl : (py.line == px.line) = true) (ha : noStar a = true) (hb : noStar b = true) (h1 : (foldedForSure 8 a && foldedForSure 8 b) = false) (h2 : (constantsAlone 8 a && constantsAlone 8 b) = false) :
    swappedStores [.Tuple [.Name x px, .Name y py] kt pt] (.Tuple [a, b] k2 p2) env = pure (some [x, y]) := by
  have kx : env.kindOf x = some .local := hx
  have ky : env.kindOf y = some .local := hy
  have hb' : env.blockKind = .function := blockK hk
  have sa : ∀ {e : Expr}, noStar e = true → (match e with | .Starred .. => true | _ => false) = false := fun {e} h => by
    cases e <;> first | rfl | (simp [noStar] at h)
  have st : ([a, b].any fun | .Starred .. => true | _ => false) = false := by
    simp only [List.any_cons, List.any_nil, Bool.or_false, Bool.or_eq_false_iff]
    exact ⟨sa ha, sa hb⟩
  have hl' : py.line = px.line := eq_of_beq hl
  have hd : ([x, y].eraseDups.length != [x, y].length) = false := by
    have : (y == x) = false := beq_eq_false_iff_ne.mpr (Ne.symm hne)
    simp [List.eraseDups_cons, this]
  unfold swappedStores
  simp only [hb']
  refine Eq.trans (if_neg fun q => ?_) ?_
  · have q' : (false : Bool) = true := q
    cases q'
  refine Eq.trans (if_neg fun q => ?_) ?_
  · exact Bool.noConfusion (st.symm.trans q)
  have hn : ([Expr.Name x px, Expr.Name y py].filterMap fun | .Name id pos => if (env.kindOf id == some .local && pos.line == px.line) = true then some id else none | _ => none) = [x, y] := by
    simp [List.filterMap_cons, kx, ky, hl']
  generalize hz : List.filterMap _ _ = z
  have hz' : z = [x, y] := hz.symm.trans hn
  subst hz'
  refine Eq.trans (if_neg fun q => ?_) ?_
  · rw [Bool.or_eq_true] at q
    rcases q with q | q
    · have q' : (false : Bool) = true := q
      cases q'
    · rw [hd] at q; cases q
  refine Eq.trans (if_neg fun q => ?_) ?_
  · simp only [List.all_cons, List.all_nil, Bool.and_true, h1] at q
    cases q
  refine Eq.trans (if_neg fun q => ?_) ?_
  · simp only [List.all_cons, List.all_nil, Bool.and_true, h2] at q
    cases q
  rfl
/-! ### which statements they stand for -/
def isTupE : Expr → Bool
  | .Tuple _ _ _ => true
  | _ => false
def noLT : Expr → Bool
  | .Tuple _ _ _ => false
  | .List _ _ => false
  | _ => true
/-- the store of a comprehension is made within its own frame -/
def swapB (sc : Scope) (y : Str) (py : Pos) : Expr → Bool
  | .ListComp _ _ scope pos => decide (sc.names.lookup y = some .local) && (py.line == pos.line) && !(scope.names.any fun (n, k) => n == y && (k == .local || k == .cell))
  | _ => false
def isLC : Expr → Bool
  | .ListComp _ _ _ _ => true
  | _ => false
section
variable (cn : Cn)
mutual
def mS : Sm → Scope → Stmt → Bool
  | .ret e => fun sc st => match st with
    | .Return (some x) _ => mE cn e sc x
    | _ => false
  | .retN => fun sc st => match st with
    | .Return none _ => true
    | _ => false
  | .set tg e => fun sc st => match st with
    | .Assign [t] x p => mG (locB sc) cn.N tg t && mE cn e sc x && (match t with
      | .Name y py => noComp x || swapB sc y py x
      | .Tuple _ _ _ => noComp x && noLT x
      | _ => false)
    | _ => false
  | .par i j a b => fun sc st => match st with
    | .Assign [.Tuple [.Name x px, .Name y py] kt pt] (.Tuple [l, r] k2 p2) _ => decide (cn.N[i]? = some x) && decide (cn.N[j]? = some y) && decide (i ≠ j) && decide (x ≠ y) && decide (sc.names.lookup x = some .local) && decide (sc.names.lookup y = some .local) &&
        (py.line == px.line) && mEs cn [a, b] sc [l, r] && !(foldedForSure 8 l && foldedForSure 8 r) && !(constantsAlone 8 l && constantsAlone 8 r)
    | _ => false
  | .put i k e => fun sc st => match st with
    | .Assign [.Subscript (.Name y py) s _] x _ => mE cn (.v i) sc (.Name y py) && mE cn k sc s && mE cn e sc x && noComp x && noSlice s
    | _ => false
  | .app i e => fun sc st => match st with
    | .Expr (.Call (.Attribute (.Name y py) nm ap) [x] [] cp) _ => decide (nm = "append") && mE cn (.v i) sc (.Name y py) && mE cn e sc x && noStar x && (ap.endLine == cp.line)
    | _ => false
  | .ext i e => fun sc st => match st with
    | .Expr (.Call (.Attribute (.Name y py) nm ap) [x] [] cp) _ => decide (nm = "extend") && mE cn (.v i) sc (.Name y py) && mE cn e sc x && noStar x && (ap.endLine == cp.line)
    | _ => false
  | .sput i j e => fun sc st => match st with
    | .Assign [.Subscript (.Name y py) (.Constant (.int z) kk kp) _] x _ => mE cn (.v i) sc (.Name y py) && decide (z = (j : Int)) && mE cn e sc x && noComp x
    | _ => false
  | .aug i o e => fun sc st => match st with
    | .AugAssign (.Name y py) o' x _ => decide (o = o') && decide (o = .Add) && decide (cn.N[i]? = some y) && locB sc y && mE cn e sc x
    | _ => false
  | .ife c t e => fun sc st => match st with
    | .If x a b _ => mE cn c sc x && mSs t sc a && mSs e sc b
    | _ => false
  | .for_ tg it b => fun sc st => match st with
    | .For t x a [] _ => mG (locB sc) cn.N tg t && mI cn it sc x t && noSet x && mSs b sc a
    | _ => false
  | .while_ c b => fun sc st => match st with
    | .While x a [] _ => mE cn c sc x && mSs b sc a
    | _ => false
  | .ex e => fun sc st => match st with
    | .Expr x _ => mE cn e sc x && noComp x
    | _ => false
  | .pass => fun sc st => match st with
    | .Pass _ => true
    | _ => false
  | .brk => fun sc st => match st with
    | .Break _ => true
    | _ => false
  | .cont => fun sc st => match st with
    | .Continue _ => true
    | _ => false
  | .never => fun sc st => true
def mSs : List Sm → Scope → List Stmt → Bool
  | [] => fun sc sts => match sts with
    | [] => true
    | _ => false
  | s :: r => fun sc sts => match sts with
    | st :: sts => mS s sc st && mSs r sc sts
    | _ => false
end
end

end GG
namespace GG
open PySem PySem.Spec PyProof.Rows L2
/-! ## calls of the program's own defs -/
def SpF (K : KW) (mg : Str → Option Value) (h : List D → Sto → Out D) : Sp := fun vs H Q E => ∃ ρ S ds, Rp ρ S H ∧ RVs K ρ H ds vs ∧ Post K mg (RV K) E ρ H (h ds S) Q
/-- the def x, of n parameters, does what h says, up to level k -/
def FnG (P : Program) (w : World) (K : PySem.W.Frag) (mg : Str → Option Value) (base : Heap) (k : Nat) (x : Str) (n : Nat) (h : List D → Sto → Out D) : Prop :=
  ∃ (f : Addr) (fd : FuncData) (ps : List Str), mg x = some (.ref f) ∧ PySem.W.keepIn K (.ref f) = true ∧ Binds K fd ps [] ∧ ps.length = n ∧
    ∀ (A : Around) (outer : List PySem.Env) (s : Shared) (H : Hp) (args : Args) (us : List Value) (vs : List V) (Q : VK) (E : XK), Room k A → A.guards = some [] → Env0 P w K mg base A outer s H →
      vs.length = ps.length → BindsTo s fd args (ps.zip us) → Vals vs us → SpF ⟨K, w⟩ mg h vs H Q E → codeAny (model P w) A (.call (.ref f) args) (CR (L2.CX P w) outer P w H s Q E) s
/-- a new list or dict that nobody holds -/
def RN (K : KW) (H0 : Hp) (ρ : Fx) (H : Hp) (d : D) (v : V) : Prop := ∃ a, v = .ref a ∧ H0 a = none ∧ Own K ρ H d a
def SpM (K : KW) (mg : Str → Option Value) (h : List D → Sto → Out D) : Sp := fun vs H Q E => ∃ ρ S ds, Rp ρ S H ∧ RVs K ρ H ds vs ∧ Post K mg (RN K H) E ρ H (h ds S) Q
def FnM (P : Program) (w : World) (K : PySem.W.Frag) (mg : Str → Option Value) (base : Heap) (k : Nat) (x : Str) (n : Nat) (h : List D → Sto → Out D) : Prop :=
  ∃ (f : Addr) (fd : FuncData) (ps : List Str), mg x = some (.ref f) ∧ PySem.W.keepIn K (.ref f) = true ∧ Binds K fd ps [] ∧ ps.length = n ∧
    ∀ (A : Around) (outer : List PySem.Env) (s : Shared) (H : Hp) (args : Args) (us : List Value) (vs : List V) (Q : VK) (E : XK), Room k A → A.guards = some [] → Env0 P w K mg base A outer s H →
      vs.length = ps.length → BindsTo s fd args (ps.zip us) → Vals vs us → SpM ⟨K, w⟩ mg h vs H Q E → codeAny (model P w) A (.call (.ref f) args) (CR (L2.CX P w) outer P w H s Q E) s
def bnames : List Str := ["len", "abs", "int", "max", "min", "repr", "str", "list", "tuple", "all", "any", "sum", "bool", "range", "enumerate", "zip", "isinstance", "dict"]
structure Good (cn : Cn) (cl : Nat → List D → Sto → Out D) (k : Nat) (W : WX) (X : Cx) : Prop where
  nN : X.N = cn.N
  calm : X.calm = true
  nd : X.N.Nodup
  room : Room k X.A
  gd : X.A.guards = some []
  sm : SmOk X.base
  tk : Takes X W
  blt : ∀ x ∈ bnames, X.mg x = none
  gl : ∀ x d, cn.gt.lookup x = some d → ∃ v u, X.mg x = some u ∧ RelV v u ∧ ∀ ρ H, RV (kw X) ρ H d v
  fn : ∀ (f : Nat) (x : Str) (n : Nat), cn.fns[f]? = some (x, n) → FnG X.prog X.w X.K X.mg X.base k x n (cl f)
  fm : ∀ (x : Str) (n : Nat), cn.fns[cn.mkr]? = some (x, n) → FnM X.prog X.w X.K X.mg X.base k x n (cl cn.mkr)
section
variable {cn : Cn} {cl : Nat → List D → Sto → Out D} {k : Nat} {W : WX} {X : Cx}
theorem Good.blk (g : Good cn cl k W X) (s : Shared) (H : Hp) (scope : Scope) (ce : PySem.Env) (fp : List Addr) : Good cn cl k (fun _ _ _ _ => False) (X.blk s H scope ce fp) :=
  ⟨g.nN, g.calm, g.nd, g.room, g.gd, g.sm, takes0, g.blt, g.gl, g.fn, g.fm⟩
/-! ### small facts of the syntax -/
def noStars : List Expr → Bool
  | [] => true
  | e :: es => noStar e && noStars es
theorem star_any {env : PySem.Env} {pos : Pos} : ∀ {es : List Expr}, noStars es = true → (backTo pos (starEach es env)).any (·.1) = false
  | [], _ => rfl
  | e :: es, h => by
    simp only [noStars, Bool.and_eq_true] at h
    rw [star_cons h.1]
    show (false || (backTo pos (starEach es env)).any (·.1)) = false
    rw [star_any h.2]; rfl
theorem star_all {env : PySem.Env} {pos : Pos} : ∀ {es : List Expr}, noStars es = true → (backTo pos (starEach es env)).all (fun x => !x.1) = true
  | [], _ => rfl
  | e :: es, h => by
    simp only [noStars, Bool.and_eq_true] at h
    rw [star_cons h.1]
    show (true && (backTo pos (starEach es env)).all (fun x => !x.1)) = true
    rw [star_all h.2]; rfl
theorem mEs_stars : ∀ {as : List Ex} {sc : Scope} {es : List Expr}, mEs cn as sc es = true → noStars es = true
  | [], sc, es, h => by
    cases es with
    | nil => rfl
    | cons e es => simp [mEs] at h
  | a :: r, sc, es, h => by
    cases es with
    | nil => simp [mEs] at h
    | cons e es =>
      simp only [mEs, Bool.and_eq_true] at h
      simp only [noStars, Bool.and_eq_true]
      exact ⟨h.1.2, mEs_stars h.2⟩
theorem mEs_len : ∀ {as : List Ex} {sc : Scope} {es : List Expr}, mEs cn as sc es = true → as.length = es.length
  | [], sc, es, h => by
    cases es with
    | nil => rfl
    | cons e es => simp [mEs] at h
  | a :: r, sc, es, h => by
    cases es with
    | nil => simp [mEs] at h
    | cons e es =>
      simp only [mEs, Bool.and_eq_true] at h
      simp [mEs_len h.2]
theorem evEs_len : ∀ {as : List Ex} {ε : Env} {S : Sto} {ds : List D} {S1 : Sto}, evEs cl as ε S = .ok ds S1 → ds.length = as.length
  | [], ε, S, ds, S1, h => by simp only [evEs] at h; cases h; rfl
  | a :: r, ε, S, ds, S1, h => by
    simp only [evEs] at h
    cases e1 : evE cl a ε S with
    | ok x S2 =>
      rw [e1, Out.bind_ok] at h
      cases e2 : evEs cl r ε S2 with
      | ok xs S3 =>
        rw [e2, Out.bind_ok] at h
        cases h
        simp [evEs_len e2]
      | exc c v S3 => rw [e2] at h; cases h
      | bad => rw [e2] at h; cases h
    | exc c v S2 => rw [e1] at h; cases h
    | bad => rw [e1] at h; cases h
theorem vis_of {sc : Scope} {x : Str} (h : visB sc x = true) : Vis sc x := by
  unfold visB at h
  unfold Vis
  split at h <;> first | (rename_i e; exact .inl e) | (rename_i e; exact .inr (.inl e)) | (rename_i e; exact .inr (.inr e)) | cases h
theorem plain_of {x : Str} (h : plainN x = true) : (x == ("__debug__" : Str)) = false ∧ (x == ("__classdict__" : Str)) = false ∧ x ≠ "__name__" := by
  unfold plainN at h
  simp only [Bool.and_eq_true, Bool.not_eq_true', decide_eq_false_iff_not] at h
  exact ⟨h.1.1, h.1.2, h.2⟩
theorem gl_of {x : Str} (h : glB X.env.scope x = true) : Gl X x := by
  unfold glB at h
  have z := of_decide_eq_true h
  exact z
theorem noSet_mark {o : CmpOp} {e : Expr} (h : noSet e = true) : behindInMarks o e = false := by
  cases e <;> first | rfl | (simp [noSet] at h)
theorem noSet_fold {e : Expr} {env : PySem.Env} (h : noSet e = true) (x : Value) : foldedSetIterable e env x = pure x := by
  cases e <;> first | rfl | (simp [noSet] at h)
theorem noSlice_ix {e : Expr} (h : noSlice e = true) : PlainIx e := by
  intro o i
  cases e <;> first | rfl | (simp [noSlice] at h)
theorem noCall_base {e : Expr} {nm : Str} {env : PySem.Env} {w : Sem Value} (h : noCall0 e = true) : attributeBase e nm env w = w := by
  cases e <;> first | rfl | (simp [noCall0] at h)
/-! ### a def of the program called -/
theorem run_g {mg : Str → Option Value} {x : Str} {n : Nat} {h : List D → Sto → Out D} {f : Addr} {fd : FuncData} {ps : List Str} (g : Good cn cl k W X) (hb : Binds X.K fd ps [])
    (run : ∀ (A : Around) (outer : List PySem.Env) (s : Shared) (H : Hp) (args : Args) (us : List Value) (vs : List V) (Q : VK) (E : XK), Room k A → A.guards = some [] → Env0 X.prog X.w X.K X.mg X.base A outer s H →
      vs.length = ps.length → BindsTo s fd args (ps.zip us) → Vals vs us → SpF (kw X) X.mg h vs H Q E → codeAny (model X.prog X.w) A (.call (.ref f) args) (CR (L2.CX X.prog X.w) outer X.prog X.w H s Q E) s)
    {pins : List (Addr × Obj)} {σ : L2.St} {H : Hp} {s : Shared} {Q : VK} {us : List Value} {vs : List V} (I : Inv X pins σ H s) (hl : vs.length = ps.length) (r : Vals vs us) (q : SpF (kw X) X.mg h vs H Q (XW W σ)) :
    wpAny (model X.prog X.w) X.A (call (.ref f) us) (EP X pins σ Q) X.xe s := by
  have hl2 : (us ++ []).length = ps.length := by rw [List.append_nil, ← r.length]; exact hl
  have hbb := hb s us I.kIn hl2
  rw [List.append_nil] at hbb
  refine wpAny_call (codeAny_mono (run X.A X.stack s H ⟨us, []⟩ us vs Q (XW W σ) g.room g.gd I.env0 hl hbb r q) fun r s' hq => ?_)
  cases r with
  | error e => exact g.tk e s' (XE.of_call I (fun _ _ _ z => z) hq)
  | ok fl =>
    cases fl with
    | ret u => exact I.after hq
    | next => exact False.elim hq
    | brk => exact False.elim hq
    | cont => exact False.elim hq
theorem run_m {mg : Str → Option Value} {x : Str} {n : Nat} {h : List D → Sto → Out D} {f : Addr} {fd : FuncData} {ps : List Str} (g : Good cn cl k W X) (hb : Binds X.K fd ps [])
    (run : ∀ (A : Around) (outer : List PySem.Env) (s : Shared) (H : Hp) (args : Args) (us : List Value) (vs : List V) (Q : VK) (E : XK), Room k A → A.guards = some [] → Env0 X.prog X.w X.K X.mg X.base A outer s H →
      vs.length = ps.length → BindsTo s fd args (ps.zip us) → Vals vs us → SpM (kw X) X.mg h vs H Q E → codeAny (model X.prog X.w) A (.call (.ref f) args) (CR (L2.CX X.prog X.w) outer X.prog X.w H s Q E) s)
    {pins : List (Addr × Obj)} {σ : L2.St} {H : Hp} {s : Shared} {Q : VK} {us : List Value} {vs : List V} (I : Inv X pins σ H s) (hl : vs.length = ps.length) (r : Vals vs us) (q : SpM (kw X) X.mg h vs H Q (XW W σ)) :
    wpAny (model X.prog X.w) X.A (call (.ref f) us) (EP X pins σ Q) X.xe s := by
  have hl2 : (us ++ []).length = ps.length := by rw [List.append_nil, ← r.length]; exact hl
  have hbb := hb s us I.kIn hl2
  rw [List.append_nil] at hbb
  refine wpAny_call (codeAny_mono (run X.A X.stack s H ⟨us, []⟩ us vs Q (XW W σ) g.room g.gd I.env0 hl hbb r q) fun r s' hq => ?_)
  cases r with
  | error e => exact g.tk e s' (XE.of_call I (fun _ _ _ z => z) hq)
  | ok fl =>
    cases fl with
    | ret u => exact I.after hq
    | next => exact False.elim hq
    | brk => exact False.elim hq
    | cont => exact False.elim hq
theorem pe_callM {x : Str} {n : Nat} {h : List D → Sto → Out D} {e : Expr} {es : List Expr} {p pos : Pos} {xs : List Nat} {fa : Env → Sto → Out (List D)} (g : Good cn cl k W X) (F : FnM X.prog X.w X.K X.mg X.base k x n h)
    (hg : Gl X x) (hd : (x == ("__debug__" : Str)) = false) (ha : PA X (e :: es) (TFs (kw X) X.mg W xs fa)) (hn : ∀ ε S ds S1, fa ε S = .ok ds S1 → ds.length = n) (hs : noStars (e :: es) = true) :
    PE X (.Call (.Name x p) (e :: es) [] pos) (fun σ H Q => TG0 (kw X) X.mg (RN (kw X) H) W xs (fun ε S => (fa ε S).bind h) σ H Q) := by
  obtain ⟨f, fd, ps, hm, hk, hb, hl, run⟩ := F
  have hs' := hs
  simp only [noStars, Bool.and_eq_true] at hs'
  refine ⟨fun pins s σ H Q I q => ?_⟩
  obtain ⟨ρ, ε, S, r1, r2, q⟩ := q
  refine wpAny_Call_Name_kw (ld_glob I hg hm ?_ hd)
  have q1 : TFs (kw X) X.mg W xs fa σ H fun vs H1 => vs.length = n ∧ SpM (kw X) X.mg h vs H1 Q (XW W σ) := by
    dsimp only at q
    refine ⟨ρ, ε, S, r1, r2, ?_⟩
    cases e1 : fa ε S with
    | ok ds S1 =>
      rw [e1, Out.bind_ok] at q
      have el := hn _ _ _ _ e1
      intro l vs H1 sx rp rv
      refine ⟨by rw [← rv.len]; exact el, _, S1, ds, rp, rv, ?_⟩
      have q9 := Post.weak sx q
      cases e2 : h ds S1 with
      | ok d S2 =>
        rw [e2] at q9
        intro l2 v H2 s2 rp2 rn
        obtain ⟨a, ea, h0, ow⟩ := rn
        refine q9 l2 v H2 s2 rp2 ⟨a, ea, ?_, ow⟩
        cases e3 : H a with
        | none => rfl
        | some u => exact absurd h0 (sx.dm a (by rw [e3]; exact fun z => nomatch z))
      | exc c v S2 => rw [e2] at q9; exact q9
      | bad => rw [e2] at q9; exact q9
    | exc c v S1 => rw [e1] at q; exact q
    | bad => rw [e1] at q; exact q
  refine PySem.W.callWith_K (h₀ := X.base) I.ok.mod.kin hk (thn (ha.run pos pins s σ H _ I q1) fun us s1 hh => ?_) (star_cons hs'.1) (star_any hs'.2)
  obtain ⟨vs, H1, I1, r, el, q2⟩ := hh
  exact ⟨I1.kIn, run_m (mg := X.mg) (x := x) (n := n) g hb run I1 (by rw [el, hl]) r q2⟩
theorem pe_callG {x : Str} {n : Nat} {h : List D → Sto → Out D} {e : Expr} {es : List Expr} {p pos : Pos} {xs : List Nat} {fa : Env → Sto → Out (List D)} (g : Good cn cl k W X) (F : FnG X.prog X.w X.K X.mg X.base k x n h)
    (hg : Gl X x) (hd : (x == ("__debug__" : Str)) = false) (ha : PA X (e :: es) (TFs (kw X) X.mg W xs fa)) (hn : ∀ ε S ds S1, fa ε S = .ok ds S1 → ds.length = n) (hs : noStars (e :: es) = true) :
    PE X (.Call (.Name x p) (e :: es) [] pos) (TF (kw X) X.mg W xs fun ε S => (fa ε S).bind h) := by
  obtain ⟨f, fd, ps, hm, hk, hb, hl, run⟩ := F
  have hs' := hs
  simp only [noStars, Bool.and_eq_true] at hs'
  refine ⟨fun pins s σ H Q I q => ?_⟩
  obtain ⟨ρ, ε, S, r1, r2, q⟩ := q
  refine wpAny_Call_Name_kw (ld_glob I hg hm ?_ hd)
  have q1 : TFs (kw X) X.mg W xs fa σ H fun vs H1 => vs.length = n ∧ SpF (kw X) X.mg h vs H1 Q (XW W σ) := by
    dsimp only at q
    refine ⟨ρ, ε, S, r1, r2, ?_⟩
    cases e1 : fa ε S with
    | ok ds S1 =>
      rw [e1, Out.bind_ok] at q
      have el := hn _ _ _ _ e1
      intro l vs H1 sx rp rv
      exact ⟨by rw [← rv.len]; exact el, _, S1, ds, rp, rv, q.weak sx⟩
    | exc c v S1 => rw [e1] at q; exact q
    | bad => rw [e1] at q; exact q
  refine PySem.W.callWith_K (h₀ := X.base) I.ok.mod.kin hk (thn (ha.run pos pins s σ H _ I q1) fun us s1 hh => ?_) (star_cons hs'.1) (star_any hs'.2)
  obtain ⟨vs, H1, I1, r, el, q2⟩ := hh
  exact ⟨I1.kIn, run_g (mg := X.mg) (x := x) (n := n) g hb run I1 (by rw [el, hl]) r q2⟩
theorem pe_callG0 {x : Str} {h : List D → Sto → Out D} {p pos : Pos} (g : Good cn cl k W X) (F : FnG X.prog X.w X.K X.mg X.base k x 0 h)
    (hg : Gl X x) (hd : (x == ("__debug__" : Str)) = false) : PE X (.Call (.Name x p) [] [] pos) (TF (kw X) X.mg W [] fun ε S => h [] S) := by
  obtain ⟨f, fd, ps, hm, hk, hb, hl, run⟩ := F
  refine ⟨fun pins s σ H Q I q => ?_⟩
  obtain ⟨ρ, ε, S, r1, r2, q⟩ := q
  refine wpAny_Call_Name_kw (ld_glob I hg hm ?_ hd)
  exact PySem.W.callWith_K0 I.kIn hk (run_g (mg := X.mg) (x := x) (n := 0) g hb run (us := []) (vs := []) I (by rw [hl]; rfl) .nil ⟨_, S, [], r1.rp r2 [], RVs.nil, q⟩)
end
/-! ## tests -/
section
variable {K : KW} {mg : Str → Option Value} {cn : Cn} {cl : Nat → List D → Sto → Out D} {k : Nat} {W : WX} {X : Cx}
theorem tf_truth {xs : List Nat} {fa : Env → Sto → Out D} (σ : L2.St) (H : Hp) (Q : Bool → Hp → Prop) (q : TFt K mg W xs (fun ε S => (fa ε S).bind fun d S1 => .of S1 (tru d)) σ H Q) :
    TF K mg W xs fa σ H fun x H' => ∃ b, TruV K x H' b ∧ Q b H' := by
  obtain ⟨ρ, ε, S, hs, hp, q⟩ := q
  refine TG0.go2 (xs := xs) (fun i m => m) hs hp q fun l v H1 d S1 s hs1 rp1 r q1 => ?_
  obtain ⟨b, e, q2⟩ := q1.ofH
  exact ⟨b, tru_V r e, q2.here (hs1.rp rp1 xs) rfl⟩
def plainT : Expr → Bool
  | .UnaryOp .Not _ _ => false
  | .BoolOp _ _ _ => false
  | .IfExp _ _ _ _ => false
  | .Compare _ _ _ _ => false
  | _ => true
theorem plainT_eq {e : Expr} {env : PySem.Env} (h : plainT e = true) : ∀ whole, isTrue e env whole = (do let v ← whole; standAt e.pos; holding [v] (truthy v)) := by
  intro w
  cases e with
  | UnaryOp o a p => cases o <;> first | rfl | (simp [plainT] at h)
  | BoolOp o a p => simp [plainT] at h
  | IfExp a b c p => simp [plainT] at h
  | Compare a b c p => simp [plainT] at h
  | _ => rfl
theorem pt_plain {e : Expr} {xs : List Nat} {fa : Env → Sto → Out D} (he : PE X e (TF (kw X) mg W xs fa)) (h : plainT e = true) : PT X e (TFt (kw X) mg W xs fun ε S => (fa ε S).bind fun d S1 => .of S1 (tru d)) :=
  PT.imp (pt_truth he (plainT_eq h)) fun σ H Q q => tf_truth σ H Q q
/-- a comparison's reading as a test -/
theorem tf_test {xs : List Nat} {fa : Env → Sto → Out D} (hb : ∀ ε S d S1, fa ε S = .ok d S1 → ∃ b, d = .bl b) (σ : L2.St) (H : Hp) (Q : Bool → Hp → Prop) (q : TFt K mg W xs (fun ε S => (fa ε S).bind fun d S1 => .of S1 (tru d)) σ H Q) :
    TF K mg W xs fa σ H fun x H' => ∃ b, x = .bl b ∧ Q b H' := by
  obtain ⟨ρ, ε, S, hs, hp, q⟩ := q
  dsimp only at q
  refine ⟨ρ, ε, S, hs, hp, ?_⟩
  cases e : fa ε S with
  | ok d S1 =>
    obtain ⟨b, rfl⟩ := hb _ _ _ _ e
    rw [e, Out.bind_ok] at q
    intro l v H1 sx rp r
    exact ⟨b, r.bl, q l b H1 sx rp rfl⟩
  | exc c v S1 => rw [e] at q; exact q
  | bad => rw [e] at q; exact q
theorem pt_if {c a b : Expr} {pos : Pos} {tc ta tb : TT} (hc : PT X c tc) (ha : PT X a ta) (hb : PT X b tb) : PT X (.IfExp c a b pos) (fun σ H Q => tc σ H fun k H1 => if k = true then ta σ H1 Q else tb σ H1 Q) := by
  refine ⟨fun pins s σ H Q I q => ?_⟩
  show wpAny _ _ (isTrue c X.env (eval c X.env) >>= fun t => if t = true then isTrue a X.env (eval a X.env) else isTrue b X.env (eval b X.env)) _ _ s
  refine wpAny_bind (thn (hc.run pins s σ H _ I q) fun k s1 ⟨H1, I1, q1⟩ => ?_)
  cases k with
  | true => rw [if_pos rfl] at q1 ⊢; exact ha.run pins s1 σ H1 Q I1 q1
  | false => rw [if_neg Bool.false_ne_true] at q1 ⊢; exact hb.run pins s1 σ H1 Q I1 q1
theorem cmpF_bl {o : CmpOp} {x y d : D} (h : cmpF o x y = some d) : ∃ b, d = .bl b := by
  cases o <;> simp only [cmpF] at h
  all_goals first
    | (unfold opEq at h; split at h <;> (try split at h) <;> (try split at h) <;> first | (cases h; exact ⟨_, rfl⟩) | cases h)
    | (unfold opInt at h; split at h <;> first | (cases h; exact ⟨_, rfl⟩) | cases h)
    | (unfold opIn at h; split at h <;> (try split at h) <;> (try split at h) <;> first | (cases h; exact ⟨_, rfl⟩) | cases h)
    | (unfold opIs at h; split at h <;> (try split at h) <;> first | (cases h; exact ⟨_, rfl⟩) | cases h)
theorem Out.bind_okI {α β : Type} {r : Out α} {g : α → Sto → Out β} {b : β} {S : Sto} (h : r.bind g = .ok b S) : ∃ a S1, r = .ok a S1 ∧ g a S1 = .ok b S := by
  cases r with
  | ok a S1 => exact ⟨a, S1, rfl, h⟩
  | exc c v S1 => cases h
  | bad => cases h
theorem Out.of_okI {α : Type} {S S1 : Sto} {o : Option α} {d : α} (h : Out.of S o = .ok d S1) : o = some d ∧ S1 = S := by
  cases o with
  | none => cases h
  | some a => cases h; exact ⟨rfl, rfl⟩
end
end GG
namespace GG
open PySem PySem.Spec PyProof.Rows L2
/-! ## targets -/
mutual
def gOf (K : PySem.W.Frag) : Tg → TG
  | .n i => gName i
  | .t ts => fun v σ H Q => gTup K ts.length (gsOf K ts) v σ H Q ∨ gUnl K ts.length (gsOf K ts) v σ H Q
def gsOf (K : PySem.W.Frag) : List Tg → TGs
  | [] => gNil
  | t :: ts => gCons (gOf K t) (gsOf K ts)
end
section
variable {K : KW} {mg : Str → Option Value} {cn : Cn} {cl : Nat → List D → Sto → Out D} {k : Nat} {W : WX} {X : Cx}
theorem asg_cons {e : Expr} {es : List Expr} {env : PySem.Env} (h : noStar e = true) : assignEach (e :: es) env = (false, assign e env) :: assignEach es env := by
  cases e <;> first | rfl | (simp [noStar] at h)
theorem mGs_facts {okN : Str → Bool} {N : List Str} {env : PySem.Env} : ∀ {ts : List Tg} {es : List Expr}, mGs okN N ts es = true → (assignEach es env).length = ts.length ∧ (assignEach es env).findIdx? (·.1) = none
  | [], es, h => by
    cases es with
    | nil => exact ⟨rfl, rfl⟩
    | cons e es => simp [mGs] at h
  | t :: ts, es, h => by
    cases es with
    | nil => simp [mGs] at h
    | cons e es =>
      simp only [mGs, Bool.and_eq_true] at h
      obtain ⟨a, b⟩ := mGs_facts (env := env) h.2
      rw [asg_cons h.1.2]
      refine ⟨by simp [a], ?_⟩
      simp [List.findIdx?_cons, b]
mutual
theorem pg_of {okN : Str → Bool} {N : List Str} (hN : X.N = N) (nd : X.N.Nodup) (hc : X.calm = true) (hok : ∀ x, okN x = true → Loc X.env.scope x ∧ (X.fn x = true ∨ X.env.scope.names.lookup x = some .local)) :
    ∀ (t : Tg) (e : Expr), mG okN N t e = true → PG X e (gOf X.K t)
  | .n i, e, h => by
    cases e with
    | Name x p =>
      simp only [mG, Bool.and_eq_true, decide_eq_true_eq] at h
      simp only [gOf]
      obtain ⟨a, b⟩ := hok x h.2
      exact pg_name nd (by rw [hN]; exact h.1) a b
    | _ => simp [mG] at h
  | .t ts, e, h => by
    cases e with
    | Tuple es kk p =>
      simp only [mG] at h
      simp only [gOf]
      obtain ⟨a, b⟩ := mGs_facts (env := X.env) h
      have p := pgs_of hN nd hc hok ts es h
      exact ⟨fun pins s σ H v u Q I r q => q.elim ((pg_tup hc p a b).run pins s σ H v u Q I r) ((pg_unl hc p a b).run pins s σ H v u Q I r)⟩
    | _ => simp [mG] at h
theorem pgs_of {okN : Str → Bool} {N : List Str} (hN : X.N = N) (nd : X.N.Nodup) (hc : X.calm = true) (hok : ∀ x, okN x = true → Loc X.env.scope x ∧ (X.fn x = true ∨ X.env.scope.names.lookup x = some .local)) :
    ∀ (ts : List Tg) (es : List Expr), mGs okN N ts es = true → PGs X es (gsOf X.K ts)
  | [], es, h => by
    cases es with
    | nil => simp only [gsOf]; exact pgs_nil
    | cons e es => simp [mGs] at h
  | t :: ts, es, h => by
    cases es with
    | nil => simp [mGs] at h
    | cons e es =>
      simp only [mGs, Bool.and_eq_true] at h
      simp only [gsOf]
      exact pgs_cons (pg_of hN nd hc hok t e h.1.1) (pgs_of hN nd hc hok ts es h.2) (by rw [asg_cons h.1.2]; rfl)
end
theorem wipe_get {σ : L2.St} {j : Nat} : ∀ {vs : List Nat}, (wipe σ vs)[j]? = if j ∈ vs then (σ[j]?).map (fun _ => none) else σ[j]?
  | [] => by simp [wipe]
  | v :: vs => by
    simp only [wipe]
    by_cases hv : v = j
    · subst hv
      rw [List.getElem?_set]
      simp only [if_true, List.mem_cons, true_or]
      rw [wipe_length]
      by_cases hl : v < σ.length
      · rw [if_pos hl, List.getElem?_eq_getElem hl]; rfl
      · rw [if_neg hl, List.getElem?_eq_none (by omega)]; rfl
    · rw [List.getElem?_set_ne hv, wipe_get]
      by_cases hj : j ∈ vs
      · simp [hj]
      · have : ¬ j = v := fun e => hv e.symm
        simp [hj, this]
theorem wipeE_len {ε : Env} : ∀ {vs : List Nat}, (wipeE ε vs).length = ε.length
  | [] => rfl
  | v :: vs => by simp only [wipeE, List.length_set]; exact wipeE_len
theorem wipeE_get {σ : Env} {j : Nat} : ∀ {vs : List Nat}, (wipeE σ vs)[j]? = if j ∈ vs then (σ[j]?).map (fun _ => .u) else σ[j]?
  | [] => by simp [wipeE]
  | v :: vs => by
    simp only [wipeE]
    by_cases hv : v = j
    · subst hv
      rw [List.getElem?_set]
      simp only [if_true, List.mem_cons, true_or]
      rw [wipeE_len]
      by_cases hl : v < σ.length
      · rw [if_pos hl, List.getElem?_eq_getElem hl]; rfl
      · rw [if_neg hl, List.getElem?_eq_none (by omega)]; rfl
    · rw [List.getElem?_set_ne hv, wipeE_get]
      by_cases hj : j ∈ vs
      · simp [hj]
      · have : ¬ j = v := fun e => hv e.symm
        simp [hj, this]
theorem wipe_set {σ : L2.St} {i : Nat} {x : Option V} {vs : List Nat} (h : i ∈ vs) : wipe (σ.set i x) vs = wipe σ vs := by
  apply List.ext_getElem?
  intro j
  rw [wipe_get, wipe_get]
  by_cases hj : j ∈ vs
  · rw [if_pos hj, if_pos hj]
    by_cases e : i = j
    · subst e
      rw [List.getElem?_set]
      simp only [if_true]
      by_cases hl : i < σ.length
      · rw [if_pos hl, List.getElem?_eq_getElem hl]; rfl
      · rw [if_neg hl, List.getElem?_eq_none (by omega)]
    · rw [List.getElem?_set_ne e]
  · rw [if_neg hj, if_neg hj]
    have e : i ≠ j := fun z => hj (z ▸ h)
    rw [List.getElem?_set_ne e]
theorem fzF_get (xs : List Nat) : ∀ (ε : Env) (k i : Nat), (fzF xs k ε)[i]? = (ε[i]?).map fun s => if xs.contains (k + i) then s.frz else s
  | [], k, i => by simp [fzF]
  | s :: r, k, 0 => by simp [fzF]
  | s :: r, k, i + 1 => by
    simp only [fzF, List.getElem?_cons_succ]
    rw [fzF_get xs r (k + 1) i, show k + 1 + i = k + (i + 1) by omega]
theorem fz_get (xs : List Nat) (ε : Env) (i : Nat) : (fz xs ε)[i]? = (ε[i]?).map fun s => if xs.contains i then s.frz else s := by
  unfold fz; rw [fzF_get, Nat.zero_add]
theorem fzF_len (xs : List Nat) : ∀ (ε : Env) (k : Nat), (fzF xs k ε).length = ε.length
  | [], k => rfl
  | s :: r, k => by simp [fzF, fzF_len xs r]
theorem fz_len (xs : List Nat) (ε : Env) : (fz xs ε).length = ε.length := fzF_len xs ε 0
theorem fz_o {xs : List Nat} {ε : Env} {i : Nat} {d : D} (h : (fz xs ε)[i]? = some (.o d)) : i ∉ xs ∧ ε[i]? = some (.o d) := by
  rw [fz_get] at h
  obtain ⟨s, e, q⟩ := Option.map_eq_some_iff.mp h
  split at q
  · cases s <;> simp [Sl.frz] at q
  · rename_i z
    subst q
    exact ⟨by simpa using z, e⟩
theorem fz_v {xs : List Nat} {ε : Env} {i : Nat} {d : D} (h : (fz xs ε)[i]? = some (.v d)) : ε[i]? = some (.v d) ∨ (i ∈ xs ∧ ε[i]? = some (.o d)) := by
  rw [fz_get] at h
  obtain ⟨s, e, q⟩ := Option.map_eq_some_iff.mp h
  split at q
  · rename_i z
    cases s with
    | u => simp [Sl.frz] at q
    | v x => simp [Sl.frz] at q; subst q; exact .inl e
    | o x => simp [Sl.frz] at q; subst q; exact .inr ⟨by simpa using z, e⟩
  · subst q; exact .inl e
theorem Av.fz {xs ys : List Nat} {ε : Env} {σ : L2.St} (a : Addr) (h : Av (GG.fz xs ε) σ ys a) : Av ε σ (xs ++ ys) a := by
  obtain ⟨i, d, n, e1, e2⟩ := h
  obtain ⟨n2, e3⟩ := fz_o e1
  exact ⟨i, d, by simp [n, n2], e3, e2⟩
theorem Own.anti {ρ : Fx} {H : Hp} {n m : Addr → Prop} (h : ∀ a, m a → n a) {d : D} {a : Addr} (o : Own K (ρ.plus n) H d a) : Own K (ρ.plus m) H d a := by
  unfold Own at o ⊢
  split at o
  · obtain ⟨vs, z, e, n1, n2, r⟩ := o
    refine ⟨vs, z, e, n1, fun q => n2 (q.imp id (h a)), ?_⟩
    exact RVs.anti (ρ := (ρ.plus n).plus (· = a)) (n := ((ρ.plus m).plus (· = a)).n) (fun b z => z.imp (fun z => z.imp id (h b)) id) _ _ r
  · obtain ⟨vs, e, n1, n2, r⟩ := o
    refine ⟨vs, e, n1, fun q => n2 (q.imp id (h a)), ?_⟩
    exact RKV.anti (ρ := (ρ.plus n).plus (· = a)) (n := ((ρ.plus m).plus (· = a)).n) (fun b z => z.imp (fun z => z.imp id (h b)) id) _ _ r
  · exact o
section
variable {ρ : Fx} {H : Hp} {ε : Env} {σ : L2.St}
theorem Rs.fz (h : Rs K ρ H ε σ) (xs : List Nat) : Rs K ρ H (GG.fz xs ε) σ := by
  refine ⟨by rw [fz_len]; exact h.len, fun i d e => ?_, fun i d e => ?_⟩
  · rcases fz_v e with e1 | ⟨m, e1⟩
    · obtain ⟨v, e2, r⟩ := h.val i d e1
      exact ⟨v, e2, plus_anti (fun a z => Av.anti (fun j m => by cases m) a (Av.fz a z)) r⟩
    · obtain ⟨a, e2, o⟩ := h.own i d e1
      exact ⟨.ref a, e2, plus_anti (fun a z => Av.anti (fun j mj => by
        rw [List.mem_singleton] at mj; subst mj; exact List.mem_append_left _ m) a (Av.fz a z)) o.rv⟩
  · obtain ⟨n, e1⟩ := fz_o e
    obtain ⟨a, e2, o⟩ := h.own i d e1
    exact ⟨a, e2, o.anti fun a z => Av.anti (fun j mj => List.mem_append_right _ mj) a (Av.fz a z)⟩
theorem Rs.wipe (h : Rs K ρ H ε σ) (vs : List Nat) : Rs K ρ H (wipeE ε vs) (L2.wipe σ vs) := by
  have back : ∀ {i : Nat} {s : Sl}, s ≠ .u → (wipeE ε vs)[i]? = some s → i ∉ vs ∧ ε[i]? = some s := fun {i s} hs e => by
    rw [wipeE_get] at e
    by_cases hj : i ∈ vs
    · rw [if_pos hj] at e
      obtain ⟨z, _, q⟩ := Option.map_eq_some_iff.mp e
      exact absurd q.symm hs
    · rw [if_neg hj] at e; exact ⟨hj, e⟩
  have av : ∀ ys a, Av (wipeE ε vs) (L2.wipe σ vs) ys a → Av ε σ ys a := fun ys a ⟨i, d, n, e1, e2⟩ => by
    obtain ⟨hj, e3⟩ := back (by simp) e1
    rw [wipe_get, if_neg hj] at e2
    exact ⟨i, d, n, e3, e2⟩
  refine ⟨by rw [wipeE_len, wipe_length]; exact h.len, fun i d e => ?_, fun i d e => ?_⟩
  · obtain ⟨hj, e1⟩ := back (by simp) e
    obtain ⟨v, e2, r⟩ := h.val i d e1
    exact ⟨v, by rw [wipe_get, if_neg hj]; exact e2, plus_anti (av []) r⟩
  · obtain ⟨hj, e1⟩ := back (by simp) e
    obtain ⟨v, e2, r⟩ := h.own i d e1
    exact ⟨v, by rw [wipe_get, if_neg hj]; exact e2, r.anti (av [i])⟩
theorem Av.setV {i : Nat} {d : D} {x : Option V} {ys : List Nat} (a : Addr) (h : Av (ε.set i (.v d)) (σ.set i x) ys a) : Av ε σ (i :: ys) a := by
  obtain ⟨j, d', n, e1, e2⟩ := h
  by_cases hj : i = j
  · subst hj
    rw [List.getElem?_set] at e1
    split at e1
    · split at e1 <;> cases e1
    · exact absurd rfl ‹_›
  · rw [List.getElem?_set_ne hj] at e1 e2
    exact ⟨j, d', by simp [n, Ne.symm hj], e1, e2⟩
theorem Rs.set {i : Nat} {d : D} {v : V} (h : Rs K ρ H ε σ) (hi : i < ε.length) (r : RV K (ρ.plus (Av ε σ [])) H d v) : Rs K ρ H (ε.set i (.v d)) (σ.set i (some v)) := by
  have av : ∀ ys a, Av (ε.set i (.v d)) (σ.set i (some v)) ys a → Av ε σ ys a := fun ys a z => Av.anti (fun j m => List.mem_cons_of_mem _ m) a (Av.setV a z)
  refine ⟨by simp [h.len], fun j d' e => ?_, fun j d' e => ?_⟩
  · by_cases hj : i = j
    · subst hj
      rw [List.getElem?_set, if_pos rfl, if_pos hi] at e
      cases e
      exact ⟨v, by rw [List.getElem?_set, if_pos rfl, if_pos (by rw [← h.len]; exact hi)], plus_anti (av []) r⟩
    · rw [List.getElem?_set_ne hj] at e
      obtain ⟨v', e1, r1⟩ := h.val j d' e
      exact ⟨v', by rw [List.getElem?_set_ne hj]; exact e1, plus_anti (av []) r1⟩
  · by_cases hj : i = j
    · subst hj
      rw [List.getElem?_set, if_pos rfl, if_pos hi] at e
      cases e
    · rw [List.getElem?_set_ne hj] at e
      obtain ⟨v', e1, r1⟩ := h.own j d' e
      exact ⟨v', by rw [List.getElem?_set_ne hj]; exact e1, r1.anti (av [j])⟩
end
mutual
theorem tg_ok {ρ : Fx} {H : Hp} {n : Addr → Prop} : ∀ (t : Tg) (d : D) (v : V) (ε ε' : Env) (σ : L2.St) (Q : L2.St → Hp → Prop), tgS t d ε = some ε' → RV K (ρ.plus n) H d v → (∀ a, Av ε σ [] a → n a) → Rs K ρ H ε σ →
    (∀ σ', Rs K ρ H ε' σ' → (∀ a, Av ε' σ' [] a → Av ε σ [] a) → (∀ vs, tgIn vs t = true → wipe σ' vs = wipe σ vs) → Q σ' H) → gOf K t v σ H Q
  | .n i, d, v, ε, ε', σ, Q, e, r, hn, hs, q => by
    simp only [tgS] at e
    split at e
    · rename_i hi
      cases e
      simp only [gOf]
      exact q _ (hs.set hi (plus_anti hn r)) (fun a z => Av.anti (fun j m => by cases m) a (Av.setV a z)) (fun vs h => by
        simp only [tgIn, decide_eq_true_eq] at h
        exact wipe_set h)
    · cases e
  | .t ts, d, v, ε, ε', σ, Q, e, r, hn, hs, q => by
    simp only [tgS] at e
    split at e
    · rename_i ds
      obtain ⟨a, vs, rfl, _, sq, t⟩ := r.tup
      simp only [gOf]
      have hl : ds.length = ts.length := tgs_len ts ds ε ε' e
      exact .inl ⟨a, vs, rfl, sq, by rw [← t.len, hl], tgs_ok ts ds vs ε ε' σ Q e t hn hs fun σ' h1 h2 h3 => q σ' h1 h2 fun ws hw => h3 ws (by simpa only [tgIn] using hw)⟩
    · rename_i ds
      obtain ⟨a, vs, rfl, _, sq, _, _, t⟩ := r.lst
      simp only [gOf]
      have hl : ds.length = ts.length := tgs_len ts ds ε ε' e
      exact .inr ⟨a, vs, rfl, SqL.of sq, by rw [← t.len, hl], tgs_ok ts ds vs ε ε' σ Q e t hn hs fun σ' h1 h2 h3 => q σ' h1 h2 fun ws hw => h3 ws (by simpa only [tgIn] using hw)⟩
    · cases e
theorem tgs_len : ∀ (ts : List Tg) (ds : List D) (ε ε' : Env), tgsS ts ds ε = some ε' → ds.length = ts.length
  | [], [], ε, ε', e => rfl
  | [], _ :: _, ε, ε', e => by simp [tgsS] at e
  | _ :: _, [], ε, ε', e => by simp [tgsS] at e
  | t :: ts, d :: ds, ε, ε', e => by
    simp only [tgsS] at e
    split at e
    · rename_i ε1 e1
      simp [tgs_len ts ds ε1 ε' e]
    · cases e
theorem tgs_ok {ρ : Fx} {H : Hp} {n : Addr → Prop} : ∀ (ts : List Tg) (ds : List D) (vs : List V) (ε ε' : Env) (σ : L2.St) (Q : L2.St → Hp → Prop), tgsS ts ds ε = some ε' → RVs K (ρ.plus n) H ds vs → (∀ a, Av ε σ [] a → n a) → Rs K ρ H ε σ →
    (∀ σ', Rs K ρ H ε' σ' → (∀ a, Av ε' σ' [] a → Av ε σ [] a) → (∀ ws, tgsIn ws ts = true → wipe σ' ws = wipe σ ws) → Q σ' H) → gsOf K ts vs σ H Q
  | [], [], vs, ε, ε', σ, Q, e, r, hn, hs, q => by
    simp only [RVs] at r; subst r
    simp only [tgsS] at e; cases e
    simp only [gsOf]
    exact ⟨rfl, q σ hs (fun _ z => z) fun _ _ => rfl⟩
  | [], _ :: _, _, ε, ε', _, _, e, _, _, _, _ => by simp [tgsS] at e
  | _ :: _, [], _, ε, ε', _, _, e, _, _, _, _ => by simp [tgsS] at e
  | t :: ts, d :: ds, vs, ε, ε', σ, Q, e, r, hn, hs, q => by
    simp only [tgsS] at e
    split at e
    · rename_i ε1 e1
      obtain ⟨v, vr, rfl, rv, rr⟩ := r.uncons
      simp only [gsOf]
      refine ⟨v, vr, rfl, tg_ok t d v ε ε1 σ _ e1 rv hn hs fun σ1 h1 a1 w1 => tgs_ok ts ds vr ε1 ε' σ1 Q e rr (fun a z => hn a (a1 a z)) h1 fun σ2 h2 a2 w2 => q σ2 h2 (fun a z => a1 a (a2 a z)) fun ws hw => ?_⟩
      simp only [tgsIn, Bool.and_eq_true] at hw
      rw [w2 ws hw.2, w1 ws hw.1]
    · cases e
end
theorem lcLoop_noexc {tgt : D → Option Env} {fc : Env → Sto → Out Bool} {fe : Env → Sto → Out D} : ∀ (ds : List D) (S : Sto) (c : Str) (v : Option (Str × D)) (S1 : Sto), lcLoop tgt fc fe ds S ≠ .exc c v S1
  | [], S, c, v, S1 => by simp [lcLoop]
  | d :: r, S, c, v, S1 => by
    simp only [lcLoop]
    split
    · simp
    · rename_i ε _
      cases e1 : fc ε S with
      | ok b S2 =>
        simp only [noX, Out.bind_ok]
        split
        · cases e2 : fe ε S2 with
          | ok y S3 =>
            simp only [Out.bind_ok]
            cases e3 : lcLoop tgt fc fe r S3 with
            | ok ys S4 => simp
            | exc c' v' S4 => exact absurd e3 (lcLoop_noexc r S3 c' v' S4)
            | bad => simp
          | exc c' v' S3 => simp
          | bad => simp
        · exact lcLoop_noexc r S2 c v S1
      | exc c' v' S2 => simp [noX]
      | bad => simp [noX]
end
end GG
namespace GG
open PySem PySem.Spec PyProof.Rows L2
abbrev W0 : WX := fun _ _ _ _ => False
def TFn (K : KW) (mg : Str → Option Value) (W : WX) (xs : List Nat) (f : Env → Sto → Out D) : TE := fun σ H Q => TG0 K mg (RN K H) W xs f σ H Q
section
variable {K : KW} {mg : Str → Option Value} {W : WX} {ρ : Fx} {H : Hp} {S : Sto}
theorem RN.rv {H0 : Hp} {d : D} {v : V} (h : RN K H0 ρ H d v) : RV K ρ H d v := by
  obtain ⟨a, rfl, _, o⟩ := h
  exact o.rv
theorem TFn.tf {xs : List Nat} {f : Env → Sto → Out D} {σ : L2.St} {Q : VK} (q : TF K mg W xs f σ H Q) : TFn K mg W xs f σ H Q := by
  obtain ⟨ρ, ε, S, hs, hp, q⟩ := q
  refine ⟨ρ, ε, S, hs, hp, ?_⟩
  cases e : f ε S with
  | ok d S1 => rw [e] at q; exact fun l v H' s rp r => q l v H' s rp r.rv
  | exc c x S1 => rw [e] at q; exact q
  | bad => rw [e] at q; exact q
theorem Rp.gw {H' : Hp} (rp : Rp ρ S H) (g : Gw H H') : Rp ρ S H' := by
  rcases g with rfl | ⟨T, o, h, rfl⟩
  · exact rp
  · exact rp.fresh h
theorem Kq.put {a : Addr} {u o : HO} (h : H a = some u) (hn : ρ.n a) (n1 : ∀ xs, u ≠ .tup xs) (n2 : ∀ o x, u ≠ .frz o x) : Kq ρ H ρ.l (upd H a o) :=
  ⟨pre_refl _, fun b xs e => by rw [upd_ne (ne_of e h fun z => n1 _ z.symm)]; exact e, fun b o u e => by rw [upd_ne (ne_of e h fun z => n2 _ _ z.symm)]; exact e,
    fun b u e m1 m2 => ⟨by rw [upd_ne (fun z : b = a => m2 (by rw [z]; exact hn))]; exact e, m1⟩⟩
mutual
theorem tgS_other {own : List Nat} {i : Nat} (hi : i ∉ own) : ∀ (t : Tg) (d : D) (ε ε' : Env), tgIn own t = true → tgS t d ε = some ε' → ε'[i]? = ε[i]?
  | .n j, d, ε, ε', h, e => by
    simp only [tgIn, decide_eq_true_eq] at h
    simp only [tgS] at e
    split at e
    · cases e; rw [List.getElem?_set_ne (fun z : j = i => hi (by rw [← z]; exact h))]
    · cases e
  | .t ts, d, ε, ε', h, e => by
    simp only [tgIn] at h
    simp only [tgS] at e
    split at e
    · exact tgsS_other hi ts _ ε ε' h e
    · exact tgsS_other hi ts _ ε ε' h e
    · cases e
theorem tgsS_other {own : List Nat} {i : Nat} (hi : i ∉ own) : ∀ (ts : List Tg) (ds : List D) (ε ε' : Env), tgsIn own ts = true → tgsS ts ds ε = some ε' → ε'[i]? = ε[i]?
  | [], [], ε, ε', h, e => by simp only [tgsS] at e; cases e; rfl
  | [], _ :: _, ε, ε', h, e => by simp [tgsS] at e
  | _ :: _, [], ε, ε', h, e => by simp [tgsS] at e
  | t :: ts, d :: ds, ε, ε', h, e => by
    simp only [tgsIn, Bool.and_eq_true] at h
    simp only [tgsS] at e
    split at e
    · rename_i ε1 e1
      rw [tgsS_other hi ts ds ε1 ε' h.2 e, tgS_other hi t d ε ε1 h.1 e1]
    · cases e
end
end
section
variable {X : Cx} {W : WX}
theorem lc_imp {own xi xf xe X0 : List Nat} {tg : Tg} {fi : Env → Sto → Out (List D × Bool)} {fc : Env → Sto → Out Bool} {fe : Env → Sto → Out D} (hX : X0 = own ++ (xi ++ (xf ++ xe))) (hin : tgIn own tg = true) (σ : L2.St) (H : Hp) (Q : VK)
    (q : TFn (kw X) X.mg W X0 (fun ε S => (fi ε S).bind fun p S1 =>
      (lcLoop (fun d => tgS tg d (wipeE (fz X0 ε) own)) fc fe p.1 S1).bind fun ys S2 => .ok (.lst ys) S2) σ H Q) :
    tLc (TFi (kw X) X.mg W xi fi) (gOf X.K tg) (TFt (kw X) X.mg W0 xf fc) (TF (kw X) X.mg W0 xe fe) own σ H Q := by
  obtain ⟨ρ, ε, S, rs, rp, q⟩ := q
  refine TG0.go2 (xs := X0) (fun i m => by rw [hX]; simp [m]) rs rp q fun l1 J H1 p S1 sx1 rs1 rp1 wk q1 => fun Da hD => ?_
  obtain ⟨wk, _⟩ := wk
  have hD0 : H Da = none := by
    cases e : H Da with
    | none => rfl
    | some u => exact absurd hD (sx1.dm Da (by rw [e]; exact fun z => nomatch z))
  have nD1 : Da ∉ l1 := (rp1.nin hD).1
  have rsD : Rs (kw X) ((ρ.to l1).plus (· = Da)) H1 (wipeE (fz X0 ε) own) (wipe σ own) := ((rs1.plus (n := (· = Da)) (fun a z => by rw [z]; exact hD)).fz X0).wipe own
  have av0 : ∀ a, Av (wipeE (fz X0 ε) own) (wipe σ own) [] a → Av ε σ X0 a := fun a ⟨i, d, _, e1, e2⟩ => by
    rw [wipeE_get] at e1
    rw [wipe_get] at e2
    by_cases hi : i ∈ own
    · rw [if_pos hi] at e1
      obtain ⟨_, _, z⟩ := Option.map_eq_some_iff.mp e1
      cases z
    · rw [if_neg hi] at e1 e2
      obtain ⟨n, e3⟩ := fz_o e1
      exact ⟨i, d, n, e3, e2⟩
  let ρX : Fx := (ρ.to l1).plus (Av ε σ X0)
  have rpX : Rp ρX S1 H1 := rs1.rp rp1 X0
  let Iv : Nat → Nat → Hp → Prop := fun i m H2 => m = p.1.length - i ∧ i ≤ p.1.length ∧ ∃ l S2 acc vacc, Sx l1 H1 l H2 ∧ Rp (ρX.to l) S2 H2 ∧ Da ∉ l ∧ H2 Da = some (.lst vacc) ∧ RVs (kw X) ((ρX.plus (· = Da)).to l) H2 acc vacc ∧ acc.length ≤ i ∧
    Post (kw X) X.mg (RN (kw X) H) (XW W σ) ρX H1 ((lcLoop (fun d => tgS tg d (wipeE (fz X0 ε) own)) fc fe (p.1.drop i) S2).bind fun ys S3 => .ok (.lst (acc ++ ys)) S3) Q
  refine ⟨Iv, ⟨p.1.length, by simp, Nat.zero_le _, l1, S1, [], [], Sx.fresh hD, rpX.fresh hD, nD1, upd_same, RVs.nil, Nat.le_refl _, q1⟩, ?_⟩
  rintro i m H2 ⟨rfl, hle, l, S2, acc, vacc, sx2, rp2, nD, hD2, racc, hacc, q2⟩
  have kqW : Kq ((ρ.to l1).plus (Av ε σ xi)) H1 l H2 := Sx.kq (ρ := (ρ.to l1).plus (Av ε σ xi)) sx2 (rs1.rp rp1 xi)
  by_cases hlt : i < p.1.length
  · have ed : p.1[i]? = some p.1[i] := List.getElem?_eq_getElem hlt
    rw [List.drop_eq_getElem_cons hlt] at q2
    simp only [lcLoop] at q2
    split at q2
    · exact q2.elim
    · rename_i ε1 et
      refine .inr ⟨wk.go l H2 i _ kqW ed, fun H' => Iv (i + 1) (p.1.length - (i + 1)) H', fun H' h' => ⟨p.1.length - (i + 1), by omega, h'⟩, fun x H3 hy => ?_⟩
      obtain ⟨gw, rv3⟩ := wk.yld l H2 i _ x H3 kqW ed hy
      have sx23 : Sx l H2 l H3 := gw.sx
      have sx3 : Sx l1 H1 l H3 := sx2.trans sx23
      have hD3 : H3 Da = some (.lst vacc) := sx23.kp Da _ hD2 nD
      have rs3 : Rs (kw X) (((ρ.to l1).plus (· = Da)).to l) H3 (wipeE (fz X0 ε) own) (wipe σ own) := rsD.gen (Kq.plus (Sx.kq (ρ := ρ.to l1) sx3 rp1))
      have rp3 : Rp (ρX.to l) S2 H3 := rp2.gw gw
      have rpD3 : Rp (((ρ.to l1).plus (· = Da)).to l) S2 H3 := ⟨rp3.len, rp3.nd, rp3.obj, fun a z => z.elim (fun z => rp3.dom a (.inl z)) fun z => by rw [z, hD3]; exact fun z => nomatch z⟩
      have rvD : RV (kw X) ((((ρ.to l1).plus (· = Da)).to l).plus (Av (wipeE (fz X0 ε) own) (wipe σ own) [])) H3 p.1[i] x :=
        RV.anti (ρ := (((ρ.to l1).plus (Av ε σ xi)).nw H1).to l) (n := ((((ρ.to l1).plus (· = Da)).to l).plus (Av (wipeE (fz X0 ε) own) (wipe σ own) [])).n) (fun a z => by
          rcases z with (z | z) | z
          · exact .inl (.inl z)
          · exact .inr (by rw [z]; exact hD)
          · exact .inl (.inr (Av.anti (fun j m => by rw [hX]; simp [m]) a (av0 a z)))) _ _ rv3
      refine tg_ok tg _ x _ ε1 _ _ et rvD (fun a z => z) rs3 fun σ1 rs4 av4 hw => ⟨?_, ?_⟩
      · rw [hw own hin]
        apply List.ext_getElem?
        intro j
        rw [wipe_get]
        by_cases hj : j ∈ own
        · rw [if_pos hj, wipe_get, if_pos hj]
          cases σ[j]? <;> rfl
        · rw [if_neg hj]
      · have avI : ∀ a, Av ε σ X0 a → Av ε1 σ1 xe a := fun a ⟨j, d, n, e1, e2⟩ => by
          have nown : j ∉ own := fun m => n (by rw [hX]; simp [m])
          refine ⟨j, d, fun m => n (by rw [hX]; simp [m]), ?_, ?_⟩
          · rw [tgS_other nown tg _ _ ε1 hin et, wipeE_get, if_neg nown, fz_get, e1]
            simp [n]
          · have := congrArg (fun l : L2.St => l[j]?) (hw own hin)
            simp only [wipe_get, if_neg nown] at this
            rw [this]; exact e2
        refine ⟨((ρ.to l1).plus (· = Da)).to l, ε1, S2, rs4, rpD3, ?_⟩
        cases e1 : fc ε1 S2 with
        | bad => rw [e1] at q2; exact q2.elim
        | exc c v S3 => rw [e1] at q2; exact q2.elim
        | ok b S3 =>
          rw [e1] at q2
          simp only [noX, Out.bind_ok] at q2
          intro l3 b' H4 sx4 rp4 eb
          have eb' : b' = b := eb
          subst eb'
          have hD4 : H4 Da = some (.lst vacc) := sx4.kp Da _ hD3 nD
          have nD4 : Da ∉ l3 := sx4.out hD3 nD
          have rp4X : Rp (ρX.to l3) S3 H4 := ⟨rp4.len, rp4.nd, rp4.obj, fun a z => sx4.dm a (rp3.dom a z)⟩
          have racc3 : RVs (kw X) ((ρX.plus (· = Da)).to l) H3 acc vacc := by
            have rpA : Rp ((ρX.plus (· = Da)).to l) S2 H2 := ⟨rp2.len, rp2.nd, rp2.obj, fun a z => z.elim (rp2.dom a) fun z => by rw [z, hD2]; exact fun z => nomatch z⟩
            exact racc.mono rpA sx23
          have racc4 : RVs (kw X) ((ρX.plus (· = Da)).to l3) H4 acc vacc := by
            have rpA : Rp ((ρX.plus (· = Da)).to l) S2 H3 := ⟨rp3.len, rp3.nd, rp3.obj, fun a z => z.elim (rp3.dom a) fun z => by rw [z, hD3]; exact fun z => nomatch z⟩
            exact racc3.mono rpA sx4
          cases b' with
          | false =>
            rw [if_neg Bool.false_ne_true] at q2 ⊢
            exact ⟨rfl, hlt, l3, S3, acc, vacc, sx3.trans sx4, rp4X, nD4, hD4, racc4, by omega, q2⟩
          | true =>
            rw [if_pos rfl] at q2 ⊢
            have rpD4 : Rp (((ρ.to l1).plus (· = Da)).to l3) S3 H4 := ⟨rp4.len, rp4.nd, rp4.obj, fun a z => sx4.dm a (rpD3.dom a z)⟩
            refine ⟨((ρ.to l1).plus (· = Da)).to l3, ε1, S3, rs4.mono rpD3 sx4, rpD4, ?_⟩
            cases e2 : fe ε1 S3 with
            | bad => rw [e2] at q2; exact q2.elim
            | exc c v S4 => rw [e2] at q2; exact q2.elim
            | ok y S4 =>
              rw [e2] at q2
              simp only [noX, Out.bind_ok] at q2
              intro l4 vy H5 sx5 rp5 ry
              have hD5 : H5 Da = some (.lst vacc) := sx5.kp Da _ hD4 nD4
              have nD5 : Da ∉ l4 := sx5.out hD4 nD4
              have racc5 : RVs (kw X) ((ρX.plus (· = Da)).to l4) H5 acc vacc := by
                have rpA : Rp ((ρX.plus (· = Da)).to l3) S3 H4 := ⟨rp4.len, rp4.nd, rp4.obj, fun a z => z.elim (rp4X.dom a) fun z => by rw [z, hD4]; exact fun z => nomatch z⟩
                exact racc4.mono rpA sx5
              have ryA : RV (kw X) ((ρX.plus (· = Da)).to l4) H5 y vy :=
                RV.anti (ρ := ((((ρ.to l1).plus (· = Da)).to l3).plus (Av ε1 σ1 xe)).to l4) (n := (ρX.plus (· = Da)).n) (fun a z => by
                  rcases z with (z | z) | z
                  · exact .inl (.inl z)
                  · exact .inr (avI a z)
                  · exact .inl (.inr z)) _ _ ry
              have ra := racc5.len
              have hz := wk.sz
              refine ⟨vacc, hD5, by rw [← ra]; omega, ?_⟩
              have kqD : Kq ((ρX.plus (· = Da)).to l4) H5 l4 (upd H5 Da (.lst (vacc ++ [vy]))) := Kq.put hD5 (.inr rfl) (fun _ z => nomatch z) (fun _ _ z => nomatch z)
              have rp5X : Rp (ρX.to l4) S4 H5 := ⟨rp5.len, rp5.nd, rp5.obj, fun a z => sx5.dm a (rp4X.dom a z)⟩
              refine ⟨rfl, hlt, l4, S4, acc ++ [y], vacc ++ [vy], ?_, ?_, nD5, upd_same, RVs.gen kqD _ _ (racc5.append (.one ryA)), by rw [List.length_append]; simp; omega, ?_⟩
              · have s15 := (sx3.trans sx4).trans sx5
                refine ⟨s15.pre, fun b u e n => ?_, s15.nw, fun b e => ?_⟩
                · rw [upd_ne (ne_of_none e hD)]; exact s15.kp b u e n
                · by_cases hb : b = Da
                  · rw [hb, upd_same]; exact fun z => nomatch z
                  · rw [upd_ne hb]; exact s15.dm b e
              · refine ⟨rp5X.len, rp5X.nd, fun i a t e1 e2 => ?_, fun a z => ?_⟩
                · rw [upd_ne (fun z : a = Da => nD5 (by rw [← z]; exact List.mem_of_getElem? e1))]; exact rp5X.obj i a t e1 e2
                · by_cases hb : a = Da
                  · rw [hb, upd_same]; exact fun z => nomatch z
                  · rw [upd_ne hb]; exact rp5X.dom a z
              · cases e3 : lcLoop (fun d => tgS tg d (wipeE (fz X0 ε) own)) fc fe (p.1.drop (i + 1)) S4 with
                | bad => rw [e3] at q2; exact q2.elim
                | exc c v S5 => exact absurd e3 (lcLoop_noexc _ _ _ _ _)
                | ok ys S5 =>
                  rw [e3] at q2
                  simp only [Out.bind_ok] at q2 ⊢
                  simpa only [List.append_assoc, List.cons_append, List.nil_append] using q2
  · have hii : i = p.1.length := by omega
    subst hii
    rw [List.drop_length] at q2
    simp only [lcLoop, Out.bind_ok, List.append_nil] at q2
    refine .inl ⟨wk.stop l H2 kqW, q2 l (.ref Da) H2 sx2 rp2 ⟨Da, rfl, hD0, vacc, Nat.le_trans hacc wk.sz, hD2, nD, fun z => rpX.dom Da z hD, racc⟩⟩
theorem pe_lcG {el t it : Expr} {fs : List Expr} {scope : Scope} {pos : Pos} {own xi xf xe X0 : List Nat} {tg : Tg} {fi : Env → Sto → Out (List D × Bool)} {fc : Env → Sto → Out Bool} {fe : Env → Sto → Out D}
    (hX : X0 = own ++ (xi ++ (xf ++ xe))) (hc : X.calm = true) (hN : X.N.Nodup) (hi : PI X t it (TFi (kw X) X.mg W xi fi)) (ok : BlkOk X.N X.env.scope scope (ownOf X.N own)) (hin : tgIn own tg = true)
    (hg : ∀ (s : Shared) (H : Hp) (C : Addr) (c : List (Str × Addr)) (fp : List Addr), PG (X.blk s H scope (compEnvC scope c C X.env) fp) t (gOf X.K tg))
    (ht : ∀ (s : Shared) (H : Hp) (C : Addr) (c : List (Str × Addr)) (fp : List Addr), PTs (X.blk s H scope (compEnvC scope c C X.env) fp) fs (TFt (kw X) X.mg W0 xf fc))
    (he : ∀ (s : Shared) (H : Hp) (C : Addr) (c : List (Str × Addr)) (fp : List Addr), PE (X.blk s H scope (compEnvC scope c C X.env) fp) el (TF (kw X) X.mg W0 xe fe)) (hs : ∀ x, foldedSetIterable it X.env x = pure x) :
    PE X (.ListComp el [⟨t, it, fs, 0⟩] scope pos) (TFn (kw X) X.mg W X0 fun ε S => (fi ε S).bind fun p S1 =>
      (lcLoop (fun d => tgS tg d (wipeE (fz X0 ε) own)) fc fe p.1 S1).bind fun ys S2 => .ok (.lst ys) S2) := by
  have eown : (ownOf X.N own).map (·.2) = own := by
    unfold ownOf
    rw [List.map_map]
    exact List.map_id' _
  have base := pe_lc (pos := pos) hc hN hi ok hg ht he hs
  rw [eown] at base
  exact PE.imp base fun σ H Q q => lc_imp hX hin σ H Q q
end
end GG
namespace GG
open PySem PySem.Spec PyProof.Rows L2
/-! ## every expression of the language -/
section
variable {K : KW} {mg : Str → Option Value} {cn : Cn} {cl : Nat → List D → Sto → Out D} {k : Nat} {W : WX} {X : Cx}
theorem Post.up {α β : Type} {RA : Fx → Hp → α → β → Prop} {E : XK} {ρ : Fx} {n : Addr → Prop} {H : Hp} {r : Out α} {Q : β → Hp → Prop} (hn : ∀ a, ρ.n a → n a) (ha : ∀ l H d v, RA ((ρ.w n).to l) H d v → RA (ρ.to l) H d v) (h : Post K mg RA E ρ H r Q) : Post K mg RA E (ρ.w n) H r Q := by
  have low : ∀ {l : List Addr} {S : Sto} {H' : Hp}, Rp ((ρ.w n).to l) S H' → Rp (ρ.to l) S H' := fun rp => ⟨rp.len, rp.nd, rp.obj, fun a ha => rp.dom a (hn a ha)⟩
  cases r with
  | ok d S => exact fun l v H' s rp r => h l v H' s (low rp) (ha l H' d v r)
  | exc c x S => exact fun l H' cls dd s rp rx => h l H' cls dd s (low rp) (RX.anti (n := ρ.n) hn rx)
  | bad => exact h
theorem TF.go {xs ys : List Nat} {ρ : Fx} {ε : Env} {S : Sto} {σ : L2.St} {H : Hp} {r : Env → Sto → Out D} {Q : VK} (hx : ∀ i, i ∈ ys → i ∈ xs) (hs : Rs K ρ H ε σ) (rp : Rp ρ S H) (q : Post K mg (RV K) (XW W σ) (ρ.plus (Av ε σ xs)) H (r ε S) Q) : TF K mg W ys r σ H Q :=
  ⟨ρ, ε, S, hs, rp, Post.up (ρ := ρ.plus (Av ε σ xs)) (n := (ρ.plus (Av ε σ ys)).n) (fun a z => z.imp id (Av.anti hx a)) (fun l H d v r => RV.anti (ρ := (ρ.plus (Av ε σ ys)).to l) (n := (ρ.plus (Av ε σ xs)).n) (fun a z => z.imp id (Av.anti hx a)) d v r) q⟩
theorem TFt.go {xs ys : List Nat} {ρ : Fx} {ε : Env} {S : Sto} {σ : L2.St} {H : Hp} {r : Env → Sto → Out Bool} {Q : Bool → Hp → Prop} (hx : ∀ i, i ∈ ys → i ∈ xs) (hs : Rs K ρ H ε σ) (rp : Rp ρ S H) (q : Post K mg RB (XW W σ) (ρ.plus (Av ε σ xs)) H (r ε S) Q) : TFt K mg W ys r σ H Q :=
  ⟨ρ, ε, S, hs, rp, Post.up (ρ := ρ.plus (Av ε σ xs)) (n := (ρ.plus (Av ε σ ys)).n) (fun a z => z.imp id (Av.anti hx a)) (fun l H d v r => r) q⟩
def TFo (K : KW) (mg : Str → Option Value) (W : WX) (xs : List Nat) (f : Env → Sto → Out (Option Int)) : TO := TG0 K mg (fun _ _ a b => b = a) W xs f
theorem PO.imp {e : Option Expr} {t t' : TO} (h : PO X e t) (i : ∀ σ H Q, t' σ H Q → t σ H Q) : PO X e t' := ⟨fun pins s σ H Q I q => h.run pins s σ H Q I (i σ H Q q)⟩
theorem PTs.imp {e : List Expr} {t t' : TT} (h : PTs X e t) (i : ∀ σ H Q, t' σ H Q → t σ H Q) : PTs X e t' := ⟨fun pins s σ H Q I q => h.run pins s σ H Q I (i σ H Q q)⟩
theorem tf_sl {xa xl xh : List Nat} {fa : Env → Sto → Out D} {fl fh : Env → Sto → Out (Option Int)} (σ : L2.St) (H : Hp) (Q : VK)
    (q : TF K mg W (xa ++ (xl ++ xh)) (fun ε S => (fa ε S).bind fun x S1 => (fl ε S1).bind fun l S2 => (fh ε S2).bind fun h S3 => .of S3 (opSl x l h)) σ H Q) : tSl (rSlX K) (TF K mg W xa fa) (TFo K mg W xl fl) (TFo K mg W xh fh) σ H Q := by
  obtain ⟨ρ, ε, S, hs, hp, q⟩ := q
  refine TG0.go2 (xs := xa ++ (xl ++ xh)) (fun i m => by simp [m]) hs hp q fun l vx H1 x S1 s1 hs1 rp1 rx q1 => ?_
  refine TG0.go2 (xs := xa ++ (xl ++ xh)) (fun i m => by simp [m]) hs1 rp1 q1 fun l2 vl H2 lo S2 s2 hs2 rp2 rl q2 => ?_
  subst rl
  refine TG0.go2 (xs := xa ++ (xl ++ xh)) (fun i m => by simp [m]) hs2 rp2 q2 fun l3 vh H3 hi S3 s3 hs3 rp3 rh q3 => ?_
  subst rh
  refine vr_sl _ _ _ _ _ _ _ _ _ (hs3.rp rp3 _) ?_ q3
  have r2 : RV K (((ρ.to l).to l2).plus (Av ε σ xa)) H2 x vx := rx.mono (hs1.rp rp1 _) s2
  have r3 : RV K ((((ρ.to l).to l2).to l3).plus (Av ε σ xa)) H3 x vx := r2.mono (hs2.rp rp2 _) s3
  exact plus_anti (Av.anti fun i m => by simp [m]) r3
/-- a new list that nobody holds -/
theorem post_lstN {E : XK} {H0 : Hp} {ρ : Fx} {H : Hp} {S : Sto} {Q : VK} {ds : List D} {vs : List V} (rp : Rp ρ S H) (z : ds.length ≤ sizeLine) (r : RVs K ρ H ds vs) (hd : ∀ a, H0 a ≠ none → H a ≠ none) (q : Post K mg (RN K H0) E ρ H (.ok (.lst ds) S) Q) (p : Addr) (hp : H p = none) : Q (.ref p) (upd H p (.lst vs)) := by
  refine q ρ.l (.ref p) _ (Sx.fresh hp) (rp.fresh hp) ⟨p, rfl, ?_, vs, z, upd_same, (rp.nin hp).1, (rp.nin hp).2, ?_⟩
  · cases e : H0 p with
    | none => rfl
    | some u => exact absurd hp (hd p (by rw [e]; exact fun z => nomatch z))
  · have := RVs.dom (ρ := ρ) (n := (· = p)) (fun a z => by rw [z]; exact hp) _ _ r
    exact RVs.gen (Kq.fresh (ρ := ρ.plus (· = p)) hp) _ _ this
theorem post_dictN {E : XK} {H0 : Hp} {ρ : Fx} {H : Hp} {S : Sto} {Q : VK} {ds : List (Key × D)} {vs : List (Key × V)} (rp : Rp ρ S H) (r : RKV K ρ H ds vs) (hd : ∀ a, H0 a ≠ none → H a ≠ none) (q : Post K mg (RN K H0) E ρ H (.ok (.dct ds) S) Q) (p : Addr) (hp : H p = none) : Q (.ref p) (upd H p (.dK vs)) := by
  refine q ρ.l (.ref p) _ (Sx.fresh hp) (rp.fresh hp) ⟨p, rfl, ?_, vs, upd_same, (rp.nin hp).1, (rp.nin hp).2, ?_⟩
  · cases e : H0 p with
    | none => rfl
    | some u => exact absurd hp (hd p (by rw [e]; exact fun z => nomatch z))
  · have := RKV.dom (ρ := ρ) (n := (· = p)) (fun a z => by rw [z]; exact hp) _ _ r
    exact RKV.gen (Kq.fresh (ρ := ρ.plus (· = p)) hp) _ _ this
theorem tf_lst {xs : List Nat} {fs : Env → Sto → Out (List D)} (σ : L2.St) (H : Hp) (Q : VK) (q : TFn K mg W xs (fun ε S => (fs ε S).bind fun ds S1 => if ds.length ≤ sizeLine then .ok (.lst ds) S1 else .bad) σ H Q) : tLst (TFs K mg W xs fs) σ H Q := by
  obtain ⟨ρ, ε, S, hs, hp, q⟩ := q
  refine TG0.go2 (xs := xs) (fun i m => m) hs hp q fun l vs H1 ds S1 s1 hs1 rp1 rv q1 => ?_
  split at q1
  · rename_i z
    exact ⟨by rw [← rv.len]; exact z, fun p hp => post_lstN (hs1.rp rp1 _) z rv s1.dm q1 p hp⟩
  · exact q1.elim
theorem tf_tup {xs : List Nat} {fs : Env → Sto → Out (List D)} (σ : L2.St) (H : Hp) (Q : VK) (q : TF K mg W xs (fun ε S => (fs ε S).bind fun ds S1 => if ds.length ≤ sizeLine then .ok (.tup ds) S1 else .bad) σ H Q) : tTup (TFs K mg W xs fs) σ H Q := by
  obtain ⟨ρ, ε, S, hs, hp, q⟩ := q
  refine TG0.go2 (xs := xs) (fun i m => m) hs hp q fun l vs H1 ds S1 s1 hs1 rp1 rv q1 => ?_
  split at q1
  · rename_i z
    exact ⟨by rw [← rv.len]; exact z, fun p hp => post_tup (hs1.rp rp1 _) z rv q1 p hp⟩
  · exact q1.elim
theorem tf_if {xt xa xb : List Nat} {ft : Env → Sto → Out Bool} {fa fb : Env → Sto → Out D} (σ : L2.St) (H : Hp) (Q : VK) (q : TF K mg W (xt ++ (xa ++ xb)) (fun ε S => (ft ε S).bind fun b S2 => if b = true then fa ε S2 else fb ε S2) σ H Q) :
    tIf (TFt K mg W xt ft) (TF K mg W xa fa) (TF K mg W xb fb) σ H Q := by
  obtain ⟨ρ, ε, S, hs, hp, q⟩ := q
  refine TG0.go2 (xs := xt ++ (xa ++ xb)) (fun i m => by simp [m]) hs hp q fun l b H1 d S1 s1 hs1 rp1 e q1 => ?_
  have e' : b = d := e
  subst e'
  cases b with
  | true => rw [if_pos rfl] at q1 ⊢; exact TF.go (xs := xt ++ (xa ++ xb)) (fun i m => by simp [m]) hs1 rp1 q1
  | false => rw [if_neg Bool.false_ne_true] at q1 ⊢; exact TF.go (xs := xt ++ (xa ++ xb)) (fun i m => by simp [m]) hs1 rp1 q1
theorem ty_V {ρ : Fx} {H : Hp} {S : Sto} {d : D} {v : V} {n : String} (rp : Rp ρ S H) (r : RV K ρ H d v) (h : tyName d = some n) : TyX K H v (.type n) := by
  cases d with
  | non => cases h; rw [r.non]; exact .base .non
  | bl b => cases h; rw [r.bl]; exact .base (.bl b)
  | int b => cases h; rw [r.int]; exact .base (.int b)
  | str b => cases h; rw [r.str]; exact .base (.str b)
  | tup ds =>
    cases h
    obtain ⟨a, vs, rfl, _, sq, _⟩ := r.tup
    rcases sq with (sq | ⟨o, sq⟩) | ⟨o, its, n, hk, hc, _⟩
    · exact .base (.tup sq)
    · exact .fTuple sq
    · exact .kTuple hk hc
  | rol ds =>
    cases h
    obtain ⟨a, vs, rfl, _, sq, _⟩ := r.rol
    rcases sq with ⟨o, sq⟩ | ⟨o, its, n, hk, hc, _⟩
    · exact .base (.frz sq)
    · exact .kList hk hc
  | lst ds => cases h; obtain ⟨a, vs, rfl, _, q, _⟩ := r.lst; exact .base (.lst q)
  | dct ds => cases h; obtain ⟨a, vs, rfl, q, _⟩ := r.dct; exact .base (.dK q)
  | stm j =>
    cases h
    obtain ⟨a, e, rfl⟩ := r.stm
    have hl : j < S.length := by rw [← rp.len]; exact (List.getElem?_eq_some_iff.mp e).1
    exact .base (.lst (rp.obj j a S[j] e (List.getElem?_eq_getElem hl)))
  | wdt ds => cases h
theorem kit_isi {K : PySem.W.Frag} {n : String} (d : D) (h : tyName d = some n) (t : Ty) : PySem.W.kitOne K (.type n) (.type t.name) = some (decide (n = t.name) || (decide (n = "bool") && decide (t = .int))) := by
  have hn : n = "NoneType" ∨ n = "bool" ∨ n = "int" ∨ n = "str" ∨ n = "tuple" ∨ n = "list" ∨ n = "dict" := by
    cases d <;> simp only [tyName] at h <;> first | (cases h; done) | (cases h; simp)
  rcases hn with rfl | rfl | rfl | rfl | rfl | rfl | rfl <;> cases t <;> exact kit_ty (by decide +kernel)
theorem tf_isi {xs : List Nat} {fa : Env → Sto → Out D} (t : Ty) (σ : L2.St) (H : Hp) (Q : VK) (q : TF K mg W xs (fun ε S => (fa ε S).bind fun x S1 => .of S1 (isiF t x)) σ H Q) : tCB (rIsi K) (tCons (TF K mg W xs fa) (tCons (tC (.ty t.name)) tNil)) σ H Q := by
  obtain ⟨ρ, ε, S, hs, hp, q⟩ := q
  refine TG0.go2 (xs := xs) (fun i m => m) hs hp q fun l vx H1 x S1 s1 hs1 rp1 rx q1 => ?_
  obtain ⟨d, e, q2⟩ := q1.ofH
  simp only [isiF, Option.map_eq_some_iff] at e
  obtain ⟨n, e, rfl⟩ := e
  exact ⟨vx, .ty t.name, .type n, .type t.name, _, rfl, .ty _, ty_V (hs1.rp rp1 xs) rx e, kit_isi x e t, q2.here (hs1.rp rp1 xs) (.mkBl _)⟩
theorem bi_boot (b : Bi) : bootBuiltins b.name = some b.val := by cases b <;> decide +kernel
theorem bi_name (b : Bi) : b.name ∈ bnames ∧ b.name ≠ "__name__" ∧ (b.name == ("__debug__" : Str)) = false := by
  cases b <;> decide +kernel
theorem pe_bi {b : Bi} {e : Expr} {es : List Expr} {p pos : Pos} {xs : List Nat} {fa : Env → Sto → Out (List D)} (g : Good cn cl k W X) (hg : Gl X b.name) (ha : PA X (e :: es) (TFs (kw X) X.mg W xs fa)) (hs : noStars (e :: es) = true) :
    PE X (.Call (.Name b.name p) (e :: es) [] pos) (TF (kw X) X.mg W xs fun ε S => (fa ε S).bind fun ds S1 => .of S1 (biF b ds)) := by
  obtain ⟨r, hr, vr⟩ := bi_ok (mg := X.mg) g.calm g.sm g.gd g.room.units b
  have hs' := hs
  simp only [noStars, Bool.and_eq_true] at hs'
  obtain ⟨hb, hn, hd⟩ := bi_name b
  have hv := bi_boot b
  have s1 := star_cons (es := es) (env := X.env) hs'.1
  have s2 := star_any (env := X.env) (pos := pos) hs'.2
  cases b <;> first
    | exact PE.imp (pe_callB hr hg (g.blt _ hb) hv ha hn hd s1 s2) fun σ H Q q => tf_cb vr σ H Q q
    | exact PE.imp (pe_callTy hr hg (g.blt _ hb) hv ha hn hd s1 s2) fun σ H Q q => tf_cb vr σ H Q q
/-- a test by a value -/
abbrev trB (f : Env → Sto → Out D) : Env → Sto → Out Bool := fun ε S => (f ε S).bind fun d S1 => .of S1 (tru d)
def PX (cn : Cn) (cl : Nat → List D → Sto → Out D) (k : Nat) (ex : Ex) : Prop :=
  (∀ (X : Cx) (W : WX) (e : Expr), Good cn cl k W X → mE cn ex X.env.scope e = true → PE X e (TF (kw X) X.mg W (vs ex) (evE cl ex)) ∧ PT X e (TFt (kw X) X.mg W (vs ex) (trB (evE cl ex)))) ∧
  (∀ (X : Cx) (W : WX) (e t : Expr), Good cn cl k W X → mI cn ex X.env.scope e t = true → PI X t e (TFi (kw X) X.mg W (vs ex) (evI cl ex)))
def PXs (cn : Cn) (cl : Nat → List D → Sto → Out D) (k : Nat) (es : List Ex) : Prop :=
  (∀ (X : Cx) (W : WX) (ws : List Expr), Good cn cl k W X → mEs cn es X.env.scope ws = true → PA X ws (TFs (kw X) X.mg W (vss es) (evEs cl es))) ∧
  (∀ (X : Cx) (W : WX) (l : Expr) (ws : List Expr) (pos : Pos) (xa : List Nat) (fa : Env → Sto → Out D), Good cn cl k W X → PE X l (TF (kw X) X.mg W xa fa) → PT X l (TFt (kw X) X.mg W xa (trB fa)) → mEs cn es X.env.scope ws = true →
    PE X (.BoolOp .And (l :: ws) pos) (TF (kw X) X.mg W (xa ++ vss es) fun ε S => (fa ε S).bind fun x S1 => evAnd cl es x ε S1) ∧ PW X (.BoolOp .And (l :: ws) pos) (TFt (kw X) X.mg W (xa ++ vss es) (trB fun ε S => (fa ε S).bind fun x S1 => evAnd cl es x ε S1))) ∧
  (∀ (X : Cx) (W : WX) (l : Expr) (ws : List Expr) (pos : Pos) (xa : List Nat) (fa : Env → Sto → Out D), Good cn cl k W X → PE X l (TF (kw X) X.mg W xa fa) → PT X l (TFt (kw X) X.mg W xa (trB fa)) → mEs cn es X.env.scope ws = true →
    PE X (.BoolOp .Or (l :: ws) pos) (TF (kw X) X.mg W (xa ++ vss es) fun ε S => (fa ε S).bind fun x S1 => evOr cl es x ε S1) ∧ PW X (.BoolOp .Or (l :: ws) pos) (TFt (kw X) X.mg W (xa ++ vss es) (trB fun ε S => (fa ε S).bind fun x S1 => evOr cl es x ε S1))) ∧
  (∀ (X : Cx) (W : WX) (o : Option Expr), Good cn cl k W X → mO cn es X.env.scope o = true → PO X o (TFo (kw X) X.mg W (vss es) (evO cl es))) ∧
  (∀ (X : Cx) (W : WX) (fs : List Expr), Good cn cl k W X → mTs cn es X.env.scope fs = true → PTs X fs (TFt (kw X) X.mg W (vss es) (evTs cl es))) ∧
  ∀ a ∈ es, PX cn cl k a
theorem bind_assoc {α β γ : Type} (r : Out α) (f : α → Sto → Out β) (g : β → Sto → Out γ) : (r.bind f).bind g = r.bind fun a S => (f a S).bind g := by
  cases r <;> rfl
/-- a plain expression: its test by its value -/
theorem both {e : Expr} {ex : Ex} (h : PE X e (TF (kw X) X.mg W (vs ex) (evE cl ex))) (p : plainT e = true) : PE X e (TF (kw X) X.mg W (vs ex) (evE cl ex)) ∧ PT X e (TFt (kw X) X.mg W (vs ex) (trB (evE cl ex))) := ⟨h, pt_plain h p⟩
theorem ofI {α : Type} {S : Sto} {o : Option α} : (o = none ∧ Out.of S o = .bad) ∨ ∃ a, o = some a ∧ Out.of S o = .ok a S := by
  cases o with
  | none => exact .inl ⟨rfl, rfl⟩
  | some a => exact .inr ⟨a, rfl, rfl⟩
theorem pxs_nil : PXs cn cl k [] := by
  refine ⟨fun X W ws g h => ?_, fun X W l ws pos xa fa g he ht h => ?_, fun X W l ws pos xa fa g he ht h => ?_, fun X W o g h => ?_, fun X W fs g h => ?_, fun a h => by simp at h⟩
  · cases ws with
    | nil => exact PA.imp pa_nil fun σ H Q q => tf_nil σ H Q q
    | cons e es => simp [mEs] at h
  · cases ws with
    | nil =>
      have e : (fun (ε : Env) (S : Sto) => (fa ε S).bind fun x S1 => evAnd cl [] x ε S1) = fa := by
        funext ε S
        cases fa ε S <;> rfl
      rw [e, show xa ++ vss [] = xa from List.append_nil xa]
      exact ⟨pe_one he, pw_and1 ht⟩
    | cons e es => simp [mEs] at h
  · cases ws with
    | nil =>
      have e : (fun (ε : Env) (S : Sto) => (fa ε S).bind fun x S1 => evOr cl [] x ε S1) = fa := by
        funext ε S
        cases fa ε S <;> rfl
      rw [e, show xa ++ vss [] = xa from List.append_nil xa]
      exact ⟨pe_one he, pw_or1 ht⟩
    | cons e es => simp [mEs] at h
  · cases o with
    | none =>
      refine PO.imp po_none fun σ H Q q => ?_
      obtain ⟨ρ, ε, S, hs, hp, q⟩ := q
      exact q.here (hs.rp hp _) rfl
    | some e => simp [mO] at h
  · cases fs with
    | nil =>
      refine PTs.imp pts_nil fun σ H Q q => ?_
      obtain ⟨ρ, ε, S, hs, hp, q⟩ := q
      exact q.here (hs.rp hp _) rfl
    | cons e es => simp [mTs] at h
theorem pxs_cons {a : Ex} {r : List Ex} (ha : PX cn cl k a) (hr : PXs cn cl k r) : PXs cn cl k (a :: r) := by
  refine ⟨fun X W ws g h => ?_, fun X W l ws pos xa fa g he ht h => ?_, fun X W l ws pos xa fa g he ht h => ?_, fun X W o g h => ?_, fun X W fs g h => ?_, fun b h => (List.mem_cons.mp h).elim (fun z => z ▸ ha) (hr.2.2.2.2.2 b)⟩
  · cases ws with
    | nil => simp [mEs] at h
    | cons e es =>
      simp only [mEs, Bool.and_eq_true] at h
      exact PA.imp (pa_cons (ha.1 X W e g h.1.1).1 (hr.1 X W es g h.2) (star_cons h.1.2)) fun σ H Q q => tf_cons σ H Q q
  · cases ws with
    | nil => simp [mEs] at h
    | cons e es =>
      simp only [mEs, Bool.and_eq_true] at h
      obtain ⟨h1, h2⟩ := ha.1 X W e g h.1.1
      obtain ⟨b1, b2⟩ := hr.2.1 X W e es pos (vs a) (evE cl a) g h1 h2 h.2
      constructor
      · refine PE.imp (pe_andT he b1) fun σ H Q q => ?_
        obtain ⟨ρ, ε, S, hs, hp, q⟩ := q
        refine TG0.go2 (xs := xa ++ (vs a ++ vss r)) (fun i m => List.mem_append_left _ m) hs hp q fun l1 vx H1 x S1 s1 hs1 rp1 rx q1 => ?_
        simp only [evAnd] at q1
        rcases ofI (S := S1) (o := tru x) with ⟨_, e1⟩ | ⟨b, e2, e1⟩
        · rw [e1] at q1; exact q1.elim
        · rw [e1, Out.bind_ok] at q1
          refine ⟨b, tru_V rx e2, ?_⟩
          cases b with
          | true => rw [if_pos rfl] at q1 ⊢; exact TF.go (xs := xa ++ (vs a ++ vss r)) (fun i m => List.mem_append_right _ m) hs1 rp1 q1
          | false => rw [if_neg Bool.false_ne_true] at q1 ⊢; exact q1.here (hs1.rp rp1 _) (plus_anti (Av.anti fun i m => List.mem_append_left _ m) rx)
      · refine PW.imp (pw_and ht b2) fun σ H Q q => ?_
        obtain ⟨ρ, ε, S, hs, hp, q⟩ := q
        refine ⟨ρ, ε, S, hs, hp, ?_⟩
        unfold trB at q ⊢
        dsimp only at q ⊢
        cases e0 : fa ε S with
        | bad => rw [e0] at q; exact q.elim
        | exc c v S2 =>
          rw [e0] at q
          exact fun l1 H1 cls dd sx rp1 rx => q l1 H1 cls dd sx (Rp.w (ρ := (ρ.plus (Av ε σ xa)).to l1) rp1 fun a z => rp1.dom a (z.imp id (Av.anti (fun i m => List.mem_append_left _ m) a))) (RX.anti (ρ := (ρ.plus (Av ε σ xa)).to l1) (fun a z => z.imp id (Av.anti (fun i m => List.mem_append_left _ m) a)) rx)
        | ok x S1 =>
          rw [e0] at q
          simp only [Out.bind_ok, evAnd] at q ⊢
          rcases ofI (S := S1) (o := tru x) with ⟨_, e1⟩ | ⟨b, e2, e1⟩
          · rw [e1] at q; exact q.elim
          · rw [e1, Out.bind_ok] at q
            rw [e1]
            intro l1 b' H1 sx rp1 eb
            have eb' : b' = b := eb
            subst eb'
            cases b' with
            | true => rw [if_pos rfl] at q ⊢; exact TFt.go (xs := xa ++ (vs a ++ vss r)) (r := trB fun ε S => (evE cl a ε S).bind fun x S1 => evAnd cl r x ε S1) (fun i m => List.mem_append_right _ m) (hs.mono hp sx) (Rp.low (ρ := ρ.to l1) (n := Av ε σ xa) rp1) (Post.weak (ρ := ρ.plus (Av ε σ (xa ++ (vs a ++ vss r)))) sx q)
            | false =>
              rw [if_neg Bool.false_ne_true, Out.bind_ok] at q
              rw [if_neg Bool.false_ne_true]
              rw [e2] at q
              exact q l1 false H1 sx (Rp.w (ρ := (ρ.plus (Av ε σ xa)).to l1) rp1 fun a z => rp1.dom a (z.imp id (Av.anti (fun i m => List.mem_append_left _ m) a))) rfl
  · cases ws with
    | nil => simp [mEs] at h
    | cons e es =>
      simp only [mEs, Bool.and_eq_true] at h
      obtain ⟨h1, h2⟩ := ha.1 X W e g h.1.1
      obtain ⟨b1, b2⟩ := hr.2.2.1 X W e es pos (vs a) (evE cl a) g h1 h2 h.2
      constructor
      · refine PE.imp (pe_orT he b1) fun σ H Q q => ?_
        obtain ⟨ρ, ε, S, hs, hp, q⟩ := q
        refine TG0.go2 (xs := xa ++ (vs a ++ vss r)) (fun i m => List.mem_append_left _ m) hs hp q fun l1 vx H1 x S1 s1 hs1 rp1 rx q1 => ?_
        simp only [evOr] at q1
        rcases ofI (S := S1) (o := tru x) with ⟨_, e1⟩ | ⟨b, e2, e1⟩
        · rw [e1] at q1; exact q1.elim
        · rw [e1, Out.bind_ok] at q1
          refine ⟨b, tru_V rx e2, ?_⟩
          cases b with
          | false => rw [if_neg Bool.false_ne_true] at q1 ⊢; exact TF.go (xs := xa ++ (vs a ++ vss r)) (fun i m => List.mem_append_right _ m) hs1 rp1 q1
          | true => rw [if_pos rfl] at q1 ⊢; exact q1.here (hs1.rp rp1 _) (plus_anti (Av.anti fun i m => List.mem_append_left _ m) rx)
      · refine PW.imp (pw_or ht b2) fun σ H Q q => ?_
        obtain ⟨ρ, ε, S, hs, hp, q⟩ := q
        refine ⟨ρ, ε, S, hs, hp, ?_⟩
        unfold trB at q ⊢
        dsimp only at q ⊢
        cases e0 : fa ε S with
        | bad => rw [e0] at q; exact q.elim
        | exc c v S2 =>
          rw [e0] at q
          exact fun l1 H1 cls dd sx rp1 rx => q l1 H1 cls dd sx (Rp.w (ρ := (ρ.plus (Av ε σ xa)).to l1) rp1 fun a z => rp1.dom a (z.imp id (Av.anti (fun i m => List.mem_append_left _ m) a))) (RX.anti (ρ := (ρ.plus (Av ε σ xa)).to l1) (fun a z => z.imp id (Av.anti (fun i m => List.mem_append_left _ m) a)) rx)
        | ok x S1 =>
          rw [e0] at q
          simp only [Out.bind_ok, evOr] at q ⊢
          rcases ofI (S := S1) (o := tru x) with ⟨_, e1⟩ | ⟨b, e2, e1⟩
          · rw [e1] at q; exact q.elim
          · rw [e1, Out.bind_ok] at q
            rw [e1]
            intro l1 b' H1 sx rp1 eb
            have eb' : b' = b := eb
            subst eb'
            cases b' with
            | false => rw [if_neg Bool.false_ne_true] at q ⊢; exact TFt.go (xs := xa ++ (vs a ++ vss r)) (r := trB fun ε S => (evE cl a ε S).bind fun x S1 => evOr cl r x ε S1) (fun i m => List.mem_append_right _ m) (hs.mono hp sx) (Rp.low (ρ := ρ.to l1) (n := Av ε σ xa) rp1) (Post.weak (ρ := ρ.plus (Av ε σ (xa ++ (vs a ++ vss r)))) sx q)
            | true =>
              rw [if_pos rfl, Out.bind_ok] at q
              rw [if_pos rfl]
              rw [e2] at q
              exact q l1 true H1 sx (Rp.w (ρ := (ρ.plus (Av ε σ xa)).to l1) rp1 fun a z => rp1.dom a (z.imp id (Av.anti (fun i m => List.mem_append_left _ m) a))) rfl
  · cases o with
    | none => simp [mO] at h
    | some e =>
      simp only [mO, Bool.and_eq_true] at h
      refine PO.imp (po_some (ha.1 X W e g h.1).1) fun σ H Q q => ?_
      obtain ⟨ρ, ε, S, hs, hp, q⟩ := q
      refine TG0.go2 (xs := vs a ++ vss r) (fun i m => List.mem_append_left _ m) hs hp q fun l1 vx H1 x S1 s1 hs1 rp1 rx q1 => ?_
      obtain ⟨oi, e1, q2⟩ := q1.ofH
      unfold asInt at e1
      split at e1
      · cases e1; exact ⟨_, rx.int, q2.here (hs1.rp rp1 _) rfl⟩
      · cases e1
  · cases fs with
    | nil => simp [mTs] at h
    | cons e es =>
      cases es with
      | nil =>
        simp only [mTs, Bool.and_eq_true] at h
        refine PTs.imp (pts_one (ha.1 X W e g h.1).2) fun σ H Q q => ?_
        obtain ⟨ρ, ε, S, hs, hp, q⟩ := q
        exact TFt.go (xs := vs a ++ vss r) (fun i m => List.mem_append_left _ m) hs hp q
      | cons e2 es2 => simp [mTs] at h
end
end GG
namespace GG
open PySem PySem.Spec PyProof.Rows L2
/-! ## t[::-1] -/
theorem pick_back (xs : Array Value) : ((List.range xs.size).filterMap fun (m : Nat) => xs[((((xs.size : Nat) : Int) - 1) + (m : Int) * (-1)).toNat]?) = xs.toList.reverse := by
  have e : ((List.range xs.size).filterMap fun (m : Nat) => xs[((((xs.size : Nat) : Int) - 1) + (m : Int) * (-1)).toNat]?) = ((List.range xs.size).map fun m => xs.size - 1 - m).filterMap (xs[·]?) := by
    rw [List.filterMap_map]
    congr 1
    funext m
    show _ = xs[xs.size - 1 - m]?
    rw [show ((((xs.size : Nat) : Int) - 1) + (m : Int) * (-1)).toNat = xs.size - 1 - m by omega]
  rw [e, PySem.W.krv_range, List.filterMap_reverse, PySem.W.krv_all]
section
variable {prog : Program} {w : World} {A : Around} {E : Value → Shared → Prop} {s : Shared}
theorem applied_back {sl : Addr} {vs : Value} {n : Nat} {Q : Int × Int × Nat → Shared → Prop} (hs : s.heap.IsSliceOf sl .none .none vs) (ps : IsPart vs (some (-1)))
    (h : Q (((n : Nat) : Int) - 1, -1, n) s) : wpAny (model prog w) A (Builtin.Slice.sliceApplied (.ref sl) (pure (n : Int))) Q E s := by
  obtain ⟨os, hos, hcs, hds⟩ := id hs
  unfold Builtin.Slice.sliceApplied Builtin.Slice.sliceFields
  refine wpAny_bind (wpAny_bind (wpAny_field hos hds (x := .none) rfl ?_))
  refine wpAny_bind (wpAny_field hos hds (x := .none) rfl ?_)
  refine wpAny_bind (wpAny_field hos hds (x := vs) rfl (wpAny_pure ?_))
  refine wpAny_bind (HT.slicePart_ ps ?_)
  show wpAny _ _ (if ((-1 : Int) == 0) = true then _ else _) _ _ s
  rw [if_neg (by decide)]
  refine wpAny_bind (PyProof.Rows.slicePart_none (wpAny_bind (PyProof.Rows.slicePart_none ?_)))
  refine wpAny_bind (wpAny_pure ?_)
  have e : Builtin.Slice.slicePlaces (((n : Nat) : Int) - 1) (-1) (-1) = n := by
    unfold Builtin.Slice.slicePlaces
    rw [if_neg (by decide)]
    by_cases hn : n = 0
    · subst hn; rfl
    · rw [if_pos (by omega)]
      simp only [Int.neg_neg, Int.ediv_one]
      omega
  show wpAny _ _ (pure (((n : Nat) : Int) - 1, (-1 : Int), Builtin.Slice.slicePlaces (((n : Nat) : Int) - 1) (-1) (-1))) _ _ s
  rw [e]
  exact wpAny_pure h
theorem getItem_tuple_back {t sl : Addr} {items : Array Value} {vs : Value} {Q : Value → Shared → Prop} (ht : IsTup s.heap t items) (hs : s.heap.IsSliceOf sl .none .none vs) (ps : IsPart vs (some (-1)))
    (h : Q (.ref s.heap.objs.size) { s with heap := s.heap.push { cls := .type "tuple", data := .seq items.toList.reverse.toArray } }) (hsz : items.size ≤ sizeLine) :
    wpAny (model prog w) A (getItem (.ref t) (.ref sl)) Q E s := by
  have hok : sizeOk (.seq items.toList.reverse.toArray) := by
    show items.toList.reverse.toArray.size ≤ sizeLine
    simpa using hsz
  obtain ⟨os, hos, hcs, hds⟩ := id hs
  have hTs : s.TypeIs (.ref sl) "slice" := ⟨os, hos, hcs⟩
  unfold getItem
  try with_reducible refine wpAny_holding ?_
  first | refine wpAny_bind (wpAny_pure ?_) | skip
  refine wpAny_bind (wpAny_sequenceKey ht.typeIs (by decide) ?_)
  have sg := PyProof.Rows.slot_tuple_getitem
  refine wpAny_bind (wpAny_callSpecial?_slot (name := Str.ofString "__getitem__") ht.typeIs sg (wpAny_call_entry sg ht.typeIs entry_tuple_getitem ?_ (args_tuple_getitem _ _)))
  show wpAny _ _ (Builtin.Tuple.tupleItemsOf (.ref t) >>= _) _ _ s
  refine wpAny_bind (tupleItemsOf_ ht ?_)
  refine wpAny_bind (wpAny_typeOf hTs ?_)
  rw [if_pos (by decide)]
  refine wpAny_bind (applied_back hs ps ?_)
  have hno : ¬ (((((items.size : Nat) : Int) - 1) == 0 && (-1 : Int) == 1 && items.size == items.size) = true) := by
    intro q
    rw [Bool.and_eq_true, Bool.and_eq_true] at q
    exact absurd q.1.2 (by decide)
  show wpAny _ _ (if ((((items.size : Nat) : Int) - 1) == 0 && (-1 : Int) == 1 && items.size == items.size) = true then _ else _) _ _ s
  rw [if_neg hno, pick_back]
  first
    | exact wpAny_bind (m := Builtin.Tuple.tupleExact _) (wpAny_newObj_type (wpAny_pure ⟨_, rfl, wpAny_pure h⟩) hok)
    | exact wpAny_bind (m := Builtin.Tuple.tupleExact _) (wpAny_newObj_type (wpAny_bind (wpAny_pure (wpAny_pure ⟨_, rfl, wpAny_pure h⟩))) hok)
    | exact wpAny_bind (wpAny_bind (m := Builtin.Tuple.tupleExact _) (wpAny_newObj_type (wpAny_pure (wpAny_pure ⟨_, rfl, wpAny_pure h⟩)) hok))
    | exact wpAny_bind (wpAny_bind (m := Builtin.Tuple.tupleExact _) (wpAny_newObj_type (wpAny_pure ⟨_, rfl, wpAny_pure h⟩) hok))
end
section
variable {X : Cx}
def tRevT (K : PySem.W.Frag) (te : TE) : TE := fun σ H Q => te σ H fun x H1 => ∃ a xs, x = .ref a ∧ SqT K H1 a xs ∧ ∀ p, H1 p = none → Q (.ref p) (upd H1 p (.tup xs.reverse))
theorem pe_revT {e : Expr} {te : TE} {k : Nat} {p1 p2 p3 pos : Pos} (he : PE X e te) : PE X (.Subscript e (.Slice none none (some (.UnaryOp .USub (.Constant (.int 1) k p1) p2)) p3) pos) (tRevT X.K te) := by
  refine ⟨fun pins s σ H Q I h => ?_⟩
  refine Subscript_ (thn (he.run pins s σ H _ I h) fun v s1 hh => ?_)
  obtain ⟨x, H1, I1, r1, a, xs, ex, hx, q⟩ := hh
  subst ex
  cases r1
  have hst : PO X (some (.UnaryOp .USub (.Constant (.int 1) k p1) p2)) (tPart (tUn (rU fun i => .int (-i)) (tC (.int 1)))) := po_some (pe_un un_neg pe_int)
  refine wpAny_Slice (thn (po_none.run pins s1 σ H1 (fun o H2 => o = none ∧ H2 = H1) I1 ⟨rfl, rfl⟩) fun vl s2 hl => ?_)
  obtain ⟨l, H2, I2, pl, rfl, rfl⟩ := hl
  refine thn (po_none.run pins s2 σ H2 (fun o H3 => o = none ∧ H3 = H2) I2 ⟨rfl, rfl⟩) fun vu s3 hl => ?_
  obtain ⟨u, H3, I3, pu, rfl, rfl⟩ := hl
  refine thn (hst.run pins s3 σ H3 (fun o H4 => o = some (-1) ∧ H4 = H3) I3 ⟨1, rfl, -1, rfl, rfl, rfl⟩) fun vs s4 hl => ?_
  obtain ⟨o, H4, I4, ps, rfl, rfl⟩ := hl
  cases pl
  cases pu
  have I5 : Inv X pins σ H4 { s4 with heap := s4.heap.push { cls := .type "slice", data := .fields #[.none, .none, vs] } } :=
    I4.kept (t' := s4.toks) fun b ob q => Heap.get?_push_of_some _ q
  obtain ⟨its, r, ht, hz⟩ := I5.tuple hx
  have hlen := r.length
  show wpAny (model X.prog X.w) X.A (subscriptTail e (.Slice none none (some (.UnaryOp .USub (.Constant (.int 1) k p1) p2)) p3) (.ref a) (.ref s4.heap.objs.size)) (EP X pins σ Q) X.xe
    { s4 with heap := s4.heap.push { cls := .type "slice", data := .fields #[.none, .none, vs] } }
  refine tail_any (ops := [.ref a, .ref s4.heap.objs.size]) ht.typeIs (PyProof.Rows.slot_tuple_getitem.lookup) ?_ (by with_unfolding_all rfl)
  refine getItem_tuple_back ht (Heap.IsSliceOf.new _ .none .none vs) ps ?_ (by rw [List.size_toArray]; omega)
  refine ⟨.ref _, _, I5.laid (t' := s4.toks) (o := .tup xs.reverse) (fun b ob q => Heap.get?_push_of_some _ q) (Nat.le_refl _) ?_, rfl, q _ (I5.hok.fresh (Nat.le_refl _))⟩
  refine ⟨by rw [List.length_reverse]; exact hz, its.reverse, r.reverse, ?_⟩
  exact IsTup.new _ _
end
section
variable {cn : Cn} {cl : Nat → List D → Sto → Out D} {k : Nat}
/-- no way of walking -/
theorem noI {ex : Ex} (h : ∀ sc e t, mI cn ex sc e t = false) : ∀ (X : Cx) (W : WX) (e t : Expr), Good cn cl k W X → mI cn ex X.env.scope e t = true → PI X t e (TFi (kw X) X.mg W (vs ex) (evI cl ex)) := by
  intro X W e t g q
  rw [h] at q; cases q
theorem px_v (i : Nat) : PX cn cl k (.v i) := by
  refine ⟨fun X W e g h => ?_, noI fun _ _ _ => by simp [mI]⟩
  cases e with
  | Name x p =>
    simp only [mE, Bool.and_eq_true, decide_eq_true_eq] at h
    obtain ⟨a, b, c⟩ := plain_of h.2
    exact both (PE.imp (pe_var (i := i) (by rw [g.nN]; exact h.1.1) (vis_of h.1.2) a b) fun σ H Q q => tf_var σ H Q q) rfl
  | _ => simp [mE] at h
theorem px_c (d : D) : PX cn cl k (.c d) := by
  refine ⟨fun X W e g h => ?_, noI fun _ _ _ => by simp [mI]⟩
  cases e with
  | Constant c i p =>
    simp only [mE] at h
    refine both ?_ rfl
    cases d <;> cases c <;> simp only [constIs, decide_eq_true_eq, Bool.false_eq_true] at h
    · exact PE.imp pe_non fun σ H Q q => tf_c (fun _ _ => .mkNon) σ H Q q
    · subst h; exact PE.imp pe_bl fun σ H Q q => tf_c (fun _ _ => .mkBl _) σ H Q q
    · subst h; exact PE.imp pe_int fun σ H Q q => tf_c (fun _ _ => .mkInt _) σ H Q q
    · subst h; exact PE.imp pe_str fun σ H Q q => tf_c (fun _ _ => .mkStr _) σ H Q q
  | _ => simp [mE] at h
theorem px_g (x : Str) (d : D) : PX cn cl k (.g x d) := by
  refine ⟨fun X W e g h => ?_, noI fun _ _ _ => by simp [mI]⟩
  cases e with
  | Name y p =>
    simp only [mE, Bool.and_eq_true, decide_eq_true_eq] at h
    obtain ⟨⟨⟨rfl, hg⟩, hp⟩, hl⟩ := h
    obtain ⟨a, b, c⟩ := plain_of hp
    obtain ⟨v, u, hm, r, rv⟩ := g.gl x d hl
    exact both (PE.imp (pe_glob (gl_of hg) hm r a) fun σ H Q q => tf_c rv σ H Q q) rfl
  | _ => simp [mE] at h
theorem px_bop (o : Operator) {a b : Ex} (ha : PX cn cl k a) (hb : PX cn cl k b) : PX cn cl k (.bop o a b) := by
  refine ⟨fun X W e g h => ?_, noI fun _ _ _ => by simp [mI]⟩
  cases e with
  | BinOp l o' r p =>
    simp only [mE, Bool.and_eq_true, decide_eq_true_eq] at h
    obtain ⟨⟨rfl, h1⟩, h2⟩ := h
    obtain ⟨rr, op, vr⟩ := op_bin (X := X) (mg := X.mg) o
    exact both (PE.imp (pe_op op (ha.1 X W l g h1).1 (hb.1 X W r g h2).1) fun σ H Q q => tf_op vr σ H Q q) rfl
  | _ => simp [mE] at h
theorem px_negT {K : KW} {mg : Str → Option Value} {W : WX} {xs : List Nat} {fa : Env → Sto → Out D} (σ : L2.St) (H : Hp) (Q : VK)
    (q : TF K mg W xs (fun ε S => (fa ε S).bind fun x S1 => match x with | .int i => .ok (.int (-i)) S1 | _ => .bad) σ H Q) : tUn (rU fun i => .int (-i)) (TF K mg W xs fa) σ H Q := by
  obtain ⟨ρ, ε, S, hs, hp, q⟩ := q
  refine TG0.go2 (xs := xs) (fun i m => m) hs hp q fun l vx H1 x S1 s1 hs1 rp1 rx q1 => ?_
  split at q1
  · rw [rx.int]; exact ⟨_, rfl, q1.here (hs1.rp rp1 _) (.mkInt _)⟩
  · exact q1.elim
theorem px_neg {a : Ex} (ha : PX cn cl k a) : PX cn cl k (.neg a) := by
  refine ⟨fun X W e g h => ?_, noI fun _ _ _ => by simp [mI]⟩
  cases e with
  | UnaryOp o l p =>
    cases o with
    | USub =>
      simp only [mE] at h
      exact both (PE.imp (pe_un un_neg (ha.1 X W l g h).1) fun σ H Q q => px_negT σ H Q q) rfl
    | _ => simp [mE] at h
  | _ => simp [mE] at h
theorem px_not {a : Ex} (ha : PX cn cl k a) : PX cn cl k (.not a) := by
  refine ⟨fun X W e g h => ?_, noI fun _ _ _ => by simp [mI]⟩
  cases e with
  | UnaryOp o l p =>
    cases o with
    | Not =>
      simp only [mE] at h
      obtain ⟨h1, h2⟩ := ha.1 X W l g h
      constructor
      · refine PE.imp (pe_notT h1) fun σ H Q q => ?_
        obtain ⟨ρ, ε, S, hs, hp, q⟩ := q
        simp only [evE] at q
        refine TG0.go2 (xs := vs a) (fun i m => m) hs hp q fun l vx H1 x S1 s1 hs1 rp1 rx q1 => ?_
        rcases ofI (S := S1) (o := tru x) with ⟨_, e1⟩ | ⟨b, e2, e1⟩
        · rw [e1] at q1; exact q1.elim
        · rw [e1, Out.bind_ok] at q1
          exact ⟨b, tru_V rx e2, q1.here (hs1.rp rp1 _) (.mkBl _)⟩
      · refine PT.imp (pt_not h2) fun σ H Q q => ?_
        obtain ⟨ρ, ε, S, hs, hp, q⟩ := q
        refine ⟨ρ, ε, S, hs, hp, ?_⟩
        unfold trB at q ⊢
        simp only [evE] at q
        cases e0 : evE cl a ε S with
        | bad => rw [e0] at q; exact q.elim
        | exc c v S2 => rw [e0] at q; exact q
        | ok x S1 =>
          rw [e0] at q
          simp only [Out.bind_ok] at q ⊢
          rcases ofI (S := S1) (o := tru x) with ⟨_, e1⟩ | ⟨b, e2, e1⟩
          · rw [e1] at q; exact q.elim
          · rw [e1] at q ⊢
            simp only [Out.bind_ok] at q
            intro l b' H1 s1 rp1 eb
            have eb' : b' = b := eb
            subst eb'
            exact q l (!b') H1 s1 rp1 rfl
    | _ => simp [mE] at h
  | _ => simp [mE] at h
theorem px_cmp (o : CmpOp) {a b : Ex} (ha : PX cn cl k a) (hb : PX cn cl k b) : PX cn cl k (.cmp o a b) := by
  refine ⟨fun X W e g h => ?_, noI fun _ _ _ => by simp [mI]⟩
  cases e with
  | Compare l os rs p =>
    match os, rs, h with
    | [o'], [r], h =>
      simp only [mE, Bool.and_eq_true, decide_eq_true_eq] at h
      obtain ⟨⟨⟨rfl, h1⟩, h2⟩, h3⟩ := h
      obtain ⟨rr, op, vr⟩ := op_cmp (X := X) (mg := X.mg) g.room.units o
      constructor
      · exact PE.imp (pe_cmpR op (ha.1 X W l g h1).1 (hb.1 X W r g h2).1 (noSet_mark h3)) fun σ H Q q => tf_op vr σ H Q q
      · refine PT.imp (pt_cmpR op (ha.1 X W l g h1).1 (hb.1 X W r g h2).1 (noSet_mark h3)) fun σ H Q q => ?_
        refine tf_op vr σ H _ (tf_test (fun ε S d S1 e => ?_) σ H Q q)
        obtain ⟨x, S2, e1, e⟩ := Out.bind_okI e
        obtain ⟨y, S3, e2, e⟩ := Out.bind_okI e
        exact cmpF_bl (Out.of_okI e).1
    | [], _, h => simp [mE] at h
    | [_], [], h => simp [mE] at h
    | [_], _ :: _ :: _, h => simp [mE] at h
    | _ :: _ :: _, _, h => simp [mE] at h
  | _ => simp [mE] at h
theorem px_and {a : Ex} {es : List Ex} (ha : PX cn cl k a) (hs : PXs cn cl k es) : PX cn cl k (.and a es) := by
  refine ⟨fun X W e g h => ?_, noI fun _ _ _ => by simp [mI]⟩
  cases e with
  | BoolOp o ws p =>
    cases o with
    | And =>
      cases ws with
      | nil => simp [mE] at h
      | cons l ws =>
        simp only [mE, Bool.and_eq_true] at h
        obtain ⟨h1, h2⟩ := ha.1 X W l g h.1.1
        obtain ⟨b1, b2⟩ := hs.2.1 X W l ws p (vs a) (evE cl a) g h1 h2 h.1.2
        simp only [trB, evE]
        exact ⟨b1, b2.pt⟩
    | Or => simp [mE] at h
  | _ => simp [mE] at h
theorem px_or {a : Ex} {es : List Ex} (ha : PX cn cl k a) (hs : PXs cn cl k es) : PX cn cl k (.or a es) := by
  refine ⟨fun X W e g h => ?_, noI fun _ _ _ => by simp [mI]⟩
  cases e with
  | BoolOp o ws p =>
    cases o with
    | Or =>
      cases ws with
      | nil => simp [mE] at h
      | cons l ws =>
        simp only [mE, Bool.and_eq_true] at h
        obtain ⟨h1, h2⟩ := ha.1 X W l g h.1.1
        obtain ⟨b1, b2⟩ := hs.2.2.1 X W l ws p (vs a) (evE cl a) g h1 h2 h.1.2
        simp only [trB, evE]
        exact ⟨b1, b2.pt⟩
    | And => simp [mE] at h
  | _ => simp [mE] at h
theorem px_ife {t a b : Ex} (ht : PX cn cl k t) (ha : PX cn cl k a) (hb : PX cn cl k b) : PX cn cl k (.ife t a b) := by
  refine ⟨fun X W e g h => ?_, noI fun _ _ _ => by simp [mI]⟩
  cases e with
  | IfExp c l r p =>
    simp only [mE, Bool.and_eq_true] at h
    obtain ⟨t1, t2⟩ := ht.1 X W c g h.1.1
    obtain ⟨a1, a2⟩ := ha.1 X W l g h.1.2
    obtain ⟨b1, b2⟩ := hb.1 X W r g h.2
    have e : evE cl (.ife t a b) = fun ε S => (trB (evE cl t) ε S).bind fun kk S2 => if kk = true then evE cl a ε S2 else evE cl b ε S2 := by
      funext ε S
      simp only [evE, trB]
      rw [bind_assoc]
    constructor
    · rw [e]
      exact PE.imp (pe_ifExp t2 a1 b1) fun σ H Q q => tf_if σ H Q q
    · refine PT.imp (pt_if t2 a2 b2) fun σ H Q q => ?_
      rw [e] at q
      obtain ⟨ρ, ε, S, hs, hp, q⟩ := q
      unfold trB at q
      dsimp only at q
      rw [bind_assoc] at q
      refine TG0.go2 (xs := vs t ++ (vs a ++ vs b)) (fun i m => by simp [m]) hs hp q fun l c H1 d S1 s1 hs1 rp1 ec q1 => ?_
      have ec' : c = d := ec
      subst ec'
      cases c with
      | true => rw [if_pos rfl] at q1 ⊢; exact TFt.go (xs := vs t ++ (vs a ++ vs b)) (fun i m => by simp [m]) hs1 rp1 q1
      | false => rw [if_neg Bool.false_ne_true] at q1 ⊢; exact TFt.go (xs := vs t ++ (vs a ++ vs b)) (fun i m => by simp [m]) hs1 rp1 q1
  | _ => simp [mE] at h
theorem px_tup {es : List Ex} (hs : PXs cn cl k es) : PX cn cl k (.tup es) := by
  refine ⟨fun X W e g h => ?_, noI fun _ _ _ => by simp [mI]⟩
  cases e with
  | Tuple vs kk p =>
    simp only [mE] at h
    exact both (PE.imp (pe_tup (hs.1 X W vs g h)) fun σ H Q q => tf_tup σ H Q q) rfl
  | _ => simp [mE] at h
/-- what makes a new list or dict -/
def PN (cn : Cn) (cl : Nat → List D → Sto → Out D) (k : Nat) (ex : Ex) : Prop := ∀ (X : Cx) (W : WX) (e : Expr), Good cn cl k W X → mE cn ex X.env.scope e = true → PE X e (TFn (kw X) X.mg W (vs ex) (evE cl ex))
theorem PN.pe {ex : Ex} (h : PN cn cl k ex) {X : Cx} {W : WX} {e : Expr} (g : Good cn cl k W X) (m : mE cn ex X.env.scope e = true) : PE X e (TF (kw X) X.mg W (vs ex) (evE cl ex)) := PE.imp (h X W e g m) fun σ H Q q => TFn.tf q
theorem pn_lst {es : List Ex} (hs : PXs cn cl k es) : PN cn cl k (.lst es) := by
  intro X W e g h
  cases e with
  | List ws p =>
    simp only [mE] at h
    exact PE.imp (pe_lst (hs.1 X W ws g h)) fun σ H Q q => tf_lst σ H Q q
  | _ => simp [mE] at h
theorem px_lst {es : List Ex} (hs : PXs cn cl k es) : PX cn cl k (.lst es) := by
  refine ⟨fun X W e g h => ?_, noI fun _ _ _ => by simp [mI]⟩
  have q := (pn_lst hs).pe g h
  cases e with
  | List ws p => exact both q rfl
  | _ => simp [mE] at h
theorem px_ix {a i : Ex} (ha : PX cn cl k a) (hi : PX cn cl k i) : PX cn cl k (.ix a i) := by
  refine ⟨fun X W e g h => ?_, noI fun _ _ _ => by simp [mI]⟩
  cases e with
  | Subscript l s p =>
    simp only [mE, Bool.and_eq_true] at h
    exact both (PE.imp (pe_ix ix_all (ha.1 X W l g h.1.1).1 (hi.1 X W s g h.1.2).1 (noSlice_ix h.2)) fun σ H Q q => tf_op vr_ix σ H Q q) rfl
  | _ => simp [mE] at h
theorem px_sl {a : Ex} {lo hi : List Ex} (ha : PX cn cl k a) (hl : PXs cn cl k lo) (hh : PXs cn cl k hi) : PX cn cl k (.sl a lo hi) := by
  refine ⟨fun X W e g h => ?_, noI fun _ _ _ => by simp [mI]⟩
  cases e with
  | Subscript l s p =>
    cases s with
    | Slice lo' hi' st p2 =>
      cases st with
      | none =>
        simp only [mE, Bool.and_eq_true] at h
        exact both (PE.imp (pe_slice sl_all (ha.1 X W l g h.1.1).1 (hl.2.2.2.1 X W lo' g h.1.2) (hh.2.2.2.1 X W hi' g h.2)) fun σ H Q q => tf_sl σ H Q q) rfl
      | some z => simp [mE] at h
    | _ => simp [mE] at h
  | _ => simp [mE] at h
theorem px_call (f : Nat) {es : List Ex} (hs : PXs cn cl k es) : PX cn cl k (.call f es) := by
  refine ⟨fun X W e g h => ?_, noI fun _ _ _ => by simp [mI]⟩
  cases e with
  | Call fe vs ks p =>
    cases fe with
    | Name x pp =>
      cases vs with
      | nil => cases ks <;> simp [mE] at h
      | cons v vs =>
        cases ks with
        | cons kw ks => simp [mE] at h
        | nil =>
          simp only [mE, Bool.and_eq_true, decide_eq_true_eq] at h
          obtain ⟨a, b, c⟩ := plain_of h.1.2
          exact both (pe_callG g (g.fn f x es.length h.1.1.1) (gl_of h.1.1.2) a (hs.1 X W (v :: vs) g h.2) (fun ε S ds S1 e => evEs_len e) (mEs_stars h.2)) rfl
    | _ => simp [mE] at h
  | _ => simp [mE] at h
theorem px_bi (b : Bi) {es : List Ex} (hs : PXs cn cl k es) : PX cn cl k (.bi b es) := by
  refine ⟨fun X W e g h => ?_, noI fun _ _ _ => by simp [mI]⟩
  cases e with
  | Call fe vs ks p =>
    cases fe with
    | Name x pp =>
      cases vs with
      | nil => cases ks <;> simp [mE] at h
      | cons v vs =>
        cases ks with
        | cons kw ks => simp [mE] at h
        | nil =>
          simp only [mE, Bool.and_eq_true, decide_eq_true_eq] at h
          obtain ⟨⟨rfl, h1⟩, h2⟩ := h
          exact both (pe_bi g (gl_of h1) (hs.1 X W (v :: vs) g h2) (mEs_stars h2)) rfl
    | _ => simp [mE] at h
  | _ => simp [mE] at h
theorem ty_boot (t : Ty) : bootBuiltins (Str.ofString t.name) = some (.type t.name) := by cases t <;> decide +kernel
theorem ty_names (t : Ty) : Str.ofString t.name ∈ bnames ∧ Str.ofString t.name ≠ "__name__" ∧ (Str.ofString t.name == ("__debug__" : Str)) = false := by cases t <;> decide +kernel
theorem px_isi {a : Ex} (t : Ty) (ha : PX cn cl k a) : PX cn cl k (.isi a t) := by
  refine ⟨fun X W e g h => ?_, noI fun _ _ _ => by simp [mI]⟩
  cases e with
  | Call fe vs ks p =>
    cases fe with
    | Name x pp =>
      match vs, ks, h with
      | [v, w], [], h =>
        cases w with
        | Name y py =>
          simp only [mE, Bool.and_eq_true, decide_eq_true_eq] at h
          obtain ⟨⟨⟨⟨⟨rfl, h1⟩, h2⟩, h3⟩, rfl⟩, h4⟩ := h
          obtain ⟨n1, n2, n3⟩ := ty_names t
          have s1 : starEach [v, .Name (Str.ofString t.name) py] X.env = (false, eval v X.env) :: starEach [.Name (Str.ofString t.name) py] X.env := star_cons h3
          exact both (PE.imp (pe_callB call_isi (gl_of h1) (g.blt _ (by decide +kernel)) boot_isinstance
            (pa_cons (ha.1 X W v g h2).1 (pa_cons (pe_bltn (v := .ty t.name) (gl_of h4) (g.blt _ n1) (ty_boot t) rfl n2 n3) pa_nil rfl) s1) (by decide) (by decide) s1 rfl) fun σ H Q q => tf_isi t σ H Q q) rfl
        | _ => simp [mE] at h
      | [], ks, h => cases ks <;> simp [mE] at h
      | [_], ks, h => cases ks <;> simp [mE] at h
      | [v, w], _ :: _, h => cases w <;> simp [mE] at h
      | v :: w :: u :: vs, ks, h => cases ks <;> cases w <;> simp [mE] at h
    | _ => simp [mE] at h
  | _ => simp [mE] at h
theorem px_chain (o o' : CmpOp) {a b c : Ex} (ha : PX cn cl k a) (hb : PX cn cl k b) (hc : PX cn cl k c) : PX cn cl k (.chain o o' a b c) := by
  refine ⟨fun X W e g h => ?_, noI fun _ _ _ => by simp [mI]⟩
  cases e with
  | Compare l os rs p =>
    match os, rs, h with
    | [p1, p2], [m, r], h =>
      simp only [mE, Bool.and_eq_true, decide_eq_true_eq] at h
      obtain ⟨⟨⟨⟨⟨rfl, rfl⟩, h1⟩, h2⟩, h3⟩, h4⟩ := h
      obtain ⟨rr, op, vr⟩ := op_cmp (X := X) (mg := X.mg) g.room.units o
      obtain ⟨rr', op', vr'⟩ := op_cmp (X := X) (mg := X.mg) g.room.units o'
      have key : ∀ σ H Q, TF (kw X) X.mg W (vs (.chain o o' a b c)) (evE cl (.chain o o' a b c)) σ H Q → tChain rr rr' (TF (kw X) X.mg W (vs a) (evE cl a)) (TF (kw X) X.mg W (vs b) (evE cl b)) (TF (kw X) X.mg W (vs c) (evE cl c)) σ H Q := by
        intro σ H Q q
        obtain ⟨ρ, ε, S, hs, hp, q⟩ := q
        simp only [evE] at q
        have e0 : vs (.chain o o' a b c) = vs a ++ (vs b ++ vs c) := by simp only [vs]
        rw [e0] at q
        refine TG0.go2 (xs := vs a ++ (vs b ++ vs c)) (fun i m => by simp [m]) hs hp q fun l1 vx H1 x S1 s1 hs1 rp1 rx q1 => ?_
        refine TG0.go2 (xs := vs a ++ (vs b ++ vs c)) (fun i m => by simp [m]) hs1 rp1 q1 fun l2 vy H2 y S2 s2 hs2 rp2 ry q2 => ?_
        have rx2 : RV (kw X) (((ρ.to l1).to l2).plus (Av ε σ (vs a ++ (vs b ++ vs c)))) H2 x vx := plus_anti (Av.anti fun i m => by simp [m]) (rx.mono (hs1.rp rp1 _) s2)
        have ry2 : RV (kw X) (((ρ.to l1).to l2).plus (Av ε σ (vs a ++ (vs b ++ vs c)))) H2 y vy := plus_anti (Av.anti fun i m => by simp [m]) ry
        refine vr (XW W σ) _ S2 _ x y _ _ _ (hs2.rp rp2 _) rx2 ry2 ?_
        refine Post.seq q2 fun l3 vz H3 z S3 s3 rp3 rz q3 => ?_
        have hs3 := hs2.mono rp2 s3
        have rp3' : Rp (((ρ.to l1).to l2).to l3) S3 H3 := Rp.low (ρ := ((ρ.to l1).to l2).to l3) (n := Av ε σ (vs a ++ (vs b ++ vs c))) rp3
        split at q3
        · refine ⟨true, rz.bl, ?_⟩
          rw [if_pos rfl]
          refine TG0.go2 (ρ := ((ρ.to l1).to l2).to l3) (xs := vs a ++ (vs b ++ vs c)) (fun i m => by simp [m]) hs3 rp3' q3 fun l4 vw H4 w S4 s4 hs4 rp4 rw4 q4 => ?_
          have ry3 : RV (kw X) ((((ρ.to l1).to l2).to l3).plus (Av ε σ (vs a ++ (vs b ++ vs c)))) H3 y vy := ry2.mono (hs2.rp rp2 _) s3
          exact vr' (XW W σ) _ S4 _ y w _ _ _ (hs4.rp rp4 _) (ry3.mono rp3 s4) (plus_anti (Av.anti fun i m => by simp [m]) rw4) q4
        · exact ⟨false, rz.bl, by rw [if_neg Bool.false_ne_true]; exact q3.here rp3 (.mkBl _)⟩
        · exact q3.elim
      have hm : lastMarks [o, o'] [m, r] = false := noSet_mark h4
      constructor
      · exact PE.imp (pe_chain op op' (ha.1 X W l g h1).1 (hb.1 X W m g h2).1 (hc.1 X W r g h3).1 hm) key
      · refine PT.imp (pt_chain op op' (ha.1 X W l g h1).1 (hb.1 X W m g h2).1 (hc.1 X W r g h3).1 hm) fun σ H Q q => ?_
        refine key σ H _ (tf_test (fun ε S d S1 e => ?_) σ H Q q)
        simp only [evE] at e
        obtain ⟨x, S2, e1, e⟩ := Out.bind_okI e
        obtain ⟨y, S3, e2, e⟩ := Out.bind_okI e
        obtain ⟨z, S4, e3, e⟩ := Out.bind_okI e
        split at e
        · obtain ⟨w, S5, e4, e⟩ := Out.bind_okI e
          exact cmpF_bl (Out.of_okI e).1
        · cases e; exact ⟨_, rfl⟩
        · cases e
    | [], _, h => simp [mE] at h
    | [_], _, h => simp [mE] at h
    | [_, _], [], h => simp [mE] at h
    | [_, _], [_], h => simp [mE] at h
    | [_, _], _ :: _ :: _ :: _, h => simp [mE] at h
    | _ :: _ :: _ :: _, _, h => simp [mE] at h
  | _ => simp [mE] at h
theorem px_rev {a : Ex} (ha : PX cn cl k a) : PX cn cl k (.rev a) := by
  refine ⟨fun X W e g h => ?_, noI fun _ _ _ => by simp [mI]⟩
  cases e with
  | Subscript l s p =>
    cases s with
    | Slice lo hi st p2 =>
      match lo, hi, st, h with
      | none, none, some st, h =>
        simp only [mE, Bool.and_eq_true] at h
        obtain ⟨h1, h2⟩ := h
        have he := (ha.1 X W l g h1).1
        obtain ⟨i, pc, pu, rfl⟩ : ∃ i pc pu, st = .UnaryOp .USub (.Constant (.int 1) i pc) pu := by
          unfold revStep at h2
          split at h2
          · have := of_decide_eq_true h2
            subst this
            exact ⟨_, _, _, rfl⟩
          · cases h2
        refine both ?_ rfl
        have h1 := pe_revL (k := i) (p1 := pc) (p2 := pu) (p3 := p2) (pos := p) he
        have h2 := pe_revT (k := i) (p1 := pc) (p2 := pu) (p3 := p2) (pos := p) he
        refine ⟨fun pins s σ H Q I q => ?_⟩
        obtain ⟨ρ, ε, S, hs, hp, q⟩ := q
        simp only [evE] at q
        have e9 : vs (.rev a) = vs a := by simp only [vs]
        rw [e9] at q
        cases e0 : evE cl a ε S with
        | bad => rw [e0] at q; exact q.elim
        | exc c v S2 => rw [e0] at q; exact h1.run pins s σ H Q I ⟨ρ, ε, S, hs, hp, by rw [e0]; exact q⟩
        | ok x S1 =>
          rw [e0, Out.bind_ok] at q
          obtain ⟨d, e, q⟩ := q.ofH
          have rl : ∀ ds, lstOf x = some ds → d = .lst ds.reverse → wpAny (model X.prog X.w) X.A (eval (.Subscript l (.Slice none none (some (.UnaryOp .USub (.Constant (.int 1) i pc) pu)) p2) p) X.env) (EP X pins σ Q) X.xe s := fun ds e' ed => by
            subst ed
            refine h1.run pins s σ H Q I ⟨ρ, ε, S, hs, hp, ?_⟩
            rw [e0]
            intro l3 v H1 sx rp r
            obtain ⟨b, ws, rfl, sq, t⟩ := lstOf_ok r e'
            exact ⟨b, ws, rfl, sq, fun p hp => post_lst rp (by
              obtain ⟨_, _, _, z, _⟩ := lst_keep r e'
              rw [List.length_reverse]; exact z) t.rev (q.weak sx) p hp⟩
          unfold opRev at e
          split at e
          · cases e
            refine h2.run pins s σ H Q I ⟨ρ, ε, S, hs, hp, ?_⟩
            rw [e0]
            intro l3 v H1 sx rp r
            obtain ⟨b, ws, rfl, z, sq, t⟩ := r.tup
            exact ⟨b, ws, rfl, sq, fun p hp => post_tup rp (by rw [List.length_reverse]; exact z) t.rev (q.weak sx) p hp⟩
          · cases e; exact rl _ rfl rfl
          · cases e; exact rl _ rfl rfl
          · cases e
      | some _, _, _, h => simp [mE] at h
      | none, some _, _, h => simp [mE] at h
      | none, none, none, h => simp [mE] at h
    | _ => simp [mE] at h
  | _ => simp [mE] at h
end
end GG
namespace GG
open PySem PySem.Spec PyProof.Rows L2
section
variable {cn : Cn} {cl : Nat → List D → Sto → Out D} {k : Nat}
/-- the parts of a comprehension that is matched -/
theorem lc_parts {a it : Ex} {own : List Nat} {tg : Tg} {ifs : List Ex} (ha : PX cn cl k a) (hi : PX cn cl k it) (hf : PXs cn cl k ifs) {X : Cx} {W : WX} {el : Expr} {gs : List Comprehension} {scope : Scope} {p : Pos} (g : Good cn cl k W X)
    (h : mE cn (.lc a own tg it ifs) X.env.scope (.ListComp el gs scope p) = true) : ∃ t i fs, gs = [⟨t, i, fs, 0⟩] ∧ PI X t i (TFi (kw X) X.mg W (vs it) (evI cl it)) ∧ BlkOk X.N X.env.scope scope (ownOf X.N own) ∧ tgIn own tg = true ∧
      (∀ (s : Shared) (H : Hp) (C : Addr) (c : List (Str × Addr)) (fp : List Addr), PG (X.blk s H scope (compEnvC scope c C X.env) fp) t (gOf X.K tg)) ∧
      (∀ (s : Shared) (H : Hp) (C : Addr) (c : List (Str × Addr)) (fp : List Addr), PTs (X.blk s H scope (compEnvC scope c C X.env) fp) fs (TFt (kw X) X.mg W0 (vss ifs) (evTs cl ifs))) ∧
      (∀ (s : Shared) (H : Hp) (C : Addr) (c : List (Str × Addr)) (fp : List Addr), PE (X.blk s H scope (compEnvC scope c C X.env) fp) el (TF (kw X) X.mg W0 (vs a) (evE cl a))) ∧ ∀ x, foldedSetIterable i X.env x = pure x := by
  match gs, h with
  | [⟨t, i, fs, as⟩], h =>
    by_cases hz : as = 0
    · subst hz
      simp only [mE, Bool.and_eq_true] at h
      obtain ⟨⟨⟨⟨⟨⟨h1, h2⟩, h3⟩, h4⟩, h5⟩, h6⟩, h7⟩ := h
      refine ⟨t, i, fs, rfl, hi.2 X W i t g h4, by rw [g.nN]; exact blkOk_by h1, h3, fun s H C c fp => ?_, fun s H C c fp => ?_, fun s H C c fp => ?_, noSet_fold h5⟩
      · refine pg_of (X := X.blk s H scope (compEnvC scope c C X.env) fp) (okN := blkN scope X.env.scope) g.nN g.nd g.calm (fun x hx => ?_) tg t h2
        unfold blkN at hx
        split at hx
        · rename_i e; exact ⟨.inl e, .inr e⟩
        · rename_i e; exact ⟨.inr e, .inl hx⟩
        · cases hx
      · exact hf.2.2.2.2.1 (X.blk s H scope (compEnvC scope c C X.env) fp) W0 fs (g.blk s H scope _ fp) h6
      · exact (ha.1 (X.blk s H scope (compEnvC scope c C X.env) fp) W0 el (g.blk s H scope _ fp) h7).1
    · exfalso
      simp only [mE] at h
      split at h
      · rename_i q; cases q; exact hz rfl
      · cases h
  | [], h => simp [mE] at h
  | _ :: _ :: _, h => simp [mE] at h
theorem pn_lc {a it : Ex} {own : List Nat} {tg : Tg} {ifs : List Ex} (ha : PX cn cl k a) (hi : PX cn cl k it) (hf : PXs cn cl k ifs) : PN cn cl k (.lc a own tg it ifs) := by
  intro X W e g h
  cases e with
  | ListComp el gs scope p =>
    obtain ⟨t, i, fs, rfl, h1, h2, h3, h4, h5, h6, h7⟩ := lc_parts ha hi hf g h
    refine PE.imp (pe_lcG (X0 := vs (.lc a own tg it ifs)) (by simp only [vs]) g.calm g.nd h1 h2 h3 h4 h5 h6 h7) fun σ H Q q => ?_
    simp only [evE] at q
    exact q
  | _ => simp [mE] at h
theorem px_lc {a it : Ex} {own : List Nat} {tg : Tg} {ifs : List Ex} (ha : PX cn cl k a) (hi : PX cn cl k it) (hf : PXs cn cl k ifs) : PX cn cl k (.lc a own tg it ifs) := by
  refine ⟨fun X W e g h => ?_, noI fun _ _ _ => by simp [mI]⟩
  have q := (pn_lc ha hi hf).pe g h
  cases e with
  | ListComp el gs scope p => exact both q rfl
  | _ => simp [mE] at h
theorem px_six (i j : Nat) : PX cn cl k (.six i j) := by
  refine ⟨fun X W e g h => ?_, noI fun _ _ _ => by simp [mI]⟩
  simp only [mE] at h
  split at h
  · rename_i x p z q1 q2 q3
    simp only [Bool.and_eq_true, decide_eq_true_eq] at h
    obtain ⟨⟨⟨h1, h2⟩, h3⟩, rfl⟩ := h
    obtain ⟨a, b, c⟩ := plain_of h3
    refine both (PE.imp (pe_ix ix_all (pe_var (i := i) (by rw [g.nN]; exact h1) (vis_of h2) a b) pe_int (noSlice_ix rfl)) fun σ H Q q => ?_) rfl
    obtain ⟨ρ, ε, S, hs, hp, q⟩ := q
    simp only [evE] at q
    obtain ⟨d, e, q⟩ := q.ofH
    obtain ⟨d0, e0, e1⟩ := Option.bind_eq_some_iff.mp e
    obtain ⟨v, ev, rv⟩ := hs.rd e0
    refine ⟨v, ev, ?_⟩
    unfold sixF at e1
    split at e1
    · rename_i kk
      obtain ⟨t, e2, e3⟩ := Option.bind_eq_some_iff.mp e1
      obtain ⟨n, e4, rfl⟩ := Option.map_eq_some_iff.mp e3
      obtain ⟨ad, ea, rfl⟩ := rv.stm
      have ho := hp.obj kk ad t ea e2
      refine .inl (.inl ⟨ad, _, (j : Nat), .int n, rfl, rfl, SqL.of ho, ?_, q.here (hs.rp hp _) (.mkInt _)⟩)
      match j, e4 with
      | 0, e4 => cases e4; rfl
      | 1, e4 => cases e4; rfl
      | 2, e4 => cases e4; rfl
      | _ + 3, e4 => cases e4
    · cases e1
  · cases h
theorem px_mkS (f : Nat) {es : List Ex} (hs : PXs cn cl k es) : PX cn cl k (.mkS f es) := by
  refine ⟨fun X W e g h => ?_, noI fun _ _ _ => by simp [mI]⟩
  cases e with
  | Call fe ws ks p =>
    cases fe with
    | Name x pp =>
      cases ws with
      | nil => cases ks <;> simp [mE] at h
      | cons v ws =>
        cases ks with
        | cons kw ks => simp [mE] at h
        | nil =>
          simp only [mE, Bool.and_eq_true, decide_eq_true_eq] at h
          obtain ⟨⟨⟨⟨rfl, h1⟩, h2⟩, h3⟩, h4⟩ := h
          obtain ⟨a, b, c⟩ := plain_of h3
          refine both (PE.imp (pe_callM g (g.fm x es.length h1) (gl_of h2) a (hs.1 X W (v :: ws) g h4) (fun ε S ds S1 e => evEs_len e) (mEs_stars h4)) fun σ H Q q => ?_) rfl
          obtain ⟨ρ, ε, S, rs, rp, q⟩ := q
          simp only [evE] at q
          refine ⟨ρ, ε, S, rs, rp, ?_⟩
          rw [← bind_assoc] at q
          have evv : vs (.mkS cn.mkr es) = vss es := by simp only [vs]
          rw [evv] at q
          dsimp only
          cases e1 : (evEs cl es ε S).bind (cl cn.mkr) with
          | bad => rw [e1] at q; exact q
          | exc c v S1 => rw [e1] at q; exact q
          | ok d S1 =>
            rw [e1, Out.bind_ok] at q
            intro l u H1 sx rp1 rn
            obtain ⟨ad, rfl, h0, ow⟩ := rn
            unfold mkF at q
            split at q
            · rename_i a1 b1 c1
              obtain ⟨us, z, hH, n1, n2, t⟩ := ow
              obtain ⟨v1, r1, rfl, t1, t⟩ := t.uncons
              obtain ⟨v2, r2, rfl, t2, t⟩ := t.uncons
              obtain ⟨v3, rfl, t3⟩ := t.one'
              rw [t1.int, t2.int, t3.int] at hH
              have len1 : l.length = S1.length := rp1.len
              refine q (l ++ [ad]) (.ref ad) H1 ⟨sx.pre.trans ⟨[ad], rfl⟩, sx.kp, fun b m n => ?_, sx.dm⟩ ⟨?_, ?_, fun i b t e1 e2 => ?_, rp1.dom⟩ (.mkStm ?_)
              · rcases List.mem_append.mp m with m | m
                · exact sx.nw b m n
                · rw [List.mem_singleton.mp m]; exact h0
              · show (l ++ [ad]).length = (S1 ++ [_]).length
                simp [len1]
              · show (l ++ [ad]).Nodup
                rw [List.nodup_append]
                refine ⟨rp1.nd, by simp, fun x hx y hy => ?_⟩
                rw [List.mem_singleton.mp hy]
                exact fun z => n1 (by rw [← z]; exact hx)
              · have e1 : (l ++ [ad])[i]? = some b := e1
                by_cases hi : i < l.length
                · rw [List.getElem?_append_left hi] at e1
                  rw [List.getElem?_append_left (by rw [← len1]; exact hi)] at e2
                  exact rp1.obj i b t e1 e2
                · rw [List.getElem?_append_right (by omega)] at e1
                  rw [List.getElem?_append_right (by omega)] at e2
                  have hi0 : i - l.length = 0 := by
                    have := (List.getElem?_eq_some_iff.mp e1).1
                    simp at this; omega
                  have hi1 : i - S1.length = 0 := by omega
                  rw [hi0] at e1
                  rw [hi1] at e2
                  cases e1; cases e2
                  exact hH
              · show (l ++ [ad])[S1.length]? = some ad
                rw [← len1]; simp
            · exact q.elim
    | _ => simp [mE] at h
  | _ => simp [mE] at h
theorem px_itv {a : Ex} (ha : PX cn cl k a) : PX cn cl k (.itv a) := by
  refine ⟨fun X W e g h => by simp [mE] at h, fun X W e t g h => ?_⟩
  simp only [mI] at h
  exact pi_val (ha.1 X W e g h).1
theorem px_rng {es : List Ex} (hs : PXs cn cl k es) : PX cn cl k (.rng es) := by
  refine ⟨fun X W e g h => by simp [mE] at h, fun X W e t g h => ?_⟩
  cases e with
  | Call fe vs ks p =>
    cases fe with
    | Name x pp =>
      match vs, ks, h with
      | [v], [], h =>
        simp only [mI, Bool.and_eq_true, decide_eq_true_eq] at h
        obtain ⟨⟨⟨rfl, h1⟩, h2⟩, h3⟩ := h
        have hst := mEs_stars h2
        simp only [noStars, Bool.and_eq_true] at hst
        have hl := mEs_len h2
        exact pi_rng1 (gl_of h1) (g.blt _ (by decide +kernel)) (hs.1 X W [v] g h2) (star_cons hst.1) fun ε S ds S1 e => (evEs_len e).trans hl
      | [v, w], [], h =>
        simp only [mI, Bool.and_eq_true, decide_eq_true_eq] at h
        obtain ⟨⟨⟨rfl, h1⟩, h2⟩, h3⟩ := h
        have hst := mEs_stars h2
        simp only [noStars, Bool.and_eq_true] at hst
        have hl := mEs_len h2
        have s2 : starEach [w] X.env = [(false, eval w X.env)] := star_cons hst.2.1
        exact pi_rng2 (gl_of h1) (g.blt _ (by decide +kernel)) (hs.1 X W [v, w] g h2) (by rw [star_cons hst.1, s2]) s2 fun ε S ds S1 e => (evEs_len e).trans hl
      | [v, w, u], [], h =>
        simp only [mI, Bool.and_eq_true, decide_eq_true_eq] at h
        obtain ⟨⟨⟨rfl, h1⟩, h2⟩, h3⟩ := h
        have hst := mEs_stars h2
        simp only [noStars, Bool.and_eq_true] at hst
        have hl := mEs_len h2
        exact pi_rng3 (gl_of h1) (g.blt _ (by decide +kernel)) (hs.1 X W [v, w, u] g h2) (star_cons hst.1) (star_any (by simp only [noStars, Bool.and_eq_true]; exact hst.2)) fun ε S ds S1 e => (evEs_len e).trans hl
      | [], ks, h => cases ks <;> simp [mI] at h
      | _ :: _ :: _ :: _ :: _, [], h => simp [mI] at h
      | _ :: _, _ :: _, h => simp [mI] at h
    | _ => simp [mI] at h
  | _ => simp [mI] at h
theorem px_enum {a : Ex} (ha : PX cn cl k a) : PX cn cl k (.enum a) := by
  refine ⟨fun X W e g h => by simp [mE] at h, fun X W e t g h => ?_⟩
  cases e with
  | Call fe vs ks p =>
    cases fe with
    | Name x pp =>
      match vs, ks, h with
      | [v], [], h =>
        simp only [mI, Bool.and_eq_true, decide_eq_true_eq] at h
        obtain ⟨⟨⟨⟨rfl, h1⟩, h2⟩, h3⟩, h4⟩ := h
        exact pi_enumG h4 (gl_of h1) (g.blt _ (by decide +kernel)) (ha.1 X W v g h2).1 h3
      | [], ks, h => cases ks <;> simp [mI] at h
      | _ :: _ :: _, ks, h => cases ks <;> simp [mI] at h
      | [_], _ :: _, h => simp [mI] at h
    | _ => simp [mI] at h
  | _ => simp [mI] at h
theorem px_zip {a b : Ex} (ha : PX cn cl k a) (hb : PX cn cl k b) : PX cn cl k (.zip a b) := by
  refine ⟨fun X W e g h => by simp [mE] at h, fun X W e t g h => ?_⟩
  cases e with
  | Call fe vs ks p =>
    cases fe with
    | Name x pp =>
      match vs, ks, h with
      | [v, w], [], h =>
        simp only [mI, Bool.and_eq_true, decide_eq_true_eq] at h
        obtain ⟨⟨⟨⟨⟨⟨rfl, h1⟩, h2⟩, h3⟩, h4⟩, h5⟩, h6⟩ := h
        exact pi_zipG h6 (gl_of h1) (g.blt _ (by decide +kernel)) (ha.1 X W v g h2).1 (hb.1 X W w g h3).1 h4 h5
      | [], ks, h => cases ks <;> simp [mI] at h
      | [_], ks, h => cases ks <;> simp [mI] at h
      | _ :: _ :: _ :: _, ks, h => cases ks <;> simp [mI] at h
      | [_, _], _ :: _, h => simp [mI] at h
    | _ => simp [mI] at h
  | _ => simp [mI] at h
end
section
variable {K : KW} {mg : Str → Option Value} {cn : Cn} {cl : Nat → List D → Sto → Out D} {k : Nat} {W : WX} {X : Cx}
/-- a method's rule serves a function -/
def VRm (K : KW) (mg : Str → Option Value) (r : V → List V → Hp → VK → Prop) (h : D → List D → Option D) : Prop :=
  ∀ (E : XK) (ρ : Fx) (S : Sto) (H : Hp) (x : D) (vx : V) (xs : List D) (vs : List V) (Q : VK), Rp ρ S H → RV K ρ H x vx → RVs K ρ H xs vs → Post K mg (RV K) E ρ H (.of S (h x xs)) Q → r vx vs H Q
theorem tf_bm {T : String} {r : V → List V → Hp → VK → Prop} {m : Me} {xo xa : List Nat} {fo : Env → Sto → Out D} {fa : Env → Sto → Out (List D)} (v : VRm K mg r (meF m))
    (ty : ∀ ρ H x vx, RV K ρ H x vx → meR m x = true → tyV K T vx H) (σ : L2.St) (H : Hp) (Q : VK)
    (q : TF K mg W (xo ++ xa) (fun ε S => (fo ε S).bind fun x S1 => if meR m x = true then (fa ε S1).bind fun ds S2 => .of S2 (meF m x ds) else .bad) σ H Q) : tBM K T r (TF K mg W xo fo) (TFs K mg W xa fa) σ H Q := by
  obtain ⟨ρ, ε, S, hs, hp, q⟩ := q
  refine TG0.go2 (xs := xo ++ xa) (fun i m => by simp [m]) hs hp q fun l vx H1 x S1 s1 hs1 rp1 rx q1 => ?_
  split at q1
  · rename_i ok
    refine ⟨ty _ H1 x vx rx ok, ?_⟩
    refine TG0.go2 (xs := xo ++ xa) (fun i m => by simp [m]) hs1 rp1 q1 fun l2 ws H2 ds S2 s2 hs2 rp2 rv q2 => ?_
    exact v _ _ _ _ _ _ _ _ _ (hs2.rp rp2 _) (plus_anti (Av.anti fun i m => by simp [m]) (rx.mono (hs1.rp rp1 _) s2)) (plus_antis (Av.anti fun i m => by simp [m]) rv) q2
  · exact q1.elim
theorem tf_bm0 {T : String} {r : V → List V → Hp → VK → Prop} {m : Me} {xo : List Nat} {fo : Env → Sto → Out D} (v : VRm K mg r (meF m))
    (ty : ∀ ρ H x vx, RV K ρ H x vx → meR m x = true → tyV K T vx H) (σ : L2.St) (H : Hp) (Q : VK)
    (q : TF K mg W xo (fun ε S => (fo ε S).bind fun x S1 => if meR m x = true then .of S1 (meF m x []) else .bad) σ H Q) : tBM0 K T r (TF K mg W xo fo) σ H Q := by
  obtain ⟨ρ, ε, S, hs, hp, q⟩ := q
  refine TG0.go2 (xs := xo) (fun i m => m) hs hp q fun l vx H1 x S1 s1 hs1 rp1 rx q1 => ?_
  split at q1
  · rename_i ok
    exact ⟨ty _ H1 x vx rx ok, v _ _ _ _ _ _ _ _ _ (hs1.rp rp1 _) rx RVs.nil q1⟩
  · exact q1.elim
theorem ty_str {m : Me} (hm : ∀ x, meR m x = true → ∃ z, x = .str z) : ∀ ρ H x vx, RV K ρ H x vx → meR m x = true → tyV K "str" vx H := by
  intro ρ H x vx rx ok
  obtain ⟨z, rfl⟩ := hm x ok
  rw [rx.str]; rfl
theorem ty_lst {m : Me} (hm : ∀ x, meR m x = true → ∃ ds, lstOf x = some ds) : ∀ ρ H x vx, RV K ρ H x vx → meR m x = true → tyV K "list" vx H := by
  intro ρ H x vx rx ok
  obtain ⟨ds, e⟩ := hm x ok
  obtain ⟨a, vs, rfl, sq, _⟩ := lstOf_ok rx e
  exact .inl ⟨rfl, vs, sq⟩
theorem vr_join : VRm K mg (fun x xs H Q => ∃ a p ys, x = .str a ∧ xs = [.ref p] ∧ (SqL K H p (ys.map V.str) ∨ SqT K H p (ys.map V.str)) ∧ (ys.map (·.length)).sum + ys.length * a.length ≤ 16777216 ∧ Q (.str (Txt.join a ys)) H) (meF .join) := by
  intro E ρ S H x vx xs vs Q rp rx rv q
  obtain ⟨d, e, q2⟩ := q.ofH
  clear q
  match x, xs, e, rx, rv with
  | .str a, [y], e, rx, rv =>
    obtain ⟨v, rfl, r⟩ := rv.one'
    simp only [meF] at e
    split at e
    · rename_i ys e1
      split at e
      · rename_i z
        cases e
        obtain ⟨ds, e1, e2⟩ := Option.bind_eq_some_iff.mp e1
        obtain ⟨a, ws, rfl, _, sq, t⟩ := seqOf_ok r e1
        have e3 := strs_V t e2
        subst e3
        exact ⟨_, a, ys, rx.str, rfl, sq, z, q2.here rp (.mkStr _)⟩
      · cases e
    · cases e
  | .str a, [], e, _, _ => simp [meF] at e
  | .str a, _ :: _ :: _, e, _, _ => simp [meF] at e
  | .non, _, e, _, _ | .bl _, _, e, _, _ | .int _, _, e, _, _ | .tup _, _, e, _, _ | .lst _, _, e, _, _ | .rol _, _, e, _, _ | .dct _, _, e, _, _ | .stm _, _, e, _, _ | .wdt _, _, e, _, _ => simp [meF] at e
theorem vr_upper : VRm K mg (fun x xs H Q => ∃ a, x = .str a ∧ xs = [] ∧ a.length ≤ 5592405 ∧ Q (.str (Txt.upper a)) H) (meF .upper) := by
  intro E ρ S H x vx xs vs Q rp rx rv q
  obtain ⟨d, e, q2⟩ := q.ofH
  clear q
  match x, xs, e, rx, rv with
  | .str a, [], e, rx, rv =>
    simp only [RVs] at rv
    simp only [meF] at e
    split at e
    · rename_i z
      cases e
      exact ⟨_, rx.str, rv, z, q2.here rp (.mkStr _)⟩
    · cases e
  | .str a, _ :: _, e, _, _ => simp [meF] at e
  | .non, _, e, _, _ | .bl _, _, e, _, _ | .int _, _, e, _, _ | .tup _, _, e, _, _ | .lst _, _, e, _, _ | .rol _, _, e, _, _ | .dct _, _, e, _, _ | .stm _, _, e, _, _ | .wdt _, _, e, _, _ => simp [meF] at e
theorem vr_count : VRm K mg (fun x xs H Q => ∃ (a : Addr) (ns : List Int) (k : Int), x = .ref a ∧ xs = [.int k] ∧ SqL K H a (ns.map V.int) ∧ Q (.int (ns.count k)) H) (meF .count) := by
  intro E ρ S H x vx xs vs Q rp rx rv q
  obtain ⟨d, e, q2⟩ := q.ofH
  clear q
  have go : ∀ k, xs = [.int k] → ((lstOf x).bind intsOf).map (fun ns => D.int (ns.count k)) = some d → ∃ (a : Addr) (ns : List Int) (k : Int), vx = .ref a ∧ vs = [.int k] ∧ SqL K H a (ns.map V.int) ∧ Q (.int (ns.count k)) H := fun k ek e => by
    subst ek
    obtain ⟨ns, e1, rfl⟩ := Option.map_eq_some_iff.mp e
    obtain ⟨ds, e2, e3⟩ := Option.bind_eq_some_iff.mp e1
    obtain ⟨a, ws, rfl, sq, t⟩ := lstOf_ok rx e2
    have e4 := ints_V t e3
    subst e4
    obtain ⟨v, rfl, r⟩ := rv.one'
    exact ⟨a, ns, k, rfl, by rw [r.int], sq, q2.here rp (.mkInt _)⟩
  unfold meF at e
  split at e <;> first | (exact go _ rfl e) | cases e | contradiction
theorem px_me (m : Me) {o : Ex} {es : List Ex} (ho : PX cn cl k o) (hs : PXs cn cl k es) : PX cn cl k (.me m o es) := by
  refine ⟨fun X W e g h => ?_, noI fun _ _ _ => by simp [mI]⟩
  cases e with
  | Call fe us ks p =>
    cases fe with
    | Attribute v nm ap =>
      cases ks with
      | cons kw ks => simp [mE] at h
      | nil =>
        simp only [mE, Bool.and_eq_true, decide_eq_true_eq] at h
        obtain ⟨⟨⟨⟨⟨rfl, h1⟩, h2⟩, h3⟩, h4⟩, h5⟩ := h
        have hv := (ho.1 X W v g h1).1
        have hl : us.length = m.ar := (mEs_len h2).symm.trans h5
        have hst := mEs_stars h2
        have hb : attributeBase v m.name X.env (eval v X.env) = eval v X.env := noCall_base h3
        have ha := hs.1 X W us g h2
        refine both ?_ rfl
        have few : ∀ {e : Expr} {es : List Expr}, noStars (e :: es) = true → (e :: es).length = 1 → ((backTo p (starEach (e :: es) X.env)).all (fun x => !x.1) && (backToKw p (keywordEach [] X.env)).all (fun x => x.1.isSome)
          && decide ((e :: es).length + ([] : List Keyword).length + (if ([] : List Keyword).isEmpty then 0 else 1) < 30)) = true := fun {e es} h hl => by
          rw [star_all h, hl]; rfl
        cases m with
        | join =>
          cases us with
          | nil => simp [Me.ar] at hl
          | cons w ws =>
            have hst' := hst
            simp only [noStars, Bool.and_eq_true] at hst'
            exact PE.imp (pe_bm PySem.F.plainAttrs_str PySem.F.slot_str_join PySem.F.type_str_join mt_join hv ha hb (few hst hl) h4 (star_cons hst'.1) (star_any hst'.2)) fun σ H Q q => by
              simp only [evE] at q
              exact tf_bm vr_join (ty_str fun x h => by unfold meR at h; split at h <;> first | exact ⟨_, rfl⟩ | contradiction | cases h) σ H Q q
        | count =>
          cases us with
          | nil => simp [Me.ar] at hl
          | cons w ws =>
            have hst' := hst
            simp only [noStars, Bool.and_eq_true] at hst'
            exact PE.imp (pe_bm PySem.F.plainAttrs_list PySem.F.slot_list_count PySem.F.type_list_count (mt_lcount (X := X)) hv ha hb (few hst hl) h4 (star_cons hst'.1) (star_any hst'.2)) fun σ H Q q => by
              simp only [evE] at q
              exact tf_bm vr_count (ty_lst fun x h => by unfold meR at h; split at h <;> first | exact ⟨_, rfl⟩ | contradiction | cases h) σ H Q q
        | upper =>
          cases us with
          | cons w ws => simp [Me.ar] at hl
          | nil =>
            have ez : es = [] := by
              cases es with
              | nil => rfl
              | cons a r => simp [mEs] at h2
            subst ez
            exact PE.imp (pe_bm0 PySem.F.plainAttrs_str PySem.F.slot_str_upper PySem.F.type_str_upper mt_upper hv hb h4) fun σ H Q q => by
              simp only [evE, evEs, Out.bind_ok, vs, vss, List.append_nil] at q
              exact tf_bm0 vr_upper (ty_str fun x h => by unfold meR at h; split at h <;> first | exact ⟨_, rfl⟩ | contradiction | cases h) σ H Q q
    | _ => simp [mE] at h
  | _ => simp [mE] at h
end
end GG
namespace GG
open PySem PySem.Spec PyProof.Rows L2
section
variable {K : KW} {mg : Str → Option Value} {ρ : Fx} {H : Hp} {S : Sto}
theorem RVs.set {d : D} {v : V} (r : RV K ρ H d v) : ∀ {xs : List D} {vs : List V} (i : Nat), RVs K ρ H xs vs → RVs K ρ H (xs.set i d) (vs.set i v)
  | [], vs, i, h => by simp only [RVs] at h; subst h; exact RVs.nil
  | x :: xs, vs, 0, h => by
    obtain ⟨w, wr, rfl, rw', rr⟩ := h.uncons
    exact .cons r rr
  | x :: xs, vs, i + 1, h => by
    obtain ⟨w, wr, rfl, rw', rr⟩ := h.uncons
    exact .cons rw' (RVs.set r i rr)
theorem RKV.map {k : Key} {d : D} {v : V} (r : RV K ρ H d v) : ∀ {ds : List (Key × D)} {vs : List (Key × V)}, RKV K ρ H ds vs → RKV K ρ H (ds.map fun kv => if kv.1 = k then (kv.1, d) else kv) (vs.map fun kv => if kv.1 = k then (kv.1, v) else kv)
  | [], vs, h => by simp only [RKV] at h; subst h; simp only [List.map_nil, RKV]
  | (kk, x) :: xs, vs, h => by
    simp only [RKV] at h
    obtain ⟨w, wr, rfl, rw', rr⟩ := h
    by_cases e : kk = k
    · simp only [List.map_cons, e, if_true, RKV]
      exact ⟨v, _, rfl, r, RKV.map r rr⟩
    · simp only [List.map_cons, e, if_false, RKV]
      exact ⟨w, _, rfl, rw', RKV.map r rr⟩
theorem RKV.snoc {k : Key} {d : D} {v : V} (r : RV K ρ H d v) : ∀ {ds : List (Key × D)} {vs : List (Key × V)}, RKV K ρ H ds vs → RKV K ρ H (ds ++ [(k, d)]) (vs ++ [(k, v)])
  | [], vs, h => by simp only [RKV] at h; subst h; simp only [List.nil_append, RKV]; exact ⟨v, [], rfl, r, rfl⟩
  | (kk, x) :: xs, vs, h => by
    simp only [RKV] at h
    obtain ⟨w, wr, rfl, rw', rr⟩ := h
    simp only [List.cons_append, RKV]
    exact ⟨w, _, rfl, rw', RKV.snoc r rr⟩
theorem RKV.any {k : Key} : ∀ {ds : List (Key × D)} {vs : List (Key × V)}, RKV K ρ H ds vs → hasK ds k = (vs.any fun kv => decide (kv.1 = k))
  | [], vs, h => by simp only [RKV] at h; subst h; rfl
  | (kk, x) :: xs, vs, h => by
    simp only [RKV] at h
    obtain ⟨w, wr, rfl, rw', rr⟩ := h
    have := RKV.any (k := k) rr
    simp only [hasK, List.any_cons] at this ⊢
    rw [this]
theorem RKV.put {k : Key} {d : D} {v : V} (r : RV K ρ H d v) {ds : List (Key × D)} {vs : List (Key × V)} (h : RKV K ρ H ds vs) : RKV K ρ H (putD ds k d) (putK vs k v) := by
  unfold putD putK
  rw [h.any]
  split
  · exact RKV.map r h
  · exact RKV.snoc r h
theorem RKV.merge : ∀ {more : List (Key × D)} {mv : List (Key × V)} {ds : List (Key × D)} {vs : List (Key × V)}, RKV K ρ H ds vs → RKV K ρ H more mv → RKV K ρ H (mergeD ds more) (mergeK vs mv)
  | [], mv, ds, vs, h, m => by simp only [RKV] at m; subst m; exact h
  | (kk, x) :: xs, mv, ds, vs, h, m => by
    simp only [RKV] at m
    obtain ⟨w, wr, rfl, rw', rr⟩ := m
    exact RKV.merge (more := xs) (mv := wr) (RKV.put rw' h) rr
theorem RKV.zip : ∀ {ks : List Key} {ds : List D} {vs : List V}, RVs K ρ H ds vs → RKV K ρ H (ks.zip ds) (ks.zip vs)
  | [], ds, vs, r => by simp only [List.zip_nil_left, RKV]
  | kk :: ks, [], vs, r => by simp only [RVs] at r; subst r; simp only [List.zip_nil_right, RKV]
  | kk :: ks, d :: ds, vs, r => by
    obtain ⟨v, vr, rfl, rv, rr⟩ := r.uncons
    simp only [List.zip_cons_cons, RKV]
    exact ⟨v, _, rfl, rv, RKV.zip rr⟩
end
section
variable {cn : Cn} {cl : Nat → List D → Sto → Out D} {k : Nat} {W : WX} {X : Cx}
theorem pairs_ok (g : Good cn cl k W X) (pos : Pos) : ∀ (ks : List Key) (es : List Ex) (keys : List (Option Expr)) (vals : List Expr), (∀ a ∈ es, PX cn cl k a) → mK ks keys = true → mEs cn es X.env.scope vals = true → ks.length = es.length →
    ∃ trs, PPs X pos keys vals trs ∧ keys.all (·.isSome) = true ∧ keys.length = ks.length ∧ ∀ (σ : L2.St) (H : Hp) (R : List V → Hp → Prop) (Q : List (V × V) → Hp → Prop), TFs (kw X) X.mg W (vss es) (evEs cl es) σ H R →
      (∀ vs H2, R vs H2 → Q ((ks.zip vs).map fun kv => (kV kv.1, kv.2)) H2) → tPairs trs σ H Q
  | [], es, keys, vals, hp, hk, he, hl => by
    cases es with
    | cons a r => simp at hl
    | nil =>
      cases keys with
      | cons _ _ => simp [mK] at hk
      | nil =>
        cases vals with
        | cons _ _ => simp [mEs] at he
        | nil =>
          refine ⟨[], pps_nil, rfl, rfl, fun σ H R Q q hq => ?_⟩
          obtain ⟨ρ, ε, S, hs, hp, q⟩ := q
          simp only [evEs] at q
          exact hq [] H (q.here (hs.rp hp _) RVs.nil)
  | kk :: ks, es, keys, vals, hp, hk, he, hl => by
    cases es with
    | nil => simp at hl
    | cons a r =>
      cases keys with
      | nil => simp [mK] at hk
      | cons ko keys =>
        cases ko with
        | none => simp [mK] at hk
        | some ke =>
          cases vals with
          | nil => simp [mEs] at he
          | cons v vals =>
            simp only [mK, Bool.and_eq_true] at hk
            simp only [mEs, Bool.and_eq_true] at he
            obtain ⟨trs, t1, t2, t3, t4⟩ := pairs_ok g pos ks r keys vals (fun b hb => hp b (List.mem_cons_of_mem _ hb)) hk.2 he.2 (by simpa using hl)
            have hv := ((hp a List.mem_cons_self).1 X W v g he.1.1).1
            have hke : PE X ke (tC (kV kk)) := by
              unfold keyIsC at hk
              cases kk with
              | inl i =>
                cases ke with
                | Constant c j p => cases c <;> first | (have := of_decide_eq_true hk.1; subst this; exact pe_int) | (simp at hk)
                | _ => simp at hk
              | inr i =>
                cases ke with
                | Constant c j p => cases c <;> first | (have := of_decide_eq_true hk.1; subst this; exact pe_str) | (simp at hk)
                | _ => simp at hk
            refine ⟨_, pps_cons hke hv t1, by simpa using t2, by simp [t3], fun σ H R Q q hq => ?_⟩
            obtain ⟨ρ, ε, S, hs, hp, q⟩ := q
            simp only [tPairs, evEs] at q ⊢
            refine TG0.go2 (xs := vs a ++ vss r) (fun i m => by simp [m]) hs hp q fun l vx H1 x S1 s1 hs1 rp1 rx q1 => ?_
            refine t4 σ H1 (fun vs H2 => R (vx :: vs) H2) (fun ps H2 => Q ((kV kk, vx) :: ps) H2) ?_ fun vs H2 h => hq (vx :: vs) H2 h
            refine TG0.go2 (xs := vs a ++ vss r) (fun i m => by simp [m]) hs1 rp1 q1 fun l2 ws H2 ys S2 s2 hs2 rp2 rv q2 => ?_
            exact q2.here (hs2.rp rp2 _) (.cons (plus_anti (Av.anti fun i m => by simp [m]) (rx.mono (hs1.rp rp1 _) s2)) (plus_antis (Av.anti fun i m => by simp [m]) rv))
theorem pn_dct (ks : List Key) {es : List Ex} (hs : PXs cn cl k es) : PN cn cl k (.dct ks es) := by
  intro X W e g h
  cases e with
  | Dict keys vals p =>
    simp only [mE, Bool.and_eq_true, decide_eq_true_eq] at h
    obtain ⟨⟨⟨h1, h2⟩, h3⟩, h4⟩ := h
    obtain ⟨trs, t1, t2, t3, t4⟩ := pairs_ok g p ks es keys vals hs.2.2.2.2.2 h1 h2 h3
    have hl := mEs_len h2
    cases keys with
    | nil =>
      cases ks with
      | cons _ _ => simp at t3
      | nil =>
        cases es with
        | cons _ _ => simp at h3
        | nil =>
          cases vals with
          | cons _ _ => simp at hl
          | nil =>
            refine PE.imp pe_dnewK fun σ H Q q => ?_
            obtain ⟨ρ, ε, S, rs, rp, q⟩ := q
            simp only [evE, evEs, Out.bind_ok, List.length_nil, Nat.zero_le, if_true] at q
            exact fun p hp => post_dictN (ds := []) (vs := []) (rs.rp rp _) (by simp only [RKV]) (fun _ z => z) q p hp
    | cons k0 keys =>
      refine PE.imp (pe_disp t1 t2 (by rw [t3, h3, hl]) (by simp) (by rw [t3]; exact h4)) fun σ H Q q => ?_
      obtain ⟨ρ, ε, S, rs, rp, q⟩ := q
      have evs : vs (.dct ks es) = vss es := by simp only [vs]
      simp only [evE] at q
      rw [evs] at q
      intro pd hp
      have kqp : Kq ρ H ρ.l (upd H pd (.dK [])) := Kq.fresh hp
      have rsp : Rs (kw X) (ρ.plus (· = pd)) (upd H pd (.dK [])) ε σ := Rs.gen (rs.plus (n := (· = pd)) (fun a z => by rw [z]; exact hp)) (Kq.plus kqp)
      have rpp : Rp (ρ.plus (· = pd)) S (upd H pd (.dK [])) := Rp.w (rp.fresh hp) fun a z => z.elim ((rp.fresh hp).dom a) fun z => by rw [z, upd_same]; exact fun z => nomatch z
      refine t4 σ _ (fun vs H2 => H2 pd = some (.dK []) ∧ vs.length ≤ 15 ∧ Q (.ref pd) (upd H2 pd (.dK (mergeK [] (ks.zip vs))))) _ ⟨ρ.plus (· = pd), ε, S, rsp, rpp, ?_⟩ ?_
      · have npd := (rp.nin hp).1
        cases e0 : evEs cl es ε S with
        | bad => rw [e0] at q; exact q
        | exc c v S1 =>
          rw [e0] at q
          intro l1 H1 cls dd s1 rp1 rx
          refine q l1 H1 cls dd ((Sx.fresh hp).trans s1) ⟨rp1.len, rp1.nd, rp1.obj, fun a z => rp1.dom a (z.imp .inl id)⟩ ?_
          exact RX.anti (ρ := ((ρ.plus (· = pd)).plus (Av ε σ (vss es))).to l1) (n := (ρ.plus (Av ε σ (vss es))).n) (fun a z => z.imp .inl id) rx
        | ok ds S1 =>
          rw [e0, Out.bind_ok] at q
          intro l1 ws H1 s1 rp1 rv
          have hd : H1 pd = some (.dK []) := s1.kp pd _ upd_same npd
          have nd : pd ∉ l1 := s1.out (upd_same : upd H pd (.dK []) pd = some (.dK [])) npd
          split at q
          · rename_i z
            refine ⟨hd, by rw [← rv.len]; exact z, ?_⟩
            have s2 : Sx ρ.l H l1 H1 := (Sx.fresh hp).trans s1
            have rk : RKV (kw X) (((ρ.plus (· = pd)).plus (Av ε σ (vss es))).to l1) H1 (mergeD [] (ks.zip ds)) (mergeK [] (ks.zip ws)) := RKV.merge (ds := []) (vs := []) (by simp only [RKV]) (RKV.zip rv)
            have rk2 : RKV (kw X) (((ρ.plus (Av ε σ (vss es))).plus (· = pd)).to l1) H1 (mergeD [] (ks.zip ds)) (mergeK [] (ks.zip ws)) :=
              RKV.anti (ρ := ((ρ.plus (· = pd)).plus (Av ε σ (vss es))).to l1) (n := ((ρ.plus (Av ε σ (vss es))).plus (· = pd)).n) (fun a z => by rcases z with (z | z) | z; exact .inl (.inl z); exact .inr z; exact .inl (.inr z)) _ _ rk
            have kqD : Kq (((ρ.plus (Av ε σ (vss es))).plus (· = pd)).to l1) H1 l1 (upd H1 pd (.dK (mergeK [] (ks.zip ws)))) := Kq.put hd (.inr rfl) (fun _ z => nomatch z) (fun _ _ z => nomatch z)
            refine q l1 (.ref pd) _ ⟨s2.pre, fun b u e n => ?_, s2.nw, fun b e => ?_⟩ ⟨rp1.len, rp1.nd, fun i a t e1 e2 => ?_, fun a z => ?_⟩ ⟨pd, rfl, hp, _, upd_same, nd, fun z => ?_, RKV.gen kqD _ _ rk2⟩
            · rw [upd_ne (ne_of_none e hp)]; exact s2.kp b u e n
            · by_cases hb : b = pd
              · rw [hb, upd_same]; exact fun z => nomatch z
              · rw [upd_ne hb]; exact s2.dm b e
            · rw [upd_ne (fun z : a = pd => nd (by rw [← z]; exact List.mem_of_getElem? e1))]; exact rp1.obj i a t e1 e2
            · by_cases hb : a = pd
              · rw [hb, upd_same]; exact fun z => nomatch z
              · rw [upd_ne hb]; exact rp1.dom a (z.imp .inl id)
            · exact (rs.rp rp (vss es)).dom pd z hp
          · exact q.elim
      · rintro vs H2 ⟨h1, h2, h3⟩
        refine ⟨h1, ks.zip vs, rfl, ?_, h3⟩
        rw [List.length_zip]; omega
  | _ => simp [mE] at h
theorem px_dct (ks : List Key) {es : List Ex} (hs : PXs cn cl k es) : PX cn cl k (.dct ks es) := by
  refine ⟨fun X W e g h => ?_, noI fun _ _ _ => by simp [mI]⟩
  have q := (pn_dct ks hs).pe g h
  cases e with
  | Dict keys vals p => exact both q rfl
  | _ => simp [mE] at h
mutual
theorem sX : ∀ ex : Ex, PX cn cl k ex
  | .v i => px_v i
  | .c d => px_c d
  | .g x d => px_g x d
  | .bop o a b => px_bop o (sX a) (sX b)
  | .neg a => px_neg (sX a)
  | .not a => px_not (sX a)
  | .cmp o a b => px_cmp o (sX a) (sX b)
  | .chain o o' a b c => px_chain o o' (sX a) (sX b) (sX c)
  | .and a es => px_and (sX a) (sXs es)
  | .or a es => px_or (sX a) (sXs es)
  | .ife t a b => px_ife (sX t) (sX a) (sX b)
  | .tup es => px_tup (sXs es)
  | .lst es => px_lst (sXs es)
  | .dct ks es => px_dct ks (sXs es)
  | .ix a i => px_ix (sX a) (sX i)
  | .sl a lo hi => px_sl (sX a) (sXs lo) (sXs hi)
  | .rev a => px_rev (sX a)
  | .call f es => px_call f (sXs es)
  | .bi b es => px_bi b (sXs es)
  | .isi a t => px_isi t (sX a)
  | .me m o es => px_me m (sX o) (sXs es)
  | .lc e own tg it ifs => px_lc (sX e) (sX it) (sXs ifs)
  | .rng es => px_rng (sXs es)
  | .enum e => px_enum (sX e)
  | .zip a b => px_zip (sX a) (sX b)
  | .itv e => px_itv (sX e)
  | .six i j => px_six i j
  | .mkS f es => px_mkS f (sXs es)
theorem sXs : ∀ es : List Ex, PXs cn cl k es
  | [] => pxs_nil
  | a :: r => pxs_cons (sX a) (sXs r)
end
theorem sN {ex : Ex} (h : fresh ex = true) : PN cn cl k ex := by
  cases ex with
  | lst es => exact pn_lst (sXs es)
  | lc e own tg it ifs => exact pn_lc (sX e) (sX it) (sXs ifs)
  | dct ks es => exact pn_dct ks (sXs es)
  | _ => simp [fresh] at h
end
end GG
namespace GG
open PySem PySem.Spec PyProof.Rows L2
/-! ## t += u of tuples -/
theorem noI_tuple : typeLookup (.type "tuple") (dunderI "add") = pure none := by rw [typeLookup_type, builtinLookup_eq_fast]; kernel_rfl
theorem op_icatA {X : Cx} : PIp X .Add (rCatA X.K) := by
  intro pins s σ H x y v u Q I rx ry h
  obtain ⟨a, b, xs, ys, rfl, rfl, ha, hb, hz, q0, q1, q2⟩ := h
  cases rx
  cases ry
  obtain ⟨its, r1, ht, _⟩ := I.tuple ha
  obtain ⟨its2, r2, hb2, _⟩ := I.tuple hb
  obtain ⟨⟨cls, dd, data, sl⟩, ho, hc, n, hd⟩ := id ht
  obtain ⟨⟨cls2, dd2, data2, sl2⟩, ho2, hc2, n2, hd2⟩ := id hb2
  simp only at hc hd hc2 hd2
  subst hc hd hc2 hd2
  refine wpAny_inplaceOp_concat (id := "tuple.__add__") ⟨_, ho, rfl⟩ ⟨_, ho2, rfl⟩ noI_tuple noFill_tuple_add seq_tuple_add ?_
  by_cases hx : xs = []
  · subst hx
    cases r1
    exact call_meets PySem.F.slot_tuple_add ⟨_, ho, rfl⟩ PySem.F.entry_tuple_add (PySem.F.args_tuple_add_2 _ _) (tuple_addW0 a b ([] : List Value).toArray its2.toArray n n2 dd dd2 sl sl2 (by simp)) ⟨ho, ho2, ⟨.ref b, H, I, rfl, q0 rfl⟩⟩
  · have hv : its ≠ [] := fun z => hx (r1.nil_iff.mp z)
    by_cases hw : its2 = []
    · exact call_meets PySem.F.slot_tuple_add ⟨_, ho, rfl⟩ PySem.F.entry_tuple_add (PySem.F.args_tuple_add_2 _ _) (tuple_addW1 a b its.toArray its2.toArray n n2 dd dd2 sl sl2 (by simpa using hv) (by simp [hw])) ⟨ho, ho2, ⟨.ref a, H, I, rfl, q1 hx (r2.nil_iff.mp hw)⟩⟩
    · have e : its.toArray ++ its2.toArray = (its ++ its2).toArray := by simp
      refine call_meets PySem.F.slot_tuple_add ⟨_, ho, rfl⟩ PySem.F.entry_tuple_add (PySem.F.args_tuple_add_2 _ _) (tuple_addW2 a b its.toArray its2.toArray n n2 dd dd2 sl sl2 (by simpa using hv) (by simpa using hw) (by rw [List.size_toArray, List.size_toArray, ← r1.length, ← r2.length]; exact hz)) ⟨ho, ho2, ?_⟩
      rw [e]
      refine ⟨.ref s.heap.objs.size, _, I.laid (t' := s.toks) (o := .tup (xs ++ ys)) (fun b ob q => Heap.get?_push_of_some _ q) (Nat.le_refl _) ?_, rfl, q2 hx (fun w => hw (r2.nil_iff.mpr w)) _ (I.hok.fresh (Nat.le_refl _))⟩
      exact ⟨by rw [List.length_append]; exact hz, _, r1.append r2, IsTup.new _ _⟩
theorem PIp.or {X : Cx} {op : Operator} {t u : TIp} (h : PIp X op t) (h' : PIp X op u) : PIp X op (fun x y H Q => t x y H Q ∨ u x y H Q) := fun pins s σ H x y v w Q I rx ry z => z.elim (h pins s σ H x y v w Q I rx ry) (h' pins s σ H x y v w Q I rx ry)
theorem ip_addS {X : Cx} : PIp X .Add (fun x y H Q => ∃ i j, x = .str i ∧ y = .str j ∧ i.length + j.length ≤ sizeLine ∧ Q (.str (i ++ j)) H) := fun pins s σ H x y v u Q I rx ry h => iop_add_str pins s σ H x y v u Q I rx ry h
abbrev rIAdd (K : KW) : TIp := fun x y H Q => ipI (fun i j => i + j) x y H Q ∨ ((∃ i j, x = .str i ∧ y = .str j ∧ i.length + j.length ≤ sizeLine ∧ Q (.str (i ++ j)) H) ∨ rCatA K x y H Q)
theorem ip_addA {X : Cx} : PIp X .Add (rIAdd (kw X)) := GG.PIp.or ip_add (GG.PIp.or ip_addS op_icatA)
/-! ## statements -/
/-- from the state at a statement's start to a later one -/
structure Stp (l : List Addr) (ε : Env) (σ : L2.St) (H : Hp) (l' : List Addr) (ε' : Env) (σ' : L2.St) (H' : Hp) : Prop where
  pre : l <+: l'
  kp : ∀ b u, H b = some u → b ∉ l → ¬ Av ε σ [] b → H' b = some u
  nw : ∀ b, b ∈ l' → b ∉ l → H b = none
  dm : ∀ b, H b ≠ none → H' b ≠ none
  ow : ∀ a, Av ε' σ' [] a → Av ε σ [] a ∨ H a = none
theorem Av.none {xs : List Nat} (a : Addr) : ¬ Av [] [] xs a := fun ⟨i, d, _, e, _⟩ => by simp at e
section
variable {l l1 l2 : List Addr} {ε ε1 ε2 : Env} {σ σ1 σ2 : L2.St} {H H1 H2 : Hp}
theorem Stp.of (s : Sx l H l1 H1) (ow : ∀ a, Av ε1 σ1 [] a → Av ε σ [] a ∨ H a = none) : Stp l ε σ H l1 ε1 σ1 H1 := ⟨s.pre, fun b u e n _ => s.kp b u e n, s.nw, s.dm, ow⟩
theorem Stp.trans (a : Stp l ε σ H l1 ε1 σ1 H1) (b : Stp l1 ε1 σ1 H1 l2 ε2 σ2 H2) : Stp l ε σ H l2 ε2 σ2 H2 := by
  refine ⟨a.pre.trans b.pre, fun c u e n m => ?_, fun c e n => ?_, fun c e => b.dm c (a.dm c e), fun c z => ?_⟩
  · refine b.kp c u (a.kp c u e n m) (fun h => ?_) fun h => ?_
    · have := a.nw c h n; rw [e] at this; cases this
    · rcases a.ow c h with h | h
      · exact m h
      · rw [e] at h; cases h
  · by_cases h : c ∈ l1
    · exact a.nw c h n
    · have := b.nw c e h
      cases q : H c with
      | none => rfl
      | some u => exact absurd this (a.dm c (by rw [q]; exact fun z => nomatch z))
  · rcases b.ow c z with z | z
    · exact a.ow c z
    · refine .inr ?_
      cases q : H c with
      | none => rfl
      | some u => exact absurd z (a.dm c (by rw [q]; exact fun z => nomatch z))
theorem Stp.refl : Stp l ε σ H l ε σ H := .of .refl fun _ z => .inl z
end
section
variable (K : KW) (mg : Str → Option Value)
def PostS (W : WX) (ρ : Fx) (ε : Env) (σ : L2.St) (H : Hp) (r : OutS) (Dn : Ends) : Prop :=
  match r with
  | .ok fl S => ∀ l H', Rp (ρ.to l) S H' → (match fl with
    | .nx ε' => ∀ σ', Stp ρ.l ε σ H l ε' σ' H' → Rs K (ρ.to l) H' ε' σ' → Dn.nx σ' H'
    | .rt d => ∀ v, Stp ρ.l ε σ H l [] [] H' → RV K (ρ.to l) H' d v → Dn.rt v H'
    | .bk ε' => ∀ σ', Stp ρ.l ε σ H l ε' σ' H' → Rs K (ρ.to l) H' ε' σ' → Dn.bk σ' H'
    | .ct ε' => ∀ σ', Stp ρ.l ε σ H l ε' σ' H' → Rs K (ρ.to l) H' ε' σ' → Dn.ct σ' H')
  | .exc c v ε' S => ∀ l H' σ' cls dd, Stp ρ.l ε σ H l ε' σ' H' → Rp (ρ.to l) S H' → Rs K (ρ.to l) H' ε' σ' → RX K mg (ρ.to l) H' c v cls dd → W cls dd σ' H'
  | .bad => False
def TFS (W : WX) (f : Env → Sto → OutS) : TS := fun Dn σ H => ∃ ρ ε S, Rs K ρ H ε σ ∧ Rp ρ S H ∧ PostS K mg W ρ ε σ H (f ε S) Dn
end
section
variable {K : KW} {mg : Str → Option Value} {α β : Type} {RA : Fx → Hp → α → β → Prop} {ρ : Fx} {H H1 : Hp} {W : WX} {Dn : Ends} {ε ε1 : Env} {σ σ1 : L2.St} {S : Sto}
theorem PostS.weak {l : List Addr} {r : OutS} (s : Stp ρ.l ε σ H l ε1 σ1 H1) (h : PostS K mg W ρ ε σ H r Dn) : PostS K mg W (ρ.to l) ε1 σ1 H1 r Dn := by
  cases r with
  | ok f S =>
    cases f with
    | nx ε2 => exact fun l' H' rp σ' s' => h l' H' rp σ' (s.trans s')
    | rt d => exact fun l' H' rp v s' => h l' H' rp v (s.trans s')
    | bk ε2 => exact fun l' H' rp σ' s' => h l' H' rp σ' (s.trans s')
    | ct ε2 => exact fun l' H' rp σ' s' => h l' H' rp σ' (s.trans s')
  | exc c v ε S => exact fun l' H' σ cls dd s' => h l' H' σ cls dd (s.trans s')
  | bad => exact h
theorem PostS.on {xs : List Nat} {r : Out α} {g : α → Sto → OutS} {Q1 : β → Hp → Prop} (h : PostS K mg W ρ ε σ H (r.on ε g) Dn) (rs : Rs K ρ H ε σ) (rp : Rp ρ S H)
    (step : ∀ l v H1 d S1, Sx ρ.l H l H1 → Rs K (ρ.to l) H1 ε σ → Rp (ρ.to l) S1 H1 → RA ((ρ.to l).plus (Av ε σ xs)) H1 d v → PostS K mg W (ρ.to l) ε σ H1 (g d S1) Dn → Q1 v H1) : Post K mg RA (XW W σ) (ρ.plus (Av ε σ xs)) H r Q1 := by
  cases r with
  | ok d S => exact fun l v H' s rp2 ra => step l v H' d S s (rs.mono rp s) (Rp.low (ρ := ρ.to l) (n := Av ε σ xs) rp2) ra (PostS.weak (.of s fun _ z => .inl z) h)
  | exc c x S => exact fun l H' cls dd s rp2 rx => h l H' σ cls dd (.of s fun _ z => .inl z) (Rp.low (ρ := ρ.to l) (n := Av ε σ xs) rp2) (rs.mono rp s) (RX.anti (ρ := (ρ.plus (Av ε σ xs)).to l) (n := ρ.n) (fun a z => .inl z) rx)
  | bad => exact h
theorem PostS.nxt (h : PostS K mg W ρ ε σ H (.ok (.nx ε1) S) Dn) (rp : Rp ρ S H) (ow : ∀ a, Av ε1 σ1 [] a → Av ε σ [] a) (rs : Rs K ρ H ε1 σ1) : Dn.nx σ1 H := h ρ.l H rp σ1 (.of .refl fun a z => .inl (ow a z)) rs
theorem onO_some {o : Option α} {g : α → OutS} (h : PostS K mg W ρ ε σ H (onO o g) Dn) : ∃ a, o = some a ∧ PostS K mg W ρ ε σ H (g a) Dn := by
  cases o with
  | none => exact h.elim
  | some a => exact ⟨a, rfl, h⟩
/-- the slots behind a value -/
theorem fzV_ok {e : Ex} {d : D} {v : V} (rs : Rs K ρ H ε σ) (r : RV K (ρ.plus (Av ε σ (vs e))) H d v) : Rs K ρ H (fzV e d ε) σ ∧ RV K (ρ.plus (Av (fzV e d ε) σ [])) H d v ∧ ∀ a, Av (fzV e d ε) σ [] a → Av ε σ [] a := by
  unfold fzV
  by_cases st : d.still = true
  · rw [if_pos st]
    exact ⟨rs, RV.still (ρ := ρ.plus (Av ε σ (vs e))) d v st r, fun _ z => z⟩
  · rw [if_neg st]
    exact ⟨rs.fz _, plus_anti (fun a z => Av.anti (fun j m => List.mem_append_left _ m) a (Av.fz a z)) r, fun a z => Av.anti (fun j m => by cases m) a (Av.fz a z)⟩
theorem Own.still {n m : Addr → Prop} {d : D} {a : Addr} (st : d.still1 = true) (nm : ¬ m a) (o : Own K (ρ.plus n) H d a) : Own K (ρ.plus m) H d a := by
  unfold Own at o ⊢
  split at o
  · obtain ⟨vs, z, e, n1, n2, r⟩ := o
    exact ⟨vs, z, e, n1, fun q => q.elim (fun q => n2 (.inl q)) nm, RVs.still (ρ := (ρ.plus n).plus (· = a)) (n := ((ρ.plus m).plus (· = a)).n) _ _ st r⟩
  · obtain ⟨vs, e, n1, n2, r⟩ := o
    exact ⟨vs, e, n1, fun q => q.elim (fun q => n2 (.inl q)) nm, RKV.still (ρ := (ρ.plus n).plus (· = a)) (n := ((ρ.plus m).plus (· = a)).n) _ _ st r⟩
  · exact o
/-- a slot gets a new thing of its own -/
theorem Rs.setO {i : Nat} {d : D} {a : Addr} (h : Rs K (ρ.plus (· = a)) H ε σ) (hi : i < ε.length) (o : Own K (ρ.plus (Av ε σ [])) H d a) : Rs K ρ H (ε.set i (.o d)) (σ.set i (some (.ref a))) := by
  have av : ∀ ys b, Av (ε.set i (.o d)) (σ.set i (some (.ref a))) ys b → (b = a ∨ Av ε σ ys b) := fun ys b ⟨j, d', n, e1, e2⟩ => by
    by_cases hj : i = j
    · subst hj
      rw [List.getElem?_set, if_pos rfl, if_pos (by rw [← h.len]; exact hi)] at e2
      cases e2; exact .inl rfl
    · rw [List.getElem?_set_ne hj] at e1 e2
      exact .inr ⟨j, d', n, e1, e2⟩
  have push : ∀ ys b, (ρ.n b ∨ Av (ε.set i (.o d)) (σ.set i (some (.ref a))) ys b) → ((ρ.n b ∨ b = a) ∨ Av ε σ ys b) := fun ys b z => by
    rcases z with z | z
    · exact .inl (.inl z)
    · rcases av ys b z with z | z
      · exact .inl (.inr z)
      · exact .inr z
  refine ⟨by simp [h.len], fun j d' e => ?_, fun j d' e => ?_⟩
  · by_cases hj : i = j
    · subst hj
      rw [List.getElem?_set, if_pos rfl, if_pos hi] at e
      cases e
    · rw [List.getElem?_set_ne hj] at e
      obtain ⟨v', e1, r1⟩ := h.val j d' e
      exact ⟨v', by rw [List.getElem?_set_ne hj]; exact e1, RV.anti (ρ := (ρ.plus (· = a)).plus (Av ε σ [])) (n := (ρ.plus (Av (ε.set i (.o d)) (σ.set i (some (.ref a))) [])).n) (push []) _ _ r1⟩
  · by_cases hj : i = j
    · subst hj
      rw [List.getElem?_set, if_pos rfl, if_pos hi] at e
      cases e
      refine ⟨a, by rw [List.getElem?_set, if_pos rfl, if_pos (by rw [← h.len]; exact hi)], o.anti fun b z => ?_⟩
      obtain ⟨j, d', n, e1, e2⟩ := z
      have hj : i ≠ j := fun z => n (by rw [z]; exact List.mem_singleton_self _)
      rw [List.getElem?_set_ne hj] at e1 e2
      exact ⟨j, d', by simp, e1, e2⟩
    · rw [List.getElem?_set_ne hj] at e
      obtain ⟨b, e1, o1⟩ := h.own j d' e
      refine ⟨b, by rw [List.getElem?_set_ne hj]; exact e1, ?_⟩
      have e9 : (ρ.plus (· = a)).plus (Av ε σ [j]) = ρ.plus fun b => b = a ∨ Av ε σ [j] b := by
        unfold Fx.plus Fx.w; congr 1; funext b; exact propext or_assoc
      rw [e9] at o1
      exact o1.anti (av [j])
/-- a slot's own thing changes -/
theorem Rs.chg {i : Nat} {d d' : D} {a : Addr} {u o : HO} (h : Rs K ρ H ε σ) (hi : ε[i]? = some (.o d)) (ha : σ[i]? = some (some (.ref a))) (hu : H a = some u) (n1 : ∀ xs, u ≠ .tup xs) (n2 : ∀ o x, u ≠ .frz o x)
    (new : Own K (ρ.plus (Av ε σ [i])) (upd H a o) d' a) : Rs K ρ (upd H a o) (ε.set i (.o d')) σ := by
  have hil : i < ε.length := (List.getElem?_eq_some_iff.mp hi).1
  have avA : ∀ ys, i ∉ ys → Av ε σ ys a := fun ys n => ⟨i, d, n, hi, ha⟩
  have av : ∀ ys b, Av (ε.set i (.o d')) σ ys b → Av ε σ ys b := fun ys b ⟨j, dj, n, e1, e2⟩ => by
    by_cases hj : i = j
    · subst hj; exact ⟨i, d, n, hi, e2⟩
    · rw [List.getElem?_set_ne hj] at e1; exact ⟨j, dj, n, e1, e2⟩
  refine ⟨by simp [h.len], fun j dj e => ?_, fun j dj e => ?_⟩
  · by_cases hj : i = j
    · subst hj
      rw [List.getElem?_set, if_pos rfl, if_pos hil] at e
      cases e
    · rw [List.getElem?_set_ne hj] at e
      obtain ⟨v', e1, r1⟩ := h.val j dj e
      have kq : Kq (ρ.plus (Av ε σ [])) H ρ.l (upd H a o) := Kq.put (ρ := ρ.plus (Av ε σ [])) hu (.inr (avA [] (by simp))) n1 n2
      exact ⟨v', e1, plus_anti (av []) (RV.gen kq _ _ r1)⟩
  · by_cases hj : i = j
    · subst hj
      rw [List.getElem?_set, if_pos rfl, if_pos hil] at e
      cases e
      exact ⟨a, ha, new.anti (av [i])⟩
    · rw [List.getElem?_set_ne hj] at e
      obtain ⟨b, e1, o1⟩ := h.own j dj e
      have kq : Kq (ρ.plus (Av ε σ [j])) H ρ.l (upd H a o) := Kq.put (ρ := ρ.plus (Av ε σ [j])) hu (.inr (avA [j] (by simp [hj]))) n1 n2
      exact ⟨b, e1, (Own.gen o1 kq).anti (av [j])⟩
theorem Rp.chg {a : Addr} {o : HO} (rp : Rp ρ S H) (na : a ∉ ρ.l) : Rp ρ S (upd H a o) := by
  refine ⟨rp.len, rp.nd, fun i b t e1 e2 => ?_, fun b z => ?_⟩
  · rw [upd_ne (fun z : b = a => na (by rw [← z]; exact List.mem_of_getElem? e1))]; exact rp.obj i b t e1 e2
  · by_cases hb : b = a
    · rw [hb, upd_same]; exact fun z => nomatch z
    · rw [upd_ne hb]; exact rp.dom b z
theorem Stp.chg {i : Nat} {d : D} {a : Addr} {o : HO} {l : List Addr} (hi : ε[i]? = some (.o d)) (ha : σ[i]? = some (some (.ref a))) (ow : ∀ b, Av ε1 σ1 [] b → Av ε σ [] b) : Stp l ε σ H l ε1 σ1 (upd H a o) := by
  refine ⟨pre_refl _, fun b u e n m => ?_, fun b e n => absurd e n, fun b e => ?_, fun b z => .inl (ow b z)⟩
  · rw [upd_ne (fun z : b = a => m (by rw [z]; exact ⟨i, d, by simp, hi, ha⟩))]; exact e
  · by_cases hb : b = a
    · rw [hb, upd_same]; exact fun z => nomatch z
    · rw [upd_ne hb]; exact e
end
end GG
namespace GG
open PySem PySem.Spec PyProof.Rows L2
structure GoodS (cn : Cn) (cl : Nat → List D → Sto → Out D) (k : Nat) (W : WX) (X : Cx) : Prop extends Good cn cl k W X where
  po : PassesOwn (model X.prog X.w) X.A X.env X.xe
  kind : X.env.scope.kind = .function
  fa : ∀ x, X.fn x = true
section
variable {cn : Cn} {cl : Nat → List D → Sto → Out D} {k : Nat}
theorem loc_of {X : Cx} {W : WX} (g : GoodS cn cl k W X) : ∀ x, locB X.env.scope x = true → Loc X.env.scope x ∧ (X.fn x = true ∨ X.env.scope.names.lookup x = some .local) := by
  intro x h
  unfold locB at h
  split at h
  · rename_i e; exact ⟨.inl e, .inl (g.fa x)⟩
  · rename_i e; exact ⟨.inr e, .inl (g.fa x)⟩
  · cases h
def PZ (cn : Cn) (cl : Nat → List D → Sto → Out D) (k : Nat) (s : Sm) : Prop := ∀ (X : Cx) (W : WX) (st : Stmt), GoodS cn cl k W X → mS cn s X.env.scope st = true → PS X st (TFS (kw X) X.mg W (evS cl s))
def PZs (cn : Cn) (cl : Nat → List D → Sto → Out D) (k : Nat) (ss : List Sm) : Prop := ∀ (X : Cx) (W : WX) (sts : List Stmt), GoodS cn cl k W X → mSs cn ss X.env.scope sts = true → PSs X sts (TFS (kw X) X.mg W (evSs cl ss))
theorem pzs_nil : PZs cn cl k [] := by
  intro X W sts g h
  cases sts with
  | nil =>
    refine PSs.imp pss_nil fun Dn σ H q => ?_
    obtain ⟨ρ, ε, S, rs, rp, q⟩ := q
    exact q.nxt rp (fun _ z => z) rs
  | cons _ _ => simp [mSs] at h
theorem pzs_cons {s : Sm} {r : List Sm} (hs : PZ cn cl k s) (hr : PZs cn cl k r) : PZs cn cl k (s :: r) := by
  intro X W sts g h
  cases sts with
  | nil => simp [mSs] at h
  | cons st sts =>
    simp only [mSs, Bool.and_eq_true] at h
    refine PSs.imp (pss_cons (hs X W st g h.1) (hr X W sts g h.2)) fun Dn σ H q => ?_
    obtain ⟨ρ, ε, S, rs, rp, q⟩ := q
    simp only [evSs] at q
    refine ⟨ρ, ε, S, rs, rp, ?_⟩
    cases e : evS cl s ε S with
    | bad => rw [e] at q; exact q
    | exc c v ε1 S1 => rw [e] at q; exact q
    | ok f S1 =>
      rw [e] at q
      cases f with
      | nx ε1 =>
        simp only [OutS.seq] at q
        exact fun l1 H1 rp1 σ1 st1 rs1 => ⟨ρ.to l1, ε1, S1, rs1, rp1, q.weak st1⟩
      | rt d => exact q
      | bk ε1 => exact q
      | ct ε1 => exact q
theorem rt_stp {l : List Addr} {ε : Env} {σ : L2.St} {H : Hp} : Stp l ε σ H l [] [] H := .of .refl fun a z => absurd z (Av.none a)
theorem pz_ret (e : Ex) : PZ cn cl k (.ret e) := by
  intro X W st g h
  cases st with
  | Return v p =>
    cases v with
    | none => simp [mS] at h
    | some x =>
      simp only [mS] at h
      refine PS.imp (ps_ret ((sX e).1 X W x g.toGood h).1) fun Dn σ H q => ?_
      obtain ⟨ρ, ε, S, rs, rp, q⟩ := q
      simp only [evS] at q
      exact ⟨ρ, ε, S, rs, rp, q.on rs rp fun l1 v H1 d S1 sx rs1 rp1 rv q1 => q1 l1 H1 rp1 v rt_stp (RV.anti (ρ := (ρ.to l1).plus (Av ε σ (vs e))) (n := ρ.n) (fun a z => .inl z) _ _ rv)⟩
  | _ => simp [mS] at h
theorem pz_retN : PZ cn cl k .retN := by
  intro X W st g h
  cases st with
  | Return v p =>
    cases v with
    | some x => simp [mS] at h
    | none =>
      refine PS.imp ps_retN fun Dn σ H q => ?_
      obtain ⟨ρ, ε, S, rs, rp, q⟩ := q
      exact q ρ.l H rp _ rt_stp .mkNon
  | _ => simp [mS] at h
theorem pz_ex (e : Ex) : PZ cn cl k (.ex e) := by
  intro X W st g h
  cases st with
  | Expr x p =>
    simp only [mS, Bool.and_eq_true] at h
    have hs : swapsWith x none p.line X.env = pure false := by
      cases x <;> first | rfl | (simp [noComp] at h)
    refine PS.imp (ps_expr ((sX e).1 X W x g.toGood h.1).1 hs) fun Dn σ H q => ?_
    obtain ⟨ρ, ε, S, rs, rp, q⟩ := q
    simp only [evS] at q
    exact ⟨ρ, ε, S, rs, rp, q.on rs rp fun l1 v H1 d S1 sx rs1 rp1 rv q1 => q1.nxt rp1 (fun _ z => z) rs1⟩
  | _ => simp [mS] at h
theorem pz_pass : PZ cn cl k .pass := by
  intro X W st g h
  cases st with
  | Pass p =>
    refine PS.imp ps_pass fun Dn σ H q => ?_
    obtain ⟨ρ, ε, S, rs, rp, q⟩ := q
    exact q.nxt rp (fun _ z => z) rs
  | _ => simp [mS] at h
theorem pz_brk : PZ cn cl k .brk := by
  intro X W st g h
  cases st with
  | Break p =>
    refine PS.imp ps_break fun Dn σ H q => ?_
    obtain ⟨ρ, ε, S, rs, rp, q⟩ := q
    exact q ρ.l H rp σ .refl rs
  | _ => simp [mS] at h
theorem pz_cont : PZ cn cl k .cont := by
  intro X W st g h
  cases st with
  | Continue p =>
    refine PS.imp ps_continue fun Dn σ H q => ?_
    obtain ⟨ρ, ε, S, rs, rp, q⟩ := q
    exact q ρ.l H rp σ .refl rs
  | _ => simp [mS] at h
theorem pz_never : PZ cn cl k .never := by
  intro X W st g h
  refine PS.imp ps_never fun Dn σ H q => ?_
  obtain ⟨ρ, ε, S, rs, rp, q⟩ := q
  exact q
theorem noComp_sw {e : Expr} {t : Option Expr} {l : Nat} {env : PySem.Env} (h : noComp e = true) : swapsWith e t l env = pure false := by
  cases e <;> first | rfl | (simp [noComp] at h)
theorem noComp_sole {e t : Expr} {l : Nat} {env : PySem.Env} (h : noComp e = true) : swapsWithSole [t] e l env = pure false := noComp_sw (t := some t) (l := l) (env := env) h
/-- a name gets a new thing -/
theorem set_new {X : Cx} {W : WX} {i : Nat} {e : Ex} (hf : fresh e = true) (Dn : Ends) (σ : L2.St) (H : Hp) (q : TFS (kw X) X.mg W (evS cl (.set (.n i) e)) Dn σ H) :
    TFn (kw X) X.mg W (vs e) (evE cl e) σ H fun v H1 => Dn.nx (σ.set i (some v)) H1 := by
  obtain ⟨ρ, ε, S, rs, rp, q⟩ := q
  simp only [evS] at q
  refine ⟨ρ, ε, S, rs, rp, ?_⟩
  cases e0 : evE cl e ε S with
  | bad => rw [e0] at q; exact q
  | exc c x S1 => rw [e0] at q; exact fun l H' cls dd s rp2 rx => q l H' σ cls dd (.of s fun _ z => .inl z) (Rp.low (ρ := ρ.to l) (n := Av ε σ (vs e)) rp2) (rs.mono rp s) (RX.anti (ρ := (ρ.plus (Av ε σ (vs e))).to l) (n := ρ.n) (fun a z => .inl z) rx)
  | ok d S1 =>
    rw [e0] at q
    intro l v H1 sx rp1 rn
    obtain ⟨a, rfl, h0, own⟩ := rn
    obtain ⟨ε1, e1, q1⟩ := onO_some q
    simp only [setF, hf, if_true] at e1
    split at e1
    · rename_i hi
      cases e1
      have rsA : Rs (kw X) ((ρ.to l).plus (· = a)) H1 ε σ := Rs.gen (ρ := ρ.plus (· = a)) (rs.plus (n := (· = a)) fun b z => by rw [z]; exact h0) (Kq.plus (Sx.kq (ρ := ρ) sx rp))
      have nA : ∀ xs, ¬ Av ε σ xs a := fun xs z => rs.dom z h0
      have key : ∃ ε2, fzN e d ε = ε2 ∧ ε2.length = ε.length ∧ Rs (kw X) ((ρ.to l).plus (· = a)) H1 ε2 σ ∧ Own (kw X) ((ρ.to l).plus (Av ε2 σ [])) H1 d a ∧ ∀ b, Av ε2 σ [] b → Av ε σ [] b := by
        refine ⟨_, rfl, ?_⟩
        unfold fzN
        by_cases st : d.still1 = true
        · rw [if_pos st]
          exact ⟨rfl, rsA, Own.still (ρ := ρ.to l) (n := Av ε σ (vs e)) st (nA []) own, fun _ z => z⟩
        · rw [if_neg st]
          exact ⟨fz_len _ _, rsA.fz _, Own.anti (ρ := ρ.to l) (n := Av ε σ (vs e)) (fun b z => Av.anti (fun j m => List.mem_append_left _ m) b (Av.fz b z)) own, fun b z => Av.anti (fun j m => by cases m) b (Av.fz b z)⟩
      obtain ⟨ε2, e2, hl, rs2, own2, av2⟩ := key
      rw [e2] at q1
      refine q1 l H1 (Rp.low (ρ := ρ.to l) (n := Av ε σ (vs e)) rp1) _ (.of sx fun b z => ?_) (Rs.setO rs2 (by rw [hl]; exact hi) own2)
      obtain ⟨j, dj, n, e3, e4⟩ := z
      by_cases hj : i = j
      · subst hj
        rw [List.getElem?_set, if_pos rfl, if_pos (by rw [← rs.len]; exact hi)] at e4
        cases e4; exact .inr h0
      · rw [List.getElem?_set_ne hj] at e3 e4
        exact .inl (av2 b ⟨j, dj, n, e3, e4⟩)
    · cases e1
/-- a target gets a value -/
theorem set_val {X : Cx} {W : WX} {tg : Tg} {e : Ex} (hf : ∀ i, tg = .n i → fresh e = false) (Dn : Ends) (σ : L2.St) (H : Hp) (q : TFS (kw X) X.mg W (evS cl (.set tg e)) Dn σ H) :
    tAsg (TF (kw X) X.mg W (vs e) (evE cl e)) (gOf X.K tg) Dn σ H := by
  obtain ⟨ρ, ε, S, rs, rp, q⟩ := q
  simp only [evS] at q
  refine ⟨ρ, ε, S, rs, rp, q.on rs rp fun l v H1 d S1 sx rs1 rp1 rv q1 => ?_⟩
  obtain ⟨ε1, e1, q2⟩ := onO_some q1
  have e2 : tgS tg d (fzV e d ε) = some ε1 := by
    cases tg with
    | n i => simpa [setF, hf i rfl] using e1
    | t ts => exact e1
  obtain ⟨rs2, rv2, av2⟩ := fzV_ok rs1 rv
  exact tg_ok tg d v _ ε1 σ _ e2 rv2 (fun _ z => z) rs2 fun σ1 rs3 av3 _ => q2.nxt rp1 (fun a z => av2 a (av3 a z)) rs3
theorem pz_set (tg : Tg) (e : Ex) : PZ cn cl k (.set tg e) := by
  intro X W st g h
  cases st with
  | Assign ts x p =>
    match ts, h with
    | [t], h =>
      simp only [mS, Bool.and_eq_true] at h
      obtain ⟨⟨h1, h2⟩, h3⟩ := h
      have hg := pg_of g.nN g.nd g.calm (loc_of g) tg t h1
      have he := ((sX e).1 X W x g.toGood h2).1
      cases t with
      | Name y py =>
        cases tg with
        | t ts => simp [mG] at h1
        | n i =>
          simp only [Bool.or_eq_true] at h3
          simp only [mG, Bool.and_eq_true, decide_eq_true_eq] at h1
          have hN : X.N[i]? = some y := by rw [g.nN]; exact h1.1
          obtain ⟨l1, l2⟩ := loc_of g y h1.2
          rcases h3 with h3 | h3
          · by_cases hf : fresh e = true
            · exact PS.imp (ps_set g.nd hN l1 (sN hf X W x g.toGood h2) (noComp_sw h3) l2) fun Dn σ H q => set_new hf Dn σ H q
            · refine PS.imp (ps_set g.nd hN l1 he (noComp_sw h3) l2) fun Dn σ H q => ?_
              have := set_val (fun _ _ => by simpa using hf) Dn σ H q
              simp only [gOf] at this
              exact this
          · cases x with
            | ListComp el gs scope pos =>
              simp only [swapB, Bool.and_eq_true, decide_eq_true_eq, Bool.not_eq_true'] at h3
              cases e with
              | lc a own tg2 it ifs =>
                obtain ⟨t, i', fs, rfl, q1, q2, q3, q4, q5, q6, q7⟩ := lc_parts (sX a) (sX it) (sXs ifs) g.toGood h2
                have base := ps_setLc (spos := p) (pos := pos) g.calm g.nd hN h3.1.1 (sw_true g.kind h3.1.1 h3.1.2 h3.2) q1 q2 q4 q5 q6 q7
                have eown : (ownOf X.N own).map (·.2) = own := by
                  unfold ownOf
                  rw [List.map_map]
                  exact List.map_id' _
                rw [eown] at base
                refine PS.imp base fun Dn σ H q => ?_
                have hh := set_new rfl Dn σ H q
                simp only [evE] at hh
                exact lc_imp (X0 := vs (.lc a own tg2 it ifs)) (by simp only [vs]) q3 σ H _ hh
              | _ => simp [mE] at h2
            | _ => simp [swapB] at h3
      | Tuple es kk tp =>
        simp only [Bool.and_eq_true] at h3
        have hw : swappedStores [.Tuple es kk tp] x X.env = pure none := by
          cases x <;> first | rfl | (simp [noLT] at h3)
        refine PS.imp (ps_asg he hg (noComp_sole h3.1) hw rfl) fun Dn σ H q => set_val (fun i e => ?_) Dn σ H q
        subst e; simp [mG] at h1
      | _ => simp at h3
    | [], h => simp [mS] at h
    | _ :: _ :: _, h => simp [mS] at h
  | _ => simp [mS] at h
theorem Av.setV' {ε : Env} {σ : L2.St} {i : Nat} {d : D} {x : Option V} (a : Addr) (h : Av (ε.set i (.v d)) (σ.set i x) [] a) : Av ε σ [] a := Av.anti (xs := []) (ys := [i]) (fun j m => by cases m) a (Av.setV a h)
theorem pz_par (i j : Nat) (a b : Ex) : PZ cn cl k (.par i j a b) := by
  intro X W st g h
  simp only [mS] at h
  split at h
  · rename_i x px y py kt pt l r k2 p2 pos
    simp only [Bool.and_eq_true, decide_eq_true_eq, Bool.not_eq_true'] at h
    obtain ⟨⟨⟨⟨⟨⟨⟨⟨⟨h1, h2⟩, h3⟩, h4⟩, h5⟩, h6⟩, h7⟩, h8⟩, h9⟩, h10⟩ := h
    have hst := mEs_stars h8
    simp only [noStars, Bool.and_eq_true] at hst
    simp only [mEs, Bool.and_eq_true] at h8
    have ha := ((sX a).1 X W l g.toGood h8.1.1).1
    have hb := ((sX b).1 X W r g.toGood h8.2.1.1).1
    have hab : PA X [l, r] (tCons (TF (kw X) X.mg W (vs a) (evE cl a)) (tCons (TF (kw X) X.mg W (vs b) (evE cl b)) tNil)) := pa_cons ha (pa_cons hb pa_nil (star_cons hst.2.1)) (star_cons hst.1)
    refine PS.imp (ps_par g.calm g.nd (by rw [g.nN]; exact h1) (by rw [g.nN]; exact h2) h3 h5 h6 hab (sw_two g.kind h5 h6 h4 h7 hst.1 hst.2.1 h9 h10) rfl) fun Dn σ H q => ?_
    obtain ⟨ρ, ε, S, rs, rp, q⟩ := q
    simp only [evS] at q
    refine ⟨ρ, ε, S, rs, rp, q.on rs rp fun l1 v1 H1 u S1 sx1 rs1 rp1 ru q1 => ?_⟩
    refine ⟨ρ.to l1, ε, S1, rs1, rp1, q1.on rs1 rp1 fun l2 v2 H2 w S2 sx2 rs2 rp2 rw2 q2 => ?_⟩
    split at q2
    · rename_i z
      have ru2 : RV (kw X) (((ρ.to l1).to l2).plus (Av ε σ (vs a))) H2 u v1 := ru.mono (rs1.rp rp1 _) sx2
      obtain ⟨rsB, rwB, avB⟩ := fzV_ok rs2 rw2
      have ruB : RV (kw X) (((ρ.to l1).to l2).plus (Av (fzV b w ε) σ (vs a))) H2 u v1 := plus_anti (fun c z => by
        obtain ⟨m, dm, n, e1, e2⟩ := z
        unfold fzV at e1
        split at e1
        · exact ⟨m, dm, n, e1, e2⟩
        · exact ⟨m, dm, n, (fz_o e1).2, e2⟩) ru2
      obtain ⟨rsA, ruA, avA⟩ := fzV_ok (e := a) rsB ruB
      have fl : ∀ {e : Ex} {d : D} {ε : Env}, (fzV e d ε).length = ε.length := fun {e d ε} => by unfold fzV; split; rfl; exact fz_len _ _
      refine ⟨v1, v2, rfl, ?_⟩
      have r1 := rsA.set (i := i) (by rw [fl, fl]; exact z.1) ruA
      have r2 := r1.set (i := j) (d := w) (v := v2) (by rw [List.length_set, fl, fl]; exact z.2) (plus_anti (fun c z => avA c (Av.anti (fun j m => by cases m) c (Av.setV c z))) rwB)
      exact q2 l2 H2 rp2 _ (.of .refl fun c z => .inl (avB c (avA c (Av.setV' c (Av.setV' c z))))) r2
    · exact q2.elim
  · cases h
theorem pz_aug (i : Nat) (o : Operator) (e : Ex) : PZ cn cl k (.aug i o e) := by
  intro X W st g h
  simp only [mS] at h
  split at h
  · rename_i y py o' x p
    simp only [Bool.and_eq_true, decide_eq_true_eq] at h
    obtain ⟨⟨⟨⟨rfl, rfl⟩, h1⟩, h2⟩, h3⟩ := h
    obtain ⟨l1, l2⟩ := loc_of g y h2
    refine PS.imp (ps_aug g.nd (by rw [g.nN]; exact h1) l1 ((sX e).1 X W x g.toGood h3).1 ip_addA l2) fun Dn σ H q => ?_
    obtain ⟨ρ, ε, S, rs, rp, q⟩ := q
    simp only [evS] at q
    obtain ⟨xv, ex, q⟩ := onO_some q
    obtain ⟨v, e1, rv⟩ := rs.rd ex
    refine ⟨v, e1, ρ, ε, S, rs, rp, q.on rs rp fun l w H1 d S1 sx rs1 rp1 rw1 q1 => ?_⟩
    obtain ⟨z, ez, q2⟩ := onO_some q1
    split at q2
    · rename_i hz
      have rv1 : RV (kw X) ((ρ.to l).w fun _ => False) H1 xv v := by
        have r := rv.mono (rs.rp rp [i]) sx
        exact RV.anti (ρ := (ρ.plus (Av ε σ [i])).to l) (n := fun _ => False) (fun _ z => z.elim) _ _ r
      have rw2 : RV (kw X) ((ρ.to l).w fun _ => False) H1 d w := RV.anti (ρ := (ρ.to l).plus (Av ε σ (vs e))) (n := fun _ => False) (fun _ z => z.elim) _ _ rw1
      have rpF : Rp ((ρ.to l).w fun _ => False) S1 H1 := rp1.w fun _ z => z.elim
      have fin : ∀ (u : V) (H2 : Hp), Sx l H1 l H2 → Rp ((ρ.to l).w fun _ => False) S1 H2 → RV (kw X) ((ρ.to l).w fun _ => False) H2 z u → Dn.nx (σ.set i (some u)) H2 := fun u H2 s2 rp2 ru => by
        have rs2 : Rs (kw X) (ρ.to l) H2 ε σ := rs1.mono rp1 s2
        refine q2 l H2 ⟨rp2.len, rp2.nd, rp2.obj, fun a z => s2.dm a (rp1.dom a z)⟩ _ (.of s2 fun a z => .inl (Av.anti (fun j m => by cases m) a (Av.setV a z))) (rs2.set hz.2 ?_)
        exact RV.still (ρ := (ρ.to l).w fun _ => False) (n := ((ρ.to l).plus (Av ε σ [])).n) _ _ hz.1 ru
      replace ez : opAdd xv d = some z := ez
      unfold opAdd at ez
      split at ez
      · cases ez
        rw [rv1.int, rw2.int]
        exact .inl ⟨_, _, rfl, rfl, fin _ _ .refl rpF (.mkInt _)⟩
      · split at ez
        · rename_i zz
          cases ez
          rw [rv1.str, rw2.str]
          exact .inr (.inl ⟨_, _, rfl, rfl, zz, fin _ _ .refl rpF (.mkStr _)⟩)
        · cases ez
      · rename_i xs ys
        split at ez
        · rename_i zz
          cases ez
          obtain ⟨a, us, rfl, za, qa, ta⟩ := rv1.tup
          obtain ⟨b, ws, rfl, zb, qb, tb⟩ := rw2.tup
          refine .inr (.inr ⟨a, b, us, ws, rfl, rfl, qa, qb, ?_, fun e => ?_, fun e f => ?_, fun e f p hp => ?_⟩)
          · rw [← ta.len, ← tb.len]; exact zz
          · subst e
            have e : xs = [] := ta.isNil.mpr rfl
            subst e
            exact fin _ _ .refl rpF (.mkTup zb qb tb)
          · subst f
            have e : ys = [] := tb.isNil.mpr rfl
            subst e
            refine fin _ _ .refl rpF ?_
            rw [List.append_nil]
            exact .mkTup za qa ta
          · exact fin _ _ (.fresh hp) (rpF.fresh hp) (.mkTup (by rw [List.length_append]; exact zz) (.inl (.inl upd_same)) ((ta.append tb).mono rpF (.fresh hp)))
        · cases ez
      · split at ez
        · cases ez
          simp [D.still] at hz
        · cases ez
      · cases ez
    · exact q2.elim
  · cases h
end
end GG
namespace GG
open PySem PySem.Spec PyProof.Rows L2
section
variable {K : KW} {mg : Str → Option Value} {W : WX} {ρ : Fx} {H : Hp} {ε : Env} {σ : L2.St} {S : Sto} {Dn : Ends}
theorem ownL_iff {i : Nat} (h : ownL ε i = true) : ∃ ds, ε[i]? = some (.o (.lst ds)) := by
  unfold ownL at h
  split at h
  · rename_i ds e; exact ⟨ds, e⟩
  · cases h
theorem ownB_iff {i : Nat} (h : ownB ε i = true) : ∃ d, ε[i]? = some (.o d) := by
  unfold ownB at h
  split at h
  · rename_i ds e; exact ⟨ds, e⟩
  · cases h
theorem chg_some {ε1 : Env} {i : Nat} {f : D → Option D} (h : chg ε i f = some ε1) : ∃ o o', ε[i]? = some (.o o) ∧ f o = some o' ∧ ε1 = ε.set i (.o o') := by
  unfold chg at h
  split at h
  · rename_i o e
    obtain ⟨o', e1, rfl⟩ := Option.map_eq_some_iff.mp h
    exact ⟨o, o', e, e1, rfl⟩
  · cases h
/-- the end of a change -/
theorem chg_end {ε2 : Env} {i : Nat} {o o' : D} {a : Addr} {u w : HO} (q : PostS K mg W ρ ε σ H (.ok (.nx (ε2.set i (.o o'))) S) Dn) (rp : Rp ρ S H) (rs : Rs K ρ H ε2 σ) (av : ∀ b, Av ε2 σ [] b → Av ε σ [] b)
    (hi : ε2[i]? = some (.o o)) (ha : σ[i]? = some (some (.ref a))) (hu : H a = some u) (na : a ∉ ρ.l) (n1 : ∀ xs, u ≠ .tup xs) (n2 : ∀ o x, u ≠ .frz o x) (new : Own K (ρ.plus (Av ε2 σ [i])) (upd H a w) o' a) : Dn.nx σ (upd H a w) := by
  have avA : Av ε σ [] a := av a ⟨i, o, by simp, hi, ha⟩
  obtain ⟨j, dj, _, ej, ea⟩ := avA
  refine q ρ.l _ (rp.chg na) σ (Stp.chg ej ea fun b z => av b ?_) (Rs.chg rs hi ha hu n1 n2 new)
  obtain ⟨m, dm, n, e1, e2⟩ := z
  by_cases hm : i = m
  · subst hm; exact ⟨i, o, n, hi, e2⟩
  · rw [List.getElem?_set_ne hm] at e1; exact ⟨m, dm, n, e1, e2⟩
/-- a value for the slot's own thing -/
theorem in_own {ε2 : Env} {i : Nat} {o : D} {a : Addr} {d : D} {v : V} (hi : ε2[i]? = some (.o o)) (ha : σ[i]? = some (some (.ref a))) (r : RV K (ρ.plus (Av ε2 σ [])) H d v) : RV K ((ρ.plus (Av ε2 σ [i])).plus (· = a)) H d v :=
  RV.anti (ρ := ρ.plus (Av ε2 σ [])) (n := ((ρ.plus (Av ε2 σ [i])).plus (· = a)).n) (fun b z => by
    rcases z with (z | z) | z
    · exact .inl z
    · exact .inr (Av.anti (fun j m => by cases m) b z)
    · exact .inr (by rw [z]; exact ⟨i, o, by simp, hi, ha⟩)) _ _ r
theorem in_owns {ε2 : Env} {i : Nat} {o : D} {a : Addr} {d : List D} {v : List V} (hi : ε2[i]? = some (.o o)) (ha : σ[i]? = some (some (.ref a))) (r : RVs K (ρ.plus (Av ε2 σ [])) H d v) : RVs K ((ρ.plus (Av ε2 σ [i])).plus (· = a)) H d v :=
  RVs.anti (ρ := ρ.plus (Av ε2 σ [])) (n := ((ρ.plus (Av ε2 σ [i])).plus (· = a)).n) (fun b z => by
    rcases z with (z | z) | z
    · exact .inl z
    · exact .inr (Av.anti (fun j m => by cases m) b z)
    · exact .inr (by rw [z]; exact ⟨i, o, by simp, hi, ha⟩)) _ _ r
theorem in_upd {ε2 : Env} {i : Nat} {a : Addr} {u w : HO} (hu : H a = some u) (n1 : ∀ xs, u ≠ .tup xs) (n2 : ∀ o x, u ≠ .frz o x) : Kq ((ρ.plus (Av ε2 σ [i])).plus (· = a)) H ρ.l (upd H a w) := Kq.put (ρ := (ρ.plus (Av ε2 σ [i])).plus (· = a)) hu (.inr rfl) n1 n2
end
section
variable {cn : Cn} {cl : Nat → List D → Sto → Out D} {k : Nat}
theorem pz_app (i : Nat) (e : Ex) : PZ cn cl k (.app i e) := by
  intro X W st g h
  simp only [mS] at h
  split at h
  · rename_i y py nm ap x cp p
    simp only [Bool.and_eq_true, decide_eq_true_eq] at h
    obtain ⟨⟨⟨⟨rfl, h1⟩, h2⟩, h3⟩, h4⟩ := h
    simp only [mE, Bool.and_eq_true, decide_eq_true_eq] at h1
    obtain ⟨pa, pb, pc⟩ := plain_of h1.2
    have hv := pe_var (X := X) (pos := py) (i := i) (by rw [g.nN]; exact h1.1.1) (vis_of h1.1.2) pa pb
    have he := ((sX e).1 X W x g.toGood h2).1
    have few : ((backTo cp (starEach [x] X.env)).all (fun x => !x.1) && (backToKw cp (keywordEach [] X.env)).all (fun x => x.1.isSome)
          && decide ([x].length + ([] : List Keyword).length + (if ([] : List Keyword).isEmpty then 0 else 1) < 30)) = true := by
      rw [star_all (by simp [noStars, h3])]; rfl
    refine PS.imp (ps_expr (pe_bm PySem.F.plainAttrs_list PySem.F.slot_list_append PySem.F.type_list_append mt_append hv (pa_cons he pa_nil (star_cons h3)) rfl few h4 (star_cons h3) (star_any rfl)) rfl) fun Dn σ H q => ?_
    obtain ⟨ρ, ε, S, rs, rp, q⟩ := q
    simp only [evS] at q
    split at q
    · rename_i ho
      obtain ⟨ds, eo⟩ := ownL_iff ho
      obtain ⟨a, ea, o⟩ := rs.own i _ eo
      obtain ⟨vs0, z0, ha0, _⟩ := o
      refine ⟨.ref a, ea, .inl ⟨rfl, vs0, SqL.of ha0⟩, ρ, ε, S, rs, rp, q.on rs rp fun l v H1 d S1 sx rs1 rp1 rv q1 => ?_⟩
      obtain ⟨ε1, e1, q2⟩ := onO_some q1
      obtain ⟨o, o', eo2, ef, rfl⟩ := chg_some e1
      obtain ⟨rs2, rv2, av2⟩ := fzV_ok rs1 rv
      obtain ⟨a2, ea2, own2⟩ := rs2.own i o eo2
      rw [ea] at ea2; cases ea2
      unfold appF at ef
      split at ef
      · rename_i es
        split at ef
        · rename_i hz
          cases ef
          obtain ⟨ws, z1, ha1, n1, n2, t⟩ := own2
          have hl := t.len
          refine ⟨a, ws, v, rfl, rfl, ha1, by rw [← hl]; exact hz, ?_⟩
          have t2 := RVs.gen (in_upd (ρ := ρ.to l) (w := .lst (ws ++ [v])) ha1 (fun _ z => nomatch z) (fun _ _ z => nomatch z)) _ _ (t.append (.one (in_own eo2 ea rv2)))
          exact chg_end q2 rp1 rs2 av2 eo2 ea ha1 n1 (fun _ z => nomatch z) (fun _ _ z => nomatch z) ⟨_, by rw [List.length_append]; exact hz, upd_same, n1, n2, t2⟩
        · cases ef
      · cases ef
    · exact q.elim
  · cases h
theorem pz_ext (i : Nat) (e : Ex) : PZ cn cl k (.ext i e) := by
  intro X W st g h
  simp only [mS] at h
  split at h
  · rename_i y py nm ap x cp p
    simp only [Bool.and_eq_true, decide_eq_true_eq] at h
    obtain ⟨⟨⟨⟨rfl, h1⟩, h2⟩, h3⟩, h4⟩ := h
    simp only [mE, Bool.and_eq_true, decide_eq_true_eq] at h1
    obtain ⟨pa, pb, pc⟩ := plain_of h1.2
    have hv := pe_var (X := X) (pos := py) (i := i) (by rw [g.nN]; exact h1.1.1) (vis_of h1.1.2) pa pb
    have he := ((sX e).1 X W x g.toGood h2).1
    have few : ((backTo cp (starEach [x] X.env)).all (fun x => !x.1) && (backToKw cp (keywordEach [] X.env)).all (fun x => x.1.isSome)
          && decide ([x].length + ([] : List Keyword).length + (if ([] : List Keyword).isEmpty then 0 else 1) < 30)) = true := by
      rw [star_all (by simp [noStars, h3])]; rfl
    refine PS.imp (ps_expr (pe_bm PySem.F.plainAttrs_list PySem.F.slot_list_extend PySem.F.type_list_extend mt_extend hv (pa_cons he pa_nil (star_cons h3)) rfl few h4 (star_cons h3) (star_any rfl)) rfl) fun Dn σ H q => ?_
    obtain ⟨ρ, ε, S, rs, rp, q⟩ := q
    simp only [evS] at q
    split at q
    · rename_i ho
      obtain ⟨ds, eo⟩ := ownL_iff ho
      obtain ⟨a, ea, o⟩ := rs.own i _ eo
      obtain ⟨vs0, z0, ha0, _⟩ := o
      refine ⟨.ref a, ea, .inl ⟨rfl, vs0, SqL.of ha0⟩, ρ, ε, S, rs, rp, q.on rs rp fun l v H1 d S1 sx rs1 rp1 rv q1 => ?_⟩
      obtain ⟨ε1, e1, q2⟩ := onO_some q1
      obtain ⟨o, o', eo2, ef, rfl⟩ := chg_some e1
      unfold extF at ef
      split at ef
      · rename_i es fs
        split at ef
        · rename_i hz
          cases ef
          obtain ⟨b, us, rfl, zb, hb, nb1, nb2, tb⟩ := rv.lst
          have key : Rs (kw X) (ρ.to l) H1 (fzN e (.lst fs) ε) σ ∧ RVs (kw X) ((ρ.to l).plus (Av (fzN e (.lst fs) ε) σ [])) H1 fs us ∧ ∀ c, Av (fzN e (.lst fs) ε) σ [] c → Av ε σ [] c := by
            unfold fzN
            by_cases st : D.still1 (.lst fs) = true
            · rw [if_pos st]
              exact ⟨rs1, RVs.still (ρ := (ρ.to l).plus (Av ε σ (vs e))) (n := ((ρ.to l).plus (Av ε σ [])).n) _ _ st tb, fun _ z => z⟩
            · rw [if_neg st]
              exact ⟨rs1.fz _, plus_antis (fun a z => Av.anti (fun j m => List.mem_append_left _ m) a (Av.fz a z)) tb, fun a z => Av.anti (fun j m => by cases m) a (Av.fz a z)⟩
          obtain ⟨rs2, tb2, av2⟩ := key
          obtain ⟨a2, ea2, own2⟩ := rs2.own i _ eo2
          rw [ea] at ea2; cases ea2
          obtain ⟨ws, z1, ha1, n1, n2, t⟩ := own2
          have hl := t.len
          have hl2 := tb2.len
          refine ⟨a, b, ws, us, rfl, rfl, ha1, hb, by rw [← hl, ← hl2]; exact hz, ?_⟩
          have t2 := RVs.gen (in_upd (ρ := ρ.to l) (w := .lst (ws ++ us)) ha1 (fun _ z => nomatch z) (fun _ _ z => nomatch z)) _ _ (t.append (in_owns eo2 ea tb2))
          exact chg_end q2 rp1 rs2 av2 eo2 ea ha1 n1 (fun _ z => nomatch z) (fun _ _ z => nomatch z) ⟨_, by rw [List.length_append]; exact hz, upd_same, n1, n2, t2⟩
        · cases ef
      · cases ef
    · exact q.elim
  · cases h
theorem PS.or {X : Cx} {st : Stmt} {t u : TS} (h : PS X st t) (h' : PS X st u) : PS X st (fun D σ H => t D σ H ∨ u D σ H) := ⟨fun pins s σ H D I q => q.elim (h.run pins s σ H D I) (h'.run pins s σ H D I)⟩
theorem noSlice_ns {e : Expr} (h : noSlice e = true) : NoSl e := by
  intro o i
  cases e <;> first | rfl | (simp [noSlice] at h)
theorem pz_put (i : Nat) (kx e : Ex) : PZ cn cl k (.put i kx e) := by
  intro X W st g h
  simp only [mS] at h
  split at h
  · rename_i y py s sp x p
    simp only [Bool.and_eq_true] at h
    obtain ⟨⟨⟨⟨h1, h2⟩, h3⟩, h4⟩, h5⟩ := h
    simp only [mE, Bool.and_eq_true, decide_eq_true_eq] at h1
    obtain ⟨pa, pb, pc⟩ := plain_of h1.2
    have ho := pe_var (X := X) (pos := py) (i := i) (by rw [g.nN]; exact h1.1.1) (vis_of h1.1.2) pa pb
    have hi := ((sX kx).1 X W s g.toGood h2).1
    have he := ((sX e).1 X W x g.toGood h3).1
    have hw : swappedStores [.Subscript (.Name y py) s sp] x X.env = pure none := by cases x <;> rfl
    have hpg : PG X (.Subscript (.Name y py) s sp) (gSub (tVar i) (TF (kw X) X.mg W (vs kx) (evE cl kx)) rSetL) := by
      refine pg_sub ho hi set_list ?_
      intro v
      cases s <;> first | rfl | (simp [noSlice] at h5)
    refine PS.imp (GG.PS.or (ps_asg he hpg (noComp_sole h4) hw rfl) (ps_dput (pos' := sp) (pos := p) (by have := g.room.units; omega) ho hi he (noComp_sw h4))) fun Dn σ H q => ?_
    obtain ⟨ρ, ε, S, rs, rp, q⟩ := q
    simp only [evS] at q
    split at q
    · rename_i hob
      obtain ⟨o0, eo⟩ := ownB_iff hob
      obtain ⟨a, ea, own0⟩ := rs.own i _ eo
      have own0' := own0
      unfold Own at own0'
      have fin : ∀ (l : List Addr) (v : V) (H1 : Hp) (d : D) (S1 : Sto), Rs (kw X) (ρ.to l) H1 ε σ → Rp (ρ.to l) S1 H1 → RV (kw X) ((ρ.to l).plus (Av ε σ (vs e))) H1 d v →
          ∀ (l2 : List Addr) (vk : V) (H2 : Hp) (yk : D) (S2 : Sto), Sx l H1 l2 H2 → Rs (kw X) ((ρ.to l).to l2) H2 ε σ → Rp ((ρ.to l).to l2) S2 H2 → RV (kw X) (((ρ.to l).to l2).plus (Av ε σ (vs kx))) H2 yk vk →
          PostS (kw X) X.mg W ((ρ.to l).to l2) ε σ H2 (onO (chg (fzV e d ε) i fun o => putF o yk d) fun ε1 => .ok (.nx ε1) S2) Dn →
          (∃ ds ws j n, o0 = .lst ds ∧ vk = .int j ∧ H2 a = some (.lst ws) ∧ ixN ws.length j = some n ∧ Dn.nx σ (upd H2 a (.lst (ws.set n v)))) ∨
          (∃ kvs ws kk, o0 = .dct kvs ∧ vk = kV kk ∧ H2 a = some (.dK ws) ∧ ws.length < sizeLine ∧ Dn.nx σ (upd H2 a (.dK (putK ws kk v)))) := by
        intro l v H1 d S1 rs1 rp1 rv l2 vk H2 yk S2 sx2 rs2 rp2 rk q2
        obtain ⟨ε1, e1, q3⟩ := onO_some q2
        obtain ⟨o, o', eo2, ef, rfl⟩ := chg_some e1
        have eo3 : ε[i]? = some (.o o) := by
          unfold fzV at eo2
          split at eo2
          · exact eo2
          · exact (fz_o eo2).2
        rw [eo] at eo3
        cases eo3
        have rv2 : RV (kw X) (((ρ.to l).to l2).plus (Av ε σ (vs e))) H2 d v := rv.mono (rs1.rp rp1 _) sx2
        obtain ⟨rs3, rv3, av3⟩ := fzV_ok rs2 rv2
        obtain ⟨a2, ea2, own2⟩ := rs3.own i _ eo2
        rw [ea] at ea2; cases ea2
        unfold putF at ef
        split at ef
        · rename_i ds
          split at ef
          · rename_i j
            obtain ⟨n, en, rfl⟩ := Option.map_eq_some_iff.mp ef
            obtain ⟨ws, z1, ha1, n1, n2, t⟩ := own2
            have hl := t.len
            have t2 := RVs.gen (in_upd (ρ := (ρ.to l).to l2) (w := .lst (ws.set n v)) ha1 (fun _ z => nomatch z) (fun _ _ z => nomatch z)) _ _ (RVs.set (in_own eo2 ea rv3) n t)
            exact .inl ⟨ds, ws, j, n, rfl, rk.int, ha1, by rw [← hl]; exact en, chg_end q3 rp2 rs3 av3 eo2 ea ha1 n1 (fun _ z => nomatch z) (fun _ _ z => nomatch z) ⟨_, by rw [List.length_set]; exact z1, upd_same, n1, n2, t2⟩⟩
          · cases ef
        · rename_i kvs
          obtain ⟨kk, ek, ef⟩ := Option.bind_eq_some_iff.mp ef
          split at ef
          · rename_i hz
            cases ef
            obtain ⟨ws, ha1, n1, n2, t⟩ := own2
            have hl := t.len
            have t2 := RKV.gen (in_upd (ρ := (ρ.to l).to l2) (w := .dK (putK ws kk v)) ha1 (fun _ z => nomatch z) (fun _ _ z => nomatch z)) _ _ (RKV.put (k := kk) (in_own eo2 ea rv3) t)
            exact .inr ⟨kvs, ws, kk, rfl, keyOf_V rk ek, ha1, by rw [← hl]; exact hz, chg_end q3 rp2 rs3 av3 eo2 ea ha1 n1 (fun _ z => nomatch z) (fun _ _ z => nomatch z) ⟨_, upd_same, n1, n2, t2⟩⟩
          · cases ef
        · cases ef
      by_cases hl : ∃ ds, o0 = .lst ds
      · obtain ⟨ds0, rfl⟩ := hl
        refine .inl ⟨ρ, ε, S, rs, rp, q.on rs rp fun l v H1 d S1 sx rs1 rp1 rv q1 => ⟨.ref a, ea, ρ.to l, ε, S1, rs1, rp1, q1.on rs1 rp1 fun l2 vk H2 yk S2 sx2 rs2 rp2 rk q2 => ?_⟩⟩
        rcases fin l v H1 d S1 rs1 rp1 rv l2 vk H2 yk S2 sx2 rs2 rp2 rk q2 with ⟨ds, ws, j, n, _, e1, e2, e3, e4⟩ | ⟨_, _, _, e0, _⟩
        · exact ⟨a, ws, j, n, rfl, e1, e2, e3, e4⟩
        · cases e0
      · refine .inr ⟨ρ, ε, S, rs, rp, q.on rs rp fun l v H1 d S1 sx rs1 rp1 rv q1 => ⟨.ref a, ea, ρ.to l, ε, S1, rs1, rp1, q1.on rs1 rp1 fun l2 vk H2 yk S2 sx2 rs2 rp2 rk q2 => ?_⟩⟩
        rcases fin l v H1 d S1 rs1 rp1 rv l2 vk H2 yk S2 sx2 rs2 rp2 rk q2 with ⟨ds, ws, j, n, e0, e1, e2, e3, e4⟩ | ⟨kvs, ws, kk, _, rfl, e2, e3, e4⟩
        · exact absurd ⟨ds, e0⟩ hl
        · exact ⟨a, _, rfl, DPut.k e2 e3, e4⟩
    · exact q.elim
  · cases h
theorem pz_sput (i j : Nat) (e : Ex) : PZ cn cl k (.sput i j e) := by
  intro X W st g h
  simp only [mS] at h
  split at h
  · rename_i y py z kk kp sp x p
    simp only [Bool.and_eq_true, decide_eq_true_eq] at h
    obtain ⟨⟨⟨h1, rfl⟩, h3⟩, h4⟩ := h
    simp only [mE, Bool.and_eq_true, decide_eq_true_eq] at h1
    obtain ⟨pa, pb, pc⟩ := plain_of h1.2
    have ho := pe_var (X := X) (pos := py) (i := i) (by rw [g.nN]; exact h1.1.1) (vis_of h1.1.2) pa pb
    have he := ((sX e).1 X W x g.toGood h3).1
    have hw : swappedStores [.Subscript (.Name y py) (.Constant (.int (j : Int)) kk kp) sp] x X.env = pure none := by cases x <;> rfl
    have hpg : PG X (.Subscript (.Name y py) (.Constant (.int (j : Int)) kk kp) sp) (gSub (tVar i) (tC (.int (j : Int))) rSetL) := pg_sub ho pe_int set_list (fun v => rfl)
    refine PS.imp (ps_asg he hpg (noComp_sole h4) hw rfl) fun Dn σ H q => ?_
    obtain ⟨ρ, ε, S, rs, rp, q⟩ := q
    simp only [evS] at q
    refine ⟨ρ, ε, S, rs, rp, q.on rs rp fun l v H1 d S1 sx rs1 rp1 rv q1 => ?_⟩
    obtain ⟨S2, e1, q2⟩ := onO_some q1
    cases er : rdE ε i with
    | none => rw [er] at e1; simp [sputF] at e1
    | some d0 =>
      rw [er] at e1
      obtain ⟨u, eu, ru⟩ := rs1.rd er
      cases d0 with
      | stm kk2 =>
        cases d with
        | int n =>
          simp only [sputF] at e1
          obtain ⟨t, e2, e3⟩ := Option.bind_eq_some_iff.mp e1
          obtain ⟨t', e4, rfl⟩ := Option.map_eq_some_iff.mp e3
          obtain ⟨ad, ea, rfl⟩ := ru.stm
          have ea' : l[kk2]? = some ad := ea
          have hH := rp1.obj kk2 ad t ea e2
          have mem : ad ∈ l := List.mem_of_getElem? ea
          have fin : ∀ o : HO, o = .lst [.int t'.1, .int t'.2.1, .int t'.2.2] → Dn.nx σ (upd H1 ad o) := fun o eo => by
            have sx2 : Sx l H1 l (upd H1 ad o) := by
              refine ⟨pre_refl _, fun b w e n => ?_, fun b m n => absurd m n, fun b e => ?_⟩
              · rw [upd_ne (fun z : b = ad => n (by rw [z]; exact mem))]; exact e
              · by_cases hb : b = ad
                · rw [hb, upd_same]; exact fun z => nomatch z
                · rw [upd_ne hb]; exact e
            refine q2 l _ ⟨by rw [List.length_set]; exact rp1.len, rp1.nd, fun i2 b t2 f1 f2 => ?_, fun b z => sx2.dm b (rp1.dom b z)⟩ σ (.of sx2 fun _ z => .inl z) (rs1.mono rp1 sx2)
            by_cases hk : kk2 = i2
            · subst hk
              have f1' : l[kk2]? = some b := f1
              rw [ea'] at f1'; cases f1'
              rw [List.getElem?_set, if_pos rfl, if_pos (List.getElem?_eq_some_iff.mp e2).1] at f2
              cases f2
              rw [upd_same, eo]
            · rw [List.getElem?_set_ne hk] at f2
              have hb : b ≠ ad := fun z => by
                have f1' : l[i2]? = some b := f1
                rw [z] at f1'
                have g1 := List.getElem?_eq_some_iff.mp ea'
                have g2 := List.getElem?_eq_some_iff.mp f1'
                exact hk ((List.getElem_inj rp1.nd).mp (g1.2.trans g2.2.symm))
              rw [upd_ne hb]; exact rp1.obj i2 b t2 f1 f2
          refine ⟨.ref ad, eu, ad, _, (j : Int), j, rfl, rfl, hH, ?_, ?_⟩
          · match j, e4 with
            | 0, _ => rfl
            | 1, _ => rfl
            | 2, _ => rfl
            | _ + 3, e4 => cases e4
          · rw [rv.int]
            match j, e4 with
            | 0, e4 => cases e4; exact fin _ rfl
            | 1, e4 => cases e4; exact fin _ rfl
            | 2, e4 => cases e4; exact fin _ rfl
            | _ + 3, e4 => cases e4
        | _ => simp [sputF] at e1
      | _ => simp [sputF] at e1
  · cases h
theorem pz_ife (c : Ex) {t e : List Sm} (ht : PZs cn cl k t) (he : PZs cn cl k e) : PZ cn cl k (.ife c t e) := by
  intro X W st g h
  cases st with
  | If x a b p =>
    simp only [mS, Bool.and_eq_true] at h
    refine PS.imp (ps_if ((sX c).1 X W x g.toGood h.1.1).2 (ht X W a g h.1.2) (he X W b g h.2)) fun Dn σ H q => ?_
    obtain ⟨ρ, ε, S, rs, rp, q⟩ := q
    simp only [evS] at q
    refine ⟨ρ, ε, S, rs, rp, q.on rs rp fun l v H1 d S1 sx rs1 rp1 rv q1 => ?_⟩
    have e1 : v = d := rv
    subst e1
    cases v with
    | true => rw [if_pos rfl] at q1 ⊢; exact ⟨ρ.to l, ε, S1, rs1, rp1, q1⟩
    | false => rw [if_neg Bool.false_ne_true] at q1 ⊢; exact ⟨ρ.to l, ε, S1, rs1, rp1, q1⟩
  | _ => simp [mS] at h
end
end GG
namespace GG
open PySem PySem.Spec PyProof.Rows L2
section
variable {K : KW} {ρ : Fx} {H H' : Hp} {ε ε' : Env} {σ σ' : L2.St} {S : Sto} {l : List Addr}
theorem Own.not {d : D} {a : Addr} (h : Own K ρ H d a) : (∀ xs, H a ≠ some (.tup xs)) ∧ ∀ o u, H a ≠ some (.frz o u) := by
  unfold Own at h
  split at h
  · obtain ⟨vs, _, e, _⟩ := h; rw [e]; exact ⟨fun _ z => (by cases z), fun _ _ z => (by cases z)⟩
  · obtain ⟨vs, e, _⟩ := h; rw [e]; exact ⟨fun _ z => (by cases z), fun _ _ z => (by cases z)⟩
  · exact h.elim
theorem Stp.kq (rs : Rs K ρ H ε σ) (rp : Rp ρ S H) (s : Stp ρ.l ε σ H l ε' σ' H') : Kq (ρ.plus (Av ε σ [])) H l H' := by
  have no : ∀ b, Av ε σ [] b → (∀ xs, H b ≠ some (.tup xs)) ∧ ∀ o u, H b ≠ some (.frz o u) := fun b ⟨i, d, _, e1, e2⟩ => by
    obtain ⟨a, e3, o⟩ := rs.own i d e1
    rw [e2] at e3; cases e3
    exact o.not
  have out : ∀ b u, H b = some u → b ∉ ρ.l → b ∉ l := fun b u e n m => by
    have := s.nw b m n; rw [e] at this; cases this
  refine ⟨s.pre, fun b xs e => ?_, fun b o u e => ?_, fun b u e n1 n2 => ⟨s.kp b u e n1 fun z => n2 (.inr z), out b u e n1⟩⟩
  · exact s.kp b _ e (rp.tup_out e fun _ _ _ z => nomatch z) fun z => (no b z).1 xs e
  · exact s.kp b _ e (rp.tup_out e fun _ _ _ z => nomatch z) fun z => (no b z).2 o u e
theorem Wk.anti {n m : Addr → Prop} (h : ∀ a, m a → n a) {ds : List D} {J : It} (w : Wk K (ρ.plus n) H ds J) : Wk K (ρ.plus m) H ds J := by
  have up : ∀ {l : List Addr} {H1 : Hp}, Kq (ρ.plus m) H l H1 → Kq (ρ.plus n) H l H1 := fun k => ⟨k.pre, k.tup, k.frz, fun b u e n1 n2 => k.kp b u e n1 fun z => n2 (z.imp id (h b))⟩
  refine ⟨w.sz, fun l H1 i d k e => w.go l H1 i d (up k) e, fun l H1 k => w.stop l H1 (up k), fun l H1 i d x H2 k e y => ?_⟩
  obtain ⟨g, r⟩ := w.yld l H1 i d x H2 (up k) e y
  exact ⟨g, RV.anti (ρ := ((ρ.plus n).nw H).to l) (n := ((ρ.plus m).nw H).n) (fun a z => z.imp (fun z => z.imp id (h a)) id) _ _ r⟩
end
section
variable {cn : Cn} {cl : Nat → List D → Sto → Out D} {k : Nat}
theorem pz_for (tg : Tg) (it : Ex) {b : List Sm} (hb : PZs cn cl k b) : PZ cn cl k (.for_ tg it b) := by
  intro X W st g h
  simp only [mS] at h
  split at h
  · rename_i t x a p
    simp only [Bool.and_eq_true] at h
    obtain ⟨⟨⟨h1, h2⟩, h3⟩, h4⟩ := h
    have hg := pg_of g.nN g.nd g.calm (loc_of g) tg t h1
    refine PS.imp (ps_for g.po g.calm ((sX it).2 X W x t g.toGood h2) hg (hb X W a g h4) (noSet_fold h3)) fun Dn σ H q => ?_
    obtain ⟨ρ, ε, S, rs, rp, q⟩ := q
    simp only [evS] at q
    refine ⟨ρ, ε, S, rs, rp, q.on rs rp fun l1 J H1 p S1 sx1 rs1 rp1 wk q1 => ?_⟩
    have key : ∃ εa, (if p.2 = true then ε else fz (vs it) ε) = εa ∧ Rs (kw X) (ρ.to l1) H1 εa σ ∧ (∀ a, Av εa σ [] a → Av ε σ [] a) ∧ Wk (kw X) ((ρ.to l1).plus (Av εa σ [])) H1 p.1 J := by
      refine ⟨_, rfl, ?_⟩
      by_cases hp : p.2 = true
      · rw [if_pos hp]
        exact ⟨rs1, fun _ z => z, wk.2 hp ((ρ.to l1).plus (Av ε σ [])).n⟩
      · rw [if_neg hp]
        exact ⟨rs1.fz _, fun a z => Av.anti (fun j m => by cases m) a (Av.fz a z), wk.1.anti fun a z => Av.anti (fun j m => List.mem_append_left _ m) a (Av.fz a z)⟩
    obtain ⟨εa, ea, rsa, ava, wka⟩ := key
    rw [ea] at q1
    let Iv : Nat → Nat → L2.St → Hp → Prop := fun i m σ2 H2 => m = p.1.length - i ∧ i ≤ p.1.length ∧ ∃ l ε2 S2, Stp l1 εa σ H1 l ε2 σ2 H2 ∧ Rs (kw X) ((ρ.to l1).to l) H2 ε2 σ2 ∧ Rp ((ρ.to l1).to l) S2 H2 ∧
      PostS (kw X) X.mg W ((ρ.to l1).to l) ε2 σ2 H2 (forLoop (tgS tg) (evSs cl b) (p.1.drop i) ε2 S2) Dn
    refine ⟨Iv, ⟨p.1.length, by simp, Nat.zero_le _, l1, εa, S1, .refl, rsa, rp1, q1.weak (.of .refl fun a z => .inl (ava a z))⟩, ?_⟩
    rintro i m σ2 H2 ⟨rfl, hle, l, ε2, S2, st2, rs2, rp2, q2⟩
    have kq : Kq ((ρ.to l1).plus (Av εa σ [])) H1 l H2 := Stp.kq rsa rp1 st2
    by_cases hlt : i < p.1.length
    · have ed : p.1[i]? = some p.1[i] := List.getElem?_eq_getElem hlt
      rw [List.drop_eq_getElem_cons hlt] at q2
      simp only [forLoop] at q2
      split at q2
      · exact q2.elim
      · rename_i ε3 et
        refine .inr ⟨wka.go l H2 i _ kq ed, fun σ' H' => Iv (i + 1) (p.1.length - (i + 1)) σ' H', fun σ' H' h' => ⟨p.1.length - (i + 1), by omega, h'⟩, fun y H3 hy => ?_⟩
        obtain ⟨gw, rv3⟩ := wka.yld l H2 i _ y H3 kq ed hy
        have rs3 : Rs (kw X) ((ρ.to l1).to l) H3 ε2 σ2 := rs2.mono rp2 gw.sx
        have rv4 : RV (kw X) (((ρ.to l1).to l).plus fun a => Av εa σ [] a ∨ H1 a = none) H3 p.1[i] y :=
          RV.anti (ρ := ((((ρ.to l1).plus (Av εa σ [])).nw H1).to l)) (n := (((ρ.to l1).to l).plus fun a => Av εa σ [] a ∨ H1 a = none).n) (fun a z => by
            rcases z with z | z | z
            · exact .inl (.inl z)
            · exact .inl (.inr z)
            · exact .inr z) _ _ rv3
        refine tg_ok tg _ y ε2 ε3 σ2 _ et rv4 (fun a z => st2.ow a z) rs3 fun σ3 rs4 av4 _ => ?_
        have st3 : Stp l ε2 σ2 H2 l ε3 σ3 H3 := .of gw.sx fun a z => .inl (av4 a z)
        refine ⟨(ρ.to l1).to l, ε3, S2, rs4, rp2.gw gw, ?_⟩
        have q3 := q2.weak st3
        have st13 := st2.trans st3
        cases eb : evSs cl b ε3 S2 with
        | bad => rw [eb] at q3; exact q3
        | exc c v ε4 S4 => rw [eb] at q3; exact q3
        | ok f S4 =>
          rw [eb] at q3
          cases f with
          | nx ε4 => exact fun l4 H4 rp4 σ4 st4 rs4 => ⟨rfl, hlt, l4, ε4, S4, st13.trans st4, rs4, rp4, PostS.weak (ρ := (ρ.to l1).to l) st4 q3⟩
          | ct ε4 => exact fun l4 H4 rp4 σ4 st4 rs4 => ⟨rfl, hlt, l4, ε4, S4, st13.trans st4, rs4, rp4, PostS.weak (ρ := (ρ.to l1).to l) st4 q3⟩
          | bk ε4 => exact q3
          | rt d => exact q3
    · have hii : i = p.1.length := by omega
      subst hii
      rw [List.drop_length] at q2
      simp only [forLoop] at q2
      exact .inl ⟨wka.stop l H2 kq, q2.nxt rp2 (fun _ z => z) rs2⟩
  · cases h
theorem pz_while (c : Ex) {b : List Sm} (hb : PZs cn cl k b) : PZ cn cl k (.while_ c b) := by
  intro X W st g h
  simp only [mS] at h
  split at h
  · rename_i x a p
    simp only [Bool.and_eq_true] at h
    refine PS.imp (ps_while g.po ((sX c).1 X W x g.toGood h.1).2 (hb X W a g h.2)) fun Dn σ H q => ?_
    obtain ⟨ρ, ε, S, rs, rp, q⟩ := q
    simp only [evS] at q
    refine ⟨fun m σ H => ∃ ρ ε S, Rs (kw X) ρ H ε σ ∧ Rp ρ S H ∧ PostS (kw X) X.mg W ρ ε σ H (whileLoop (fun ε S => (evE cl c ε S).bind fun d S1 => .of S1 (tru d)) (evSs cl b) m ε S) Dn, ⟨wFuel, ρ, ε, S, rs, rp, q⟩, ?_⟩
    rintro m σ2 H2 ⟨ρ2, ε2, S2, rs2, rp2, q2⟩
    cases m with
    | zero => exact q2.elim
    | succ m =>
      simp only [whileLoop] at q2
      refine ⟨ρ2, ε2, S2, rs2, rp2, q2.on rs2 rp2 fun l3 v H3 d S3 sx3 rs3 rp3 rv q3 => ?_⟩
      have e1 : v = d := rv
      subst e1
      cases v with
      | false => rw [if_neg Bool.false_ne_true] at q3 ⊢; exact q3.nxt rp3 (fun _ z => z) rs3
      | true =>
        rw [if_pos rfl] at q3 ⊢
        refine ⟨fun σ H => ∃ ρ ε S, Rs (kw X) ρ H ε σ ∧ Rp ρ S H ∧ PostS (kw X) X.mg W ρ ε σ H (whileLoop (fun ε S => (evE cl c ε S).bind fun d S1 => .of S1 (tru d)) (evSs cl b) m ε S) Dn, fun σ' H' h' => ⟨m, Nat.lt_succ_self m, h'⟩, ρ2.to l3, ε2, S3, rs3, rp3, ?_⟩
        cases eb : evSs cl b ε2 S3 with
        | bad => rw [eb] at q3; exact q3
        | exc c v ε4 S4 => rw [eb] at q3; exact q3
        | ok f S4 =>
          rw [eb] at q3
          cases f with
          | nx ε4 => exact fun l4 H4 rp4 σ4 st4 rs4 => ⟨(ρ2.to l3).to l4, ε4, S4, rs4, rp4, PostS.weak (ρ := ρ2.to l3) st4 q3⟩
          | ct ε4 => exact fun l4 H4 rp4 σ4 st4 rs4 => ⟨(ρ2.to l3).to l4, ε4, S4, rs4, rp4, PostS.weak (ρ := ρ2.to l3) st4 q3⟩
          | bk ε4 => exact q3
          | rt d => exact q3
  · cases h
mutual
theorem sZ : ∀ s : Sm, PZ cn cl k s
  | .ret e => pz_ret e
  | .retN => pz_retN
  | .set tg e => pz_set tg e
  | .aug i o e => pz_aug i o e
  | .par i j a b => pz_par i j a b
  | .put i kx e => pz_put i kx e
  | .app i e => pz_app i e
  | .ext i e => pz_ext i e
  | .sput i j e => pz_sput i j e
  | .ife c t e => pz_ife c (sZs t) (sZs e)
  | .for_ tg it b => pz_for tg it (sZs b)
  | .while_ c b => pz_while c (sZs b)
  | .ex e => pz_ex e
  | .pass => pz_pass
  | .brk => pz_brk
  | .cont => pz_cont
  | .never => pz_never
theorem sZs : ∀ ss : List Sm, PZs cn cl k ss
  | [] => pzs_nil
  | s :: r => pzs_cons (sZ s) (sZs r)
end
end
/-! ## a def -/
/-- what a def is: an own body, or one of the law's two numbers' makers -/
inductive Pk where
  | own | draw | mk
  deriving DecidableEq
structure Fd where
  name : Str
  ar : Nat
  N : List Str
  body : List Sm
  pk : Pk := .own
def runF (cl : Nat → List D → Sto → Out D) (f : Fd) (ds : List D) (S : Sto) : Out D :=
  match evSs cl f.body (ds.map .v ++ List.replicate (f.N.length - ds.length) .u) S with
  | .ok (.rt d) S1 => .ok d S1
  | .ok (.nx _) S1 => .ok .non S1
  | .ok _ _ => .bad
  | .exc c v _ S1 => .exc c v S1
  | .bad => .bad
end GG
namespace GG
open PySem PySem.Spec PyProof.Rows L2
/-- a def that ends by handing back a new list -/
def runM (cl : Nat → List D → Sto → Out D) (f : Fd) (ds : List D) (S : Sto) : Out D :=
  match f.body.getLast? with
  | some (.ret e) => if fresh e = true then (match evSs cl f.body.dropLast (ds.map .v ++ List.replicate (f.N.length - ds.length) .u) S with
    | .ok (.nx ε) S1 => evE cl e ε S1
    | .exc c v _ S1 => .exc c v S1
    | _ => .bad) else .bad
  | _ => .bad
section
variable {K : KW} {mg : Str → Option Value} {cn : Cn} {cl : Nat → List D → Sto → Out D} {k : Nat}
theorem Own.low {ρ : Fx} {H : Hp} {n : Addr → Prop} {d : D} {a : Addr} (o : Own K (ρ.plus n) H d a) : Own K ρ H d a := by
  unfold Own at o ⊢
  split at o
  · obtain ⟨vs, z, e, n1, n2, r⟩ := o
    exact ⟨vs, z, e, n1, fun q => n2 (.inl q), RVs.anti (ρ := (ρ.plus n).plus (· = a)) (n := (ρ.plus (· = a)).n) (fun b z => z.imp .inl id) _ _ r⟩
  · obtain ⟨vs, e, n1, n2, r⟩ := o
    exact ⟨vs, e, n1, fun q => n2 (.inl q), RKV.anti (ρ := (ρ.plus n).plus (· = a)) (n := (ρ.plus (· = a)).n) (fun b z => z.imp .inl id) _ _ r⟩
  · exact o
/-- ahead of the last statement -/
def QM (K : KW) (mg : Str → Option Value) (cl : Nat → List D → Sto → Out D) (e : Ex) (W : WX) (ρ : Fx) (ε : Env) (σ : L2.St) (H : Hp) (r : OutS) (Dn : Ends) : Prop :=
  match r with
  | .ok (.nx ε1) S1 => ∀ l H1 σ1, Stp ρ.l ε σ H l ε1 σ1 H1 → Rs K (ρ.to l) H1 ε1 σ1 → Rp (ρ.to l) S1 H1 → Post K mg (RN K H1) (XW W σ1) ((ρ.to l).plus (Av ε1 σ1 (vs e))) H1 (evE cl e ε1 S1) Dn.rt
  | .exc c v ε' S => ∀ l H' σ' cls dd, Stp ρ.l ε σ H l ε' σ' H' → Rp (ρ.to l) S H' → Rs K (ρ.to l) H' ε' σ' → RX K mg (ρ.to l) H' c v cls dd → W cls dd σ' H'
  | _ => False
theorem psm {e : Ex} (hf : fresh e = true) : ∀ (pre : List Sm) (X : Cx) (W : WX) (sts : List Stmt), GoodS cn cl k W X → mSs cn (pre ++ [.ret e]) X.env.scope sts = true →
    PSs X sts (fun Dn σ H => ∃ ρ ε S, Rs (kw X) ρ H ε σ ∧ Rp ρ S H ∧ QM (kw X) X.mg cl e W ρ ε σ H (evSs cl pre ε S) Dn)
  | [], X, W, sts, g, h => by
    match sts, h with
    | [], h => simp [mSs] at h
    | [st], h =>
      simp only [List.nil_append, mSs, Bool.and_eq_true] at h
      cases st with
      | Return v p =>
        cases v with
        | none => simp [mS] at h
        | some x =>
          simp only [mS] at h
          refine PSs.imp (pss_one (ps_ret (sN hf X W x g.toGood h.1))) fun Dn σ H q => ?_
          obtain ⟨ρ, ε, S, rs, rp, q⟩ := q
          simp only [evSs] at q
          exact ⟨ρ, ε, S, rs, rp, q ρ.l H σ .refl rs rp⟩
      | _ => simp [mS] at h
    | _ :: _ :: _, h => simp [mSs] at h
  | s :: r, X, W, sts, g, h => by
    cases sts with
    | nil => simp [mSs] at h
    | cons st sts =>
      simp only [List.cons_append, mSs, Bool.and_eq_true] at h
      refine PSs.imp (pss_cons (sZ s X W st g h.1) (psm hf r X W sts g h.2)) fun Dn σ H q => ?_
      obtain ⟨ρ, ε, S, rs, rp, q⟩ := q
      simp only [evSs] at q
      refine ⟨ρ, ε, S, rs, rp, ?_⟩
      cases e : evS cl s ε S with
      | bad => rw [e] at q; exact q
      | exc c v ε1 S1 => rw [e] at q; exact q
      | ok f S1 =>
        rw [e] at q
        cases f with
        | nx ε1 =>
          simp only [OutS.seq] at q
          intro l1 H1 rp1 σ1 st1 rs1
          refine ⟨ρ.to l1, ε1, S1, rs1, rp1, ?_⟩
          unfold QM at q ⊢
          cases e2 : evSs cl r ε1 S1 with
          | bad => rw [e2] at q; exact q
          | exc c v ε2 S2 => rw [e2] at q; exact fun l' H' σ' cls dd s' => q l' H' σ' cls dd (st1.trans s')
          | ok f2 S2 =>
            rw [e2] at q
            cases f2 with
            | nx ε2 => exact fun l' H' σ' s' => q l' H' σ' (st1.trans s')
            | rt d => exact q
            | bk ε2 => exact q
            | ct ε2 => exact q
        | rt d => exact q.elim
        | bk ε1 => exact q.elim
        | ct ε1 => exact q.elim
end
section
variable {P : Program} {w : World} {K : PySem.W.Frag} {mg : Str → Option Value} {base : Heap} {cn : Cn} {cl : Nat → List D → Sto → Out D} {k : Nat}
theorem start_Av {ds : List D} {n : Nat} {σ : L2.St} {xs : List Nat} (a : Addr) : ¬ Av (ds.map Sl.v ++ List.replicate n .u) σ xs a := fun ⟨i, d, _, e, _⟩ => by
  have m := List.mem_of_getElem? e
  rcases List.mem_append.mp m with m | m
  · obtain ⟨x, _, z⟩ := List.mem_map.mp m; cases z
  · have := List.eq_of_mem_replicate m; cases this
theorem start_Rs {K : KW} {ρ : Fx} {H : Hp} {N : List Str} {ds : List D} {vs : List V} (r : RVs K ρ H ds vs) : Rs K ρ H (ds.map Sl.v ++ List.replicate (N.length - ds.length) .u) (L2.start N vs) := by
  unfold L2.start
  have e := r.len
  refine ⟨by simp [e], fun i d h => ?_, fun i d h => ?_⟩
  · by_cases hi : i < ds.length
    · rw [List.getElem?_append_left (by simpa using hi), List.getElem?_map] at h
      cases q : ds[i]? with
      | none => rw [q] at h; cases h
      | some d' =>
        rw [q] at h; cases h
        obtain ⟨v, e1, rv⟩ := r.get q
        refine ⟨v, ?_, RV.anti (ρ := ρ) (n := (ρ.plus (Av (ds.map Sl.v ++ List.replicate (N.length - ds.length) Sl.u) (vs.map some ++ List.replicate (N.length - vs.length) none) [])).n) (fun a z => z.elim id fun z => absurd z (start_Av a)) _ _ rv⟩
        rw [List.getElem?_append_left (by rw [List.length_map, ← e]; exact hi), List.getElem?_map, e1]; rfl
    · rw [List.getElem?_append_right (by simpa using hi), List.getElem?_replicate] at h
      split at h <;> cases h
  · have m := List.mem_of_getElem? h
    rcases List.mem_append.mp m with m | m
    · obtain ⟨x, _, z⟩ := List.mem_map.mp m; cases z
    · have := List.eq_of_mem_replicate m; cases this
theorem fn_g {f : Fd} {qual : Str} {st : Stmt} {fa : Addr} {fd : FuncData} {ps : List Str} (F : L2.Fun K f.name qual st fa fd) (SC : FnScope f.N ps (defScope st)) (hm : mg f.name = some (.ref fa)) (hbi : Binds K fd ps []) (har : ps.length = f.ar)
    (hN : cn.N = f.N) (hmt : mSs cn f.body (defScope st) (defBody st) = true) (sm : SmOk base) (blt : ∀ x ∈ bnames, mg x = none)
    (gl : ∀ x d, cn.gt.lookup x = some d → ∃ v u, mg x = some u ∧ RelV v u ∧ ∀ ρ H, RV ⟨K, w⟩ ρ H d v) (fns : ∀ (i : Nat) (x : Str) (n : Nat), cn.fns[i]? = some (x, n) → FnG P w K mg base k x n (cl i)) (fm : ∀ (x : Str) (n : Nat), cn.fns[cn.mkr]? = some (x, n) → FnM P w K mg base k x n (cl cn.mkr)) :
    FnG P w K mg base (k + 1) f.name f.ar (runF cl f) := by
  refine ⟨fa, fd, ps, hm, F.kp, hbi, har, fun A outer s H args us vs Q E hr hgd e0 hl hb r hsp => ?_⟩
  obtain ⟨oc, od, kV, doc, pm, an, cdv, ct, osl, rfl, lk, hcd⟩ := F.ex
  have KX : K.In s.heap := e0.mod.kin.keeps fun b o e => (e0.bs b o e).1
  have lim : s.heap.NoLimit := e0.mod.nolimit.keeps fun b o e => (e0.bs b o e).1
  have hkind : ∀ y ∈ ps.zip us, (defScope st).names.lookup y.1 = some .local ∨
      ((defScope st).names.lookup y.1 = some .cell ∧ ((cellsFrom (s.heap.objs.size + 1) (defScope st).names []).lookup y.1).isSome = true) := fun y hy => by
    obtain ⟨n, v⟩ := y
    rcases SC.par n (List.of_mem_zip hy).1 with q | q
    · exact .inl q
    · exact .inr ⟨q, PySem.W.cellsFrom_some _ _ _ (.inl q)⟩
  refine codeAny_call_function hr.depth (KX _ _ lk) rfl SC.co SC.gen rfl (PySem.W.codeRec_of KX hcd) (hb _ _ _ _ ?_)
  refine wpAny_newFunctionEnv_cells SC.kind hkind fun env he s1 x => ?_
  subst he
  refine ⟨lim.keeps x.toInCall.keep, codeAny_func ?_⟩
  have I : Inv (cxOf (L2.CX P w) P w K mg base f.N qual (defScope st) fa cdv A outer s H E) [] (L2.start f.N vs) H s1 := inv_start SC hr.hd e0 hl r x
  have tk : Takes (cxOf (L2.CX P w) P w K mg base f.N qual (defScope st) fa cdv A outer s H E) (fun cls d _ H' => E cls d H') := takes_of rfl rfl rfl rfl
  have po : PassesOwn (model P w) (cxOf (L2.CX P w) P w K mg base f.N qual (defScope st) fa cdv A outer s H E).A (cxOf (L2.CX P w) P w K mg base f.N qual (defScope st) fa cdv A outer s H E).env
    (cxOf (L2.CX P w) P w K mg base f.N qual (defScope st) fa cdv A outer s H E).xe := passes_of (X := cxOf (L2.CX P w) P w K mg base f.N qual (defScope st) fa cdv A outer s H E) rfl
  have GS : GoodS cn cl k (fun cls d _ H' => E cls d H') (cxOf (L2.CX P w) P w K mg base f.N qual (defScope st) fa cdv A outer s H E) :=
    { nN := hN.symm, calm := rfl, nd := SC.nd, room := hr.deeper _, gd := hgd, sm := sm, tk := tk, blt := blt, gl := gl, fn := fns, fm := fm, po := po, kind := SC.kind, fa := fun _ => rfl }
  have body := sZs f.body _ _ (defBody st) GS hmt
  obtain ⟨ρ, S, ds, rp, rv, q⟩ := hsp
  refine wpAny_mono (body.run [] s1 (L2.start f.N vs) H { nx := fun _ H' => Q .non H', rt := Q } I ⟨ρ, _, S, start_Rs rv, rp, ?_⟩) (fun fl s' hs => ?_) fun e s' hs => hs
  · unfold runF at q
    have sx0 : ∀ {l : List Addr} {ε1 : Env} {σ1 : L2.St} {H1 : Hp}, Stp ρ.l (ds.map Sl.v ++ List.replicate (f.N.length - ds.length) .u) (L2.start f.N vs) H l ε1 σ1 H1 → Sx ρ.l H l H1 := fun s => ⟨s.pre, fun b u e n => s.kp b u e n (start_Av b), s.nw, s.dm⟩
    cases e : evSs cl f.body (ds.map .v ++ List.replicate (f.N.length - ds.length) .u) S with
    | bad => rw [e] at q; exact q
    | exc c v ε S1 =>
      rw [e] at q
      exact fun l1 H1 σ1 cls dd st1 rp1 rs1 rx => q l1 H1 cls dd (sx0 st1) rp1 rx
    | ok fl S1 =>
      rw [e] at q
      cases fl with
      | rt d => exact fun l1 H1 rp1 v st1 rv1 => q l1 v H1 (sx0 st1) rp1 rv1
      | nx ε1 => exact fun l1 H1 rp1 σ1 st1 rs1 => q l1 .non H1 (sx0 st1) rp1 .mkNon
      | bk ε1 => exact q.elim
      | ct ε1 => exact q.elim
  · have fin : ∀ {σ' : L2.St} {H' : Hp} {v : V} {u : Value}, Inv (cxOf (L2.CX P w) P w K mg base f.N qual (defScope st) fa cdv A outer s H E) [] σ' H' s' → RelV v u → Q v H' → CE outer P w H s Q u s' :=
      fun {σ' H' v u} J rv q => ⟨v, H', J.os, J.bare, J.base, J.hok, rv, q⟩
    cases fl with
    | ret u =>
      obtain ⟨v, σ', H', J, rv, q⟩ := hs
      exact fin J rv q
    | next =>
      obtain ⟨σ', H', J, q⟩ := hs
      exact fin (v := V.non) (u := Value.none) J rfl q
    | brk =>
      obtain ⟨_, _, _, q⟩ := hs
      exact False.elim q
    | cont =>
      obtain ⟨_, _, _, q⟩ := hs
      exact False.elim q
theorem fm_g {f : Fd} {qual : Str} {st : Stmt} {fa : Addr} {fd : FuncData} {ps : List Str} (F : L2.Fun K f.name qual st fa fd) (SC : FnScope f.N ps (defScope st)) (hm : mg f.name = some (.ref fa)) (hbi : Binds K fd ps []) (har : ps.length = f.ar)
    (hN : cn.N = f.N) (hmt : mSs cn f.body (defScope st) (defBody st) = true) (sm : SmOk base) (blt : ∀ x ∈ bnames, mg x = none)
    (gl : ∀ x d, cn.gt.lookup x = some d → ∃ v u, mg x = some u ∧ RelV v u ∧ ∀ ρ H, RV ⟨K, w⟩ ρ H d v) (fns : ∀ (i : Nat) (x : Str) (n : Nat), cn.fns[i]? = some (x, n) → FnG P w K mg base k x n (cl i)) (fm : ∀ (x : Str) (n : Nat), cn.fns[cn.mkr]? = some (x, n) → FnM P w K mg base k x n (cl cn.mkr)) :
    FnM P w K mg base (k + 1) f.name f.ar (runM cl f) := by
  refine ⟨fa, fd, ps, hm, F.kp, hbi, har, fun A outer s H args us vs Q E hr hgd e0 hl hb r hsp => ?_⟩
  obtain ⟨oc, od, kV, doc, pm, an, cdv, ct, osl, rfl, lk, hcd⟩ := F.ex
  have KX : K.In s.heap := e0.mod.kin.keeps fun b o e => (e0.bs b o e).1
  have lim : s.heap.NoLimit := e0.mod.nolimit.keeps fun b o e => (e0.bs b o e).1
  have hkind : ∀ y ∈ ps.zip us, (defScope st).names.lookup y.1 = some .local ∨
      ((defScope st).names.lookup y.1 = some .cell ∧ ((cellsFrom (s.heap.objs.size + 1) (defScope st).names []).lookup y.1).isSome = true) := fun y hy => by
    obtain ⟨n, v⟩ := y
    rcases SC.par n (List.of_mem_zip hy).1 with q | q
    · exact .inl q
    · exact .inr ⟨q, PySem.W.cellsFrom_some _ _ _ (.inl q)⟩
  refine codeAny_call_function hr.depth (KX _ _ lk) rfl SC.co SC.gen rfl (PySem.W.codeRec_of KX hcd) (hb _ _ _ _ ?_)
  refine wpAny_newFunctionEnv_cells SC.kind hkind fun env he s1 x => ?_
  subst he
  refine ⟨lim.keeps x.toInCall.keep, codeAny_func ?_⟩
  have I : Inv (cxOf (L2.CX P w) P w K mg base f.N qual (defScope st) fa cdv A outer s H E) [] (L2.start f.N vs) H s1 := inv_start SC hr.hd e0 hl r x
  have tk : Takes (cxOf (L2.CX P w) P w K mg base f.N qual (defScope st) fa cdv A outer s H E) (fun cls d _ H' => E cls d H') := takes_of rfl rfl rfl rfl
  have po : PassesOwn (model P w) (cxOf (L2.CX P w) P w K mg base f.N qual (defScope st) fa cdv A outer s H E).A (cxOf (L2.CX P w) P w K mg base f.N qual (defScope st) fa cdv A outer s H E).env
    (cxOf (L2.CX P w) P w K mg base f.N qual (defScope st) fa cdv A outer s H E).xe := passes_of (X := cxOf (L2.CX P w) P w K mg base f.N qual (defScope st) fa cdv A outer s H E) rfl
  have GS : GoodS cn cl k (fun cls d _ H' => E cls d H') (cxOf (L2.CX P w) P w K mg base f.N qual (defScope st) fa cdv A outer s H E) :=
    { nN := hN.symm, calm := rfl, nd := SC.nd, room := hr.deeper _, gd := hgd, sm := sm, tk := tk, blt := blt, gl := gl, fn := fns, fm := fm, po := po, kind := SC.kind, fa := fun _ => rfl }
  obtain ⟨ρ, S, ds, rp, rv, q⟩ := hsp
  unfold runM at q
  split at q
  · rename_i e elast
    split at q
    · rename_i hf
      have eb : f.body = f.body.dropLast ++ [.ret e] := by
        have hne : f.body ≠ [] := fun z => by rw [z] at elast; cases elast
        have h1 := List.dropLast_concat_getLast hne
        rw [List.getLast?_eq_some_getLast hne] at elast
        have h2 : f.body.getLast hne = .ret e := Option.some.inj elast
        rw [h2] at h1
        exact h1.symm
      have body := psm hf f.body.dropLast _ _ (defBody st) GS (by rw [← eb]; exact hmt)
      refine wpAny_mono (body.run [] s1 (L2.start f.N vs) H { nx := fun _ _ => False, rt := Q } I ⟨ρ, _, S, start_Rs rv, rp, ?_⟩) (fun fl s' hs => ?_) fun e s' hs => hs
      · have sx0 : ∀ {l : List Addr} {ε1 : Env} {σ1 : L2.St} {H1 : Hp}, Stp ρ.l (ds.map Sl.v ++ List.replicate (f.N.length - ds.length) .u) (L2.start f.N vs) H l ε1 σ1 H1 → Sx ρ.l H l H1 := fun s => ⟨s.pre, fun b u e n => s.kp b u e n (start_Av b), s.nw, s.dm⟩
        unfold QM
        cases e0 : evSs cl f.body.dropLast (ds.map .v ++ List.replicate (f.N.length - ds.length) .u) S with
        | bad => rw [e0] at q; exact q
        | exc c v ε S1 =>
          rw [e0] at q
          exact fun l1 H1 σ1 cls dd st1 rp1 rs1 rx => q l1 H1 cls dd (sx0 st1) rp1 rx
        | ok fl S1 =>
          rw [e0] at q
          cases fl with
          | nx ε1 =>
            intro l1 H1 σ1 st1 rs1 rp1
            have q9 := Post.weak (sx0 st1) q
            dsimp only at q9
            have low : ∀ {l : List Addr} {S : Sto} {H' : Hp}, Rp (((ρ.to l1).plus (Av ε1 σ1 (GG.vs e))).to l) S H' → Rp ((ρ.to l1).to l) S H' := fun rp => ⟨rp.len, rp.nd, rp.obj, fun a ha => rp.dom a (.inl ha)⟩
            cases e2 : evE cl e ε1 S1 with
            | bad => rw [e2] at q9; exact q9
            | exc c v S2 =>
              rw [e2] at q9
              exact fun l2 H2 cls dd s2 rp2 rx => q9 l2 H2 cls dd s2 (low rp2) (RX.anti (ρ := ((ρ.to l1).plus (Av ε1 σ1 (GG.vs e))).to l2) (n := ρ.n) (fun a z => .inl z) rx)
            | ok d S2 =>
              rw [e2] at q9
              intro l2 v H2 s2 rp2 rn
              obtain ⟨a, ea, h0, ow⟩ := rn
              refine q9 l2 v H2 s2 (low rp2) ⟨a, ea, ?_, Own.low (ρ := (ρ.to l1).to l2) (n := Av ε1 σ1 (GG.vs e)) ow⟩
              cases e3 : H a with
              | none => rfl
              | some u => exact absurd h0 (st1.dm a (by rw [e3]; exact fun z => nomatch z))
          | rt d => exact q.elim
          | bk ε1 => exact q.elim
          | ct ε1 => exact q.elim
      · have fin : ∀ {σ' : L2.St} {H' : Hp} {v : V} {u : Value}, Inv (cxOf (L2.CX P w) P w K mg base f.N qual (defScope st) fa cdv A outer s H E) [] σ' H' s' → RelV v u → Q v H' → CE outer P w H s Q u s' :=
          fun {σ' H' v u} J rv q => ⟨v, H', J.os, J.bare, J.base, J.hok, rv, q⟩
        cases fl with
        | ret u =>
          obtain ⟨v, σ', H', J, rv, q⟩ := hs
          exact fin J rv q
        | next =>
          obtain ⟨σ', H', J, q⟩ := hs
          exact False.elim q
        | brk =>
          obtain ⟨_, _, _, q⟩ := hs
          exact False.elim q
        | cont =>
          obtain ⟨_, _, _, q⟩ := hs
          exact False.elim q
    · exact q.elim
  · exact q.elim
end
/-! ## the whole program -/
def evF (Pg : List Fd) : Nat → Nat → List D → Sto → Out D
  | 0, _, _, _ => .bad
  | n + 1, i, ds, S => match Pg[i]? with
    | some f => if f.pk = Pk.mk then runM (evF Pg n) f ds S else runF (evF Pg n) f ds S
    | none => .bad
/-- what is known of a def of the text -/
def FFact (K : PySem.W.Frag) (mg : Str → Option Value) (fns : List (Str × Nat)) (gt : List (Str × D)) (mk : Nat) (f : Fd) : Prop :=
  ∃ (qual : Str) (st : Stmt) (fa : Addr) (fd : FuncData) (ps : List Str), L2.Fun K f.name qual st fa fd ∧ FnScope f.N ps (defScope st) ∧ mg f.name = some (.ref fa) ∧ Binds K fd ps [] ∧ ps.length = f.ar ∧ mSs ⟨f.N, fns, gt, mk⟩ f.body (defScope st) (defBody st) = true
def fnsOf (Pg : List Fd) : List (Str × Nat) := Pg.map fun f => (f.name, f.ar)
section
variable {P : Program} {w : World} {K : PySem.W.Frag} {mg : Str → Option Value} {base : Heap} {Pg : List Fd} {gt : List (Str × D)}
/-- which def makes the streams -/
def mkOk (Pg : List Fd) (mk : Nat) : Bool := match Pg[mk]? with
  | some f => decide (f.pk = Pk.mk)
  | none => true
theorem FnM.g {k : Nat} {x : Str} {n : Nat} {h : List D → Sto → Out D} (F : FnM P w K mg base k x n h) : FnG P w K mg base k x n h := by
  obtain ⟨f, fd, ps, hm, hk, hb, hl, run⟩ := F
  refine ⟨f, fd, ps, hm, hk, hb, hl, fun A outer s H args us vs Q E hr hg e0 hl hb r hsp => run A outer s H args us vs Q E hr hg e0 hl hb r ?_⟩
  obtain ⟨ρ, S, ds, rp, rv, q⟩ := hsp
  refine ⟨ρ, S, ds, rp, rv, ?_⟩
  cases e : h ds S with
  | ok d S1 =>
    rw [e] at q
    intro l v H1 sx rp1 rn
    obtain ⟨a, rfl, _, ow⟩ := rn
    exact q l _ H1 sx rp1 ow.rv
  | exc c v S1 => rw [e] at q; exact q
  | bad => rw [e] at q; exact q
theorem fns_ok {mk : Nat} (sm : SmOk base) (blt : ∀ x ∈ bnames, mg x = none) (gl : ∀ x d, gt.lookup x = some d → ∃ v u, mg x = some u ∧ RelV v u ∧ ∀ ρ H, RV ⟨K, w⟩ ρ H d v)
    (hmk : mkOk Pg mk = true) (facts : ∀ f ∈ Pg, FFact K mg (fnsOf Pg) gt mk f) : ∀ (n i : Nat) (f : Fd), Pg[i]? = some f → FnG P w K mg base n f.name f.ar (evF Pg n i) ∧ (f.pk = Pk.mk → FnM P w K mg base n f.name f.ar (evF Pg n i))
  | 0, i, f, e => by
    obtain ⟨qual, st, fa, fd, ps, F, SC, hm, hb, hl, hmt⟩ := facts f (List.mem_of_getElem? e)
    refine ⟨⟨fa, fd, ps, hm, F.kp, hb, hl, fun A outer s H args us vs Q E hr hg e0 hl hb r hsp => ?_⟩, fun _ => ⟨fa, fd, ps, hm, F.kp, hb, hl, fun A outer s H args us vs Q E hr hg e0 hl hb r hsp => ?_⟩⟩
    · obtain ⟨ρ, S, ds, _, _, q⟩ := hsp
      exact q.elim
    · obtain ⟨ρ, S, ds, _, _, q⟩ := hsp
      exact q.elim
  | n + 1, i, f, e => by
    obtain ⟨qual, st, fa, fd, ps, F, SC, hm, hb, hl, hmt⟩ := facts f (List.mem_of_getElem? e)
    have look : ∀ (j : Nat) (x : Str) (m : Nat), (fnsOf Pg)[j]? = some (x, m) → ∃ f', Pg[j]? = some f' ∧ f'.name = x ∧ f'.ar = m := fun j x m ej => by
      unfold fnsOf at ej
      rw [List.getElem?_map] at ej
      cases ef : Pg[j]? with
      | none => rw [ef] at ej; cases ej
      | some f' => rw [ef] at ej; cases ej; exact ⟨f', rfl, rfl, rfl⟩
    have h1 : ∀ (j : Nat) (x : Str) (m : Nat), (fnsOf Pg)[j]? = some (x, m) → FnG P w K mg base n x m (evF Pg n j) := fun j x m ej => by
      obtain ⟨f', ef, rfl, rfl⟩ := look j x m ej
      exact (fns_ok sm blt gl hmk facts n j f' ef).1
    have h2 : ∀ (x : Str) (m : Nat), (fnsOf Pg)[mk]? = some (x, m) → FnM P w K mg base n x m (evF Pg n mk) := fun x m ej => by
      obtain ⟨f', ef, rfl, rfl⟩ := look mk x m ej
      refine (fns_ok sm blt gl hmk facts n mk f' ef).2 ?_
      simpa [mkOk, ef] using hmk
    by_cases hpk : f.pk = Pk.mk
    · have h : evF Pg (n + 1) i = runM (evF Pg n) f := by
        funext ds S
        show (match Pg[i]? with | some f => if f.pk = Pk.mk then runM (evF Pg n) f ds S else runF (evF Pg n) f ds S | none => .bad) = _
        rw [e]; exact if_pos hpk
      rw [h]
      have := fm_g (P := P) (w := w) (k := n) (cl := evF Pg n) (cn := ⟨f.N, fnsOf Pg, gt, mk⟩) F SC hm hb hl rfl hmt sm blt gl h1 h2
      exact ⟨this.g, fun _ => this⟩
    · have h : evF Pg (n + 1) i = runF (evF Pg n) f := by
        funext ds S
        show (match Pg[i]? with | some f => if f.pk = Pk.mk then runM (evF Pg n) f ds S else runF (evF Pg n) f ds S | none => .bad) = _
        rw [e]; exact if_neg hpk
      rw [h]
      exact ⟨fn_g (P := P) (w := w) (k := n) (cl := evF Pg n) (cn := ⟨f.N, fnsOf Pg, gt, mk⟩) F SC hm hb hl rfl hmt sm blt gl h1 h2, fun z => absurd z hpk⟩
end
section
theorem law_g {P : Program} {w : World} {K : PySem.W.Frag} {mg mb : Str → Option Value} {k : Nat} {fa a : Addr} {x : Str} {h : List D → Sto → Out D} {s₁ : Shared} {vs : List Value} {ns : List Int}
    (KX : K.In s₁.heap) (hns : s₁.heap.Ns mainGlobals mg) (hb : s₁.heap.Ns builtinsNs mb) (hbb : ∀ x : Str, x ≠ "__name__" → mb x = bootBuiltins x) (hlim : s₁.heap.NoLimit) (hsm : ∃ mm, s₁.heap.Ns sysModules mm) (hg : s₁.gens = #[])
    (ha : s₁.heap.get? a = some { cls := .type "list", data := .seq vs.toArray }) (hi : IntsAre vs ns) (hl : ns.length ≤ sizeLine) (hr : Room k callerA) (hfa : mg x = some (.ref fa))
    (F : ∀ base : Heap, K.In base → base.Ns mainGlobals mg → SmOk base → FnG P w K mg base k x 1 h) (ok : ∃ S', h [.rol (ns.map D.int)] [] = .ok (.bl true) S') :
    codeAny (model P w) callerA (.call (.ref fa) ⟨[.ref a], []⟩) (fun r s' => r = .ok (.ret (.bool true)) ∧ OldK s₁.heap s'.heap ∧ s'.os = s₁.os ∧ AllBare s'.gens) s₁ := by
  have rv := vals_ints hi
  have lenV := hi.length
  have core : ∀ H : Hp, Only H → RoL ⟨K, w⟩ H a (ns.map V.int) → HOk P w H s₁.heap → (∀ b, H b ≠ none → b = a) → (H a ≠ none → K.lookup a = none) →
      codeAny (model P w) callerA (.call (.ref fa) ⟨[.ref a], []⟩) (fun r s' => r = .ok (.ret (.bool true)) ∧ OldK s₁.heap s'.heap ∧ s'.os = s₁.os ∧ AllBare s'.gens) s₁ := by
    intro H hO hS hok hA hK
    have base_of : ∀ {b : Addr} {o : Obj}, s₁.heap.get? b = some o → H b = none → (hidT s₁.heap H).get? b = some o := fun e n => hidT_get e n
    have noA : ∀ {b : Addr} {o : Obj} {es : Array DictEntry} {ep : Nat}, s₁.heap.get? b = some o → o.data = .dict es ep → H b = none := fun {b o es ep} e d => by
      cases q : H b with
      | none => rfl
      | some u =>
        have e' : b = a := hA b (by rw [q]; simp)
        subst e'
        rw [ha] at e; cases e
        have d' : Data.seq vs.toArray _ = Data.dict es ep := d
        cases d'
    have nsK : ∀ {b : Addr} {m : Str → Option Value}, s₁.heap.Ns b m → (hidT s₁.heap H).Ns b m := fun {b m} z => by
      obtain ⟨o, es, ep, e, d, r⟩ := z
      exact ⟨o, es, ep, base_of e (noA e d), d, r⟩
    have hKb : K.In (hidT s₁.heap H) := fun b o e => base_of (KX b o e) (by
      cases q : H b with
      | none => rfl
      | some u =>
        have e' : b = a := hA b (by rw [q]; simp)
        subst e'
        rw [hK (by rw [q]; simp)] at e; cases e)
    have hM : Mod K mg (hidT s₁.heap H) := ⟨hKb, nsK hns, ⟨mb, nsK hb, hbb⟩, let ⟨mc, h1, h2⟩ := hlim; ⟨mc, nsK h1, h2⟩⟩
    have hsm' : SmOk (hidT s₁.heap H) := by
      obtain ⟨mm, o, es, ep, e, d, _⟩ := hsm
      exact ⟨o, es, ep, base_of e (noA e d), d⟩
    have e0 : Env0 P w K mg (hidT s₁.heap H) callerA [] s₁ H :=
      ⟨rfl, hM, fun b o e => of_hidT e, Nat.le_of_eq (hidT_size _ _), trivial, fun b hb => absurd (show b ∈ ([] : List Addr) from hb) (by simp), hok, .of_eq hg⟩
    obtain ⟨f, fd, ps, hm, hk, hbi, hps, run⟩ := F _ hKb (nsK hns) hsm'
    rw [hfa] at hm
    cases hm
    obtain ⟨S', ok⟩ := ok
    have hbb2 := hbi s₁ [.ref a] KX (by rw [List.append_nil, hps]; rfl)
    rw [List.append_nil] at hbb2
    have sp : SpF ⟨K, w⟩ mg h [.ref a] H (fun v _ => v = .bl true) (fun _ _ _ => False) := by
      refine ⟨⟨[], fun _ => False⟩, [], [.rol (ns.map D.int)], ⟨rfl, List.nodup_nil, fun i a t e => by simp at e, fun a z => z.elim⟩, .one ?_, ?_⟩
      · simp only [RV]
        refine ⟨a, ns.map V.int, rfl, by rw [List.length_map]; exact hl, hS, ?_⟩
        clear hS hi rv lenV ha hl hbb2 ok
        induction ns with
        | nil => exact RVs.nil
        | cons n r ih => exact .cons (.mkInt n) ih
      · rw [ok]
        exact fun l v H' _ _ r => r.bl
    refine codeAny_mono (run callerA [] s₁ H ⟨[.ref a], []⟩ [.ref a] [.ref a] _ _ hr rfl e0 (by rw [hps]; rfl) hbb2 (.cons rfl .nil) sp) fun r s' h => ?_
    cases r with
    | error e =>
      exfalso
      obtain ⟨a, B, sI, H', cls, d, h⟩ := h
      simp only [and_false] at h
    | ok fl =>
      cases fl with
      | next => exact False.elim h
      | brk => exact False.elim h
      | cont => exact False.elim h
      | ret u =>
        obtain ⟨v, H', os, bare, un, hok', r', q⟩ := h
        have q' : v = .bl true := q
        subst q'
        obtain rfl : u = Value.bool true := r'
        refine ⟨rfl, OldK.of_keep fun b o e => ?_, os, bare⟩
        cases q : H b with
        | none => exact un.keep b o e q (by intro z; exact absurd (show b ∈ ([] : List Addr) from z) (by simp)) (by simp)
        | some u =>
          rcases hO b with z | ⟨ob, xs, z⟩
          · rw [q] at z; cases z
          · have z2 := un.frzs b ob _ z
            obtain ⟨e1, _⟩ := hok b _ z
            obtain ⟨e2, _⟩ := hok' b _ z2
            rw [e] at e1; cases e1
            exact e2
  cases hk : K.lookup a with
  | some o =>
    have e := KX a o hk
    rw [ha] at e
    cases e
    exact core (fun _ => none) (fun _ => .inl rfl) (.inr ⟨_, vs.toArray, _, hk, rfl, rfl, rfl, by rw [List.size_toArray, lenV]; exact hl, by simpa using rv⟩)
      (fun b u z => by have z' : (none : Option HO) = some u := z; cases z') (fun b z => absurd rfl z) fun z => absurd rfl z
  | none =>
    refine core (fun b => if b = a then some (.frz { cls := .type "list", data := .seq vs.toArray } (.lst (ns.map V.int))) else none) (fun b => ?_) (.inl ⟨{ cls := .type "list", data := .seq vs.toArray }, if_pos rfl⟩) (fun b u z => ?_) (fun b z => ?_) fun _ => hk
    · by_cases hb : b = a
      · exact .inr ⟨_, _, if_pos hb⟩
      · exact .inl (if_neg hb)
    · by_cases hb : b = a
      · have z' := (if_pos hb).symm.trans z
        cases z'
        subst hb
        exact ⟨ha, by rw [List.length_map]; exact hl, vs, _, rv, ha⟩
      · have z' := (if_neg hb).symm.trans z
        cases z'
    · by_cases hb : b = a
      · exact hb
      · exact absurd (if_neg hb) z
/-- the goal that the head leaves -/
theorem walk_g {l : PySem.W.OpenLaw} {n k : Nat} {q : Program} {loose : List Str} {XP : (Str → Option Value) → Heap → Prop} {YP : World → Heap → Prop} {d : DefRec} {K : Params → PySem.W.Frag} {Pg : List Fd} {gt : List (Str × D)} {i mk : Nat} {f : Fd}
    (hmk : mkOk Pg mk = true) (hn : l.most = some n) (hn2 : n ≤ sizeLine) (hdf : d.params.defaults = []) (hr : Room k callerA) (himp : importsNone q = true) (hf : Pg[i]? = some f) (hd : f.name = d.name) (har : f.ar = 1)
    (hY : ∀ (w : World) (h : Heap), YP w h → (K w.params).In h)
    (F : ∀ (w : World) (mg : Str → Option Value) (h : Heap), (K w.params).In h → h.Ns mainGlobals mg →
      (∀ x ∈ bnames, mg x = none) ∧ (∀ x e, gt.lookup x = some e → ∃ v u, mg x = some u ∧ RelV v u ∧ ∀ ρ H, RV ⟨K w.params, w⟩ ρ H e v) ∧ ∀ f ∈ Pg, FFact (K w.params) mg (fnsOf Pg) gt mk f)
    (law : ∀ ns : List Int, ns.length ≤ n → (∀ z ∈ ns, Builtin.Int.intBits z ≤ 1048576) → ∃ S', evF Pg k i [.rol (ns.map D.int)] [] = .ok (.bl true) S') :
    PySem.W.WalkO q loose XP YP l.row.toRowW d [] (fun f vs => PySem.call f vs) := by
  refine Att.attach_callB hn hdf fun w s₀ s₁ mg mb fa o pm cd doc a vs ns G Y ho hdd hcd hmg hobj hints hlen hbits hg => ?_
  have KX := hY w _ Y
  obtain ⟨b1, b2, b3⟩ := F w mg _ KX G.T.g
  obtain ⟨mm, hsm, _⟩ := (G.T.seer himp).mods
  refine law_g (x := f.name) (h := evF Pg k i) KX G.T.g G.T.b G.T.builtins G.T.nolimit ⟨mm, hsm⟩ hg hobj hints (Nat.le_trans hlen hn2) hr (by rw [hd]; exact hmg) (fun base kb nb sb => ?_) (law ns hlen hbits)
  have := (fns_ok (P := l.prog) (w := w) (base := base) sb b1 b2 hmk b3 k i f hf).1
  rw [har] at this
  exact this
end
end GG
namespace GG
open PySem PySem.Spec PyProof.Rows L2
/-! ## dicts of the written part -/
def entOk : List (Int × Int) → List DictEntry → Bool
  | [], [] => true
  | (k, v) :: r, e :: es => (match e.key with | .int k' _ => decide (k' = k) | _ => false) && decide (e.hash = hashInt k) && (match e.val with | .int v' _ => decide (v' = v) | _ => false) && entOk r es
  | _, _ => false
def intK (kvs : List (Int × Int)) : List (Key × D) := kvs.map fun kv => (.inl kv.1, .int kv.2)
theorem ent_pairs {P : Program} {w : World} : ∀ (kvs : List (Int × Int)) (es : List DictEntry), entOk kvs es = true → ∃ vs : List (Key × Value), KV (kvs.map fun kv => (Sum.inl kv.1, V.int kv.2)) vs ∧ Pairs (mixKind P w) es vs ∧ (∀ e ∈ es, ∃ k, (mixKind P w).is k e.key = true ∧ e.hash = (mixKind P w).hash k) ∧ vs.map (·.1) = kvs.map fun kv => (Sum.inl kv.1 : Key)
  | [], [], _ => ⟨[], .nil, .nil, (fun e h => by cases h), rfl⟩
  | [], _ :: _, h => by simp [entOk] at h
  | _ :: _, [], h => by simp [entOk] at h
  | (k, v) :: r, e :: es, h => by
    obtain ⟨hh, ek, ev⟩ := e
    simp only [entOk, Bool.and_eq_true, decide_eq_true_eq] at h
    obtain ⟨⟨⟨h1, h2⟩, h3⟩, h4⟩ := h
    obtain ⟨vs, a, b, c, d⟩ := ent_pairs (P := P) (w := w) r es h4
    cases ek <;> simp only [decide_eq_true_eq, Bool.false_eq_true] at h1
    cases ev <;> simp only [decide_eq_true_eq, Bool.false_eq_true] at h3
    rename_i k' t v' u
    subst h1 h3
    refine ⟨(.inl k', .int v' u) :: vs, .cons ⟨rfl, u, rfl⟩ a, .cons (keyIs_int k' t) rfl b, fun e he => ?_, by simp [d]⟩
    rcases List.mem_cons.mp he with rfl | he
    · exact ⟨.inl k', keyIs_int k' t, h2⟩
    · exact c e he
theorem wd_ints {K : KW} {d : Addr} {es : Array DictEntry} {ep : Nat} (kvs : List (Int × Int)) (hl : K.K.lookup d = some ⟨.type "dict", none, .dict es ep, #[]⟩) (hd : (d == sysModules) = false) (he : entOk kvs es.toList = true) (hn : (kvs.map fun kv => (Sum.inl kv.1 : Key)).Nodup) :
    WD K d (kvs.map fun kv => (Sum.inl kv.1, V.int kv.2)) := by
  refine ⟨_, hl, hd, fun P h hg => ?_⟩
  obtain ⟨vs, a, b, c, e⟩ := ent_pairs (P := P) (w := K.w) kvs es.toList he
  exact ⟨vs, a, _, es, ep, hg, ⟨rfl, rfl, rfl⟩, rfl, fun e he => c e (by simpa using he), b, by rw [e]; exact hn⟩
theorem rkv_ints {K : KW} {ρ : Fx} {H : Hp} : ∀ kvs : List (Int × Int), RKV K ρ H (intK kvs) (kvs.map fun kv => (Sum.inl kv.1, V.int kv.2))
  | [] => by simp only [intK, List.map_nil, RKV]
  | (k, v) :: r => by
    have := rkv_ints (K := K) (ρ := ρ) (H := H) r
    simp only [intK, List.map_cons, RKV] at this ⊢
    exact ⟨_, _, rfl, .mkInt _, this⟩
theorem rv_wdt {K : KW} {d : Addr} {es : Array DictEntry} {ep : Nat} (kvs : List (Int × Int)) (hl : K.K.lookup d = some ⟨.type "dict", none, .dict es ep, #[]⟩) (hd : (d == sysModules) = false) (he : entOk kvs es.toList = true) (hn : (kvs.map fun kv => (Sum.inl kv.1 : Key)).Nodup) (ρ : Fx) (H : Hp) :
    RV K ρ H (.wdt (intK kvs)) (.ref d) := by
  simp only [RV]
  exact ⟨d, _, rfl, wd_ints kvs hl hd he hn, rkv_ints kvs⟩
end GG
namespace GG
open PySem PySem.Spec PyProof.Rows L2
/-! ## laws about the interpreter -/
/-- keeps simp from taking an equation as one that holds by unfolding -/
theorem nrfl {α : Sort u} {a b : α} (h : a = b) : a = b := h
@[irreducible] def Out.wp {α : Type} (r : Out α) (Q : α → Sto → Prop) : Prop := match r with
  | .ok a S => Q a S
  | _ => False
@[irreducible] def OutS.wp (r : OutS) (Q : Fl → Sto → Prop) : Prop := match r with
  | .ok a S => Q a S
  | _ => False
section
variable {α β : Type}
theorem wp_ok {a : α} {S : Sto} {Q : α → Sto → Prop} : (Out.ok a S).wp Q = Q a S := by unfold Out.wp; rfl
theorem wp_bad {Q : α → Sto → Prop} : (Out.bad : Out α).wp Q = False := by unfold Out.wp; rfl
theorem wp_exc {c : Str} {v : Option (Str × D)} {S : Sto} {Q : α → Sto → Prop} : (Out.exc c v S : Out α).wp Q = False := by unfold Out.wp; rfl
theorem wp_bind {r : Out α} {f : α → Sto → Out β} {Q : β → Sto → Prop} : (r.bind f).wp Q = r.wp fun a S => (f a S).wp Q := by
  unfold Out.wp; cases r <;> rfl
theorem wps_ok {a : Fl} {S : Sto} {Q : Fl → Sto → Prop} : (OutS.ok a S).wp Q = Q a S := by unfold OutS.wp; rfl
theorem wps_bad {Q : Fl → Sto → Prop} : OutS.bad.wp Q = False := by unfold OutS.wp; rfl
theorem wps_exc {c : Str} {v : Option (Str × D)} {ε : Env} {S : Sto} {Q : Fl → Sto → Prop} : (OutS.exc c v ε S).wp Q = False := by unfold OutS.wp; rfl
theorem wp_on {r : Out α} {ε : Env} {g : α → Sto → OutS} {Q : Fl → Sto → Prop} : (r.on ε g).wp Q = r.wp fun a S => (g a S).wp Q := by
  unfold Out.wp OutS.wp; cases r <;> rfl
theorem wp_seq {r : OutS} {g : Env → Sto → OutS} {Q : Fl → Sto → Prop} : (r.seq g).wp Q = r.wp fun f S => match f with
    | .nx ε => (g ε S).wp Q
    | f => Q f S := by
  unfold OutS.wp
  cases r with
  | ok f S => cases f <;> rfl
  | exc c v ε S => rfl
  | bad => rfl
theorem Out.wp.mono {r : Out α} {Q Q' : α → Sto → Prop} (h : r.wp Q) (i : ∀ a S, Q a S → Q' a S) : r.wp Q' := by
  unfold Out.wp at h ⊢
  cases r with
  | ok a S => exact i a S h
  | exc c v S => exact h
  | bad => exact h
theorem OutS.wp.mono {r : OutS} {Q Q' : Fl → Sto → Prop} (h : r.wp Q) (i : ∀ a S, Q a S → Q' a S) : r.wp Q' := by
  unfold OutS.wp at h ⊢
  cases r with
  | ok a S => exact i a S h
  | exc c v ε S => exact h
  | bad => exact h
theorem Out.wp.get {r : Out α} {Q : α → Sto → Prop} (h : r.wp Q) : ∃ a S, r = .ok a S ∧ Q a S := by
  unfold Out.wp at h
  cases r with
  | ok a S => exact ⟨a, S, rfl, h⟩
  | exc c v S => exact h.elim
  | bad => exact h.elim
theorem Out.wp.of {r : Out α} {Q : α → Sto → Prop} {a : α} {S : Sto} (e : r = .ok a S) (h : Q a S) : r.wp Q := by rw [e, wp_ok]; exact h
theorem OutS.wp.get {r : OutS} {Q : Fl → Sto → Prop} (h : r.wp Q) : ∃ f S, r = .ok f S ∧ Q f S := by
  unfold OutS.wp at h
  cases r with
  | ok f S => exact ⟨f, S, rfl, h⟩
  | exc c v ε S => exact h.elim
  | bad => exact h.elim
theorem wp_runF {cl : Nat → List D → Sto → Out D} {f : Fd} {ds : List D} {S : Sto} {Q : D → Sto → Prop}
    (h : (evSs cl f.body (ds.map .v ++ List.replicate (f.N.length - ds.length) .u) S).wp fun fl S1 => match fl with
      | .rt d => Q d S1
      | .nx _ => Q .non S1
      | _ => False) : (runF cl f ds S).wp Q := by
  unfold runF
  obtain ⟨fl, S1, e, h⟩ := h.get
  rw [e]
  cases fl with
  | rt d => show (Out.ok d _).wp Q; rw [wp_ok]; exact h
  | nx ε => show (Out.ok D.non _).wp Q; rw [wp_ok]; exact h
  | bk ε => exact h.elim
  | ct ε => exact h.elim
end
/-! ### loops -/
/-- a loop whose turns all go on -/
theorem wp_for {tgt : D → Env → Option Env} {body : Env → Sto → OutS} {Q : Fl → Sto → Prop} (J : Nat → Env → Sto → Prop) :
    ∀ (ds : List D) (i : Nat) (ε : Env) (S : Sto), J i ε S →
      (∀ k d ε S, ds[k]? = some d → J (i + k) ε S → ∃ ε1, tgt d ε = some ε1 ∧ (body ε1 S).wp fun f S2 => match f with
        | .nx ε2 => J (i + k + 1) ε2 S2
        | .ct ε2 => J (i + k + 1) ε2 S2
        | .bk ε2 => Q (.nx ε2) S2
        | .rt v => Q (.rt v) S2) →
      (∀ ε S, J (i + ds.length) ε S → Q (.nx ε) S) → (forLoop tgt body ds ε S).wp Q
  | [], i, ε, S, j, hs, hd => by
    unfold forLoop
    rw [wps_ok]
    exact hd ε S j
  | d :: r, i, ε, S, j, hs, hd => by
    unfold forLoop
    obtain ⟨ε1, e, h⟩ := hs 0 d ε S rfl j
    rw [e]
    have next : ∀ ε2 S2, J (i + 0 + 1) ε2 S2 → (forLoop tgt body r ε2 S2).wp Q := fun ε2 S2 j2 =>
      wp_for J r (i + 1) ε2 S2 j2 (fun k d ε S e j => by
        have := hs (k + 1) d ε S (by simpa using e) (by rw [show i + (k + 1) = i + 1 + k by omega]; exact j)
        rw [show i + (k + 1) = i + 1 + k by omega] at this
        exact this) fun ε S j => hd ε S (by rw [List.length_cons, show i + (r.length + 1) = i + 1 + r.length by omega]; exact j)
    dsimp only
    obtain ⟨f, S2, hb, h⟩ := h.get
    rw [hb]
    cases f with
    | nx ε2 => exact next ε2 S2 h
    | ct ε2 => exact next ε2 S2 h
    | bk ε2 => rw [wps_ok]; exact h
    | rt v => rw [wps_ok]; exact h
theorem wp_noX {α : Type} {r : Out α} {Q : α → Sto → Prop} : (noX r).wp Q = r.wp Q := by unfold Out.wp; cases r <;> rfl
/-- a comprehension: J i S at turn i, the results so far -/
theorem wp_lc {tgt : D → Option Env} {cond : Env → Sto → Out Bool} {elt : Env → Sto → Out D} {Q : List D → Sto → Prop} (J : Nat → List D → Sto → Prop) :
    ∀ (ds : List D) (i : Nat) (acc : List D) (S : Sto), J i acc S →
      (∀ k d a S, ds[k]? = some d → J (i + k) a S → ∃ ε, tgt d = some ε ∧ (cond ε S).wp fun b S1 => if b = true then (elt ε S1).wp fun y S2 => J (i + k + 1) (a ++ [y]) S2 else J (i + k + 1) a S1) →
      (∀ a S ys, J (i + ds.length) a S → a = acc ++ ys → Q ys S) → (lcLoop tgt cond elt ds S).wp Q
  | [], i, acc, S, j, hs, hd => by
    unfold lcLoop
    rw [wp_ok]
    exact hd acc S [] j (by simp)
  | d :: r, i, acc, S, j, hs, hd => by
    unfold lcLoop
    obtain ⟨ε, e, h⟩ := hs 0 d acc S rfl j
    rw [e]
    have next : ∀ (a2 : List D) (S2 : Sto) (Q2 : List D → Sto → Prop), J (i + 0 + 1) a2 S2 → (∀ a S ys, J (i + (d :: r).length) a S → a = a2 ++ ys → Q2 ys S) → (lcLoop tgt cond elt r S2).wp Q2 := fun a2 S2 Q2 j2 hq =>
      wp_lc J r (i + 1) a2 S2 j2 (fun k d a S e j => by
        have := hs (k + 1) d a S (by simpa using e) (by rw [show i + (k + 1) = i + 1 + k by omega]; exact j)
        rw [show i + (k + 1) = i + 1 + k by omega] at this
        exact this) fun a S ys j => hq a S ys (by rw [List.length_cons, show i + (r.length + 1) = i + 1 + r.length by omega]; exact j)
    dsimp only
    rw [wp_bind, wp_noX]
    refine h.mono fun b S1 h => ?_
    split
    · rename_i hb
      rw [if_pos hb] at h
      rw [wp_bind, wp_noX]
      refine h.mono fun y S2 h => ?_
      rw [wp_bind]
      refine next (acc ++ [y]) S2 _ h fun a S ys j e => ?_
      rw [wp_ok]
      exact hd a S (y :: ys) j (by rw [e]; simp)
    · rename_i hb
      rw [if_neg hb] at h
      exact next acc S1 _ h fun a S ys j e => hd a S ys j e
/-- a comprehension without draws -/
theorem lc_pure {tgt : D → Option Env} {cond : Env → Sto → Out Bool} {elt : Env → Sto → Out D} {S : Sto} (f : D → D) :
    ∀ ds : List D, (∀ d ∈ ds, ∃ ε, tgt d = some ε ∧ cond ε S = .ok true S ∧ elt ε S = .ok (f d) S) → lcLoop tgt cond elt ds S = .ok (ds.map f) S
  | [], _ => by unfold lcLoop; rfl
  | d :: r, h => by
    obtain ⟨ε, e1, e2, e3⟩ := h d List.mem_cons_self
    unfold lcLoop
    rw [e1]
    dsimp only
    rw [e2]
    show (noX (elt ε S)).bind _ = _
    rw [e3]
    show (lcLoop tgt cond elt r S).bind _ = _
    rw [lc_pure f r fun d m => h d (List.mem_cons_of_mem _ m)]
    rfl
/-- .. with a test -/
theorem lc_filter {tgt : D → Option Env} {cond : Env → Sto → Out Bool} {elt : Env → Sto → Out D} {S : Sto} (c : D → Bool) (f : D → D) :
    ∀ ds : List D, (∀ d ∈ ds, ∃ ε, tgt d = some ε ∧ cond ε S = .ok (c d) S ∧ (c d = true → elt ε S = .ok (f d) S)) → lcLoop tgt cond elt ds S = .ok ((ds.filter c).map f) S
  | [], _ => by unfold lcLoop; rfl
  | d :: r, h => by
    obtain ⟨ε, e1, e2, e3⟩ := h d List.mem_cons_self
    unfold lcLoop
    rw [e1]
    dsimp only
    rw [e2]
    have ih := lc_filter c f r fun d m => h d (List.mem_cons_of_mem _ m)
    show (if c d = true then (noX (elt ε S)).bind _ else _) = _
    cases hc : c d
    · rw [if_neg (by simp), ih, List.filter_cons, hc]; rfl
    · rw [if_pos rfl, e3 hc]
      show (lcLoop tgt cond elt r S).bind _ = _
      rw [ih, List.filter_cons, hc]; rfl
/-- a loop whose turns draw nothing and go on: a state β told by enc -/
theorem for_pure {β : Type} {tgt : D → Env → Option Env} {body : Env → Sto → OutS} {S : Sto} (enc : β → Env) (step : β → D → β) : ∀ (ds : List D) (b : β),
    (∀ d ∈ ds, ∀ b, ∃ ε1, tgt d (enc b) = some ε1 ∧ body ε1 S = .ok (.nx (enc (step b d))) S) → forLoop tgt body ds (enc b) S = .ok (.nx (enc (ds.foldl step b))) S
  | [], b, _ => by unfold forLoop; rfl
  | d :: r, b, h => by
    obtain ⟨ε1, e1, e2⟩ := h d List.mem_cons_self b
    unfold forLoop
    rw [e1]
    dsimp only
    rw [e2]
    exact for_pure enc step r (step b d) fun d m => h d (List.mem_cons_of_mem _ m)
end GG
namespace GG
open PySem PySem.Spec PyProof.Rows L2
section
variable {α β : Type}
theorem bind_ok {a : α} {S : Sto} {f : α → Sto → Out β} : (Out.ok a S).bind f = f a S := nrfl rfl
theorem bind_bad {f : α → Sto → Out β} : (Out.bad : Out α).bind f = .bad := nrfl rfl
theorem bind_ite {c : Prop} [Decidable c] {x y : Out α} {f : α → Sto → Out β} : (if c then x else y).bind f = if c then x.bind f else y.bind f := by split <;> rfl
theorem on_ok {a : α} {S : Sto} {ε : Env} {g : α → Sto → OutS} : (Out.ok a S).on ε g = g a S := nrfl rfl
theorem on_bad {ε : Env} {g : α → Sto → OutS} : (Out.bad : Out α).on ε g = .bad := nrfl rfl
theorem seq_nx {ε : Env} {S : Sto} {g : Env → Sto → OutS} : (OutS.ok (.nx ε) S).seq g = g ε S := nrfl rfl
theorem seq_rt {d : D} {S : Sto} {g : Env → Sto → OutS} : (OutS.ok (.rt d) S).seq g = .ok (.rt d) S := nrfl rfl
theorem seq_bk {ε : Env} {S : Sto} {g : Env → Sto → OutS} : (OutS.ok (.bk ε) S).seq g = .ok (.bk ε) S := nrfl rfl
theorem seq_ct {ε : Env} {S : Sto} {g : Env → Sto → OutS} : (OutS.ok (.ct ε) S).seq g = .ok (.ct ε) S := nrfl rfl
theorem seq_bad {g : Env → Sto → OutS} : OutS.bad.seq g = .bad := nrfl rfl
end
theorem bind_cg {α β : Type} {r r' : Out α} {f : α → Sto → Out β} (h : r = r') : r.bind f = r'.bind f := by rw [h]
theorem on_cg {α : Type} {r r' : Out α} {ε : Env} {f : α → Sto → OutS} (h : r = r') : r.on ε f = r'.on ε f := by rw [h]
theorem seq_cg {r r' : OutS} {f : Env → Sto → OutS} (h : r = r') : r.seq f = r'.seq f := by rw [h]
theorem wp_cg {α : Type} {r r' : Out α} {f : α → Sto → Prop} (h : r = r') : r.wp f = r'.wp f := by rw [h]
theorem wps_cg {r r' : OutS} {f : Fl → Sto → Prop} (h : r = r') : r.wp f = r'.wp f := by rw [h]
theorem ite_cg {α : Type} {c c' : Prop} [Decidable c] [Decidable c'] {x y : Out α} (h : c = c') : (if c then x else y) = if c' then x else y := by subst h; congr
theorem ites_cg {c c' : Prop} [Decidable c] [Decidable c'] {x y : OutS} (h : c = c') : (if c then x else y) = if c' then x else y := by subst h; congr
theorem of_some {α : Type} {S : Sto} {a : α} : Out.of S (some a) = .ok a S := nrfl rfl
theorem of_none {α : Type} {S : Sto} : (Out.of S none : Out α) = .bad := nrfl rfl
theorem of_ite {α : Type} {S : Sto} {c : Prop} [Decidable c] {a b : Option α} : Out.of S (if c then a else b) = if c then Out.of S a else Out.of S b := by split <;> rfl
theorem onO_some' {α : Type} {a : α} {g : α → OutS} : onO (some a) g = g a := nrfl rfl
section
variable {cl : Nat → List D → Sto → Out D} {ε : Env} {S : Sto}
theorem ee_v {i : Nat} : evE cl (.v i) ε S = .of S (rdE ε i) := by simp only [evE]
theorem ee_c {d : D} : evE cl (.c d) ε S = .ok d S := by simp only [evE]
theorem ee_g {x : Str} {d : D} : evE cl (.g x d) ε S = .ok d S := by simp only [evE]
theorem ee_bop {o : Operator} {a b : Ex} : evE cl (.bop o a b) ε S = (evE cl a ε S).bind fun x S1 => (evE cl b ε S1).bind fun y S2 => .of S2 (binF o x y) := by simp only [evE]
theorem ee_neg {a : Ex} : evE cl (.neg a) ε S = (evE cl a ε S).bind fun x S1 => match x with | .int i => .ok (.int (-i)) S1 | _ => .bad := by simp only [evE] <;> rfl
theorem ee_not {a : Ex} : evE cl (.not a) ε S = (evE cl a ε S).bind fun x S1 => (Out.of S1 (tru x)).bind fun b S2 => .ok (.bl (!b)) S2 := by simp only [evE]
theorem ee_cmp {o : CmpOp} {a b : Ex} : evE cl (.cmp o a b) ε S = (evE cl a ε S).bind fun x S1 => (evE cl b ε S1).bind fun y S2 => .of S2 (cmpF o x y) := by simp only [evE]
theorem ee_chain {o o' : CmpOp} {a b c : Ex} : evE cl (.chain o o' a b c) ε S = (evE cl a ε S).bind fun x S1 => (evE cl b ε S1).bind fun y S2 => (Out.of S2 (cmpF o x y)).bind fun r S3 => match r with
    | .bl true => (evE cl c ε S3).bind fun z S4 => .of S4 (cmpF o' y z)
    | .bl false => .ok (.bl false) S3
    | _ => .bad := by simp only [evE] <;> rfl
theorem ee_and {a : Ex} {es : List Ex} : evE cl (.and a es) ε S = (evE cl a ε S).bind fun x S1 => evAnd cl es x ε S1 := by simp only [evE]
theorem ee_or {a : Ex} {es : List Ex} : evE cl (.or a es) ε S = (evE cl a ε S).bind fun x S1 => evOr cl es x ε S1 := by simp only [evE]
theorem ee_ife {t a b : Ex} : evE cl (.ife t a b) ε S = (evE cl t ε S).bind fun x S1 => (Out.of S1 (tru x)).bind fun k S2 => if k = true then evE cl a ε S2 else evE cl b ε S2 := by simp only [evE]
theorem ee_tup {es : List Ex} : evE cl (.tup es) ε S = (evEs cl es ε S).bind fun ds S1 => if ds.length ≤ sizeLine then .ok (.tup ds) S1 else .bad := by simp only [evE]
theorem ee_lst {es : List Ex} : evE cl (.lst es) ε S = (evEs cl es ε S).bind fun ds S1 => if ds.length ≤ sizeLine then .ok (.lst ds) S1 else .bad := by simp only [evE]
theorem ee_dct {ks : List Key} {es : List Ex} : evE cl (.dct ks es) ε S = (evEs cl es ε S).bind fun ds S1 => if ds.length ≤ 15 then .ok (.dct (mergeD [] (ks.zip ds))) S1 else .bad := by simp only [evE]
theorem ee_ix {a i : Ex} : evE cl (.ix a i) ε S = (evE cl a ε S).bind fun x S1 => (evE cl i ε S1).bind fun y S2 => .of S2 (opIx x y) := by simp only [evE]
theorem ee_sl {a : Ex} {lo hi : List Ex} : evE cl (.sl a lo hi) ε S = (evE cl a ε S).bind fun x S1 => (evO cl lo ε S1).bind fun l S2 => (evO cl hi ε S2).bind fun h S3 => .of S3 (opSl x l h) := by simp only [evE]
theorem ee_rev {a : Ex} : evE cl (.rev a) ε S = (evE cl a ε S).bind fun x S1 => .of S1 (opRev x) := by simp only [evE]
theorem ee_call {f : Nat} {es : List Ex} : evE cl (.call f es) ε S = (evEs cl es ε S).bind fun ds S1 => cl f ds S1 := by simp only [evE]
theorem ee_bi {b : Bi} {es : List Ex} : evE cl (.bi b es) ε S = (evEs cl es ε S).bind fun ds S1 => .of S1 (biF b ds) := by simp only [evE]
theorem ee_isi {a : Ex} {t : Ty} : evE cl (.isi a t) ε S = (evE cl a ε S).bind fun x S1 => .of S1 (isiF t x) := by simp only [evE]
theorem ee_me {m : Me} {o : Ex} {es : List Ex} : evE cl (.me m o es) ε S = (evE cl o ε S).bind fun x S1 => if meR m x = true then (evEs cl es ε S1).bind fun ds S2 => .of S2 (meF m x ds) else .bad := by simp only [evE]
theorem ee_lc {e : Ex} {own : List Nat} {tg : Tg} {it : Ex} {ifs : List Ex} : evE cl (.lc e own tg it ifs) ε S = (evI cl it ε S).bind fun p S1 =>
    (lcLoop (fun d => tgS tg d (wipeE (fz (vs (.lc e own tg it ifs)) ε) own)) (evTs cl ifs) (evE cl e) p.1 S1).bind fun ys S2 => .ok (.lst ys) S2 := by simp only [evE]
theorem ee_six {i j : Nat} : evE cl (.six i j) ε S = .of S ((rdE ε i).bind fun d => sixF d j S) := by simp only [evE]
theorem ee_mkS {f : Nat} {es : List Ex} : evE cl (.mkS f es) ε S = (evEs cl es ε S).bind fun ds S1 => (cl f ds S1).bind mkF := by simp only [evE]
theorem es_nil : evEs cl [] ε S = .ok [] S := by simp only [evEs]
theorem es_cons {e : Ex} {es : List Ex} : evEs cl (e :: es) ε S = (evE cl e ε S).bind fun x S1 => (evEs cl es ε S1).bind fun xs S2 => .ok (x :: xs) S2 := by simp only [evEs]
theorem ea_nil {x : D} : evAnd cl [] x ε S = .ok x S := by simp only [evAnd]
theorem ea_cons {x : D} {e : Ex} {es : List Ex} : evAnd cl (e :: es) x ε S = (Out.of S (tru x)).bind fun b S1 => if b = true then (evE cl e ε S1).bind fun y S2 => evAnd cl es y ε S2 else .ok x S1 := by simp only [evAnd]
theorem eo_nil {x : D} : evOr cl [] x ε S = .ok x S := by simp only [evOr]
theorem eo_cons {x : D} {e : Ex} {es : List Ex} : evOr cl (e :: es) x ε S = (Out.of S (tru x)).bind fun b S1 => if b = true then .ok x S1 else (evE cl e ε S1).bind fun y S2 => evOr cl es y ε S2 := by simp only [evOr]
theorem eO_nil : evO cl [] ε S = .ok none S := by simp only [evO]
theorem eO_cons {e : Ex} {es : List Ex} : evO cl (e :: es) ε S = (evE cl e ε S).bind fun d S1 => .of S1 (asInt d) := by simp only [evO]
theorem et_nil : evTs cl [] ε S = .ok true S := by simp only [evTs]
theorem et_cons {e : Ex} {es : List Ex} : evTs cl (e :: es) ε S = (evE cl e ε S).bind fun d S1 => .of S1 (tru d) := by simp only [evTs]
theorem ei_rng {es : List Ex} : evI cl (.rng es) ε S = (evEs cl es ε S).bind fun ds S1 => .of S1 ((iterR ds).map fun its => (its, true)) := by simp only [evI]
theorem ei_enum {e : Ex} : evI cl (.enum e) ε S = (evE cl e ε S).bind fun d S1 => .of S1 ((iterN d).map fun its => (its, d.still)) := by simp only [evI]
theorem ei_zip {a b : Ex} : evI cl (.zip a b) ε S = (evE cl a ε S).bind fun d S1 => (evE cl b ε S1).bind fun d' S2 => .of S2 ((iterZ d d').map fun its => (its, d.still && d'.still)) := by simp only [evI]
theorem ei_itv {e : Ex} : evI cl (.itv e) ε S = (evE cl e ε S).bind fun d S1 => .of S1 ((iterV d).map fun its => (its, d.still)) := by simp only [evI]
theorem st_nil : evSs cl [] ε S = .ok (.nx ε) S := by simp only [evSs]
theorem st_cons {s : Sm} {r : List Sm} : evSs cl (s :: r) ε S = (evS cl s ε S).seq (evSs cl r) := by simp only [evSs]
theorem sm_ret {e : Ex} : evS cl (.ret e) ε S = (evE cl e ε S).on ε fun d S1 => .ok (.rt d) S1 := by simp only [evS]
theorem sm_retN : evS cl .retN ε S = .ok (.rt .non) S := by simp only [evS]
theorem sm_set {tg : Tg} {e : Ex} : evS cl (.set tg e) ε S = (evE cl e ε S).on ε fun d S1 => onO (setF tg e d ε) fun ε1 => .ok (.nx ε1) S1 := by simp only [evS]
theorem sm_aug {i : Nat} {o : Operator} {e : Ex} : evS cl (.aug i o e) ε S = onO (rdE ε i) fun x => (evE cl e ε S).on ε fun y S1 => onO (binF o x y) fun d => if d.still = true ∧ i < ε.length then .ok (.nx (ε.set i (.v d))) S1 else .bad := by simp only [evS]
theorem sm_par {i j : Nat} {a b : Ex} : evS cl (.par i j a b) ε S = (evE cl a ε S).on ε fun x S1 => (evE cl b ε S1).on ε fun y S2 => if i < ε.length ∧ j < ε.length then .ok (.nx (((fzV a x (fzV b y ε)).set i (.v x)).set j (.v y))) S2 else .bad := by simp only [evS]
theorem sm_put {i : Nat} {k e : Ex} : evS cl (.put i k e) ε S = if ownB ε i = true then (evE cl e ε S).on ε fun d S1 => (evE cl k ε S1).on ε fun y S2 => onO (chg (fzV e d ε) i fun o => putF o y d) fun ε1 => .ok (.nx ε1) S2 else .bad := by simp only [evS]
theorem sm_app {i : Nat} {e : Ex} : evS cl (.app i e) ε S = if ownL ε i = true then (evE cl e ε S).on ε fun d S1 => onO (chg (fzV e d ε) i fun o => appF o d) fun ε1 => .ok (.nx ε1) S1 else .bad := by simp only [evS]
theorem sm_ext {i : Nat} {e : Ex} : evS cl (.ext i e) ε S = if ownL ε i = true then (evE cl e ε S).on ε fun d S1 => onO (chg (fzN e d ε) i fun o => extF o d) fun ε1 => .ok (.nx ε1) S1 else .bad := by simp only [evS]
theorem sm_sput {i j : Nat} {e : Ex} : evS cl (.sput i j e) ε S = (evE cl e ε S).on ε fun d S1 => onO (sputF (rdE ε i) d j S1) fun S2 => .ok (.nx ε) S2 := by simp only [evS]
theorem sm_ife {c : Ex} {t e : List Sm} : evS cl (.ife c t e) ε S = ((evE cl c ε S).bind fun d S1 => .of S1 (tru d)).on ε fun b S1 => if b = true then evSs cl t ε S1 else evSs cl e ε S1 := by simp only [evS]
theorem sm_for {tg : Tg} {it : Ex} {b : List Sm} : evS cl (.for_ tg it b) ε S = (evI cl it ε S).on ε fun p S1 => forLoop (tgS tg) (evSs cl b) p.1 (if p.2 = true then ε else fz (vs it) ε) S1 := by simp only [evS]
theorem sm_ex {e : Ex} : evS cl (.ex e) ε S = (evE cl e ε S).on ε fun _ S1 => .ok (.nx ε) S1 := by simp only [evS]
theorem sm_pass : evS cl .pass ε S = .ok (.nx ε) S := by simp only [evS]
theorem sm_brk : evS cl .brk ε S = .ok (.bk ε) S := by simp only [evS]
theorem sm_cont : evS cl .cont ε S = .ok (.ct ε) S := by simp only [evS]
/-- a comprehension without draws -/
theorem ev_lc {e : Ex} {own : List Nat} {tg : Tg} {it : Ex} {p : List D × Bool} {S1 : Sto} (f : D → D) (hi : evI cl it ε S = .ok p S1)
    (h : ∀ d ∈ p.1, ∃ ε', tgS tg d (wipeE (fz (vs (.lc e own tg it [])) ε) own) = some ε' ∧ evE cl e ε' S1 = .ok (f d) S1) :
    evE cl (.lc e own tg it []) ε S = .ok (.lst (p.1.map f)) S1 := by
  rw [ee_lc, hi, bind_ok, lc_pure f p.1 fun d m => let ⟨ε', a, b⟩ := h d m; ⟨ε', a, et_nil, b⟩, bind_ok]
theorem ev_lcf {e c : Ex} {own : List Nat} {tg : Tg} {it : Ex} {p : List D × Bool} {S1 : Sto} (g : D → Bool) (f : D → D) (hi : evI cl it ε S = .ok p S1)
    (h : ∀ d ∈ p.1, ∃ ε', tgS tg d (wipeE (fz (vs (.lc e own tg it [c])) ε) own) = some ε' ∧ evTs cl [c] ε' S1 = .ok (g d) S1 ∧ (g d = true → evE cl e ε' S1 = .ok (f d) S1)) :
    evE cl (.lc e own tg it [c]) ε S = .ok (.lst ((p.1.filter g).map f)) S1 := by
  rw [ee_lc, hi, bind_ok, lc_filter g f p.1 h, bind_ok]
end
theorem sl_eq : sizeLine = 16777216 := rfl
section
theorem boolsOf_map {α : Type} (g : α → Bool) : ∀ ds : List α, boolsOf (ds.map fun d => .bl (g d)) = some (ds.map g)
  | [] => rfl
  | d :: r => by simp [boolsOf, boolsOf_map g r]
theorem intsOf_map {α : Type} (g : α → Int) : ∀ ds : List α, intsOf (ds.map fun d => .int (g d)) = some (ds.map g)
  | [] => rfl
  | d :: r => by simp [intsOf, intsOf_map g r]
theorem bi_all_map {α : Type} {g : α → Bool} {xs : List α} : biF .all [.lst (xs.map fun x => .bl (g x))] = some (.bl (xs.all g)) := by
  simp [biF, lstOf, boolsOf_map, List.all_map, Function.comp_def]
theorem still_ints {α : Type} (g : α → Int) : ∀ xs : List α, D.stills (xs.map fun x => .int (g x)) = true
  | [] => rfl
  | x :: r => by simp [D.stills, D.still, still_ints g r]
end
theorem tg_n {i : Nat} {d : D} {ε : Env} : tgS (.n i) d ε = if i < ε.length then some (ε.set i (.v d)) else none := by simp only [tgS]
theorem tg_t {ts : List Tg} {ds : List D} {ε : Env} : tgS (.t ts) (.tup ds) ε = tgsS ts ds ε := by simp only [tgS]
theorem tg_l {ts : List Tg} {ds : List D} {ε : Env} : tgS (.t ts) (.lst ds) ε = tgsS ts ds ε := by simp only [tgS]
theorem tgs_nil {ε : Env} : tgsS [] [] ε = some ε := by simp only [tgsS]
theorem tgs_cons {t : Tg} {ts : List Tg} {d : D} {ds : List D} {ε : Env} : tgsS (t :: ts) (d :: ds) ε = match tgS t d ε with
    | some ε1 => tgsS ts ds ε1
    | none => none := by simp only [tgsS] <;> rfl
theorem u_fn {Pg : List Fd} {f : Fd} {i : Nat} (n : Nat) (h : Pg[i]? = some f) (hk : f.pk = .own) : evF Pg (n + 1) i = runF (evF Pg n) f := by
  funext ds S
  show (match Pg[i]? with | some f => if f.pk = Pk.mk then runM (evF Pg n) f ds S else runF (evF Pg n) f ds S | none => .bad) = _
  rw [h]
  show (if f.pk = Pk.mk then _ else _) = _
  rw [hk]; rfl
theorem u_fm {Pg : List Fd} {f : Fd} {i : Nat} (n : Nat) (h : Pg[i]? = some f) (hk : f.pk = .mk) : evF Pg (n + 1) i = runM (evF Pg n) f := by
  funext ds S
  show (match Pg[i]? with | some f => if f.pk = Pk.mk then runM (evF Pg n) f ds S else runF (evF Pg n) f ds S | none => .bad) = _
  rw [h]
  show (if f.pk = Pk.mk then _ else _) = _
  rw [hk]; rfl
end GG
open PySem PySem.Spec PyProof.Rows L2 GG
local macro_rules
  | `(tactic| simp! [$ls,*]) => `(tactic| simp [-GG.Out.bind_ok, -GG.Out.bind_exc, -GG.Out.bind_bad, GG.bind_ok, GG.bind_bad, GG.bind_ite, GG.on_ok, GG.on_bad, GG.seq_nx, GG.seq_rt, GG.seq_bk, GG.seq_ct, GG.seq_bad, GG.of_some, GG.of_none, GG.of_ite, GG.onO_some', GG.rdE, GG.ee_v, GG.ee_c, GG.ee_g, GG.ee_bop, GG.ee_neg, GG.ee_not, GG.ee_cmp, GG.ee_chain, GG.ee_and, GG.ee_or, GG.ee_ife, GG.ee_tup, GG.ee_lst, GG.ee_dct, GG.ee_ix, GG.ee_sl, GG.ee_rev, GG.ee_call, GG.ee_bi, GG.ee_isi, GG.ee_me, GG.ee_six, GG.ee_mkS, GG.es_nil, GG.es_cons, GG.ea_nil, GG.ea_cons, GG.eo_nil, GG.eo_cons, GG.eO_nil, GG.eO_cons, GG.et_nil, GG.et_cons, GG.ei_rng, GG.ei_enum, GG.ei_zip, GG.ei_itv, GG.st_nil, GG.st_cons, GG.sm_ret, GG.sm_retN, GG.sm_set, GG.sm_aug, GG.sm_par, GG.sm_put, GG.sm_app, GG.sm_ext, GG.sm_sput, GG.sm_ife, GG.sm_for, GG.sm_ex, GG.sm_pass, GG.sm_brk, GG.sm_cont, GG.wp_ok, GG.wp_bad, GG.wp_bind, GG.wps_ok, GG.wps_bad, GG.wp_on, GG.wp_seq, GG.tg_n, GG.tg_t, GG.tg_l, GG.tgs_nil, GG.tgs_cons, GG.wipeE, GG.fz, GG.fzF, GG.fzV, GG.fzN, GG.Sl.frz, GG.vs, GG.vss, GG.setF, GG.fresh, GG.chg, GG.ownB, GG.ownL, GG.appF, GG.extF, GG.putF, GG.D.still, GG.D.stills, GG.D.still1, GG.tru, GG.tyName, GG.isiF, GG.Ty.name, GG.cmpF, GG.binF, GG.opAdd, GG.opSub, GG.opMul, GG.opDiv, GG.opMod, GG.opPow, GG.opSh, GG.opEq, GG.opInt, GG.opIs, GG.biF, GG.lenOf, GG.lstOf, GG.seqOf, GG.iterV, GG.iterN, GG.asInt, GG.keyOf, GG.keysOf, GG.meR, GG.sixF, GG.sputF, GG.t3, GG.t3set, GG.sl_eq, $ls,*])
  | `(tactic| simp! [$ls,*] at $h:ident) => `(tactic| simp [-GG.Out.bind_ok, -GG.Out.bind_exc, -GG.Out.bind_bad, GG.bind_ok, GG.bind_bad, GG.bind_ite, GG.on_ok, GG.on_bad, GG.seq_nx, GG.seq_rt, GG.seq_bk, GG.seq_ct, GG.seq_bad, GG.of_some, GG.of_none, GG.of_ite, GG.onO_some', GG.rdE, GG.ee_v, GG.ee_c, GG.ee_g, GG.ee_bop, GG.ee_neg, GG.ee_not, GG.ee_cmp, GG.ee_chain, GG.ee_and, GG.ee_or, GG.ee_ife, GG.ee_tup, GG.ee_lst, GG.ee_dct, GG.ee_ix, GG.ee_sl, GG.ee_rev, GG.ee_call, GG.ee_bi, GG.ee_isi, GG.ee_me, GG.ee_six, GG.ee_mkS, GG.es_nil, GG.es_cons, GG.ea_nil, GG.ea_cons, GG.eo_nil, GG.eo_cons, GG.eO_nil, GG.eO_cons, GG.et_nil, GG.et_cons, GG.ei_rng, GG.ei_enum, GG.ei_zip, GG.ei_itv, GG.st_nil, GG.st_cons, GG.sm_ret, GG.sm_retN, GG.sm_set, GG.sm_aug, GG.sm_par, GG.sm_put, GG.sm_app, GG.sm_ext, GG.sm_sput, GG.sm_ife, GG.sm_for, GG.sm_ex, GG.sm_pass, GG.sm_brk, GG.sm_cont, GG.wp_ok, GG.wp_bad, GG.wp_bind, GG.wps_ok, GG.wps_bad, GG.wp_on, GG.wp_seq, GG.tg_n, GG.tg_t, GG.tg_l, GG.tgs_nil, GG.tgs_cons, GG.wipeE, GG.fz, GG.fzF, GG.fzV, GG.fzN, GG.Sl.frz, GG.vs, GG.vss, GG.setF, GG.fresh, GG.chg, GG.ownB, GG.ownL, GG.appF, GG.extF, GG.putF, GG.D.still, GG.D.stills, GG.D.still1, GG.tru, GG.tyName, GG.isiF, GG.Ty.name, GG.cmpF, GG.binF, GG.opAdd, GG.opSub, GG.opMul, GG.opDiv, GG.opMod, GG.opPow, GG.opSh, GG.opEq, GG.opInt, GG.opIs, GG.biF, GG.lenOf, GG.lstOf, GG.seqOf, GG.iterV, GG.iterN, GG.asInt, GG.keyOf, GG.keysOf, GG.meR, GG.sixF, GG.sputF, GG.t3, GG.t3set, GG.sl_eq, $ls,*] at $h:ident)
namespace GG
open PySem PySem.Spec PyProof.Rows L2
theorem runF_rt {cl : Nat → List D → Sto → Out D} {f : Fd} {ds : List D} {S S1 : Sto} {ε : Env} {d : D} (he : ds.map .v ++ List.replicate (f.N.length - ds.length) .u = ε)
    (h : evSs cl f.body ε S = .ok (.rt d) S1) : runF cl f ds S = .ok d S1 := by
  subst he
  unfold runF
  rw [h]
theorem rng_nat (cl : Nat → List D → Sto → Out D) (S : Sto) (ε : Env) (e : Ex) (n : Nat) (hn : n ≤ 10) (h : evE cl e ε S = .ok (.int n) S) : evI cl (.rng [e]) ε S = .ok ((List.range n).map fun (w : Nat) => .int (w : Nat), true) S := by
  rw [ei_rng, es_cons, h, bind_ok, es_nil, bind_ok, bind_ok]
  have : ∀ n ≤ 10, iterR [.int ((n : Nat) : Int)] = some ((List.range n).map fun (w : Nat) => .int (w : Nat)) := fun n h => by
    match n, h with
    | 0, _ => rfl
    | 1, _ => rfl
    | 2, _ => rfl
    | 3, _ => rfl
    | 4, _ => rfl
    | 5, _ => rfl
    | 6, _ => rfl
    | 7, _ => rfl
    | 8, _ => rfl
    | 9, _ => rfl
    | 10, _ => rfl
  rw [this n hn, Option.map_some, of_some]
theorem pys_ints : ∀ xs : List Int, pys (xs.map .int) = some (xs.map PyData.int)
  | [] => rfl
  | x :: r => by simp [pys, py, pys_ints r]
theorem lay_ints : ∀ xs : List Int, PyData.canLayAll0 (xs.map PyData.int) = true
  | [] => rfl
  | x :: r => by simp [PyData.canLayAll0, PyData.canLay0, lay_ints r]
theorem depth_ints : ∀ xs : List Int, PyData.depthAll (xs.map PyData.int) = 0
  | [] => rfl
  | x :: r => by simp [PyData.depthAll, PyData.depth, depth_ints r]
theorem eqv_ints : ∀ xs ys : List Int, PyData.eqvAll (xs.map PyData.int) (ys.map PyData.int) = decide (xs = ys)
  | [], [] => rfl
  | x :: r, [] => by simp [PyData.eqvAll]
  | [], y :: s => by simp [PyData.eqvAll]
  | x :: r, y :: s => by
    have := eqv_ints r s
    rw [Bool.eq_iff_iff] at *
    simp [PyData.eqvAll, PyData.eqv, this] at *
theorem eq_tup (n : Bool) (xs ys : List Int) : opEq n (.tup (xs.map .int)) (.tup (ys.map .int)) = some (.bl (if n then !decide (xs = ys) else decide (xs = ys))) := by
  simp [opEq, py, pys_ints, SeqAt.shaped, PyData.canLay0, PyData.depth, lay_ints, depth_ints, PyData.eqv, eqv_ints]
theorem eq_lst (n : Bool) (xs ys : List Int) : opEq n (.lst (xs.map .int)) (.lst (ys.map .int)) = some (.bl (if n then !decide (xs = ys) else decide (xs = ys))) := by
  simp [opEq, py, pys_ints, SeqAt.shaped, PyData.canLay0, PyData.depth, lay_ints, depth_ints, PyData.eqv, eqv_ints]
end GG
namespace GG
open PySem PySem.Spec PyProof.Rows L2
inductive All2 {α β : Type} (P : α → β → Prop) : List α → List β → Prop where
  | nil : All2 P [] []
  | cons {x : α} {y : β} {xs : List α} {ys : List β} (h : P x y) (t : All2 P xs ys) : All2 P (x :: xs) (y :: ys)
theorem All2.len {α β : Type} {P : α → β → Prop} {xs : List α} {ys : List β} (h : All2 P xs ys) : ys.length = xs.length := by
  induction h with
  | nil => rfl
  | cons h t ih => rw [List.length_cons, List.length_cons, ih]
/-- the results told by a function -/
theorem All2.pick {α β γ : Type} {Q : γ → Prop} {en : γ → β} {xs : List α} {ys : List β} (h : All2 (fun _ y => ∃ c, y = en c ∧ Q c) xs ys) : ∃ cs : List γ, ys = cs.map en ∧ (∀ c ∈ cs, Q c) ∧ cs.length = xs.length := by
  induction h with
  | nil => exact ⟨[], rfl, fun c m => absurd m List.not_mem_nil, rfl⟩
  | cons h t ih =>
    obtain ⟨c, rfl, q⟩ := h
    obtain ⟨cs, rfl, q2, l⟩ := ih
    refine ⟨c :: cs, rfl, fun d m => ?_, by simp [l]⟩
    rcases List.mem_cons.mp m with rfl | m
    · exact q
    · exact q2 d m
/-- .. and each by its own thing -/
theorem All2.pickP {α β γ : Type} {P : α → γ → Prop} {en : γ → β} {xs : List α} {ys : List β} (h : All2 (fun x y => ∃ c, y = en c ∧ P x c) xs ys) : ∃ cs : List γ, ys = cs.map en ∧ All2 P xs cs := by
  induction h with
  | nil => exact ⟨[], rfl, .nil⟩
  | cons h t ih =>
    obtain ⟨c, rfl, q⟩ := h
    obtain ⟨cs, rfl, q2⟩ := ih
    exact ⟨c :: cs, rfl, .cons q q2⟩
/-! ## comprehensions as maps -/
section
variable {α β γ : Type}
def mapO (g : α → Sto → Out β) : List α → Sto → Out (List β)
  | [], S => .ok [] S
  | x :: r, S => (g x S).bind fun y S1 => (mapO g r S1).bind fun ys S2 => .ok (y :: ys) S2
def filO (c : α → Sto → Out Bool) (g : α → Sto → Out β) : List α → Sto → Out (List β)
  | [], S => .ok [] S
  | x :: r, S => (c x S).bind fun b S1 => if b = true then (g x S1).bind fun y S2 => (filO c g r S2).bind fun ys S3 => .ok (y :: ys) S3 else filO c g r S1
theorem noX_ok {a : α} {S : Sto} : noX (Out.ok a S) = .ok a S := nrfl rfl
theorem noX_bad {S : Sto} : noX (Out.bad : Out α) = .bad := nrfl rfl
theorem noX_ite {c : Prop} [Decidable c] {x y : Out α} : noX (if c then x else y) = if c then noX x else noX y := by split <;> rfl
theorem lcLoop_mapO {tgt : D → Option Env} {elt : Env → Sto → Out D} (t : D → Env) (h : ∀ d, tgt d = some (t d)) : ∀ (ds : List D) (S : Sto),
    lcLoop tgt (fun _ S => .ok true S) elt ds S = mapO (fun d S => noX (elt (t d) S)) ds S
  | [], S => by unfold lcLoop mapO; rfl
  | d :: r, S => by
    unfold lcLoop mapO
    rw [h d]
    dsimp only
    rw [noX_ok, bind_ok, if_pos rfl]
    congr 1
    funext y S1
    rw [lcLoop_mapO t h r S1]
theorem lcLoop_filO {tgt : D → Option Env} {c : Env → Sto → Out Bool} {elt : Env → Sto → Out D} (t : D → Env) (h : ∀ d, tgt d = some (t d)) : ∀ (ds : List D) (S : Sto),
    lcLoop tgt c elt ds S = filO (fun d S => noX (c (t d) S)) (fun d S => noX (elt (t d) S)) ds S
  | [], S => by unfold lcLoop filO; rfl
  | d :: r, S => by
    unfold lcLoop filO
    rw [h d]
    dsimp only
    congr 1
    funext b S1
    split
    · congr 1
      funext y S2
      rw [lcLoop_filO t h r S2]
    · exact lcLoop_filO t h r S1
theorem wipe_len : ∀ (xs : List Nat) (ε : Env), (wipeE ε xs).length = ε.length
  | [], ε => rfl
  | v :: vs, ε => by simp [wipeE, wipe_len vs ε]
variable {cl : Nat → List D → Sto → Out D} {ε : Env} {S : Sto}
theorem ee_lcn {e : Ex} {own : List Nat} {i : Nat} {it : Ex} (hi : i < ε.length) : evE cl (.lc e own (.n i) it []) ε S =
    (evI cl it ε S).bind fun p S1 => (mapO (fun d S => noX (evE cl e ((wipeE (fz (vs (.lc e own (.n i) it [])) ε) own).set i (.v d)) S)) p.1 S1).bind fun ys S2 => .ok (.lst ys) S2 := by
  rw [ee_lc]
  congr 1
  funext p S1
  have ht : evTs cl [] = fun _ S => .ok true S := by funext ε S; exact et_nil
  rw [ht, lcLoop_mapO (fun d => (wipeE (fz (vs (.lc e own (.n i) it [])) ε) own).set i (.v d)) fun d => by rw [tg_n, if_pos (by rw [wipe_len, fz_len]; exact hi)]]
theorem ee_lcf {e c : Ex} {own : List Nat} {i : Nat} {it : Ex} (hi : i < ε.length) : evE cl (.lc e own (.n i) it [c]) ε S =
    (evI cl it ε S).bind fun p S1 => (filO (fun d S => noX ((evE cl c ((wipeE (fz (vs (.lc e own (.n i) it [c])) ε) own).set i (.v d)) S).bind fun d S1 => .of S1 (tru d)))
      (fun d S => noX (evE cl e ((wipeE (fz (vs (.lc e own (.n i) it [c])) ε) own).set i (.v d)) S)) p.1 S1).bind fun ys S2 => .ok (.lst ys) S2 := by
  rw [ee_lc]
  congr 1
  funext p S1
  have ht : evTs cl [c] = fun ε S => (evE cl c ε S).bind fun d S1 => .of S1 (tru d) := by funext ε S; exact et_cons
  rw [ht, lcLoop_filO (fun d => (wipeE (fz (vs (.lc e own (.n i) it [c])) ε) own).set i (.v d)) fun d => by rw [tg_n, if_pos (by rw [wipe_len, fz_len]; exact hi)]]
theorem mapO_map {g : β → Sto → Out γ} {f : α → β} : ∀ {xs : List α} {S : Sto}, mapO g (xs.map f) S = mapO (fun x => g (f x)) xs S
  | [], S => rfl
  | x :: r, S => by
    rw [List.map_cons]
    unfold mapO
    congr 1
    funext y S1
    rw [mapO_map]
theorem filO_map {c : β → Sto → Out Bool} {g : β → Sto → Out γ} {f : α → β} : ∀ {xs : List α} {S : Sto}, filO c g (xs.map f) S = filO (fun x => c (f x)) (fun x => g (f x)) xs S
  | [], S => rfl
  | x :: r, S => by
    rw [List.map_cons]
    unfold filO
    congr 1
    funext b S1
    rw [filO_map]
    split
    · congr 1
      funext y S2
      rw [filO_map]
    · rfl
theorem mapO_ok {f : α → β} : ∀ {xs : List α} {S : Sto}, mapO (fun x S => .ok (f x) S) xs S = .ok (xs.map f) S
  | [], S => rfl
  | x :: r, S => by unfold mapO; rw [bind_ok, mapO_ok, bind_ok, List.map_cons]
theorem filO_ok {c : α → Bool} {f : α → β} : ∀ {xs : List α} {S : Sto}, filO (fun x S => .ok (c x) S) (fun x S => .ok (f x) S) xs S = .ok ((xs.filter c).map f) S
  | [], S => rfl
  | x :: r, S => by
    unfold filO
    rw [bind_ok, List.filter_cons, filO_ok]
    cases c x
    · rfl
    · show (filO (fun x S => .ok (c x) S) (fun x S => .ok (f x) S) r S).bind _ = _
      rw [filO_ok]
      rfl
theorem mapO_congr {g g' : α → Sto → Out β} {xs ys : List α} {S T : Sto} (hx : xs = ys) (hs : S = T) (h : ∀ x ∈ ys, ∀ S, g x S = g' x S) : mapO g xs S = mapO g' ys T := by
  subst hx hs
  induction xs generalizing S with
  | nil => rfl
  | cons x r ih =>
    unfold mapO
    rw [h x List.mem_cons_self]
    congr 1
    funext y S1
    rw [ih fun x m => h x (List.mem_cons_of_mem _ m)]
theorem filO_congr {c c' : α → Sto → Out Bool} {g g' : α → Sto → Out β} {xs ys : List α} {S T : Sto} (hx : xs = ys) (hs : S = T) (hc : ∀ x ∈ ys, ∀ S, c x S = c' x S) (h : ∀ x ∈ ys, ∀ S, g x S = g' x S) :
    filO c g xs S = filO c' g' ys T := by
  subst hx hs
  induction xs generalizing S with
  | nil => rfl
  | cons x r ih =>
    unfold filO
    rw [hc x List.mem_cons_self]
    congr 1
    funext b S1
    have ih' := fun S => @ih S (fun x m => hc x (List.mem_cons_of_mem _ m)) (fun x m => h x (List.mem_cons_of_mem _ m))
    rw [h x List.mem_cons_self, ih']
    split
    · congr 1
      funext y S2
      rw [ih']
    · rfl
theorem mapO_pure {g : α → Sto → Out β} {f : α → β} : ∀ {xs : List α}, (∀ x ∈ xs, g x S = .ok (f x) S) → mapO g xs S = .ok (xs.map f) S
  | [], _ => rfl
  | x :: r, h => by unfold mapO; rw [h x List.mem_cons_self, bind_ok, mapO_pure fun x m => h x (List.mem_cons_of_mem _ m), bind_ok, List.map_cons]
theorem filO_pure {c : α → Sto → Out Bool} {g : α → Sto → Out β} {p : α → Bool} {f : α → β} : ∀ {xs : List α}, (∀ x ∈ xs, c x S = .ok (p x) S) → (∀ x ∈ xs, p x = true → g x S = .ok (f x) S) → filO c g xs S = .ok ((xs.filter p).map f) S
  | [], _, _ => rfl
  | x :: r, hc, h => by
    unfold filO
    rw [hc x List.mem_cons_self, bind_ok, List.filter_cons]
    have ih := filO_pure (fun x m => hc x (List.mem_cons_of_mem _ m)) fun x m => h x (List.mem_cons_of_mem _ m)
    cases hp : p x
    · rw [if_neg (by simp), ih, if_neg (by simp)]
    · rw [if_pos rfl, h x List.mem_cons_self hp, bind_ok, ih, bind_ok, if_pos rfl, List.map_cons]
/-- a comprehension with draws: what holds of each result -/
theorem mapO_ex {g : α → Sto → Out β} (L : Nat) (P : α → β → Prop) : ∀ {xs : List α} {S : Sto}, S.length = L → (∀ x ∈ xs, ∀ S, S.length = L → ∃ y S', g x S = .ok y S' ∧ P x y ∧ S'.length = L) →
    ∃ ys S', mapO g xs S = .ok ys S' ∧ All2 P xs ys ∧ S'.length = L
  | [], S, hS, _ => ⟨[], S, rfl, .nil, hS⟩
  | x :: r, S, hS, h => by
    obtain ⟨y, S1, e, p, h1⟩ := h x List.mem_cons_self S hS
    obtain ⟨ys, S2, e2, p2, h2⟩ := mapO_ex L P h1 fun x m => h x (List.mem_cons_of_mem _ m)
    exact ⟨y :: ys, S2, by unfold mapO; rw [e, bind_ok, e2, bind_ok], .cons p p2, h2⟩
/-- a comprehension with the list told -/
theorem lc_map {e : Ex} {own : List Nat} {i : Nat} {it : Ex} {S1 : Sto} {b : Bool} {xs : List α} {en : α → D} {ε' : Env} (f : α → D) (hi : evI cl it ε S = .ok (xs.map en, b) S1) (hl : i < ε.length)
    (he : wipeE (fz (vs (.lc e own (.n i) it [])) ε) own = ε') (h : ∀ x ∈ xs, evE cl e (ε'.set i (.v (en x))) S1 = .ok (f x) S1) : evE cl (.lc e own (.n i) it []) ε S = .ok (.lst (xs.map f)) S1 := by
  rw [ee_lcn hl, hi, bind_ok, he]
  dsimp only
  rw [mapO_map, mapO_pure (f := f) fun x m => by rw [h x m, noX_ok], bind_ok]
theorem lc_fil {e c : Ex} {own : List Nat} {i : Nat} {it : Ex} {S1 : Sto} {b : Bool} {xs : List α} {en : α → D} {ε' : Env} (p : α → Bool) (f : α → D) (hi : evI cl it ε S = .ok (xs.map en, b) S1) (hl : i < ε.length)
    (he : wipeE (fz (vs (.lc e own (.n i) it [c])) ε) own = ε') (hc : ∀ x ∈ xs, evE cl c (ε'.set i (.v (en x))) S1 = .ok (.bl (p x)) S1) (h : ∀ x ∈ xs, p x = true → evE cl e (ε'.set i (.v (en x))) S1 = .ok (f x) S1) :
    evE cl (.lc e own (.n i) it [c]) ε S = .ok (.lst ((xs.filter p).map f)) S1 := by
  rw [ee_lcf hl, hi, bind_ok, he]
  dsimp only
  rw [filO_map, filO_pure (p := p) (f := f) (fun x m => by rw [hc x m, bind_ok]; simp only [tru, of_some, noX_ok]) (fun x m hp => by rw [h x m hp, noX_ok]), bind_ok]
/-- .. with draws -/
theorem lc_ex {e : Ex} {own : List Nat} {i : Nat} {it : Ex} {S1 : Sto} {b : Bool} {xs : List α} {en : α → D} {ε' : Env} (P : α → D → Prop) (hi : evI cl it ε S = .ok (xs.map en, b) S1) (hl : i < ε.length)
    (he : wipeE (fz (vs (.lc e own (.n i) it [])) ε) own = ε') (h : ∀ x ∈ xs, ∀ S, S.length = S1.length → ∃ y S', evE cl e (ε'.set i (.v (en x))) S = .ok y S' ∧ P x y ∧ S'.length = S1.length) :
    ∃ ys S', evE cl (.lc e own (.n i) it []) ε S = .ok (.lst ys) S' ∧ All2 P xs ys ∧ S'.length = S1.length := by
  obtain ⟨ys, S', e1, p, l⟩ := mapO_ex (g := fun x S => noX (evE cl e (ε'.set i (.v (en x))) S)) S1.length P rfl fun x m S hS => by
    obtain ⟨y, S', e, p, l⟩ := h x m S hS
    exact ⟨y, S', by rw [e, noX_ok], p, l⟩
  refine ⟨ys, S', ?_, p, l⟩
  rw [ee_lcn hl, hi, bind_ok, he]
  dsimp only
  rw [mapO_map, e1, bind_ok]
/-! ## loops -/
/-- a loop over told things; E tells the environment, all turns go on, nothing is drawn -/
theorem for_fold {tgt : D → Env → Option Env} {body : Env → Sto → OutS} (en : α → D) (E : β → Env → Prop) (step : β → α → β) : ∀ {xs : List α} {b : β} {ε : Env},
    (∀ x ∈ xs, ∀ b ε, E b ε → ∃ ε1 ε2, tgt (en x) ε = some ε1 ∧ body ε1 S = .ok (.nx ε2) S ∧ E (step b x) ε2) → E b ε → ∃ ε', forLoop tgt body (xs.map en) ε S = .ok (.nx ε') S ∧ E (xs.foldl step b) ε'
  | [], b, ε, _, hb => ⟨ε, by unfold forLoop; rfl, hb⟩
  | x :: r, b, ε, h, hb => by
    obtain ⟨ε1, ε2, e1, e2, h2⟩ := h x List.mem_cons_self b ε hb
    obtain ⟨ε', e3, h3⟩ := for_fold en E step (fun x m => h x (List.mem_cons_of_mem _ m)) h2
    refine ⟨ε', ?_, h3⟩
    rw [List.map_cons]
    unfold forLoop
    rw [e1]
    dsimp only
    rw [e2]
    exact e3
/-- .. where the turns' number is told, too -/
theorem for_idx {tgt : D → Env → Option Env} {body : Env → Sto → OutS} (en : α → D) (E : Nat → Env → Prop) : ∀ {xs : List α} {k : Nat} {ε : Env},
    (∀ j x, xs[j]? = some x → ∀ ε, E (k + j) ε → ∃ ε1 ε2, tgt (en x) ε = some ε1 ∧ body ε1 S = .ok (.nx ε2) S ∧ E (k + j + 1) ε2) → E k ε → ∃ ε', forLoop tgt body (xs.map en) ε S = .ok (.nx ε') S ∧ E (k + xs.length) ε'
  | [], k, ε, _, hb => ⟨ε, by unfold forLoop; rfl, hb⟩
  | x :: r, k, ε, h, hb => by
    obtain ⟨ε1, ε2, e1, e2, h2⟩ := h 0 x rfl ε hb
    obtain ⟨ε', e3, h3⟩ := for_idx (k := k + 1) en E (fun j x m ε hε => by
      have := h (j + 1) x (by simpa using m) ε (by rw [show k + (j + 1) = k + 1 + j by omega]; exact hε)
      rw [show k + (j + 1) = k + 1 + j by omega] at this
      exact this) h2
    refine ⟨ε', ?_, by rw [List.length_cons, show k + (r.length + 1) = k + 1 + r.length by omega]; exact h3⟩
    rw [List.map_cons]
    unfold forLoop
    rw [e1]
    dsimp only
    rw [e2]
    exact e3
/-- a loop with draws, all turns go on -/
theorem for_ex {tgt : D → Env → Option Env} {body : Env → Sto → OutS} (en : α → D) (L : Nat) (E : Env → Prop) : ∀ {xs : List α} {ε : Env} {S : Sto}, S.length = L →
    (∀ x ∈ xs, ∀ ε S, E ε → S.length = L → ∃ ε1 ε2 S', tgt (en x) ε = some ε1 ∧ body ε1 S = .ok (.nx ε2) S' ∧ E ε2 ∧ S'.length = L) → E ε → ∃ ε' S', forLoop tgt body (xs.map en) ε S = .ok (.nx ε') S' ∧ E ε' ∧ S'.length = L
  | [], ε, S, hS, _, hb => ⟨ε, S, by unfold forLoop; rfl, hb, hS⟩
  | x :: r, ε, S, hS, h, hb => by
    obtain ⟨ε1, ε2, S1, e1, e2, h2, l2⟩ := h x List.mem_cons_self ε S hb hS
    obtain ⟨ε', S', e3, h3, l3⟩ := for_ex en L E l2 (fun x m => h x (List.mem_cons_of_mem _ m)) h2
    refine ⟨ε', S', ?_, h3, l3⟩
    rw [List.map_cons]
    unfold forLoop
    rw [e1]
    dsimp only
    rw [e2]
    exact e3
theorem fn_ret {cl : Nat → List D → Sto → Out D} {f : Fd} {ds : List D} {S S' : Sto} {d : D}
    (h : evSs cl f.body (ds.map .v ++ List.replicate (f.N.length - ds.length) .u) S = .ok (.rt d) S') : runF cl f ds S = .ok d S' := by
  unfold runF; rw [h]
end
end GG
namespace GG
open PySem PySem.Spec PyProof.Rows L2
/-! ## what may be shown -/
def goodP (W k : Nat) (p : PyData) : Bool := p.showable && decide (p.depth ≤ k) && p.leavesShort 60 && decide (p.weight ≤ W)
theorem good_all (W k : Nat) : ∀ (m : Nat) (ps : List PyData), ps.length ≤ m → (∀ p ∈ ps, goodP W k p = true) → PyData.showableAll ps = true ∧ PyData.depthAll ps ≤ k ∧ PyData.leavesShortAll 60 ps = true ∧ PyData.weightAll ps ≤ m * (W + 1)
  | m, [], _, _ => ⟨rfl, Nat.zero_le _, rfl, Nat.zero_le _⟩
  | 0, p :: r, h, _ => by simp at h
  | m + 1, p :: r, h, a => by
    obtain ⟨a1, a2, a3, a4⟩ := good_all W k m r (by simpa using h) fun q hq => a q (List.mem_cons_of_mem _ hq)
    have g := a p List.mem_cons_self
    simp only [goodP, Bool.and_eq_true, decide_eq_true_eq] at g
    refine ⟨by simp [PyData.showableAll, g, a1], ?_, by simp [PyData.leavesShortAll, g, a3], ?_⟩
    · simp only [PyData.depthAll]; omega
    · simp only [PyData.weightAll]
      have := g.2
      rw [Nat.add_mul, Nat.one_mul]
      omega
theorem good_tup {W k m : Nat} {ps : List PyData} (h : ps.length ≤ m) (a : ∀ p ∈ ps, goodP W k p = true) : goodP (m * (W + 1)) (k + 1) (.tuple ps) = true := by
  obtain ⟨a1, a2, a3, a4⟩ := good_all W k m ps h a
  simp only [goodP, PyData.showable, PyData.leavesShort, Bool.and_eq_true]
  exact ⟨⟨⟨a1, decide_eq_true (by simp only [PyData.depth]; omega)⟩, a3⟩, decide_eq_true (by simp only [PyData.weight]; exact a4)⟩
theorem good_list {W k m : Nat} {ps : List PyData} (h : ps.length ≤ m) (a : ∀ p ∈ ps, goodP W k p = true) : goodP (m * (W + 1)) (k + 1) (.list ps) = true := by
  obtain ⟨a1, a2, a3, a4⟩ := good_all W k m ps h a
  simp only [goodP, PyData.showable, PyData.leavesShort, Bool.and_eq_true]
  exact ⟨⟨⟨a1, decide_eq_true (by simp only [PyData.depth]; omega)⟩, a3⟩, decide_eq_true (by simp only [PyData.weight]; exact a4)⟩
theorem good_le {W k W' k' : Nat} {p : PyData} (h : goodP W k p = true) (hw : W ≤ W') (hk : k ≤ k') : goodP W' k' p = true := by
  simp only [goodP, Bool.and_eq_true, decide_eq_true_eq] at h ⊢
  exact ⟨⟨⟨h.1.1.1, by omega⟩, h.1.2⟩, by omega⟩
/-- a thing that may be shown -/
def GD (W k : Nat) (d : D) : Prop := ∃ p, py d = some p ∧ goodP W k p = true
def gdB (W k : Nat) (d : D) : Bool := match py d with
  | some p => goodP W k p
  | none => false
theorem GD.ofB {W k : Nat} {d : D} (h : gdB W k d = true) : GD W k d := by
  unfold gdB at h
  cases e : py d with
  | none => rw [e] at h; cases h
  | some p => rw [e] at h; exact ⟨p, e, h⟩
theorem GD.le {W k W' k' : Nat} {d : D} (h : GD W k d) (hw : W ≤ W') (hk : k ≤ k') : GD W' k' d := let ⟨p, e, g⟩ := h; ⟨p, e, good_le g hw hk⟩
theorem GD.alls {W k : Nat} : ∀ {ds : List D}, (∀ d ∈ ds, GD W k d) → ∃ ps, pys ds = some ps ∧ ps.length = ds.length ∧ ∀ p ∈ ps, goodP W k p = true
  | [], _ => ⟨[], by simp [pys], rfl, fun p m => absurd m List.not_mem_nil⟩
  | d :: r, h => by
    obtain ⟨p, e, g⟩ := h d List.mem_cons_self
    obtain ⟨ps, e2, l, g2⟩ := GD.alls fun x m => h x (List.mem_cons_of_mem _ m)
    refine ⟨p :: ps, by simp [pys, e, e2], by simp [l], fun q m => ?_⟩
    rcases List.mem_cons.mp m with rfl | m
    · exact g
    · exact g2 q m
theorem GD.tup {W k m : Nat} {ds : List D} (h : ds.length ≤ m) (a : ∀ d ∈ ds, GD W k d) : GD (m * (W + 1)) (k + 1) (.tup ds) := by
  obtain ⟨ps, e, l, g⟩ := GD.alls a
  exact ⟨.tuple ps, by simp [py, e], good_tup (by omega) g⟩
theorem GD.lst {W k m : Nat} {ds : List D} (h : ds.length ≤ m) (a : ∀ d ∈ ds, GD W k d) : GD (m * (W + 1)) (k + 1) (.lst ds) := by
  obtain ⟨ps, e, l, g⟩ := GD.alls a
  exact ⟨.list ps, by simp [py, e], good_list (by omega) g⟩
def shw (d : D) : Str := match py d with
  | some p => p.shown
  | none => ""
theorem repr_of {W k : Nat} {d : D} (h : GD W k d) (hw : W ≤ 9000) (hk : k ≤ 60) : biF .repr [d] = some (.str (shw d)) := by
  obtain ⟨p, e, g⟩ := h
  simp only [goodP, Bool.and_eq_true, decide_eq_true_eq] at g
  obtain ⟨⟨⟨g1, g2⟩, g3⟩, g4⟩ := g
  have ln := PyData.shown_le 60 (by decide) p g3
  have big : (600000 : Nat) ≤ sizeLine := by decide
  have c : p.showable = true ∧ p.depth ≤ 60 ∧ p.shown.length ≤ sizeLine := ⟨g1, by omega, by omega⟩
  simp only [biF, e, shw]
  rw [if_pos c]
theorem GD.bl (b : Bool) : GD 200 3 (.bl b) := .ofB (by cases b <;> decide +kernel)
theorem GD.small {i : Int} (h : -1 ≤ i) (h2 : i ≤ 4) : GD 200 3 (.int i) := .ofB (by
  have q : i = -1 ∨ i = 0 ∨ i = 1 ∨ i = 2 ∨ i = 3 ∨ i = 4 := by omega
  rcases q with rfl | rfl | rfl | rfl | rfl | rfl <;> decide +kernel)
theorem shw_bl : shw (.bl true) = "True" ∧ shw (.bl false) = "False" := by constructor <;> decide +kernel
theorem repr_bl (b : Bool) : biF .repr [.bl b] = some (.str (shw (.bl b))) := repr_of (GD.bl b) (by decide) (by decide)
/-- a loop whose turns may open streams -/
theorem for_exS {α : Type} {tgt : D → Env → Option Env} {body : Env → Sto → OutS} (en : α → D) (E : Env → Prop) : ∀ {xs : List α} {ε : Env} {S : Sto},
    (∀ x ∈ xs, ∀ ε S, E ε → ∃ ε1 ε2 S', tgt (en x) ε = some ε1 ∧ body ε1 S = .ok (.nx ε2) S' ∧ E ε2) → E ε → ∃ ε' S', forLoop tgt body (xs.map en) ε S = .ok (.nx ε') S' ∧ E ε'
  | [], ε, S, _, hb => ⟨ε, S, by unfold forLoop; rfl, hb⟩
  | x :: r, ε, S, h, hb => by
    obtain ⟨ε1, ε2, S1, e1, e2, h2⟩ := h x List.mem_cons_self ε S hb
    obtain ⟨ε', S', e3, h3⟩ := for_exS (S := S1) en E (fun x m => h x (List.mem_cons_of_mem _ m)) h2
    refine ⟨ε', S', ?_, h3⟩
    rw [List.map_cons]
    unfold forLoop
    rw [e1]
    dsimp only
    rw [e2]
    exact e3
theorem st_app {cl : Nat → List D → Sto → Out D} {b : List Sm} : ∀ {a : List Sm} {ε : Env} {S : Sto}, evSs cl (a ++ b) ε S = (evSs cl a ε S).seq (evSs cl b)
  | [], ε, S => by rw [List.nil_append, st_nil, seq_nx]
  | s :: r, ε, S => by
    rw [List.cons_append, st_cons, st_cons]
    cases evS cl s ε S with
    | ok f S1 => cases f <;> first | rw [seq_nx, seq_nx, st_app] | rfl
    | exc c v ε1 S1 => rfl
    | bad => rfl
/-- the first statements of a body -/
theorem st_cut {cl : Nat → List D → Sto → Out D} (k : Nat) {b : List Sm} {ε ε1 : Env} {S S1 : Sto} (h : evSs cl (b.take k) ε S = .ok (.nx ε1) S1) : evSs cl b ε S = evSs cl (b.drop k) ε1 S1 := by
  conv => lhs; rw [← List.take_append_drop k b]
  rw [st_app, h, seq_nx]
theorem eq_int {n : Bool} {i j : Int} : opEq n (.int i) (.int j) = some (.bl (if n then !decide (i = j) else decide (i = j))) := nrfl rfl
theorem eq_str {n : Bool} {i j : Str} : opEq n (.str i) (.str j) = some (.bl (if n then !decide (i = j) else decide (i = j))) := nrfl rfl
theorem itv_tup {ds : List D} : iterV (.tup ds) = some ds := nrfl rfl
theorem itv_lst {ds : List D} : iterV (.lst ds) = some ds := nrfl rfl
theorem itv_rol {ds : List D} : iterV (.rol ds) = some ds := nrfl rfl
theorem len_tup {ds : List D} : lenOf (.tup ds) = some (ds.length : Int) := nrfl rfl
theorem len_lst {ds : List D} : lenOf (.lst ds) = some (ds.length : Int) := nrfl rfl
theorem len_rol {ds : List D} : lenOf (.rol ds) = some (ds.length : Int) := nrfl rfl
theorem len_str {z : Str} (h : z.length ≤ sizeLine) : lenOf (.str z) = some (z.length : Int) := by simp [lenOf, h]
theorem sq_tup {ds : List D} : seqOf (.tup ds) = some ds := nrfl rfl
theorem sq_lst {ds : List D} : seqOf (.lst ds) = some ds := nrfl rfl
theorem sq_rol {ds : List D} : seqOf (.rol ds) = some ds := nrfl rfl
theorem bi_len {d : D} : biF .len [d] = (lenOf d).map .int := nrfl rfl
theorem bi_abs {i : Int} : biF .abs [.int i] = some (.int (if i < 0 then -i else i)) := nrfl rfl
theorem bi_int {i : Int} : biF .int [.int i] = some (.int i) := nrfl rfl
theorem bi_intb {b : Bool} : biF .int [.bl b] = some (.int (if b then 1 else 0)) := nrfl rfl
theorem bi_max {i j : Int} : biF .max [.int i, .int j] = some (.int (if j > i then j else i)) := nrfl rfl
theorem bi_min {i j : Int} : biF .min [.int i, .int j] = some (.int (if j < i then j else i)) := nrfl rfl
theorem bi_list {d : D} : biF .list [d] = (seqOf d).map .lst := nrfl rfl
theorem bi_tuple {d : D} : biF .tuple [d] = (seqOf d).map .tup := nrfl rfl
theorem bi_all {d : D} : biF .all [d] = ((lstOf d).bind boolsOf).map fun bs => .bl (bs.all id) := nrfl rfl
theorem bi_any {d : D} : biF .any [d] = ((lstOf d).bind boolsOf).map fun bs => .bl (bs.any id) := nrfl rfl
theorem bi_sum {d : D} : biF .sum [d] = ((lstOf d).bind intsOf).map fun ns => .int ns.sum := nrfl rfl
theorem ite_tt {α : Type} {a b : α} : (if true = true then a else b) = a := if_pos rfl
theorem ite_ff {α : Type} {a b : α} : (if false = true then a else b) = b := if_neg (by decide)
end GG
open PySem PySem.Spec PyProof.Rows L2 GG
local macro_rules
  | `(tactic| dsimp! [$ls,*]) => `(tactic| simp [-GG.Out.bind_ok, -GG.Out.bind_exc, -GG.Out.bind_bad, GG.bind_ok, GG.bind_bad, GG.bind_ite, GG.on_ok, GG.on_bad, GG.seq_nx, GG.seq_rt, GG.seq_bk, GG.seq_ct, GG.seq_bad, GG.of_some, GG.of_none, GG.of_ite, GG.onO_some', GG.rdE, GG.ee_v, GG.ee_c, GG.ee_g, GG.ee_bop, GG.ee_neg, GG.ee_not, GG.ee_cmp, GG.ee_chain, GG.ee_and, GG.ee_or, GG.ee_ife, GG.ee_tup, GG.ee_lst, GG.ee_dct, GG.ee_ix, GG.ee_sl, GG.ee_rev, GG.ee_call, GG.ee_bi, GG.ee_isi, GG.ee_me, GG.ee_six, GG.ee_mkS, GG.es_nil, GG.es_cons, GG.ea_nil, GG.ea_cons, GG.eo_nil, GG.eo_cons, GG.eO_nil, GG.eO_cons, GG.et_nil, GG.et_cons, GG.ei_rng, GG.ei_enum, GG.ei_zip, GG.ei_itv, GG.st_nil, GG.st_cons, GG.sm_ret, GG.sm_retN, GG.sm_set, GG.sm_aug, GG.sm_par, GG.sm_put, GG.sm_app, GG.sm_ext, GG.sm_sput, GG.sm_ife, GG.sm_for, GG.sm_ex, GG.sm_pass, GG.sm_brk, GG.sm_cont, GG.wp_ok, GG.wp_bad, GG.wp_bind, GG.wps_ok, GG.wps_bad, GG.wp_on, GG.wp_seq, GG.tg_n, GG.tg_t, GG.tg_l, GG.tgs_nil, GG.tgs_cons, GG.wipeE, GG.fz, GG.fzF, GG.fzV, GG.fzN, GG.Sl.frz, GG.vs, GG.vss, GG.setF, GG.fresh, GG.chg, GG.ownB, GG.ownL, GG.appF, GG.extF, GG.putF, GG.D.still, GG.D.stills, GG.D.still1, GG.tru, GG.tyName, GG.isiF, GG.Ty.name, GG.cmpF, GG.binF, GG.opAdd, GG.opSub, GG.opMul, GG.opDiv, GG.opMod, GG.opPow, GG.opSh, GG.opInt, GG.opIs, GG.bi_len, GG.bi_abs, GG.bi_int, GG.bi_intb, GG.bi_max, GG.bi_min, GG.bi_list, GG.bi_tuple, GG.bi_all, GG.bi_any, GG.bi_sum, GG.lstOf, GG.iterN, GG.asInt, GG.keyOf, GG.keysOf, GG.meR, GG.sixF, GG.sputF, GG.t3, GG.t3set, GG.sl_eq, GG.eq_int, GG.eq_str, GG.itv_tup, GG.itv_lst, GG.itv_rol, GG.len_tup, GG.len_lst, GG.len_rol, GG.len_str, GG.sq_tup, GG.sq_lst, GG.sq_rol, GG.ite_tt, GG.ite_ff, $ls,*])
  | `(tactic| dsimp! [$ls,*] at $h:ident) => `(tactic| simp [-GG.Out.bind_ok, -GG.Out.bind_exc, -GG.Out.bind_bad, GG.bind_ok, GG.bind_bad, GG.bind_ite, GG.on_ok, GG.on_bad, GG.seq_nx, GG.seq_rt, GG.seq_bk, GG.seq_ct, GG.seq_bad, GG.of_some, GG.of_none, GG.of_ite, GG.onO_some', GG.rdE, GG.ee_v, GG.ee_c, GG.ee_g, GG.ee_bop, GG.ee_neg, GG.ee_not, GG.ee_cmp, GG.ee_chain, GG.ee_and, GG.ee_or, GG.ee_ife, GG.ee_tup, GG.ee_lst, GG.ee_dct, GG.ee_ix, GG.ee_sl, GG.ee_rev, GG.ee_call, GG.ee_bi, GG.ee_isi, GG.ee_me, GG.ee_six, GG.ee_mkS, GG.es_nil, GG.es_cons, GG.ea_nil, GG.ea_cons, GG.eo_nil, GG.eo_cons, GG.eO_nil, GG.eO_cons, GG.et_nil, GG.et_cons, GG.ei_rng, GG.ei_enum, GG.ei_zip, GG.ei_itv, GG.st_nil, GG.st_cons, GG.sm_ret, GG.sm_retN, GG.sm_set, GG.sm_aug, GG.sm_par, GG.sm_put, GG.sm_app, GG.sm_ext, GG.sm_sput, GG.sm_ife, GG.sm_for, GG.sm_ex, GG.sm_pass, GG.sm_brk, GG.sm_cont, GG.wp_ok, GG.wp_bad, GG.wp_bind, GG.wps_ok, GG.wps_bad, GG.wp_on, GG.wp_seq, GG.tg_n, GG.tg_t, GG.tg_l, GG.tgs_nil, GG.tgs_cons, GG.wipeE, GG.fz, GG.fzF, GG.fzV, GG.fzN, GG.Sl.frz, GG.vs, GG.vss, GG.setF, GG.fresh, GG.chg, GG.ownB, GG.ownL, GG.appF, GG.extF, GG.putF, GG.D.still, GG.D.stills, GG.D.still1, GG.tru, GG.tyName, GG.isiF, GG.Ty.name, GG.cmpF, GG.binF, GG.opAdd, GG.opSub, GG.opMul, GG.opDiv, GG.opMod, GG.opPow, GG.opSh, GG.opInt, GG.opIs, GG.bi_len, GG.bi_abs, GG.bi_int, GG.bi_intb, GG.bi_max, GG.bi_min, GG.bi_list, GG.bi_tuple, GG.bi_all, GG.bi_any, GG.bi_sum, GG.lstOf, GG.iterN, GG.asInt, GG.keyOf, GG.keysOf, GG.meR, GG.sixF, GG.sputF, GG.t3, GG.t3set, GG.sl_eq, GG.eq_int, GG.eq_str, GG.itv_tup, GG.itv_lst, GG.itv_rol, GG.len_tup, GG.len_lst, GG.len_rol, GG.len_str, GG.sq_tup, GG.sq_lst, GG.sq_rol, GG.ite_tt, GG.ite_ff, $ls,*] at $h:ident)
namespace LW
open PySem PySem.Spec PyProof.Rows L2 GG
def b_is_integer : List Sm := [.ret (.and (.isi (.v 0) .int) [(.not (.isi (.v 0) .bool))])]
def d_is_integer : Fd := ⟨"is_integer", 1, ["value"], b_is_integer, .own⟩
def b_is_between : List Sm := [.ret (.and (.call 0 [(.v 0)]) [(.cmp .GtE (.v 0) (.v 1)), (.or (.cmp .Is (.v 2) (.c .non)) [(.cmp .LtE (.v 0) (.v 2))])])]
def d_is_between : Fd := ⟨"is_between", 3, ["value", "low", "high"], b_is_between, .own⟩
def b_is_bit : List Sm := [.ret (.call 1 [(.v 0), (.c (.int 0)), (.c (.int 1))])]
def d_is_bit : Fd := ⟨"is_bit", 1, ["value"], b_is_bit, .own⟩
def b_is_value : List Sm := [.ret (.call 1 [(.v 0), (.c (.int 0)), (.g "UNKNOWN" (.int 2))])]
def d_is_value : Fd := ⟨"is_value", 1, ["value"], b_is_value, .own⟩
def b_is_row : List Sm := [.ret (.and (.isi (.v 0) .tuple) [(.bi .all [(.lc (.call 3 [(.v 1)]) [1] (.n 1) (.itv (.v 0)) [])])])]
def d_is_row : Fd := ⟨"is_row", 1, ["value", "one"], b_is_row, .own⟩
def b_is_table : List Sm := [.ret (.and (.isi (.v 0) .tuple) [(.cmp .In (.bi .len [(.v 0)]) (.g "SIZES" (.wdt (intK [(1, 0), (2, 1), (4, 2), (8, 3), (16, 4)])))), (.bi .all [(.lc (.call 2 [(.v 1)]) [1] (.n 1) (.itv (.v 0)) [])])])]
def d_is_table : Fd := ⟨"is_table", 1, ["value", "one"], b_is_table, .own⟩
def b_require_table : List Sm := [.ife (.not (.call 5 [(.v 0)])) [.never] []]
def d_require_table : Fd := ⟨"require_table", 1, ["table"], b_require_table, .own⟩
def b_wires_in : List Sm := [.ret (.ix (.g "SIZES" (.wdt (intK [(1, 0), (2, 1), (4, 2), (8, 3), (16, 4)]))) (.bi .len [(.v 0)]))]
def d_wires_in : Fd := ⟨"wires_in", 1, ["table"], b_wires_in, .own⟩
def b_wires_of : List Sm := [.ex (.call 6 [(.v 0)]),
  .ret (.call 7 [(.v 0)])]
def d_wires_of : Fd := ⟨"wires_of", 1, ["table"], b_wires_of, .own⟩
def b_forced_in : List Sm := [.set (.n 2) (.lst [(.v 0)]),
  .for_ (.n 3) (.itv (.v 1)) [.set (.n 5) (.bop .FloorDiv (.bi .len [(.ix (.v 2) (.c (.int 0)))]) (.c (.int 2))), .set (.n 6) (.ife (.cmp .NotEq (.v 3) (.c (.int 1))) (.lc (.sl (.v 8) [] [(.v 5)]) [8] (.n 8) (.itv (.v 2)) []) (.lst [])), .set (.n 7) (.ife (.cmp .NotEq (.v 3) (.c (.int 0))) (.lc (.sl (.v 8) [(.v 5)] []) [8] (.n 8) (.itv (.v 2)) []) (.lst [])), .set (.n 2) (.bop .Add (.v 6) (.v 7))],
  .set (.n 4) (.lc (.ix (.v 8) (.c (.int 0))) [8] (.n 8) (.itv (.v 2)) []),
  .ret (.ife (.cmp .Eq (.me .count (.v 4) [(.ix (.v 4) (.c (.int 0)))]) (.bi .len [(.v 4)])) (.ix (.v 4) (.c (.int 0))) (.g "UNKNOWN" (.int 2)))]
def d_forced_in : Fd := ⟨"forced_in", 2, ["table", "row", "parts", "one", "seen", "half", "firsts", "lasts", "part"], b_forced_in, .own⟩
def b_value_at : List Sm := [.ex (.call 6 [(.v 0)]),
  .ife (.or (.not (.call 4 [(.v 1)])) [(.cmp .NotEq (.bi .len [(.v 1)]) (.call 7 [(.v 0)]))]) [.never] [],
  .ret (.call 9 [(.v 0), (.v 1)])]
def d_value_at : Fd := ⟨"value_at", 2, ["table", "row"], b_value_at, .own⟩
def b_fixed_in : List Sm := [.set (.n 3) (.bop .RShift (.bi .len [(.v 0)]) (.bop .Add (.v 1) (.c (.int 1)))),
  .set (.n 4) (.tup []),
  .for_ (.n 5) (.rng [(.bop .Mult (.v 2) (.v 3)), (.bi .len [(.v 0)]), (.bop .Mult (.c (.int 2)) (.v 3))]) [.aug 4 .Add (.sl (.v 0) [(.v 5)] [(.bop .Add (.v 5) (.v 3))])],
  .ret (.v 4)]
def d_fixed_in : Fd := ⟨"fixed_in", 3, ["table", "wire", "bit", "size", "found", "begin"], b_fixed_in, .own⟩
def b_used_wires : List Sm := [.ex (.call 6 [(.v 0)]),
  .ret (.bi .tuple [(.lc (.v 1) [1] (.n 1) (.rng [(.call 7 [(.v 0)])]) [(.cmp .NotEq (.call 11 [(.v 0), (.v 1), (.c (.int 0))]) (.call 11 [(.v 0), (.v 1), (.c (.int 1))]))])])]
def d_used_wires : Fd := ⟨"used_wires", 1, ["table", "wire"], b_used_wires, .own⟩
def b__law_stream : List Sm := [.set (.n 2) (.ife (.cmp .Lt (.v 1) (.bi .len [(.v 0)])) (.ix (.v 0) (.v 1)) (.bop .Add (.bop .Mult (.c (.int 17)) (.v 1)) (.c (.int 8)))),
  .set (.n 3) (.bop .Mod (.bi .int [(.bi .abs [(.v 2)])]) (.bop .Pow (.bop .Pow (.c (.int 10)) (.c (.int 60))) (.c (.int 11)))),
  .set (.n 4) (.bop .Mod (.bi .int [(.v 3)]) (.c (.int 2147483549))),
  .set (.n 4) (.bop .Mod (.bi .int [(.bop .Add (.bop .Add (.bop .Add (.bop .Mult (.v 4) (.c (.int 39373))) (.bop .Mult (.c (.int 91813)) (.v 1))) (.bop .Mult (.c (.int 7)) (.bi .int [(.cmp .Lt (.v 2) (.c (.int 0)))]))) (.c (.int 31)))]) (.c (.int 2147483543))),
  .ret (.lst [(.bi .max [(.c (.int 0)), (.bop .Add (.bop .Sub (.v 3) (.bop .Pow (.c (.int 10)) (.c (.int 18)))) (.c (.int 1)))]), (.v 4), (.c (.int 0))])]
def d__law_stream : Fd := ⟨"_law_stream", 2, ["_law_script", "_law_at", "_law_cell", "_law_great", "_law_mixed"], b__law_stream, .mk⟩
def b__law_draw : List Sm := [.ife (.cmp .Gt (.six 0 0) (.c (.int 0))) [.set (.n 4) (.bop .Mod (.bi .int [(.six 0 0)]) (.v 1)), .sput 0 0 (.bop .FloorDiv (.six 0 0) (.v 1)), .ret (.v 4)] [],
  .sput 0 2 (.bop .Add (.six 0 2) (.c (.int 1))),
  .set (.n 2) (.bop .Mod (.bi .int [(.bop .Add (.six 0 1) (.bop .Mult (.c (.int 1000159)) (.six 0 2)))]) (.c (.int 2305843009213693951))),
  .set (.n 3) (.bop .Mod (.bi .int [(.bop .Mult (.v 2) (.v 2))]) (.c (.int 2305843009213693921))),
  .set (.n 3) (.bop .Mod (.bi .int [(.bop .Add (.bop .Mult (.v 3) (.v 2)) (.bop .Mult (.c (.int 6361)) (.six 0 2)))]) (.c (.int 2305843009213693907))),
  .ret (.bop .Mod (.bi .int [(.bop .FloorDiv (.v 3) (.c (.int 4096)))]) (.v 1))]
def d__law_draw : Fd := ⟨"_law_draw", 2, ["_law_stream_here", "_law_total", "_law_one", "_law_two", "_law_found"], b__law_draw, .own⟩
def b__law_pick : List Sm := [.ret (.ix (.v 1) (.call 14 [(.v 0), (.bi .len [(.v 1)])]))]
def d__law_pick : Fd := ⟨"_law_pick", 2, ["_law_stream_here", "_law_items"], b__law_pick, .own⟩
def b__law_rows : List Sm := [.set (.n 2) (.lst [(.tup [])]),
  .for_ (.n 3) (.rng [(.v 0)]) [.set (.n 4) (.lst []), .for_ (.n 5) (.itv (.v 2)) [.ext 4 (.lc (.bop .Add (.v 5) (.tup [(.v 6)])) [6] (.n 6) (.rng [(.bop .Add (.v 1) (.c (.int 1)))]) [])], .set (.n 2) (.v 4)],
  .ret (.v 2)]
def d__law_rows : Fd := ⟨"_law_rows", 2, ["_law_size", "_law_top", "_law_found", "_law_turn", "_law_longer", "_law_row", "_law_number_here"], b__law_rows, .own⟩
def b__law_number : List Sm := [.set (.n 1) (.c (.int 0)),
  .for_ (.n 2) (.itv (.v 0)) [.set (.n 1) (.bop .Add (.bop .Mult (.c (.int 2)) (.v 1)) (.v 2))],
  .ret (.v 1)]
def d__law_number : Fd := ⟨"_law_number", 1, ["_law_row", "_law_found", "_law_one"], b__law_number, .own⟩
def b__law_forced : List Sm := [.set (.n 2) (.lst [(.c (.int 0))]),
  .for_ (.n 3) (.itv (.v 1)) [.set (.n 2) (.lc (.bop .Add (.bop .Mult (.c (.int 2)) (.v 5)) (.ife (.cmp .Eq (.v 3) (.c (.int 2))) (.c (.int 0)) (.v 3))) [5] (.n 5) (.itv (.v 2)) []), .set (.n 2) (.bop .Add (.v 2) (.ife (.cmp .Eq (.v 3) (.c (.int 2))) (.lc (.bop .Add (.v 5) (.c (.int 1))) [5] (.n 5) (.itv (.v 2)) []) (.lst [])))],
  .set (.n 4) (.lc (.ix (.v 0) (.v 5)) [5] (.n 5) (.itv (.v 2)) []),
  .ret (.ife (.and (.cmp .In (.c (.int 0)) (.v 4)) [(.cmp .In (.c (.int 1)) (.v 4))]) (.c (.int 2)) (.ix (.v 4) (.c (.int 0))))]
def d__law_forced : Fd := ⟨"_law_forced", 2, ["_law_table_here", "_law_row", "_law_found", "_law_one", "_law_seen", "_law_number_here"], b__law_forced, .own⟩
def b__law_table : List Sm := [.par 3 4 (.call 16 [(.v 1), (.c (.int 1))]) (.call 14 [(.v 0), (.c (.int 6))]),
  .ife (.or (.cmp .Eq (.v 4) (.c (.int 0))) [(.cmp .Eq (.v 1) (.c (.int 0)))]) [.ret (.bi .tuple [(.lc (.call 14 [(.v 0), (.c (.int 2))]) [5] (.n 5) (.itv (.v 3)) [])])] [],
  .set (.n 2) (.call 14 [(.v 0), (.c (.int 2))]),
  .ife (.cmp .Lt (.v 4) (.c (.int 3))) [.ret (.bi .tuple [(.lc (.bop .Mod (.bi .int [(.bop .Add (.bi .int [(.cmp .NotIn (.c (.int 0)) (.v 5))]) (.v 2))]) (.c (.int 2))) [5] (.n 5) (.itv (.v 3)) [])])] [],
  .ife (.cmp .Lt (.v 4) (.c (.int 5))) [.ret (.bi .tuple [(.lc (.bop .Mod (.bi .int [(.bop .Add (.bi .int [(.cmp .In (.c (.int 1)) (.v 5))]) (.v 2))]) (.c (.int 2))) [5] (.n 5) (.itv (.v 3)) [])])] [],
  .ret (.bi .tuple [(.lc (.bop .Mod (.bi .int [(.bop .Add (.bi .sum [(.bi .list [(.v 5)])]) (.v 2))]) (.c (.int 2))) [5] (.n 5) (.itv (.v 3)) [])])]
def d__law_table : Fd := ⟨"_law_table", 2, ["_law_stream_here", "_law_size", "_law_turned", "_law_rows_here", "_law_way", "_law_row"], b__law_table, .own⟩
def b__law_is_bit : List Sm := [.ret (.and (.isi (.v 0) .int) [(.not (.isi (.v 0) .bool)), (.cmp .In (.v 0) (.tup [(.c (.int 0)), (.c (.int 1))]))])]
def d__law_is_bit : Fd := ⟨"_law_is_bit", 1, ["_law_thing"], b__law_is_bit, .own⟩
def b__law_odd : List Sm := [.set (.n 1) (.lst [(.c .non), (.c (.bl true)), (.c (.bl false)), (.neg (.c (.int 1))), (.c (.int 0)), (.c (.int 1)), (.c (.int 2)), (.c (.int 3)), (.bop .Pow (.c (.int 10)) (.c (.int 39))), (.c (.str "")), (.c (.str "a")), (.c (.str "x")), (.c (.str "A")), (.tup []), (.lst []), (.dct [] []), (.tup [(.c (.int 0))]), (.tup [(.c (.str "a"))]), (.lst [(.c (.int 0))]), (.tup [(.tup [])]), (.c (.str "a b"))]),
  .set (.n 1) (.bop .Add (.v 1) (.lst [(.tup [(.tup []), (.tup [])]), (.tup [(.c (.str "x")), (.neg (.c (.int 1)))]), (.dct [.inr "a"] [(.c (.int 0))]), (.dct [.inr "x"] [(.c (.int 2))]), (.tup [(.tup [(.c (.str "a"))]), (.tup [])]), (.tup [(.c (.str "settles")), (.c (.int 1)), (.tup [])]), (.tup [(.c (.str "flips")), (.tup [(.tup []), (.tup [])])]), (.tup [(.c (.int 2))])])),
  .ret (.call 15 [(.v 0), (.v 1)])]
def d__law_odd : Fd := ⟨"_law_odd", 1, ["_law_stream_here", "_law_some"], b__law_odd, .own⟩
def b__law_used : List Sm := [.set (.n 2) (.lst []),
  .for_ (.n 3) (.rng [(.v 1)]) [.set (.n 4) (.ix (.lst [(.c (.int 8)), (.c (.int 4)), (.c (.int 2)), (.c (.int 1))]) (.bop .Add (.bop .Sub (.c (.int 4)) (.v 1)) (.v 3))), .set (.n 5) (.lc (.v 6) [6] (.n 6) (.rng [(.bi .len [(.v 0)])]) [(.cmp .Eq (.bop .Mod (.bi .int [(.bop .FloorDiv (.v 6) (.v 4))]) (.c (.int 2))) (.c (.int 0)))]), .ife (.cmp .NotEq (.lc (.c (.int 1)) [6] (.n 6) (.itv (.v 5)) [(.cmp .NotEq (.ix (.v 0) (.v 6)) (.ix (.v 0) (.bop .Add (.v 6) (.v 4))))]) (.lst [])) [.app 2 (.v 3)] []],
  .ret (.bi .tuple [(.v 2)])]
def d__law_used : Fd := ⟨"_law_used", 2, ["_law_table_here", "_law_size", "_law_found", "_law_wire", "_law_apart", "_law_lows", "_law_number_here"], b__law_used, .own⟩
def b__law_right : List Sm := [.set (.n 3) (.bi .repr [(.v 1)]),
  .ife (.or (.cmp .NotEq (.call 8 [(.v 1)]) (.v 2)) [(.cmp .IsNot (.call 5 [(.v 1)]) (.c (.bl true))), (.cmp .NotEq (.call 12 [(.v 1)]) (.call 22 [(.v 1), (.v 2)]))]) [.ret (.c (.bl false))] [],
  .for_ (.n 4) (.itv (.call 16 [(.v 2), (.c (.int 2))])) [.set (.n 5) (.call 18 [(.v 1), (.v 4)]), .ife (.cmp .NotEq (.bi .repr [(.call 10 [(.v 1), (.v 4)])]) (.bi .repr [(.v 5)])) [.ret (.c (.bl false))] [], .set (.n 6) (.bi .tuple [(.lc (.ife (.cmp .Lt (.v 7) (.c (.int 2))) (.v 7) (.call 14 [(.v 0), (.c (.int 3))])) [7] (.n 7) (.itv (.v 4)) [])]), .ife (.and (.cmp .Lt (.v 5) (.c (.int 2))) [(.cmp .NotEq (.call 10 [(.v 1), (.v 6)]) (.v 5))]) [.ret (.c (.bl false))] []],
  .for_ (.n 4) (.itv (.call 16 [(.v 2), (.c (.int 1))])) [.ife (.cmp .NotEq (.call 10 [(.v 1), (.v 4)]) (.ix (.v 1) (.call 17 [(.v 4)]))) [.ret (.c (.bl false))] []],
  .ret (.cmp .Eq (.bi .repr [(.v 1)]) (.v 3))]
def d__law_right : Fd := ⟨"_law_right", 3, ["_law_stream_here", "_law_table_here", "_law_size", "_law_kept", "_law_row", "_law_due", "_law_further", "_law_one"], b__law_right, .own⟩
def b__law_no_table : List Sm := [.set (.n 2) (.lst [(.bop .Add (.v 1) (.sl (.v 1) [] [(.c (.int 1))])), (.sl (.v 1) [] [(.neg (.c (.int 1)))]), (.bop .Add (.v 1) (.v 1)), (.bi .list [(.v 1)]), (.bop .Add (.v 1) (.tup [(.c (.int 2))])), (.bop .Add (.sl (.v 1) [(.c (.int 1))] []) (.tup [(.c (.bl true))])), (.tup [(.v 1)])]),
  .set (.n 2) (.bop .Add (.v 2) (.lst [(.bop .Add (.sl (.v 1) [] [(.neg (.c (.int 1)))]) (.tup [(.c .non)])), (.bop .Add (.sl (.v 1) [] [(.neg (.c (.int 1)))]) (.tup [(.c (.str "1"))])), (.bop .Add (.sl (.v 1) [] [(.neg (.c (.int 1)))]) (.tup [(.neg (.c (.int 1)))])), (.tup []), (.call 21 [(.v 0)])])),
  .set (.n 3) (.call 15 [(.v 0), (.v 2)]),
  .ife (.or (.not (.isi (.v 3) .tuple)) [(.cmp .NotIn (.bi .len [(.v 3)]) (.tup [(.c (.int 1)), (.c (.int 2)), (.c (.int 4)), (.c (.int 8)), (.c (.int 16))]))]) [.ret (.lst [(.v 3), (.c (.bl false))])] [],
  .ret (.lst [(.v 3), (.cmp .Eq (.lc (.c (.int 1)) [4] (.n 4) (.itv (.v 3)) [(.not (.call 20 [(.v 4)]))]) (.lst []))])]
def d__law_no_table : Fd := ⟨"_law_no_table", 2, ["_law_stream_here", "_law_table_here", "_law_some", "_law_thing", "_law_one"], b__law_no_table, .own⟩
def b_law : List Sm := [.for_ (.n 1) (.rng [(.bi .max [(.c (.int 1)), (.bi .min [(.c (.int 8)), (.bi .len [(.v 0)])])])]) [.set (.n 4) (.mkS 13 [(.v 0), (.v 1)]), .for_ (.n 5) (.rng [(.c (.int 5))]) [.set (.n 6) (.call 19 [(.v 4), (.v 5)]), .ife (.not (.call 23 [(.v 4), (.v 6), (.v 5)])) [.ret (.c (.bl false))] [], .for_ (.n 7) (.rng [(.c (.int 3))]) [.set (.t [(.n 9), (.n 10)]) (.call 24 [(.v 4), (.v 6)]), .ife (.cmp .NotEq (.bi .repr [(.call 5 [(.v 9)])]) (.bi .repr [(.v 10)])) [.ret (.c (.bl false))] []]]],
  .set (.n 2) (.lc (.call 5 [(.v 8)]) [8] (.n 8) (.itv (.tup [(.bop .Mult (.tup [(.c (.int 0))]) (.c (.int 32))), (.bop .Mult (.tup [(.c (.int 1))]) (.c (.int 16))), (.tup [(.c (.int 0)), (.c (.bl true))]), (.tup [(.c (.int 0)), (.c (.int 2))])])) []),
  .ife (.or (.cmp .NotEq (.g "MAX_WIRES" (.int 4)) (.c (.int 4))) [(.cmp .NotEq (.v 2) (.lst [(.c (.bl false)), (.c (.bl true)), (.c (.bl false)), (.c (.bl false))]))]) [.ret (.c (.bl false))] [],
  .set (.n 2) (.lst [(.call 10 [(.tup [(.c (.int 1))]), (.tup [])]), (.call 10 [(.tup [(.c (.int 0)), (.c (.int 1))]), (.tup [(.c (.int 2))])]), (.call 10 [(.tup [(.c (.int 1)), (.c (.int 1))]), (.tup [(.c (.int 2))])]), (.call 10 [(.tup [(.c (.int 0)), (.c (.int 0)), (.c (.int 0)), (.c (.int 1))]), (.tup [(.c (.int 0)), (.c (.int 2))])])]),
  .set (.n 2) (.bop .Add (.v 2) (.lst [(.call 10 [(.tup [(.c (.int 0)), (.c (.int 1)), (.c (.int 1)), (.c (.int 0))]), (.tup [(.c (.int 2)), (.c (.int 2))])]), (.call 10 [(.tup [(.c (.int 0)), (.c (.int 0)), (.c (.int 1)), (.c (.int 1))]), (.tup [(.c (.int 1)), (.c (.int 2))])]), (.call 10 [(.tup [(.c (.int 0)), (.c (.int 1)), (.c (.int 0)), (.c (.int 1))]), (.tup [(.c (.int 1)), (.c (.int 2))])])])),
  .set (.n 3) (.lc (.call 12 [(.v 6)]) [6] (.n 6) (.itv (.tup [(.tup [(.c (.int 1))]), (.tup [(.c (.int 0)), (.c (.int 0))]), (.tup [(.c (.int 0)), (.c (.int 0)), (.c (.int 1)), (.c (.int 1))]), (.tup [(.c (.int 0)), (.c (.int 1)), (.c (.int 0)), (.c (.int 1))]), (.tup [(.c (.int 0)), (.c (.int 0)), (.c (.int 0)), (.c (.int 0)), (.c (.int 1)), (.c (.int 0)), (.c (.int 1)), (.c (.int 0))])])) []),
  .ret (.and (.cmp .Eq (.v 2) (.lst [(.c (.int 1)), (.c (.int 2)), (.c (.int 1)), (.c (.int 0)), (.c (.int 2)), (.c (.int 1)), (.c (.int 2))])) [(.cmp .Eq (.v 3) (.lst [(.tup []), (.tup []), (.tup [(.c (.int 0))]), (.tup [(.c (.int 1))]), (.tup [(.c (.int 0)), (.c (.int 2))])]))])]
def d_law : Fd := ⟨"law", 1, ["_law_script", "_law_at", "_law_told", "_law_some", "_law_stream_here", "_law_size", "_law_table_here", "_law_turn", "_law_one", "_law_thing", "_law_due"], b_law, .own⟩
def pg : List Fd := [d_is_integer, d_is_between, d_is_bit, d_is_value, d_is_row, d_is_table, d_require_table, d_wires_in, d_wires_of, d_forced_in, d_value_at, d_fixed_in, d_used_wires, d__law_stream, d__law_draw, d__law_pick, d__law_rows, d__law_number, d__law_forced, d__law_table, d__law_is_bit, d__law_odd, d__law_used, d__law_right, d__law_no_table, d_law]
def gt : List (Str × D) := [("UNKNOWN", (.int 2)), ("MAX_WIRES", (.int 4)), ("SIZES", (.wdt (intK [(1, 0), (2, 1), (4, 2), (8, 3), (16, 4)])))]
end LW
namespace LW
open PySem PySem.Spec PyProof.Rows L2 GG
def isInt : D → Bool
  | .int _ => true
  | _ => false
def isVal (lo hi : Int) : D → Bool
  | .int i => decide (lo ≤ i) && decide (i ≤ hi)
  | _ => false
def okT : D → Bool
  | .wdt _ => false
  | _ => true
theorem e_is_integer (n : Nat) (d : D) (S : Sto) (h : okT d = true) : evF pg (n + 1) 0 [d] S = .ok (.bl (isInt d)) S := by
  (rw [u_fn n (f := d_is_integer) rfl rfl]; unfold runF)
  cases d <;> first | (simp! [d_is_integer, b_is_integer, isInt]; done) | (simp [okT] at h)
theorem e_is_between (n : Nat) (d : D) (lo hi : Int) (S : Sto) (h : okT d = true) : evF pg (n + 2) 1 [d, .int lo, .int hi] S = .ok (.bl (isVal lo hi d)) S := by
  (rw [u_fn (n + 1) (f := d_is_between) rfl rfl]; unfold runF)
  cases d with
  | int i =>
    cases h1 : decide (lo ≤ i) <;> cases h2 : decide (i ≤ hi) <;> simp! [d_is_between, b_is_between, isVal, isInt, e_is_integer n _ S h, h1, h2]
  | wdt _ => simp [okT] at h
  | _ => simp! [d_is_between, b_is_between, isVal, isInt, e_is_integer n _ S h]
theorem e_is_bit (n : Nat) (d : D) (S : Sto) (h : okT d = true) : evF pg (n + 3) 2 [d] S = .ok (.bl (isVal 0 1 d)) S := by
  (rw [u_fn (n + 2) (f := d_is_bit) rfl rfl]; unfold runF)
  simp! [d_is_bit, b_is_bit, e_is_between n d 0 1 S h]
theorem e_is_value (n : Nat) (d : D) (S : Sto) (h : okT d = true) : evF pg (n + 3) 3 [d] S = .ok (.bl (isVal 0 2 d)) S := by
  (rw [u_fn (n + 2) (f := d_is_value) rfl rfl]; unfold runF)
  simp! [d_is_value, b_is_value, e_is_between n d 0 2 S h]
def isRow : D → Bool
  | .tup ds => ds.all (isVal 0 2)
  | _ => false
def szOk (n : Nat) : Bool := decide (n ∈ [1, 2, 4, 8, 16])
def isTab : D → Bool
  | .tup ds => szOk ds.length && ds.all (isVal 0 1)
  | _ => false
/-- its items may be asked -/
def okI : D → Bool
  | .tup ds => ds.all okT
  | .wdt _ => false
  | _ => true
theorem e_is_row (n : Nat) (d : D) (S : Sto) (h : okI d = true) : evF pg (n + 4) 4 [d] S = .ok (.bl (isRow d)) S := by
  (rw [u_fn (n + 3) (f := d_is_row) rfl rfl]; unfold runF)
  cases d with
  | tup ds =>
    have e := ev_lc (cl := evF pg (n + 3)) (ε := [.v (D.tup ds), .u]) (S := S) (e := .call 3 [.v 1]) (own := [1]) (tg := .n 1) (it := .itv (.v 0)) (p := (ds, (D.tup ds).still)) (S1 := S) (fun x => .bl (isVal 0 2 x)) (by simp! [])
      (fun x hx => ⟨[.v (.tup ds), .v x], by simp! [], by simp! [e_is_value n x S (by simp only [okI, List.all_eq_true] at h; exact h x hx)]⟩)
    simp! [d_is_row, b_is_row, isRow, e, boolsOf_map, Function.comp_def]
  | wdt _ => simp [okI] at h
  | _ => simp! [d_is_row, b_is_row, isRow]
theorem e_is_table (n : Nat) (d : D) (S : Sto) (h : okI d = true) : evF pg (n + 4) 5 [d] S = .ok (.bl (isTab d)) S := by
  (rw [u_fn (n + 3) (f := d_is_table) rfl rfl]; unfold runF)
  cases d with
  | tup ds =>
    have e := ev_lc (cl := evF pg (n + 3)) (ε := [.v (D.tup ds), .u]) (S := S) (e := .call 2 [.v 1]) (own := [1]) (tg := .n 1) (it := .itv (.v 0)) (p := (ds, (D.tup ds).still)) (S1 := S) (fun x => .bl (isVal 0 1 x)) (by simp! [])
      (fun x hx => ⟨[.v (.tup ds), .v x], by simp! [], by simp! [e_is_bit n x S (by simp only [okI, List.all_eq_true] at h; exact h x hx)]⟩)
    have e3 : opIn false (.int ds.length) (.wdt (intK [(1, 0), (2, 1), (4, 2), (8, 3), (16, 4)])) = some (.bl (szOk ds.length)) := by
      have e9 : (hasK (intK [(1, 0), (2, 1), (4, 2), (8, 3), (16, 4)]) (.inl (ds.length : Int))) = szOk ds.length := by
        rw [Bool.eq_iff_iff]
        simp [hasK, intK, szOk]
        omega
      rw [← e9]; rfl
    cases h1 : szOk ds.length <;> rw [h1] at e3 <;> simp! [d_is_table, b_is_table, isTab, e, boolsOf_map, Function.comp_def, e3, h1]
  | wdt _ => simp [okI] at h
  | _ => simp! [d_is_table, b_is_table, isTab]
end LW
namespace LW
open PySem PySem.Spec PyProof.Rows L2 GG
abbrev tb (t : List Int) : D := .tup (t.map .int)
def stepI (o : Int) (xs : List Nat) : List Nat := if o = 2 then xs.map (fun x => 2 * x) ++ xs.map (fun x => 2 * x + 1) else xs.map fun x => 2 * x + o.toNat
def blk (t : List Int) (m i : Nat) : List Int := (t.drop (i * m)).take m
theorem blk_lo (t : List Int) (h i : Nat) : (blk t (2 * h) i).take h = blk t h (2 * i) := by
  unfold blk
  rw [List.take_take, Nat.min_eq_left (by omega), show i * (2 * h) = 2 * i * h by rw [Nat.mul_left_comm, Nat.mul_assoc]]
theorem blk_hi (t : List Int) (h i : Nat) : (blk t (2 * h) i).drop h = blk t h (2 * i + 1) := by
  unfold blk
  rw [List.drop_take, List.drop_drop, show 2 * h - h = h by omega, show i * (2 * h) + h = (2 * i + 1) * h by rw [Nat.add_mul, Nat.one_mul, Nat.mul_left_comm, Nat.mul_assoc]]
theorem cut_take (ds : List D) (h : Nat) : GG.cutD ds none (some (h : Int)) = ds.take h := by
  unfold GG.cutD
  rw [HT.sIx_none, HT.sIx_nat, List.drop_zero, Nat.sub_zero]
  by_cases z : h ≤ ds.length
  · rw [Nat.min_eq_left z]
  · rw [Nat.min_eq_right (by omega), List.take_of_length_le (Nat.le_refl _), List.take_of_length_le (by omega)]
theorem cut_drop (ds : List D) (h : Nat) : GG.cutD ds (some (h : Int)) none = ds.drop h := by
  unfold GG.cutD
  rw [HT.sIx_none, HT.sIx_nat]
  by_cases z : h ≤ ds.length
  · rw [Nat.min_eq_left z, List.take_of_length_le (by simp)]
  · rw [Nat.min_eq_right (by omega), List.drop_length, List.drop_of_length_le (by omega), List.take_nil]
/-- the parts -/
def prt (t : List Int) (m : Nat) (xs : List Nat) : D := .lst (xs.map fun i => tb (blk t m i))
theorem sl_tb (t : List Int) (h : Nat) : opSl (tb t) none (some (h : Int)) = some (tb (t.take h)) := by
  simp only [opSl, tb, cut_take, List.map_take]
theorem sr_tb (t : List Int) (h : Nat) : opSl (tb t) (some (h : Int)) none = some (tb (t.drop h)) := by
  simp only [opSl, tb, cut_drop, List.map_drop]
theorem tb_still (t : List Int) : D.still (tb t) = true := by simp only [tb, D.still]; exact still_ints (fun x => x) t
def fbody : List Sm := [.set (.n 5) (.bop .FloorDiv (.bi .len [(.ix (.v 2) (.c (.int 0)))]) (.c (.int 2))), .set (.n 6) (.ife (.cmp .NotEq (.v 3) (.c (.int 1))) (.lc (.sl (.v 8) [] [(.v 5)]) [8] (.n 8) (.itv (.v 2)) []) (.lst [])), .set (.n 7) (.ife (.cmp .NotEq (.v 3) (.c (.int 0))) (.lc (.sl (.v 8) [(.v 5)] []) [8] (.n 8) (.itv (.v 2)) []) (.lst [])), .set (.n 2) (.bop .Add (.v 6) (.v 7))]
theorem ix_prt (t : List Int) (m : Nat) (x : Nat) (xs : List Nat) : opIx (prt t m (x :: xs)) (.int 0) = some (tb (blk t m x)) := by
  simp [opIx, prt, keysOf, seqOf, atI, ixN]
theorem blk_len {t : List Int} {m i : Nat} (h : (i + 1) * m ≤ t.length) : (blk t m i).length = m := by
  unfold blk
  rw [List.length_take, List.length_drop]
  rw [Nat.add_mul, Nat.one_mul] at h
  omega
theorem lc_lo (cl : Nat → List D → Sto → Out D) (S : Sto) (t : List Int) (h : Nat) (xs : List Nat) (s0 s1 s3 s4 s6 s7 : Sl) (sl : Sl) (hs : sl = .o (prt t (2 * h) xs) ∨ sl = .v (prt t (2 * h) xs)) :
    evE cl (.lc (.sl (.v 8) [] [(.v 5)]) [8] (.n 8) (.itv (.v 2)) []) [s0, s1, sl, s3, s4, .v (.int (h : Nat)), s6, s7, .u] S = .ok (prt t h (xs.map (2 * ·))) S := by
  have e := ev_lc (cl := cl) (ε := [s0, s1, sl, s3, s4, .v (.int (h : Nat)), s6, s7, .u]) (S := S) (e := .sl (.v 8) [] [(.v 5)]) (own := [8]) (tg := .n 8) (it := .itv (.v 2)) (p := (xs.map fun i => tb (blk t (2 * h) i), false)) (S1 := S)
    (fun d => (opSl d none (some (h : Int))).getD .non) (by rcases hs with rfl | rfl <;> simp! [prt]) (fun d hd => by
      obtain ⟨i, _, rfl⟩ := List.mem_map.mp hd
      refine ⟨[s0, s1, .v (prt t (2 * h) xs), s3, s4, .v (.int (h : Nat)), s6, s7, .v (tb (blk t (2 * h) i))], ?_, ?_⟩
      · rcases hs with rfl | rfl <;> simp! []
      · rw [sl_tb]; simp! [sl_tb])
  rw [e]
  simp only [List.map_map, prt, Function.comp_def, sl_tb, Option.getD_some, blk_lo]
theorem lc_hi (cl : Nat → List D → Sto → Out D) (S : Sto) (t : List Int) (h : Nat) (xs : List Nat) (s0 s1 s3 s4 s6 s7 : Sl) (sl : Sl) (hs : sl = .o (prt t (2 * h) xs) ∨ sl = .v (prt t (2 * h) xs)) :
    evE cl (.lc (.sl (.v 8) [(.v 5)] []) [8] (.n 8) (.itv (.v 2)) []) [s0, s1, sl, s3, s4, .v (.int (h : Nat)), s6, s7, .u] S = .ok (prt t h (xs.map (2 * · + 1))) S := by
  have e := ev_lc (cl := cl) (ε := [s0, s1, sl, s3, s4, .v (.int (h : Nat)), s6, s7, .u]) (S := S) (e := .sl (.v 8) [(.v 5)] []) (own := [8]) (tg := .n 8) (it := .itv (.v 2)) (p := (xs.map fun i => tb (blk t (2 * h) i), false)) (S1 := S)
    (fun d => (opSl d (some (h : Int)) none).getD .non) (by rcases hs with rfl | rfl <;> simp! [prt]) (fun d hd => by
      obtain ⟨i, _, rfl⟩ := List.mem_map.mp hd
      refine ⟨[s0, s1, .v (prt t (2 * h) xs), s3, s4, .v (.int (h : Nat)), s6, s7, .v (tb (blk t (2 * h) i))], ?_, ?_⟩
      · rcases hs with rfl | rfl <;> simp! []
      · rw [sr_tb]; simp! [sr_tb])
  rw [e]
  simp only [List.map_map, prt, Function.comp_def, sr_tb, Option.getD_some, blk_hi]
theorem prt_len (t : List Int) (m : Nat) (xs : List Nat) : (xs.map fun i => tb (blk t m i)).length = xs.length := by simp
theorem add_prt (t : List Int) (m : Nat) (xs ys : List Nat) (h : xs.length + ys.length ≤ 1000) : opAdd (prt t m xs) (prt t m ys) = some (prt t m (xs ++ ys)) := by
  have : xs.length + ys.length ≤ 16777216 := by omega
  simp [opAdd, prt, sl_eq, this]
/-- one turn -/
theorem fturn (cl : Nat → List D → Sto → Out D) (S : Sto) (t : List Int) (R : D) (h : Nat) (x : Nat) (xs : List Nat) (o : Int) (s5 s6 s7 : Sl) (sl : Sl) (hs : sl = .o (prt t (2 * h) (x :: xs)) ∨ sl = .v (prt t (2 * h) (x :: xs)))
    (ho : o = 0 ∨ o = 1 ∨ o = 2) (hx : (x + 1) * (2 * h) ≤ t.length) (hl : xs.length ≤ 400) :
    ∃ s6' s7', evSs cl fbody [.v (tb t), .v R, sl, .v (.int o), .u, s5, s6, s7, .u] S = .ok (.nx [.v (tb t), .v R, .v (prt t h (stepI o (x :: xs))), .v (.int o), .u, .v (.int (h : Nat)), s6', s7', .u]) S := by
  have l1 : lenOf (tb (blk t (2 * h) x)) = some ((2 * h : Nat) : Int) := by
    simp only [tb, lenOf, List.length_map, blk_len hx]
  have l2 : (2 * (h : Int)) / 2 = (h : Nat) := by omega
  have hix := ix_prt t (2 * h) x xs
  have pn : prt t h [] = .lst [] := rfl
  have st : ∀ m ys, D.still (prt t m ys) = false := fun m ys => rfl
  have a1 := add_prt t h ((x :: xs).map (2 * ·)) [] (by simp; omega)
  have a2 := add_prt t h [] ((x :: xs).map (2 * · + 1)) (by simp; omega)
  have a3 := add_prt t h ((x :: xs).map (2 * ·)) ((x :: xs).map (2 * · + 1)) (by simp; omega)
  rw [pn] at a1 a2
  simp only [List.append_nil, List.nil_append] at a1 a2
  have i0 : stepI 0 (x :: xs) = (x :: xs).map (2 * ·) := by simp [stepI]
  have i1 : stepI 1 (x :: xs) = (x :: xs).map (2 * · + 1) := by simp [stepI]
  have i2 : stepI 2 (x :: xs) = (x :: xs).map (2 * ·) ++ (x :: xs).map (2 * · + 1) := by simp [stepI]
  generalize hy : x :: xs = ys at *
  have lo := lc_lo cl S t h ys
  have hi := lc_hi cl S t h ys
  rcases ho with rfl | rfl | rfl
  · refine ⟨.v (prt t h (ys.map (2 * ·))), .v (.lst []), ?_⟩
    rcases hs with rfl | rfl <;> simp [fbody, -Out.bind_ok, -Out.bind_exc, -Out.bind_bad, bind_ok, bind_bad, on_ok, seq_nx, of_some, onO_some', rdE, ee_v, ee_c, ee_bop, ee_cmp, ee_ife, ee_lst, ee_ix, ee_bi, es_nil, es_cons, st_nil, st_cons, sm_set, tg_n, fz, fzF, fzV, fzN, Sl.frz, vs, vss, setF, GG.fresh, D.still1, cmpF, binF, opDiv, opEq, tru, biF, hix, l1, l2, lo, hi, st, a1, a2, a3, i0, i1, i2, sl_eq, D.still]
  · refine ⟨.v (.lst []), .v (prt t h (ys.map (2 * · + 1))), ?_⟩
    rcases hs with rfl | rfl <;> simp [fbody, -Out.bind_ok, -Out.bind_exc, -Out.bind_bad, bind_ok, bind_bad, on_ok, seq_nx, of_some, onO_some', rdE, ee_v, ee_c, ee_bop, ee_cmp, ee_ife, ee_lst, ee_ix, ee_bi, es_nil, es_cons, st_nil, st_cons, sm_set, tg_n, fz, fzF, fzV, fzN, Sl.frz, vs, vss, setF, GG.fresh, D.still1, cmpF, binF, opDiv, opEq, tru, biF, hix, l1, l2, lo, hi, st, a1, a2, a3, i0, i1, i2, sl_eq, D.still]
  · refine ⟨.v (prt t h (ys.map (2 * ·))), .v (prt t h (ys.map (2 * · + 1))), ?_⟩
    rcases hs with rfl | rfl <;> simp [fbody, -Out.bind_ok, -Out.bind_exc, -Out.bind_bad, bind_ok, bind_bad, on_ok, seq_nx, of_some, onO_some', rdE, ee_v, ee_c, ee_bop, ee_cmp, ee_ife, ee_lst, ee_ix, ee_bi, es_nil, es_cons, st_nil, st_cons, sm_set, tg_n, fz, fzF, fzV, fzN, Sl.frz, vs, vss, setF, GG.fresh, D.still1, cmpF, binF, opDiv, opEq, tru, biF, hix, l1, l2, lo, hi, st, a1, a2, a3, i0, i1, i2, sl_eq, D.still]
end LW
namespace LW
open PySem PySem.Spec PyProof.Rows L2 GG
def idx (row : List Int) (xs : List Nat) : List Nat := row.foldl (fun xs o => stepI o xs) xs
def ok3 (rs : List Int) : Prop := ∀ r ∈ rs, r = 0 ∨ r = 1 ∨ r = 2
theorem stepI_ne {o : Int} {xs : List Nat} (h : xs ≠ []) : stepI o xs ≠ [] := by
  cases xs with
  | nil => exact absurd rfl h
  | cons a r => unfold stepI; split <;> simp
theorem stepI_len (o : Int) (xs : List Nat) : (stepI o xs).length ≤ 2 * xs.length := by
  unfold stepI; split <;> simp <;> omega
theorem stepI_mem {o : Int} {xs : List Nat} {j : Nat} (ho : o = 0 ∨ o = 1 ∨ o = 2) (h : j ∈ stepI o xs) : ∃ i ∈ xs, j = 2 * i ∨ j = 2 * i + 1 := by
  unfold stepI at h
  split at h
  · rcases List.mem_append.mp h with h | h
    · obtain ⟨i, m, rfl⟩ := List.mem_map.mp h; exact ⟨i, m, .inl rfl⟩
    · obtain ⟨i, m, rfl⟩ := List.mem_map.mp h; exact ⟨i, m, .inr rfl⟩
  · obtain ⟨i, m, rfl⟩ := List.mem_map.mp h
    rcases ho with rfl | rfl | rfl
    · exact ⟨i, m, .inl rfl⟩
    · exact ⟨i, m, .inr rfl⟩
    · exact absurd rfl ‹_›
/-- all numbers are places of parts of size m -/
def fit (t : List Int) (m : Nat) (xs : List Nat) : Prop := ∀ i ∈ xs, (i + 1) * m ≤ t.length
theorem fit_step {t : List Int} {h : Nat} {xs : List Nat} {o : Int} (ho : o = 0 ∨ o = 1 ∨ o = 2) (hf : fit t (2 * h) xs) : fit t h (stepI o xs) := fun j hj => by
  obtain ⟨i, m, e⟩ := stepI_mem ho hj
  have := hf i m
  have e1 : (i + 1) * (2 * h) = (2 * i + 1 + 1) * h := by rw [show 2 * i + 1 + 1 = 2 * (i + 1) by omega, Nat.mul_left_comm, Nat.mul_assoc]
  rcases e with rfl | rfl
  · exact Nat.le_trans (Nat.mul_le_mul_right h (by omega)) (e1 ▸ this)
  · exact e1 ▸ this
theorem floop (cl : Nat → List D → Sto → Out D) (S : Sto) (t : List Int) (R : D) : ∀ (row : List Int) (xs : List Nat) (sl s3 s5 s6 s7 : Sl), (sl = .o (prt t (2 ^ row.length) xs) ∨ sl = .v (prt t (2 ^ row.length) xs)) → ok3 row → xs ≠ [] → fit t (2 ^ row.length) xs → xs.length * 2 ^ row.length ≤ 16 →
    ∃ sl' s3' s5' s6' s7', forLoop (tgS (.n 3)) (evSs cl fbody) (row.map .int) [.v (tb t), .v R, sl, s3, .u, s5, s6, s7, .u] S = .ok (.nx [.v (tb t), .v R, sl', s3', .u, s5', s6', s7', .u]) S ∧ (sl' = .o (prt t 1 (idx row xs)) ∨ sl' = .v (prt t 1 (idx row xs)))
  | [], xs, sl, s3, s5, s6, s7, hs, _, _, _, _ => ⟨sl, s3, s5, s6, s7, by simp [forLoop], by simpa [idx] using hs⟩
  | o :: row, xs, sl, s3, s5, s6, s7, hs, ho, hne, hf, hl => by
    obtain ⟨x, ys, rfl⟩ : ∃ x ys, xs = x :: ys := by cases xs with | nil => exact absurd rfl hne | cons x ys => exact ⟨x, ys, rfl⟩
    have e2 : 2 ^ (o :: row).length = 2 * 2 ^ row.length := by rw [List.length_cons, Nat.pow_succ, Nat.mul_comm]
    rw [e2] at hs hf hl
    have hpos : 1 ≤ 2 ^ row.length := Nat.one_le_two_pow
    have hsmall : (x :: ys).length * (2 * 2 ^ row.length) ≤ 16 := hl
    have h16 : (x :: ys).length ≤ 16 := Nat.le_trans (Nat.le_mul_of_pos_right _ (by omega)) hsmall
    obtain ⟨s6', s7', e⟩ := fturn cl S t R (2 ^ row.length) x ys o s5 s6 s7 sl hs (ho o List.mem_cons_self) (hf x List.mem_cons_self) (by simp at h16; omega)
    have hl2 : (stepI o (x :: ys)).length * 2 ^ row.length ≤ 16 := by
      refine Nat.le_trans (Nat.mul_le_mul_right _ (stepI_len o (x :: ys))) ?_
      rw [Nat.mul_assoc, Nat.mul_left_comm]; exact hsmall
    obtain ⟨sl2, s32, s52, s62, s72, f1, f2⟩ := floop cl S t R row (stepI o (x :: ys)) (.v (prt t (2 ^ row.length) (stepI o (x :: ys)))) (.v (.int o)) (.v (.int ((2 ^ row.length : Nat) : Int))) s6' s7' (.inr rfl) (fun r m => ho r (List.mem_cons_of_mem _ m)) (stepI_ne (by simp)) (fit_step (ho o List.mem_cons_self) hf) hl2
    refine ⟨sl2, s32, s52, s62, s72, ?_, by simpa [idx] using f2⟩
    rw [List.map_cons]
    unfold forLoop
    have et : tgS (.n 3) (.int o) [.v (tb t), .v R, sl, s3, .u, s5, s6, s7, .u] = some [.v (tb t), .v R, sl, .v (.int o), .u, s5, s6, s7, .u] := by simp [tg_n]
    rw [et]
    dsimp only
    rw [e]
    exact f1
def seen (t : List Int) (row : List Int) : List Int := (idx row [0]).map fun i => t.getD i 0
def fin (s : List Int) : Int := if s.count (s.getD 0 0) = s.length then s.getD 0 0 else 2
theorem idx_ne (row : List Int) : ∀ xs : List Nat, xs ≠ [] → idx row xs ≠ [] := by
  induction row with
  | nil => intro xs h; exact h
  | cons o r ih => intro xs h; exact ih _ (stepI_ne h)
theorem idx_fit (t : List Int) : ∀ (row : List Int) (xs : List Nat), ok3 row → fit t (2 ^ row.length) xs → fit t 1 (idx row xs)
  | [], xs, _, h => by simpa [idx] using h
  | o :: r, xs, ho, h => by
    have e2 : 2 ^ (o :: r).length = 2 * 2 ^ r.length := by rw [List.length_cons, Nat.pow_succ, Nat.mul_comm]
    rw [e2] at h
    exact idx_fit t r _ (fun x m => ho x (List.mem_cons_of_mem _ m)) (fit_step (ho o List.mem_cons_self) h)
theorem seen_ne (t row : List Int) : seen t row ≠ [] := by
  unfold seen
  have := idx_ne row [0] (by simp)
  cases h : idx row [0] with
  | nil => exact absurd h this
  | cons a r => simp
theorem blk1 {t : List Int} {i : Nat} (h : (i + 1) * 1 ≤ t.length) : blk t 1 i = [t.getD i 0] := by
  unfold blk
  have hi : i < t.length := by omega
  have e : t.getD i 0 = t[i] := by simp [List.getD, hi]
  rw [Nat.mul_one, List.drop_eq_getElem_cons hi, e]
  rfl
theorem e_forced_in (n : Nat) (t row : List Int) (S : Sto) (ho : ok3 row) (hl : t.length = 2 ^ row.length) (h4 : row.length ≤ 4) : evF pg (n + 1) 9 [tb t, tb row] S = .ok (.int (fin (seen t row))) S := by
  (rw [u_fn n (f := d_forced_in) rfl rfl]; unfold runF)
  have p16 : 2 ^ row.length ≤ 16 := Nat.pow_le_pow_right (by decide) h4
  have b1 : blk t (2 ^ row.length) 0 = t := by unfold blk; rw [Nat.zero_mul, List.drop_zero, ← hl, List.take_length]
  have f0 : fit t (2 ^ row.length) [0] := fun i hi => by rw [List.mem_singleton.mp hi, hl]; omega
  obtain ⟨sl, s3, s5, s6, s7, e, hs⟩ := floop (evF pg n) S t (tb row) row [0] (.o (.lst [tb t])) .u .u .u .u (.inl (by simp [prt, b1])) ho (by simp) f0 (by simpa using p16)
  have fit1 := idx_fit t row [0] ho f0
  have stT : D.still (tb t) = true := tb_still t
  have stR : D.still (tb row) = true := tb_still row
  have itr : iterV (tb row) = some (row.map .int) := rfl
  have e4 : evE (evF pg n) (.lc (.ix (.v 8) (.c (.int 0))) [8] (.n 8) (.itv (.v 2)) []) [.v (tb t), .v (tb row), sl, s3, .u, s5, s6, s7, .u] S = .ok (.lst ((seen t row).map .int)) S := by
    have e := ev_lc (cl := evF pg n) (ε := [.v (tb t), .v (tb row), sl, s3, .u, s5, s6, s7, .u]) (S := S) (e := .ix (.v 8) (.c (.int 0))) (own := [8]) (tg := .n 8) (it := .itv (.v 2)) (p := ((idx row [0]).map fun i => tb (blk t 1 i), false)) (S1 := S)
      (fun d => (opIx d (.int 0)).getD .non) (by rcases hs with rfl | rfl <;> simp! [prt]) (fun d hd => by
        obtain ⟨i, mi, rfl⟩ := List.mem_map.mp hd
        refine ⟨[.v (tb t), .v (tb row), .v (prt t 1 (idx row [0])), s3, .u, s5, s6, s7, .v (tb (blk t 1 i))], ?_, ?_⟩
        · rcases hs with rfl | rfl <;> simp! []
        · have q : opIx (tb (blk t 1 i)) (.int 0) = some (.int (t.getD i 0)) := by rw [blk1 (fit1 i mi)]; rfl
          rw [q]; simp! [q])
    rw [e]
    congr 2
    unfold seen
    rw [List.map_map, List.map_map]
    refine List.map_congr_left fun i mi => ?_
    show (opIx (tb (blk t 1 i)) (.int 0)).getD .non = _
    rw [blk1 (fit1 i mi)]; rfl
  obtain ⟨a, r, hs1⟩ : ∃ a r, seen t row = a :: r := by
    cases h : seen t row with
    | nil => exact absurd h (seen_ne t row)
    | cons a r => exact ⟨a, r, rfl⟩
  rw [hs1] at e4 ⊢
  unfold fbody at e
  have st4 : D.stills ((a :: r).map .int) = true := still_ints (fun x => x) (a :: r)
  have cnt : intsOf ((a :: r).map .int) = some (a :: r) := by simpa using intsOf_map (fun x : Int => x) (a :: r)
  have ix0 : opIx (.lst ((a :: r).map .int)) (.int 0) = some (.int a) := by simp [opIx, keysOf, seqOf, atI, ixN]
  have body : evSs (evF pg n) b_forced_in [.v (tb t), .v (tb row), .u, .u, .u, .u, .u, .u, .u] S = .ok (.rt (.int (fin (a :: r)))) S := by
    have e1 : evS (evF pg n) (.set (.n 2) (.lst [(.v 0)])) [.v (tb t), .v (tb row), .u, .u, .u, .u, .u, .u, .u] S = .ok (.nx [.v (tb t), .v (tb row), .o (.lst [tb t]), .u, .u, .u, .u, .u, .u]) S := by simp! [stT]
    have e2 : evI (evF pg n) (.itv (.v 1)) [.v (tb t), .v (tb row), .o (.lst [tb t]), .u, .u, .u, .u, .u, .u] S = .ok (row.map .int, true) S := by
      rw [ei_itv, ee_v]; simp [rdE, bind_ok, of_some, itr, stR]
    have e3 : evS (evF pg n) (.set (.n 4) (.lc (.ix (.v 8) (.c (.int 0))) [8] (.n 8) (.itv (.v 2)) [])) [.v (tb t), .v (tb row), sl, s3, .u, s5, s6, s7, .u] S = .ok (.nx [.v (tb t), .v (tb row), sl, s3, .o (.lst ((a :: r).map .int)), s5, s6, s7, .u]) S := by
      rw [sm_set, e4]
      have st5 : D.stills (r.map .int) = true := still_ints (fun x => x) r
      simp [on_ok, setF, GG.fresh, D.still1, D.still, D.stills, onO_some', fzN, st5]
    unfold b_forced_in
    rw [st_cons, e1, seq_nx, st_cons, sm_for, e2, on_ok]
    dsimp only
    rw [if_pos rfl, e, seq_nx, st_cons, e3, seq_nx, st_cons, sm_ret]
    have e5 : evE (evF pg n) (.ife (.cmp .Eq (.me .count (.v 4) [(.ix (.v 4) (.c (.int 0)))]) (.bi .len [(.v 4)])) (.ix (.v 4) (.c (.int 0))) (.g "UNKNOWN" (.int 2))) [.v (tb t), .v (tb row), sl, s3, .o (.lst ((a :: r).map .int)), s5, s6, s7, .u] S = .ok (.int (fin (a :: r))) S := by
      generalize hd : (a :: r).map D.int = L at *
      have ln : lenOf (.lst L) = some (((a :: r).length : Nat) : Int) := by rw [← hd]; simp [lenOf]
      simp only [ee_ife, ee_cmp, ee_me, ee_v, rdE, ee_ix, ee_c, ee_bi, es_cons, es_nil, List.getElem?_cons_succ, List.getElem?_cons_zero]
      have mf : meF .count (.lst L) [.int a] = some (.int (((a :: r).count a : Nat) : Int)) := by simp [meF, lstOf, cnt]
      have ll : L.length = (a :: r).length := by rw [← hd]; simp
      have fa : fin (a :: r) = if (a :: r).count a = (a :: r).length then a else 2 := rfl
      simp! [ix0, mf, ll, fa]
      split <;> split <;> first | rfl | omega
    rw [e5]
    rfl
  show (match evSs (evF pg n) b_forced_in [.v (tb t), .v (tb row), .u, .u, .u, .u, .u, .u, .u] S with
    | .ok (.rt d) S1 => Out.ok d S1
    | .ok (.nx _) S1 => .ok .non S1
    | .ok _ _ => .bad
    | .exc c v _ S1 => .exc c v S1
    | .bad => .bad) = _
  rw [body]
end LW
namespace LW
open PySem PySem.Spec PyProof.Rows L2 GG
/-- the numbers whose bit for the wire is 0 -/
def lows (n w : Nat) : List Nat := (List.range (2 ^ n)).filter fun i => i / 2 ^ (n - 1 - w) % 2 == 0
def part (t : List Int) (n w b : Nat) : List Int := (lows n w).map fun i => t.getD (i + b * 2 ^ (n - 1 - w)) 0
theorem lst1 (t : List Int) (h : t.length = 1) : ∃ a, t = [a] := by
  match t, h with
  | [a], _ => exact ⟨a, rfl⟩
theorem lst2 (t : List Int) (h : t.length = 2) : ∃ a b, t = [a, b] := by
  match t, h with
  | [a, b], _ => exact ⟨a, b, rfl⟩
theorem lst4 (t : List Int) (h : t.length = 4) : ∃ a b c d, t = [a, b, c, d] := by
  match t, h with
  | [a, b, c, d], _ => exact ⟨a, b, c, d, rfl⟩
theorem lst8 (t : List Int) (h : t.length = 8) : ∃ a b c d e f g i, t = [a, b, c, d, e, f, g, i] := by
  match t, h with
  | [a, b, c, d, e, f, g, i], _ => exact ⟨a, b, c, d, e, f, g, i, rfl⟩
theorem lst16 (t : List Int) (h : t.length = 16) : ∃ a b c d e f g i a1 b1 c1 d1 e1 f1 g1 i1, t = [a, b, c, d, e, f, g, i, a1, b1, c1, d1, e1, f1, g1, i1] := by
  match t, h with
  | [a, b, c, d, e, f, g, i, a1, b1, c1, d1, e1, f1, g1, i1], _ => exact ⟨a, b, c, d, e, f, g, i, a1, b1, c1, d1, e1, f1, g1, i1, rfl⟩
theorem e_fixed (k : Nat) (S : Sto) (n w b : Nat) (t : List Int) (hn : n ≤ 4) (hw : w < n) (hb : b < 2) (ht : t.length = 2 ^ n) :
    evF pg (k + 1) 11 [tb t, .int w, .int b] S = .ok (tb (part t n w b)) S := by
  match n, hn with
  | 0, _ => exact absurd hw (Nat.not_lt_zero _)
  | 1, _ =>
    obtain ⟨a, c, rfl⟩ := lst2 t ht
    match w, hw, b, hb with
    | 0, _, 0, _ => kernel_rfl
    | 0, _, 1, _ => kernel_rfl
  | 2, _ =>
    obtain ⟨a0, a1, a2, a3, rfl⟩ := lst4 t ht
    match w, hw, b, hb with
    | 0, _, 0, _ => kernel_rfl
    | 0, _, 1, _ => kernel_rfl
    | 1, _, 0, _ => kernel_rfl
    | 1, _, 1, _ => kernel_rfl
  | 3, _ =>
    obtain ⟨a0, a1, a2, a3, a4, a5, a6, a7, rfl⟩ := lst8 t ht
    match w, hw, b, hb with
    | 0, _, 0, _ => kernel_rfl
    | 0, _, 1, _ => kernel_rfl
    | 1, _, 0, _ => kernel_rfl
    | 1, _, 1, _ => kernel_rfl
    | 2, _, 0, _ => kernel_rfl
    | 2, _, 1, _ => kernel_rfl
  | 4, _ =>
    obtain ⟨a0, a1, a2, a3, a4, a5, a6, a7, b0, b1, b2, b3, b4, b5, b6, b7, rfl⟩ := lst16 t ht
    match w, hw, b, hb with
    | 0, _, 0, _ => kernel_rfl
    | 0, _, 1, _ => kernel_rfl
    | 1, _, 0, _ => kernel_rfl
    | 1, _, 1, _ => kernel_rfl
    | 2, _, 0, _ => kernel_rfl
    | 2, _, 1, _ => kernel_rfl
    | 3, _, 0, _ => kernel_rfl
    | 3, _, 1, _ => kernel_rfl
end LW
namespace LW
open PySem PySem.Spec PyProof.Rows L2 GG
def bits (t : List Int) : Prop := ∀ x ∈ t, x = 0 ∨ x = 1
theorem okI_tb (t : List Int) : okI (tb t) = true := by simp [okI, tb, okT]
theorem isTab_tb {t : List Int} {n : Nat} (hb : bits t) (hn : n ≤ 4) (ht : t.length = 2 ^ n) : isTab (tb t) = true := by
  simp only [tb, isTab, Bool.and_eq_true, List.all_map, List.all_eq_true, List.length_map, ht]
  refine ⟨?_, fun x hx => ?_⟩
  · match n, hn with
    | 0, _ => rfl
    | 1, _ => rfl
    | 2, _ => rfl
    | 3, _ => rfl
    | 4, _ => rfl
  · rcases hb x hx with rfl | rfl <;> rfl
theorem e_require (k : Nat) (S : Sto) (t : List Int) (h : isTab (tb t) = true) : evF pg (k + 5) 6 [tb t] S = .ok .non S := by
  (rw [u_fn (k + 4) (f := d_require_table) rfl rfl]; unfold runF)
  simp! [d_require_table, b_require_table, e_is_table k (tb t) S (okI_tb t), h]
theorem ix_sizes {n : Nat} (hn : n ≤ 4) : opIx (.wdt (intK [(1, 0), (2, 1), (4, 2), (8, 3), (16, 4)])) (.int ((2 ^ n : Nat) : Int)) = some (.int (n : Nat)) := by
  match n, hn with
  | 0, _ => rfl
  | 1, _ => rfl
  | 2, _ => rfl
  | 3, _ => rfl
  | 4, _ => rfl
theorem e_wires_in (k : Nat) (S : Sto) (n : Nat) (t : List Int) (hn : n ≤ 4) (ht : t.length = 2 ^ n) : evF pg (k + 1) 7 [tb t] S = .ok (.int (n : Nat)) S := by
  (rw [u_fn k (f := d_wires_in) rfl rfl]; unfold runF)
  have h := ix_sizes hn
  simp only [Int.natCast_pow, Int.cast_ofNat_Int] at h
  simp! [d_wires_in, b_wires_in, tb, ht, h]
theorem e_wires_of (k : Nat) (S : Sto) (n : Nat) (t : List Int) (hb : bits t) (hn : n ≤ 4) (ht : t.length = 2 ^ n) : evF pg (k + 6) 8 [tb t] S = .ok (.int (n : Nat)) S := by
  (rw [u_fn (k + 5) (f := d_wires_of) rfl rfl]; unfold runF)
  simp! [d_wires_of, b_wires_of, e_require k S t (isTab_tb hb hn ht), e_wires_in (k + 4) S n t hn ht]
theorem e_value_at (k : Nat) (S : Sto) (n : Nat) (t row : List Int) (hb : bits t) (hn : n ≤ 4) (ht : t.length = 2 ^ n) (hr : ok3 row) (hl : row.length = n) :
    evF pg (k + 6) 10 [tb t, tb row] S = .ok (.int (fin (seen t row))) S := by
  (rw [u_fn (k + 5) (f := d_value_at) rfl rfl]; unfold runF)
  have ir : isRow (tb row) = true := by
    simp only [tb, isRow, List.all_map, List.all_eq_true]
    exact fun x hx => by rcases hr x hx with rfl | rfl | rfl <;> rfl
  have r := e_is_row (k + 1) (tb row) S (okI_tb row)
  have f := e_forced_in (k + 4) t row S hr (by rw [hl]; exact ht) (by omega)
  have hR : tb row = .tup (row.map .int) := rfl
  rw [hR] at r ir f ⊢
  simp! [d_value_at, b_value_at, e_require k S t (isTab_tb hb hn ht), e_wires_in (k + 4) S n t hn ht, r, ir, hl, f]
def used (t : List Int) (n w : Nat) : Bool := decide (part t n w 0 ≠ part t n w 1)
theorem e_used_wires (k : Nat) (S : Sto) (n : Nat) (t : List Int) (hb : bits t) (hn : n ≤ 4) (ht : t.length = 2 ^ n) :
    evF pg (k + 6) 12 [tb t] S = .ok (tb (((List.range n).filter (used t n)).map fun w => ((w : Nat) : Int))) S := by
  (rw [u_fn (k + 5) (f := d_used_wires) rfl rfl]; unfold runF)
  have e := ev_lcf (cl := evF pg (k + 5)) (ε := [.v (tb t), .u]) (S := S) (e := .v 1) (c := .cmp .NotEq (.call 11 [(.v 0), (.v 1), (.c (.int 0))]) (.call 11 [(.v 0), (.v 1), (.c (.int 1))])) (own := [1]) (tg := .n 1) (it := .rng [(.call 7 [(.v 0)])])
    (p := ((List.range n).map fun (w : Nat) => D.int (w : Nat), true)) (S1 := S)
    (fun d => match d with | .int i => used t n i.toNat | _ => false) (fun d => d) (by
      simp! [e_wires_in (k + 4) S n t hn ht]
      match n, hn with
      | 0, _ => rfl
      | 1, _ => rfl
      | 2, _ => rfl
      | 3, _ => rfl
      | 4, _ => rfl) (fun d hd => by
      obtain ⟨w, hw, rfl⟩ := List.mem_map.mp hd
      have hw' := List.mem_range.mp hw
      have f0 : evF pg (k + 5) 11 [tb t, .int w, .int 0] S = .ok (tb (part t n w 0)) S := e_fixed (k + 4) S n w 0 t hn hw' (by omega) ht
      have f1 : evF pg (k + 5) 11 [tb t, .int w, .int 1] S = .ok (tb (part t n w 1)) S := e_fixed (k + 4) S n w 1 t hn hw' (by omega) ht
      have q := eq_tup true (part t n w 0) (part t n w 1)
      refine ⟨[.v (tb t), .v (.int w)], by simp! [], ?_, fun _ => by simp! []⟩
      have c : evE (evF pg (k + 5)) (.cmp .NotEq (.call 11 [(.v 0), (.v 1), (.c (.int 0))]) (.call 11 [(.v 0), (.v 1), (.c (.int 1))])) [.v (tb t), .v (.int w)] S = .ok (.bl (used t n w)) S := by
        have q2 : cmpF .NotEq (tb (part t n w 0)) (tb (part t n w 1)) = some (.bl (used t n w)) := by
          refine q.trans ?_
          simp [used]
        have c0 : evE (evF pg (k + 5)) (.call 11 [(.v 0), (.v 1), (.c (.int 0))]) [.v (tb t), .v (.int w)] S = .ok (tb (part t n w 0)) S := by simp! [f0]
        have c1 : evE (evF pg (k + 5)) (.call 11 [(.v 0), (.v 1), (.c (.int 1))]) [.v (tb t), .v (.int w)] S = .ok (tb (part t n w 1)) S := by simp! [f1]
        rw [ee_cmp, c0, bind_ok, c1, bind_ok, q2, of_some]
      simp! [c])
  simp! [d_used_wires, b_used_wires, e_require k S t (isTab_tb hb hn ht), e]
  rw [List.filter_map]
  rfl
end LW
namespace LW
open PySem PySem.Spec PyProof.Rows L2 GG
theorem emod_rng (a : Int) {t : Int} (h : 0 < t) : 0 ≤ a % t ∧ a % t < t := ⟨Int.emod_nonneg _ (by omega), Int.emod_lt_of_pos _ h⟩
theorem e_draw (n : Nat) (k : Nat) (t : Int) (S : Sto) (hk : k < S.length) (h0 : 0 < t) (h1 : t < 1073741824) :
    ∃ (r : Nat) (S' : Sto), evF pg (n + 1) 14 [.stm k, .int t] S = .ok (.int (r : Nat)) S' ∧ (r : Int) < t ∧ S'.length = S.length := by
  obtain ⟨a, b, c, e⟩ : ∃ a b c, S[k]? = some (a, b, c) := ⟨S[k].1, S[k].2.1, S[k].2.2, by simp [hk]⟩
  suffices q : ∃ (r : Int) (o : Int × Int × Int), evF pg (n + 1) 14 [.stm k, .int t] S = .ok (.int r) (S.set k o) ∧ 0 ≤ r ∧ r < t by
    obtain ⟨r, o, e, z, l⟩ := q
    obtain ⟨m, rfl⟩ : ∃ m : Nat, r = m := ⟨r.toNat, by omega⟩
    exact ⟨m, _, e, l, by simp⟩
  (rw [u_fn n (f := d__law_draw) rfl rfl]; unfold runF)
  have e' : ∀ x, (S.set k x)[k]? = some x := fun x => by simp [hk]
  by_cases ha : 0 < a
  · refine ⟨a % t, (a / t, b, c), ?_, emod_rng a h0⟩
    simp! [d__law_draw, b__law_draw, e, ha, h0, h1]
  · have q1 := emod_rng (b + 1000159 * (c + 1)) (t := 2305843009213693951) (by decide)
    generalize hone : (b + 1000159 * (c + 1)) % 2305843009213693951 = one at q1
    have q2 := emod_rng (one * one) (t := 2305843009213693921) (by decide)
    generalize htwo : (one * one) % 2305843009213693921 = two at q2
    have q3 := emod_rng (two * one + 6361 * (c + 1)) (t := 2305843009213693907) (by decide)
    generalize hthr : (two * one + 6361 * (c + 1)) % 2305843009213693907 = thr at q3
    refine ⟨thr / 4096 % t, (a, b, c + 1), ?_, emod_rng _ h0⟩
    have b1 : -18446744073709551616 < one := by omega
    have b2 : one < 18446744073709551616 := by omega
    simp! [d__law_draw, b__law_draw, e, e', ha, h0, h1, hone, htwo, hthr, b1, b2]
theorem atI_nat {ds : List D} {r : Nat} (h : r < ds.length) : atI ds (r : Nat) = some ds[r] := by simp [atI, ixN, h]
theorem e_pickL (n : Nat) (k : Nat) (ds : List D) (S : Sto) (hk : k < S.length) (h0 : 0 < ds.length) (h1 : ds.length < 1000000) :
    ∃ (d : D) (S' : Sto), evF pg (n + 2) 15 [.stm k, .lst ds] S = .ok d S' ∧ d ∈ ds ∧ S'.length = S.length := by
  (rw [u_fn (n + 1) (f := d__law_pick) rfl rfl]; unfold runF)
  obtain ⟨r, S1, e, hr, hl⟩ := e_draw n k ds.length S hk (by omega) (by omega)
  have lt : r < ds.length := by omega
  have q : opIx (.lst ds) (.int (r : Nat)) = some ds[r] := by simp [opIx, keysOf, seqOf, atI_nat lt]
  refine ⟨ds[r], S1, ?_, List.getElem_mem lt, hl⟩
  simp! [d__law_pick, b__law_pick, e, q]
theorem e_pickT (n : Nat) (k : Nat) (ds : List D) (S : Sto) (hk : k < S.length) (h0 : 0 < ds.length) (h1 : ds.length < 1000000) :
    ∃ (d : D) (S' : Sto), evF pg (n + 2) 15 [.stm k, .tup ds] S = .ok d S' ∧ d ∈ ds ∧ S'.length = S.length := by
  (rw [u_fn (n + 1) (f := d__law_pick) rfl rfl]; unfold runF)
  obtain ⟨r, S1, e, hr, hl⟩ := e_draw n k ds.length S hk (by omega) (by omega)
  have lt : r < ds.length := by omega
  have q : opIx (.tup ds) (.int (r : Nat)) = some ds[r] := by simp [opIx, keysOf, seqOf, atI_nat lt]
  refine ⟨ds[r], S1, ?_, List.getElem_mem lt, hl⟩
  simp! [d__law_pick, b__law_pick, e, q]
theorem e_cell (cl : Nat → List D → Sto → Out D) (ns : List Int) (k : Nat) (S : Sto) : ∃ c : Int, evE cl (.ife (.cmp .Lt (.v 1) (.bi .len [(.v 0)])) (.ix (.v 0) (.v 1)) (.bop .Add (.bop .Mult (.c (.int 17)) (.v 1)) (.c (.int 8)))) [.v (.rol (ns.map .int)), .v (.int k), .u, .u, .u] S = .ok (.int c) S := by
  by_cases h : k < ns.length
  · refine ⟨ns[k], ?_⟩
    have q : opIx (.rol (ns.map .int)) (.int (k : Nat)) = some (.int ns[k]) := by
      have l : k < (ns.map D.int).length := by simpa using h
      simp only [opIx, keysOf, seqOf, Option.bind_some, atI_nat l, List.getElem_map]
    simp! [h, q]
  · exact ⟨17 * k + 8, by simp! [h]⟩
theorem e_stream (n : Nat) (ns : List Int) (k : Nat) (S : Sto) : ∃ a b : Int, evF pg (n + 1) 13 [.rol (ns.map .int), .int k] S = .ok (.lst [.int a, .int b, .int 0]) S := by
  obtain ⟨c, ec⟩ := e_cell (evF pg n) ns k S
  rw [u_fm n (f := d__law_stream) rfl rfl]
  unfold runM
  have b60 : ((Builtin.Int.intBits 10 : Nat) : Int) * 60 ≤ 134217728 := by decide
  have b660 : ((Builtin.Int.intBits 1000000000000000000000000000000000000000000000000000000000000 : Nat) : Int) * 11 ≤ 134217728 := by decide +kernel
  have b18 : ((Builtin.Int.intBits 10 : Nat) : Int) * 18 ≤ 134217728 := by decide
  have key : (evF pg (n + 1) 13 [.rol (ns.map .int), .int k] S).wp fun d S' => ∃ a b : Int, d = .lst [.int a, .int b, .int 0] ∧ S' = S := by
    rw [u_fm n (f := d__law_stream) rfl rfl]
    unfold runM
    simp! [d__law_stream, b__law_stream, ec, b60, b660, b18]
  obtain ⟨d, S', e, a, b, rfl, rfl⟩ := key.get
  rw [u_fm n (f := d__law_stream) rfl rfl] at e
  exact ⟨a, b, e⟩
end LW
namespace LW
open PySem PySem.Spec PyProof.Rows L2 GG
def uS1 : Sm := .set (.n 4) (.ix (.lst [(.c (.int 8)), (.c (.int 4)), (.c (.int 2)), (.c (.int 1))]) (.bop .Add (.bop .Sub (.c (.int 4)) (.v 1)) (.v 3)))
def uS2 : Sm := .set (.n 5) (.lc (.v 6) [6] (.n 6) (.rng [(.bi .len [(.v 0)])]) [(.cmp .Eq (.bop .Mod (.bi .int [(.bop .FloorDiv (.v 6) (.v 4))]) (.c (.int 2))) (.c (.int 0)))])
def uC : Ex := .cmp .NotEq (.lc (.c (.int 1)) [6] (.n 6) (.itv (.v 5)) [(.cmp .NotEq (.ix (.v 0) (.v 6)) (.ix (.v 0) (.bop .Add (.v 6) (.v 4))))]) (.lst [])
def gap (n w : Nat) : Int := ((2 ^ (n - 1 - w) : Nat) : Int)
def lowI (n w : Nat) : List D := (lows n w).map fun i => D.int (i : Nat)
theorem u1 (cl : Nat → List D → Sto → Out D) (S : Sto) (n w : Nat) (T : D) (F s4 s5 : Sl) (hn : n ≤ 4) (hw : w < n) :
    evS cl uS1 [.v T, .v (.int n), F, .v (.int w), s4, s5, .u] S = .ok (.nx [.v T, .v (.int n), F, .v (.int w), .v (.int (gap n w)), s5, .u]) S := by
  match n, hn, w, hw with
  | 1, _, 0, _ => kernel_rfl
  | 2, _, 0, _ => kernel_rfl
  | 2, _, 1, _ => kernel_rfl
  | 3, _, 0, _ => kernel_rfl
  | 3, _, 1, _ => kernel_rfl
  | 3, _, 2, _ => kernel_rfl
  | 4, _, 0, _ => kernel_rfl
  | 4, _, 1, _ => kernel_rfl
  | 4, _, 2, _ => kernel_rfl
  | 4, _, 3, _ => kernel_rfl
theorem u2' (cl : Nat → List D → Sto → Out D) (S : Sto) (n w : Nat) (t : List Int) (F s5 : Sl) (hn : n ≤ 4) (hw : w < n) (ht : t.length = 2 ^ n) :
    evS cl uS2 [.v (tb t), .v (.int n), F, .v (.int w), .v (.int (gap n w)), s5, .u] S = .ok (.nx [.v (tb t), .v (.int n), F, .v (.int w), .v (.int (gap n w)), .o (.lst (lowI n w)), .u]) S := by
  match n, hn with
  | 0, _ => exact absurd hw (Nat.not_lt_zero _)
  | 1, _ =>
    obtain ⟨a, c, rfl⟩ := lst2 t ht
    match w, hw with
    | 0, _ => kernel_rfl
  | 2, _ =>
    obtain ⟨a0, a1, a2, a3, rfl⟩ := lst4 t ht
    match w, hw with
    | 0, _ => kernel_rfl
    | 1, _ => kernel_rfl
  | 3, _ =>
    obtain ⟨a0, a1, a2, a3, a4, a5, a6, a7, rfl⟩ := lst8 t ht
    match w, hw with
    | 0, _ => kernel_rfl
    | 1, _ => kernel_rfl
    | 2, _ => kernel_rfl
  | 4, _ =>
    obtain ⟨a0, a1, a2, a3, a4, a5, a6, a7, b0, b1, b2, b3, b4, b5, b6, b7, rfl⟩ := lst16 t ht
    match w, hw with
    | 0, _ => kernel_rfl
    | 1, _ => kernel_rfl
    | 2, _ => kernel_rfl
    | 3, _ => kernel_rfl
theorem low_lt {n w i : Nat} (hn : n ≤ 4) (hw : w < n) (h : i ∈ lows n w) : i + 2 ^ (n - 1 - w) < 2 ^ n := by
  have q : ∀ n ≤ 4, ∀ w < n, ∀ i ∈ lows n w, i + 2 ^ (n - 1 - w) < 2 ^ n := by decide +kernel
  exact q n hn w hw i h
theorem ix_tb {t : List Int} {i : Nat} (h : i < t.length) : opIx (tb t) (.int (i : Nat)) = some (.int (t.getD i 0)) := by
  simp [opIx, tb, keysOf, seqOf, atI, ixN, h, List.getD]
def ugap (t : List Int) (n w i : Nat) : Bool := !decide (t.getD i 0 = t.getD (i + 2 ^ (n - 1 - w)) 0)
theorem uc (cl : Nat → List D → Sto → Out D) (S : Sto) (n w : Nat) (t : List Int) (F : Sl) (hn : n ≤ 4) (hw : w < n) (ht : t.length = 2 ^ n) :
    evE cl uC [.v (tb t), .v (.int n), F, .v (.int w), .v (.int (gap n w)), .o (.lst (lowI n w)), .u] S = .ok (.bl (used t n w)) S := by
  unfold uC
  have e := ev_lcf (cl := cl) (ε := [.v (tb t), .v (.int n), F, .v (.int w), .v (.int (gap n w)), .o (.lst (lowI n w)), .u]) (S := S) (e := .c (.int 1)) (c := .cmp .NotEq (.ix (.v 0) (.v 6)) (.ix (.v 0) (.bop .Add (.v 6) (.v 4)))) (own := [6]) (tg := .n 6) (it := .itv (.v 5))
    (p := (lowI n w, false)) (S1 := S)
    (fun d => match d with | .int i => ugap t n w i.toNat | _ => false) (fun d => .int 1) (by simp! []) (fun d hd => by
      obtain ⟨i, hi, rfl⟩ := List.mem_map.mp hd
      have lt := low_lt hn hw hi
      have x0 := ix_tb (t := t) (i := i) (by rw [ht]; exact Nat.lt_of_le_of_lt (Nat.le_add_right _ _) lt)
      have x1 := ix_tb (t := t) (i := i + 2 ^ (n - 1 - w)) (by rw [ht]; exact lt)
      rw [Int.natCast_add] at x1
      have x1' : opIx (tb t) (.int ((i : Int) + gap n w)) = some (.int (t.getD (i + 2 ^ (n - 1 - w)) 0)) := x1
      refine ⟨[.v (tb t), .v (.int n), F, .v (.int w), .v (.int (gap n w)), .v (.lst (lowI n w)), .v (.int i)], by simp! [], ?_, fun _ => by simp! []⟩
      simp! [x0, x1', ugap])
  have e2 : ((lowI n w).filter fun d => match d with | .int i => ugap t n w i.toNat | _ => false).map (fun _ => D.int 1) = (((lows n w).filter (ugap t n w)).map fun _ => (1 : Int)).map .int := by
    unfold lowI
    rw [List.filter_map, List.map_map, List.map_map]
    rfl
  rw [ee_cmp, e, bind_ok, ee_lst, es_nil, bind_ok, if_pos (show ([] : List D).length ≤ sizeLine from Nat.zero_le _), bind_ok]
  dsimp only
  rw [e2]
  have q := eq_lst true (((lows n w).filter (ugap t n w)).map fun _ => (1 : Int)) []
  have q2 : cmpF .NotEq (.lst ((((lows n w).filter (ugap t n w)).map fun _ => (1 : Int)).map .int)) (.lst []) = some (.bl (used t n w)) := by
    refine q.trans ?_
    congr 2
    rw [if_pos rfl, Bool.eq_iff_iff]
    simp [used, part, ugap]
  rw [q2, of_some]
def uB : List Sm := [uS1, uS2, .ife uC [.app 2 (.v 3)] []]
theorem uTurn (cl : Nat → List D → Sto → Out D) (S : Sto) (n w : Nat) (t : List Int) (fs : List Int) (s4 s5 : Sl) (hn : n ≤ 4) (hw : w < n) (ht : t.length = 2 ^ n) (hf : fs.length ≤ 100) :
    evSs cl uB [.v (tb t), .v (.int n), .o (.lst (fs.map .int)), .v (.int w), s4, s5, .u] S = .ok (.nx [.v (tb t), .v (.int n), .o (.lst ((fs ++ if used t n w = true then [((w : Nat) : Int)] else []).map .int)), .v (.int w), .v (.int (gap n w)), .o (.lst (lowI n w)), .u]) S := by
  unfold uB
  rw [st_cons, u1 cl S n w _ _ s4 s5 hn hw, seq_nx, st_cons, u2' cl S n w t _ s5 hn hw ht, seq_nx, st_cons, sm_ife, uc cl S n w t _ hn hw ht]
  have : fs.length < 16777216 := by omega
  cases h : used t n w <;> simp! [this]
theorem uLoop (cl : Nat → List D → Sto → Out D) (S : Sto) (n : Nat) (t : List Int) (hn : n ≤ 4) (ht : t.length = 2 ^ n) : ∀ (ws : List Nat) (fs : List Int) (s3 s4 s5 : Sl), (∀ w ∈ ws, w < n) → fs.length + ws.length ≤ 100 →
    ∃ s3' s4' s5', forLoop (tgS (.n 3)) (evSs cl uB) (ws.map fun w => .int (w : Nat)) [.v (tb t), .v (.int n), .o (.lst (fs.map .int)), s3, s4, s5, .u] S = .ok (.nx [.v (tb t), .v (.int n), .o (.lst ((fs ++ (ws.filter (used t n)).map fun w => ((w : Nat) : Int)).map .int)), s3', s4', s5', .u]) S
  | [], fs, s3, s4, s5, _, _ => ⟨s3, s4, s5, by simp [forLoop]⟩
  | w :: ws, fs, s3, s4, s5, hw, hl => by
    simp only [List.length_cons] at hl
    have e := uTurn cl S n w t fs s4 s5 hn (hw w List.mem_cons_self) ht (by omega)
    obtain ⟨a, b, c, f⟩ := uLoop cl S n t hn ht ws (fs ++ if used t n w = true then [((w : Nat) : Int)] else []) (.v (.int w)) (.v (.int (gap n w))) (.o (.lst (lowI n w))) (fun x m => hw x (List.mem_cons_of_mem _ m)) (by rw [List.length_append]; split <;> simp <;> omega)
    refine ⟨a, b, c, ?_⟩
    rw [List.map_cons]
    unfold forLoop
    have et : tgS (.n 3) (.int w) [.v (tb t), .v (.int n), .o (.lst (fs.map .int)), s3, s4, s5, .u] = some [.v (tb t), .v (.int n), .o (.lst (fs.map .int)), .v (.int w), s4, s5, .u] := by simp [tg_n]
    rw [et]
    dsimp only
    rw [e]
    dsimp only
    rw [f]
    congr 7
    cases h : used t n w <;> simp [h]
theorem e_law_used (k : Nat) (S : Sto) (n : Nat) (t : List Int) (hn : n ≤ 4) (ht : t.length = 2 ^ n) :
    evF pg (k + 1) 22 [tb t, .int n] S = .ok (tb (((List.range n).filter (used t n)).map fun w => ((w : Nat) : Int))) S := by
  rw [u_fn k (f := d__law_used) rfl rfl]
  obtain ⟨a, b, c, f⟩ := uLoop (evF pg k) S n t hn ht (List.range n) [] .u .u .u (fun w h => List.mem_range.mp h) (by simp; omega)
  have e2 := rng_nat (evF pg k) S [.v (tb t), .v (.int n), .o (.lst []), .u, .u, .u, .u] (.v 1) n (by omega) (by simp! [])
  refine runF_rt (ε := [.v (tb t), .v (.int n), .u, .u, .u, .u, .u]) rfl ?_
  have e1 : evS (evF pg k) (.set (.n 2) (.lst [])) [.v (tb t), .v (.int n), .u, .u, .u, .u, .u] S = .ok (.nx [.v (tb t), .v (.int n), .o (.lst []), .u, .u, .u, .u]) S := by simp! []
  unfold uB uS1 uS2 uC at f
  unfold d__law_used b__law_used
  dsimp only
  rw [st_cons, e1, seq_nx, st_cons, sm_for, e2, on_ok]
  dsimp only
  rw [if_pos rfl]
  rw [List.map_nil] at f
  rw [f, seq_nx, st_cons, sm_ret]
  simp! [tb]
end LW
namespace LW
open PySem PySem.Spec PyProof.Rows L2 GG
def nI (xs : List Nat) : D := .lst (xs.map fun i => .int (i : Nat))
def gA : Ex := .lc (.bop .Add (.bop .Mult (.c (.int 2)) (.v 5)) (.ife (.cmp .Eq (.v 3) (.c (.int 2))) (.c (.int 0)) (.v 3))) [5] (.n 5) (.itv (.v 2)) []
def gB : Ex := .lc (.bop .Add (.v 5) (.c (.int 1))) [5] (.n 5) (.itv (.v 2)) []
def gBody : List Sm := [.set (.n 2) gA, .set (.n 2) (.bop .Add (.v 2) (.ife (.cmp .Eq (.v 3) (.c (.int 2))) gB (.lst [])))]
def bit0 (o : Int) : Nat := if o = 1 then 1 else 0
theorem gA_ev (cl : Nat → List D → Sto → Out D) (S : Sto) (T R : D) (xs : List Nat) (o : Int) (s4 : Sl) (sl : Sl) (hs : sl = .o (nI xs) ∨ sl = .v (nI xs)) (ho : o = 0 ∨ o = 1 ∨ o = 2) :
    evE cl gA [.v T, .v R, sl, .v (.int o), s4, .u] S = .ok (nI (xs.map fun i => 2 * i + bit0 o)) S := by
  have e := ev_lc (cl := cl) (ε := [.v T, .v R, sl, .v (.int o), s4, .u]) (S := S) (e := .bop .Add (.bop .Mult (.c (.int 2)) (.v 5)) (.ife (.cmp .Eq (.v 3) (.c (.int 2))) (.c (.int 0)) (.v 3))) (own := [5]) (tg := .n 5) (it := .itv (.v 2))
    (p := (xs.map fun i => .int (i : Nat), false)) (S1 := S) (fun d => match d with | .int i => .int (2 * i + (bit0 o : Nat)) | _ => .non)
    (by rcases hs with rfl | rfl <;> simp! [nI]) (fun d hd => by
      obtain ⟨i, _, rfl⟩ := List.mem_map.mp hd
      refine ⟨[.v T, .v R, .v (nI xs), .v (.int o), s4, .v (.int i)], ?_, ?_⟩
      · rcases hs with rfl | rfl <;> simp! []
      · rcases ho with rfl | rfl | rfl <;> simp! [bit0])
  unfold gA
  rw [e]
  unfold nI
  rw [List.map_map, List.map_map]
  congr 2
theorem gB_ev (cl : Nat → List D → Sto → Out D) (S : Sto) (T R : D) (xs : List Nat) (o : Sl) (s4 : Sl) (sl : Sl) (hs : sl = .o (nI xs) ∨ sl = .v (nI xs)) :
    evE cl gB [.v T, .v R, sl, o, s4, .u] S = .ok (nI (xs.map fun i => i + 1)) S := by
  have e := ev_lc (cl := cl) (ε := [.v T, .v R, sl, o, s4, .u]) (S := S) (e := .bop .Add (.v 5) (.c (.int 1))) (own := [5]) (tg := .n 5) (it := .itv (.v 2))
    (p := (xs.map fun i => .int (i : Nat), false)) (S1 := S) (fun d => match d with | .int i => .int (i + 1) | _ => .non)
    (by rcases hs with rfl | rfl <;> simp! [nI]) (fun d hd => by
      obtain ⟨i, _, rfl⟩ := List.mem_map.mp hd
      refine ⟨[.v T, .v R, .v (nI xs), o, s4, .v (.int i)], ?_, ?_⟩
      · rcases hs with rfl | rfl <;> simp! []
      · simp! [])
  unfold gB
  rw [e]
  unfold nI
  rw [List.map_map, List.map_map]
  congr 2
theorem add_nI (xs ys : List Nat) (h : xs.length + ys.length ≤ 1000) : opAdd (nI xs) (nI ys) = some (nI (xs ++ ys)) := by
  have : xs.length + ys.length ≤ 16777216 := by omega
  simp [opAdd, nI, sl_eq, this]
theorem gTurn (cl : Nat → List D → Sto → Out D) (S : Sto) (T R : D) (xs : List Nat) (o : Int) (s4 : Sl) (sl : Sl) (hs : sl = .o (nI xs) ∨ sl = .v (nI xs)) (ho : o = 0 ∨ o = 1 ∨ o = 2) (hl : xs.length ≤ 400) :
    evSs cl gBody [.v T, .v R, sl, .v (.int o), s4, .u] S = .ok (.nx [.v T, .v R, .v (nI (stepI o xs)), .v (.int o), s4, .u]) S := by
  have st : ∀ xs, D.still1 (nI xs) = true := fun xs => by simp only [nI, D.still1]; exact still_ints (fun i : Nat => (i : Int)) xs
  have e1 : evS cl (.set (.n 2) gA) [.v T, .v R, sl, .v (.int o), s4, .u] S = .ok (.nx [.v T, .v R, .o (nI (xs.map fun i => 2 * i + bit0 o)), .v (.int o), s4, .u]) S := by
    rw [sm_set, gA_ev cl S T R xs o s4 sl hs ho]
    rcases hs with rfl | rfl <;> simp [on_ok, setF, gA, GG.fresh, onO_some', fzN, st]
  have e2 : evE cl (.bop .Add (.v 2) (.ife (.cmp .Eq (.v 3) (.c (.int 2))) gB (.lst []))) [.v T, .v R, .o (nI (xs.map fun i => 2 * i + bit0 o)), .v (.int o), s4, .u] S = .ok (nI (stepI o xs)) S := by
    have g := gB_ev cl S T R (xs.map fun i => 2 * i + bit0 o) (.v (.int o)) s4 _ (.inl rfl)
    have a0 := add_nI (xs.map fun i => 2 * i + bit0 o) [] (by simp; omega)
    have a1 := add_nI (xs.map fun i => 2 * i + bit0 o) ((xs.map fun i => 2 * i + bit0 o).map fun i => i + 1) (by simp; omega)
    have nn : nI [] = .lst [] := rfl
    rw [nn] at a0
    have i0 : stepI 0 xs = xs.map (2 * ·) := by simp [stepI]
    have i1 : stepI 1 xs = xs.map (2 * · + 1) := by simp [stepI]
    have i2 : stepI 2 xs = xs.map (2 * ·) ++ xs.map (2 * · + 1) := by simp [stepI]
    rcases ho with rfl | rfl | rfl
    · have q : (xs.map fun i => 2 * i + bit0 0) = stepI 0 xs ++ [] := by rw [i0]; simp [bit0]
      rw [ee_bop, ee_v]
      simp [rdE, onO_some', bind_ok, of_some, ee_ife, ee_cmp, ee_v, ee_c, cmpF, opEq, tru, ee_lst, es_nil, a0, sl_eq, binF]
      rw [q, List.append_nil]
    · have q : (xs.map fun i => 2 * i + bit0 1) = stepI 1 xs ++ [] := by rw [i1]; simp [bit0]
      rw [ee_bop, ee_v]
      simp [rdE, onO_some', bind_ok, of_some, ee_ife, ee_cmp, ee_v, ee_c, cmpF, opEq, tru, ee_lst, es_nil, a0, sl_eq, binF]
      rw [q, List.append_nil]
    · have b2 : (fun i => 2 * i + bit0 2) = fun i : Nat => 2 * i := by funext i; simp [bit0]
      rw [b2] at g a1 ⊢
      simp only [List.map_map, Function.comp_def] at g a1
      rw [ee_bop, ee_v]
      simp [rdE, onO_some', bind_ok, of_some, ee_ife, ee_cmp, ee_v, ee_c, cmpF, opEq, tru, g, a1, binF, i2]
  have sv : ∀ xs, D.still (nI xs) = false := fun xs => rfl
  unfold gBody
  rw [st_cons, e1, seq_nx, st_cons, sm_set, e2]
  simp [on_ok, setF, GG.fresh, onO_some', fzV, fz, fzF, vs, vss, gB, tg_n, seq_nx, st_nil, sv, Sl.frz]
theorem gLoop (cl : Nat → List D → Sto → Out D) (S : Sto) (T R : D) : ∀ (row : List Int) (xs : List Nat) (s3 : Sl) (sl : Sl), (sl = .o (nI xs) ∨ sl = .v (nI xs)) → ok3 row → xs.length * 2 ^ row.length ≤ 400 →
    ∃ s3' sl', forLoop (tgS (.n 3)) (evSs cl gBody) (row.map .int) [.v T, .v R, sl, s3, .u, .u] S = .ok (.nx [.v T, .v R, sl', s3', .u, .u]) S ∧ (sl' = .o (nI (idx row xs)) ∨ sl' = .v (nI (idx row xs)))
  | [], xs, s3, sl, hs, _, _ => ⟨s3, sl, by simp [forLoop], by simpa [idx] using hs⟩
  | o :: row, xs, s3, sl, hs, ho, hl => by
    have e2 : 2 ^ (o :: row).length = 2 * 2 ^ row.length := by rw [List.length_cons, Nat.pow_succ, Nat.mul_comm]
    rw [e2] at hl
    have hp : 1 ≤ 2 ^ row.length := Nat.one_le_two_pow
    have h4 : xs.length ≤ 400 := Nat.le_trans (Nat.le_mul_of_pos_right _ (by omega)) hl
    have e := gTurn cl S T R xs o .u sl hs (ho o List.mem_cons_self) h4
    have hl2 : (stepI o xs).length * 2 ^ row.length ≤ 400 := by
      refine Nat.le_trans (Nat.mul_le_mul_right _ (stepI_len o xs)) ?_
      rw [Nat.mul_assoc, Nat.mul_left_comm]; exact hl
    obtain ⟨a, b, f, g⟩ := gLoop cl S T R row (stepI o xs) (.v (.int o)) _ (.inr rfl) (fun r m => ho r (List.mem_cons_of_mem _ m)) hl2
    refine ⟨a, b, ?_, by simpa [idx] using g⟩
    rw [List.map_cons]
    unfold forLoop
    have et : tgS (.n 3) (.int o) [.v T, .v R, sl, s3, .u, .u] = some [.v T, .v R, sl, .v (.int o), .u, .u] := by simp [tg_n]
    rw [et]
    dsimp only
    rw [e]
    exact f
def due (s : List Int) : Int := if 0 ∈ s ∧ 1 ∈ s then 2 else s.getD 0 0
theorem due_fin {s : List Int} (hb : bits s) (hne : s ≠ []) : due s = fin s := by
  match s, hne with
  | a :: r, _ =>
    have ha := hb a List.mem_cons_self
    have e : due (a :: r) = if 0 ∈ a :: r ∧ 1 ∈ a :: r then 2 else a := rfl
    have f : fin (a :: r) = if (a :: r).count a = (a :: r).length then a else 2 := rfl
    rw [e, f]
    by_cases h : (a :: r).count a = (a :: r).length
    · rw [if_pos h, if_neg]
      rw [List.count_eq_length] at h
      rintro ⟨h0, h1⟩
      have := h 0 h0
      have := h 1 h1
      omega
    · rw [if_neg h, if_pos]
      rw [List.count_eq_length] at h
      have ⟨b, hm, hn⟩ : ∃ b ∈ a :: r, a ≠ b := by
        refine Classical.byContradiction fun n => h fun b m => Classical.byContradiction fun q => n ⟨b, m, q⟩
      have hb' := hb b hm
      rcases ha with rfl | rfl <;> rcases hb' with rfl | rfl
      · exact absurd rfl hn
      · exact ⟨List.mem_cons_self, hm⟩
      · exact ⟨hm, List.mem_cons_self⟩
      · exact absurd rfl hn
end LW
namespace LW
open PySem PySem.Spec PyProof.Rows L2 GG
theorem seen_bits {t row : List Int} (hb : bits t) (hr : ok3 row) (hl : t.length = 2 ^ row.length) : bits (seen t row) := fun x hx => by
  obtain ⟨i, mi, rfl⟩ := List.mem_map.mp hx
  have f := idx_fit t row [0] hr (fun i hi => by rw [List.mem_singleton.mp hi, hl]; omega) i mi
  have lt : i < t.length := by omega
  have : t.getD i 0 = t[i] := by simp [List.getD, lt]
  rw [this]
  exact hb _ (List.getElem_mem lt)
theorem any_int (s : List Int) (c : Int) : ((s.map D.int).any fun z => eqFD z (.int c)) = decide (c ∈ s) := by
  induction s with
  | nil => rfl
  | cons a r ih => rw [List.map_cons, List.any_cons, ih, Bool.eq_iff_iff]; simp [eqFD]; constructor <;> (rintro (h | h) <;> simp_all)
theorem flat_ints (s : List Int) : (s.map D.int).all flatD = true := by simp [flatD]
theorem in_lst (b : Bool) (s : List Int) (c : Int) : opIn b (.int c) (.lst (s.map .int)) = some (.bl (if b then !decide (c ∈ s) else decide (c ∈ s))) := by
  simp only [opIn, seqOf, flat_ints, any_int, flatD, and_self, if_true]
theorem in_tup (b : Bool) (s : List Int) (c : Int) : opIn b (.int c) (.tup (s.map .int)) = some (.bl (if b then !decide (c ∈ s) else decide (c ∈ s))) := by
  simp only [opIn, seqOf, flat_ints, any_int, flatD, and_self, if_true]
theorem e_law_forced (k : Nat) (S : Sto) (t row : List Int) (hb : bits t) (hr : ok3 row) (hl : t.length = 2 ^ row.length) (h4 : row.length ≤ 4) :
    evF pg (k + 1) 18 [tb t, tb row] S = .ok (.int (fin (seen t row))) S := by
  rw [u_fn k (f := d__law_forced) rfl rfl]
  have p16 : 2 ^ row.length ≤ 16 := Nat.pow_le_pow_right (by decide) h4
  obtain ⟨s3, sl, e, hs⟩ := gLoop (evF pg k) S (tb t) (tb row) row [0] .u (.o (nI [0])) (.inl rfl) hr (by simp; omega)
  have stR : D.still (tb row) = true := tb_still row
  have itr : iterV (tb row) = some (row.map .int) := rfl
  have e1 : evI (evF pg k) (.itv (.v 1)) [.v (tb t), .v (tb row), .o (nI [0]), .u, .u, .u] S = .ok (row.map .int, true) S := by
    rw [ei_itv, ee_v]; simp [rdE, bind_ok, of_some, itr, stR]
  have fit1 := idx_fit t row [0] hr (fun i hi => by rw [List.mem_singleton.mp hi, hl]; omega)
  have e2 : evE (evF pg k) (.lc (.ix (.v 0) (.v 5)) [5] (.n 5) (.itv (.v 2)) []) [.v (tb t), .v (tb row), sl, s3, .u, .u] S = .ok (.lst ((seen t row).map .int)) S := by
    have e := lc_map (cl := evF pg k) (S := S) (ε := [.v (tb t), .v (tb row), sl, s3, .u, .u]) (e := .ix (.v 0) (.v 5)) (own := [5]) (i := 5) (it := .itv (.v 2)) (S1 := S) (b := false) (xs := idx row [0]) (en := fun i => .int (i : Nat))
      (ε' := [.v (tb t), .v (tb row), .v (nI (idx row [0])), s3, .u, .u]) (fun i => .int (t.getD i 0)) (by rcases hs with rfl | rfl <;> simp! [nI]) (by simp) (by rcases hs with rfl | rfl <;> simp! []) (fun i mi => by
        have q := ix_tb (t := t) (i := i) (by have := fit1 i mi; omega)
        simp! [q])
    rw [e, seen, List.map_map]
    rfl
  have bs := seen_bits hb hr hl
  have ne := seen_ne t row
  rw [← due_fin bs ne]
  generalize seen t row = s at e2 bs ne
  have stS : D.stills (s.map .int) = true := still_ints (fun x => x) s
  have ix0 : opIx (.lst (s.map .int)) (.int 0) = some (.int (s.getD 0 0)) := by
    cases s with
    | nil => exact absurd rfl ne
    | cons a r => simp [opIx, keysOf, seqOf, atI, ixN]
  refine fn_ret ?_
  show evSs (evF pg k) b__law_forced [.v (tb t), .v (tb row), .u, .u, .u, .u] S = _
  unfold b__law_forced
  have e0 : evS (evF pg k) (.set (.n 2) (.lst [(.c (.int 0))])) [.v (tb t), .v (tb row), .u, .u, .u, .u] S = .ok (.nx [.v (tb t), .v (tb row), .o (nI [0]), .u, .u, .u]) S := by simp! [nI]
  have e3 : evS (evF pg k) (.set (.n 4) (.lc (.ix (.v 0) (.v 5)) [5] (.n 5) (.itv (.v 2)) [])) [.v (tb t), .v (tb row), sl, s3, .u, .u] S = .ok (.nx [.v (tb t), .v (tb row), sl, s3, .o (.lst (s.map .int)), .u]) S := by
    rw [sm_set, e2]
    simp [on_ok, setF, GG.fresh, D.still1, onO_some', fzN, stS]
  rw [st_cons, e0, seq_nx, st_cons, sm_for, e1, on_ok]
  dsimp only
  rw [if_pos rfl]
  unfold gBody gA gB at e
  rw [e, seq_nx, st_cons, e3, seq_nx, st_cons]
  have i0 := in_lst false s 0
  have i1 := in_lst false s 1
  by_cases h0 : 0 ∈ s <;> by_cases h1 : 1 ∈ s <;> simp! [i0, i1, h0, h1, ix0, due]
end LW
namespace LW
open PySem PySem.Spec PyProof.Rows L2 GG
/-- all rows of numbers up to top -/
def rws : Nat → Nat → List (List Int)
  | 0, _ => [[]]
  | n + 1, top => (rws n top).flatMap fun r => (List.range (top + 1)).map fun x => r ++ [((x : Nat) : Int)]
theorem e_rows (k : Nat) (S : Sto) (n top : Nat) (hn : n ≤ 4) (ht : top = 1 ∨ top = 2) : evF pg (k + 1) 16 [.int n, .int top] S = .ok (.lst ((rws n top).map tb)) S := by
  rcases ht with rfl | rfl <;> match n, hn with
    | 0, _ => kernel_rfl
    | 1, _ => kernel_rfl
    | 2, _ => kernel_rfl
    | 3, _ => kernel_rfl
    | 4, _ => kernel_rfl
theorem rws_len : ∀ (n top : Nat), ∀ r ∈ rws n top, r.length = n
  | 0, top, r, h => by simp [rws] at h; rw [h]; rfl
  | n + 1, top, r, h => by
    simp only [rws, List.mem_flatMap, List.mem_map] at h
    obtain ⟨r1, h1, x, _, rfl⟩ := h
    rw [List.length_append, rws_len n top r1 h1]; rfl
theorem rws_ok : ∀ (n top : Nat), top ≤ 2 → ∀ r ∈ rws n top, ∀ x ∈ r, 0 ≤ x ∧ x ≤ top
  | 0, top, _, r, h => by simp [rws] at h; rw [h]; intro x m; cases m
  | n + 1, top, ht, r, h => by
    simp only [rws, List.mem_flatMap, List.mem_map, List.mem_range] at h
    obtain ⟨r1, h1, x, hx, rfl⟩ := h
    intro y m
    rcases List.mem_append.mp m with m | m
    · exact rws_ok n top ht r1 h1 y m
    · rw [List.mem_singleton.mp m]; omega
theorem rws_ok3 {n top : Nat} (ht : top ≤ 2) {r : List Int} (h : r ∈ rws n top) : ok3 r := fun x m => by
  have := rws_ok n top ht r h x m
  omega
theorem rws_bits {n : Nat} {r : List Int} (h : r ∈ rws n 1) : bits r := fun x m => by
  have := rws_ok n 1 (by omega) r h x m
  omega
def num (r : List Int) : Int := r.foldl (fun a x => 2 * a + x) 0
theorem e_number (k : Nat) (S : Sto) (r : List Int) : evF pg (k + 1) 17 [tb r] S = .ok (.int (num r)) S := by
  rw [u_fn k (f := d__law_number) rfl rfl]
  refine fn_ret ?_
  show evSs (evF pg k) b__law_number [.v (tb r), .u, .u] S = _
  unfold b__law_number
  have itr : iterV (tb r) = some (r.map .int) := rfl
  have stR : D.still (tb r) = true := tb_still r
  obtain ⟨ε', e, s2, rfl⟩ := for_fold (S := S) (tgt := tgS (.n 2)) (body := evSs (evF pg k) [.set (.n 1) (.bop .Add (.bop .Mult (.c (.int 2)) (.v 1)) (.v 2))]) D.int (fun (a : Int) ε => ∃ s, ε = [.v (tb r), .v (.int a), s]) (fun a x => 2 * a + x) (xs := r) (b := 0) (ε := [.v (tb r), .v (.int 0), .u])
    (fun x _ a ε ⟨s, hs⟩ => by
      subst hs
      exact ⟨[.v (tb r), .v (.int a), .v (.int x)], [.v (tb r), .v (.int (2 * a + x)), .v (.int x)], by simp! [], by simp! [], _, rfl⟩) ⟨_, rfl⟩
  have st : D.stills (r.map .int) = true := still_ints (fun x => x) r
  simp only [tb] at e ⊢
  simp! [st, e, num]
/-! ## tables that are drawn -/
def usual (way : Nat) (n : Nat) (r : Nat) : List Int := (rws n 1).map fun row =>
  (((if way = 0 then (if 0 ∈ row then 0 else 1) else if way = 1 then (if 1 ∈ row then 1 else 0) else row.sum) + (r : Int)) % 2)
def tA : Ex := .bi .tuple [(.lc (.bop .Mod (.bi .int [(.bop .Add (.bi .int [(.cmp .NotIn (.c (.int 0)) (.v 5))]) (.v 2))]) (.c (.int 2))) [5] (.n 5) (.itv (.v 3)) [])]
def tB : Ex := .bi .tuple [(.lc (.bop .Mod (.bi .int [(.bop .Add (.bi .int [(.cmp .In (.c (.int 1)) (.v 5))]) (.v 2))]) (.c (.int 2))) [5] (.n 5) (.itv (.v 3)) [])]
def tC : Ex := .bi .tuple [(.lc (.bop .Mod (.bi .int [(.bop .Add (.bi .sum [(.bi .list [(.v 5)])]) (.v 2))]) (.c (.int 2))) [5] (.n 5) (.itv (.v 3)) [])]
theorem tA_ev (cl : Nat → List D → Sto → Out D) (S : Sto) (n r : Nat) (s0 s1 s4 : Sl) (hn : n ≤ 4) (hr : r < 2) : evE cl tA [s0, s1, .v (.int r), .v (.lst ((rws n 1).map tb)), s4, .u] S = .ok (tb (usual 0 n r)) S := by
  match r, hr with
  | 0, _ => match n, hn with
    | 0, _ => kernel_rfl
    | 1, _ => kernel_rfl
    | 2, _ => kernel_rfl
    | 3, _ => kernel_rfl
    | 4, _ => kernel_rfl
  | 1, _ => match n, hn with
    | 0, _ => kernel_rfl
    | 1, _ => kernel_rfl
    | 2, _ => kernel_rfl
    | 3, _ => kernel_rfl
    | 4, _ => kernel_rfl
theorem tB_ev (cl : Nat → List D → Sto → Out D) (S : Sto) (n r : Nat) (s0 s1 s4 : Sl) (hn : n ≤ 4) (hr : r < 2) : evE cl tB [s0, s1, .v (.int r), .v (.lst ((rws n 1).map tb)), s4, .u] S = .ok (tb (usual 1 n r)) S := by
  match r, hr with
  | 0, _ => match n, hn with
    | 0, _ => kernel_rfl
    | 1, _ => kernel_rfl
    | 2, _ => kernel_rfl
    | 3, _ => kernel_rfl
    | 4, _ => kernel_rfl
  | 1, _ => match n, hn with
    | 0, _ => kernel_rfl
    | 1, _ => kernel_rfl
    | 2, _ => kernel_rfl
    | 3, _ => kernel_rfl
    | 4, _ => kernel_rfl
theorem tC_ev (cl : Nat → List D → Sto → Out D) (S : Sto) (n r : Nat) (s0 s1 s4 : Sl) (hn : n ≤ 4) (hr : r < 2) : evE cl tC [s0, s1, .v (.int r), .v (.lst ((rws n 1).map tb)), s4, .u] S = .ok (tb (usual 2 n r)) S := by
  match r, hr with
  | 0, _ => match n, hn with
    | 0, _ => kernel_rfl
    | 1, _ => kernel_rfl
    | 2, _ => kernel_rfl
    | 3, _ => kernel_rfl
    | 4, _ => kernel_rfl
  | 1, _ => match n, hn with
    | 0, _ => kernel_rfl
    | 1, _ => kernel_rfl
    | 2, _ => kernel_rfl
    | 3, _ => kernel_rfl
    | 4, _ => kernel_rfl
theorem usual_bits (w n r : Nat) : bits (usual w n r) := fun x hx => by
  obtain ⟨row, _, rfl⟩ := List.mem_map.mp hx
  omega
theorem rws_num {n : Nat} (hn : n ≤ 4) : (rws n 1).length = 2 ^ n := by
  match n, hn with
  | 0, _ => rfl
  | 1, _ => rfl
  | 2, _ => rfl
  | 3, _ => rfl
  | 4, _ => rfl
theorem usual_len {w n r : Nat} (hn : n ≤ 4) : (usual w n r).length = 2 ^ n := by rw [usual, List.length_map, rws_num hn]
theorem e_table (k : Nat) (S : Sto) (j n : Nat) (hj : j < S.length) (hn : n ≤ 4) :
    ∃ t S', evF pg (k + 2) 19 [.stm j, .int n] S = .ok (tb t) S' ∧ bits t ∧ t.length = 2 ^ n ∧ S'.length = S.length := by
  rw [u_fn (k + 1) (f := d__law_table) rfl rfl]
  obtain ⟨w, S1, ew, lw, l1⟩ := e_draw k j 6 S hj (by decide) (by decide)
  have er : evF pg (k + 1) 16 [.int n, .int 1] S = .ok (.lst ((rws n 1).map tb)) S := e_rows k S n 1 hn (.inl rfl)
  have st : ∀ xs : List (List Int), D.still (.lst (xs.map tb)) = false := fun xs => rfl
  suffices h : ∃ t S', evSs (evF pg (k + 1)) b__law_table [.v (.stm j), .v (.int n), .u, .u, .u, .u] S = .ok (.rt (tb t)) S' ∧ bits t ∧ t.length = 2 ^ n ∧ S'.length = S.length by
    obtain ⟨t, S', e, h⟩ := h
    exact ⟨t, S', fn_ret e, h⟩
  have e1 : evS (evF pg (k + 1)) (.par 3 4 (.call 16 [(.v 1), (.c (.int 1))]) (.call 14 [(.v 0), (.c (.int 6))])) [.v (.stm j), .v (.int n), .u, .u, .u, .u] S
      = .ok (.nx [.v (.stm j), .v (.int n), .u, .v (.lst ((rws n 1).map tb)), .v (.int w), .u]) S1 := by simp! [ew, er, st]
  unfold b__law_table
  by_cases hw : w = 0 ∨ n = 0
  · obtain ⟨ys, S2, e2, p, l2⟩ := lc_ex (cl := evF pg (k + 1)) (ε := [.v (.stm j), .v (.int n), .u, .v (.lst ((rws n 1).map tb)), .v (.int w), .u]) (S := S1) (e := .call 14 [(.v 0), (.c (.int 2))]) (own := [5]) (i := 5) (it := .itv (.v 3)) (S1 := S1) (b := false) (xs := rws n 1) (en := tb)
      (ε' := [.v (.stm j), .v (.int n), .u, .v (.lst ((rws n 1).map tb)), .v (.int w), .u]) (fun _ d => ∃ x, d = .int x ∧ (x = 0 ∨ x = 1)) (by simp! []) (by simp) (by simp! []) (fun x _ S hS => by
        obtain ⟨r, S3, e3, lr, l3⟩ := e_draw k j 2 S (by omega) (by decide) (by decide)
        exact ⟨.int r, S3, by simp! [e3], ⟨(r : Int), rfl, by omega⟩, by omega⟩)
    obtain ⟨t, rfl, hb, hl⟩ := p.pick
    refine ⟨t, S2, ?_, hb, by rw [hl, rws_num hn], by omega⟩
    rw [st_cons, e1, seq_nx, st_cons, sm_ife]
    have hc : ((evE (evF pg (k + 1)) (.or (.cmp .Eq (.v 4) (.c (.int 0))) [(.cmp .Eq (.v 1) (.c (.int 0)))]) [.v (.stm j), .v (.int n), .u, .v (.lst ((rws n 1).map tb)), .v (.int w), .u] S1).bind fun d S1 => Out.of S1 (tru d)) = .ok true S1 := by
      by_cases h0 : w = 0
      · simp! [h0]
      · have h1 : n = 0 := by omega
        simp! [h0, h1]
    rw [hc, on_ok, if_pos rfl]
    simp! [e2, tb]
  · obtain ⟨r, S2, e2, lr, l2⟩ := e_draw k j 2 S1 (by omega) (by decide) (by decide)
    have a := tA_ev (evF pg (k + 1)) S2 n r (.v (.stm j)) (.v (.int n)) (.v (.int w)) hn (by omega)
    have b := tB_ev (evF pg (k + 1)) S2 n r (.v (.stm j)) (.v (.int n)) (.v (.int w)) hn (by omega)
    have c := tC_ev (evF pg (k + 1)) S2 n r (.v (.stm j)) (.v (.int n)) (.v (.int w)) hn (by omega)
    unfold tA at a
    unfold tB at b
    unfold tC at c
    have h0 : w ≠ 0 := by omega
    have h1 : n ≠ 0 := by omega
    by_cases h3 : w < 3
    · refine ⟨_, S2, ?_, usual_bits 0 n r, usual_len hn, by omega⟩
      rw [st_cons, e1]
      have h3' : (w : Int) < 3 := by omega
      simp [seq_nx, st_cons, sm_ife, ee_or, eo_cons, eo_nil, ee_cmp, ee_v, ee_c, rdE, of_some, bind_ok, cmpF, opEq, opInt, tru, h0, h1, on_ok, st_nil, sm_set, ee_call, es_cons, es_nil, e2, setF, GG.fresh, onO_some', fzV, D.still, tg_n, h3, h3', sm_ret, a, seq_rt]
    · by_cases h5 : w < 5
      · refine ⟨_, S2, ?_, usual_bits 1 n r, usual_len hn, by omega⟩
        rw [st_cons, e1]
        have h3' : ¬ (w : Int) < 3 := by omega
        have h5' : (w : Int) < 5 := by omega
        simp [seq_nx, st_cons, sm_ife, ee_or, eo_cons, eo_nil, ee_cmp, ee_v, ee_c, rdE, of_some, bind_ok, cmpF, opEq, opInt, tru, h0, h1, on_ok, st_nil, sm_set, ee_call, es_cons, es_nil, e2, setF, GG.fresh, onO_some', fzV, D.still, tg_n, h3, h3', h5', sm_ret, b, seq_rt]
      · refine ⟨_, S2, ?_, usual_bits 2 n r, usual_len hn, by omega⟩
        rw [st_cons, e1]
        have h3' : ¬ (w : Int) < 3 := by omega
        have h5' : ¬ (w : Int) < 5 := by omega
        simp [seq_nx, st_cons, sm_ife, ee_or, eo_cons, eo_nil, ee_cmp, ee_v, ee_c, rdE, of_some, bind_ok, cmpF, opEq, opInt, tru, h0, h1, on_ok, st_nil, sm_set, ee_call, es_cons, es_nil, e2, setF, GG.fresh, onO_some', fzV, D.still, tg_n, h3, h3', h5', sm_ret, c, seq_rt]
end LW
namespace LW
open PySem PySem.Spec PyProof.Rows L2 GG
theorem e_law_is_bit (n : Nat) (d : D) (S : Sto) (h : okT d = true) : evF pg (n + 1) 20 [d] S = .ok (.bl (isVal 0 1 d)) S := by
  (rw [u_fn n (f := d__law_is_bit) rfl rfl]; unfold runF)
  cases d with
  | int i =>
    have q : ((0 == i) || (1 == i)) = (decide (0 ≤ i) && decide (i ≤ 1)) := by
      rw [Bool.eq_iff_iff]; simp; omega
    simp! [d__law_is_bit, b__law_is_bit, isVal, flatD, eqFD, q, opIn]
  | wdt _ => simp [okT] at h
  | _ => simp! [d__law_is_bit, b__law_is_bit, isVal]
def odds : List D := [.non, .bl true, .bl false, .int (-1), .int 0, .int 1, .int 2, .int 3, .int (10 ^ 39), .str "", .str "a", .str "x", .str "A", .tup [], .lst [], .dct [], .tup [.int 0], .tup [.str "a"], .lst [.int 0],
  .tup [.tup []], .str "a b", .tup [.tup [], .tup []], .tup [.str "x", .int (-1)], .dct [(.inr "a", .int 0)], .dct [(.inr "x", .int 2)], .tup [.tup [.str "a"], .tup []], .tup [.str "settles", .int 1, .tup []],
  .tup [.str "flips", .tup [.tup [], .tup []]], .tup [.int 2]]
theorem odd_1 (cl : Nat → List D → Sto → Out D) (S : Sto) (k : Nat) : evSs cl (b__law_odd.take 2) [.v (.stm k), .u] S = .ok (.nx [.v (.stm k), .v (.lst odds)]) S := by
  kernel_rfl
theorem e_odd (n : Nat) (k : Nat) (S : Sto) (hk : k < S.length) : ∃ (d : D) (S' : Sto), evF pg (n + 3) 21 [.stm k] S = .ok d S' ∧ d ∈ odds ∧ S'.length = S.length := by
  obtain ⟨d, S', e, m, l⟩ := e_pickL n k odds S hk (by decide) (by decide)
  refine ⟨d, S', ?_, m, l⟩
  rw [u_fn (n + 2) (f := d__law_odd) rfl rfl]
  refine fn_ret ?_
  have a := odd_1 (evF pg (n + 2)) S k
  have b : evSs (evF pg (n + 2)) (b__law_odd.drop 2) [.v (.stm k), .v (.lst odds)] S = .ok (.rt d) S' := by
    simp! [b__law_odd, e]
  show evSs (evF pg (n + 2)) b__law_odd [.v (.stm k), .u] S = _
  rw [st_cut 2 a, b]
end LW
namespace LW
open PySem PySem.Spec PyProof.Rows L2 GG
theorem cut_mem {ds : List D} {lo hi : Option Int} {x : D} (h : x ∈ GG.cutD ds lo hi) : x ∈ ds := List.drop_subset _ _ (List.take_subset _ _ h)
theorem cut_len (ds : List D) (lo hi : Option Int) : (GG.cutD ds lo hi).length ≤ ds.length := by
  unfold GG.cutD
  rw [List.length_take, List.length_drop]
  omega
theorem okI_tup {ds : List D} (h : ∀ x ∈ ds, okT x = true) : okI (.tup ds) = true := by simpa only [okI, List.all_eq_true] using h
/-- what is told of a thing -/
theorem told (cl : Nat → List D → Sto → Out D) (d : D) (S : Sto) (s0 s1 s2 : Sl) (hc : ∀ d S, okT d = true → cl 20 [d] S = .ok (.bl (isVal 0 1 d)) S) (h : okI d = true) :
    evSs cl (b__law_no_table.drop 3) [s0, s1, s2, .v d, .u] S = .ok (.rt (.lst [d, .bl (isTab d)])) S := by
  cases d with
  | tup ds =>
    have h' : ∀ x ∈ ds, okT x = true := by simpa only [okI, List.all_eq_true] using h
    have q : opIn true (.int ds.length) (.tup [.int 1, .int 2, .int 4, .int 8, .int 16]) = some (.bl (!szOk ds.length)) := by
      have := in_tup true [1, 2, 4, 8, 16] (ds.length : Int)
      simp only [List.map] at this
      refine this.trans ?_
      congr 2
      rw [Bool.eq_iff_iff]
      simp [szOk]
      omega
    have e := fun S => lc_fil (cl := cl) (S := S) (ε := [s0, s1, s2, .v (.tup ds), .u]) (e := .c (.int 1)) (c := .not (.call 20 [(.v 4)])) (own := [4]) (i := 4) (it := .itv (.v 3)) (S1 := S) (b := D.still (.tup ds)) (xs := ds) (en := fun x => x)
      (ε' := wipeE (fz (vs (.lc (.c (.int 1)) [4] (.n 4) (.itv (.v 3)) [.not (.call 20 [(.v 4)])])) [s0, s1, s2, .v (.tup ds), .u]) [4]) (fun x => !isVal 0 1 x) (fun _ => .int 1) (by simp! []) (by simp) rfl
      (fun x m => by simp! [hc x _ (h' x m)]) (fun x m _ => by simp! [])
    have q2 : opEq false (.lst ((ds.filter fun x => !isVal 0 1 x).map fun _ => .int 1)) (.lst []) = some (.bl (ds.all (isVal 0 1))) := by
      have := eq_lst false ((ds.filter fun x => !isVal 0 1 x).map fun _ => (1 : Int)) []
      rw [List.map_map] at this
      refine this.trans ?_
      congr 2
      rw [if_neg (by decide), Bool.eq_iff_iff]
      simp
    cases hs : szOk ds.length
    · simp! [b__law_no_table, q, hs, isTab]
    · have e3 : evS cl (.ret (.lst [(.v 3), (.cmp .Eq (.lc (.c (.int 1)) [4] (.n 4) (.itv (.v 3)) [(.not (.call 20 [(.v 4)]))]) (.lst []))])) [s0, s1, s2, .v (.tup ds), .u] S = .ok (.rt (.lst [.tup ds, .bl (isTab (.tup ds))])) S := by
        have ee : ∀ S, evE cl (.cmp .Eq (.lc (.c (.int 1)) [4] (.n 4) (.itv (.v 3)) [(.not (.call 20 [(.v 4)]))]) (.lst [])) [s0, s1, s2, .v (.tup ds), .u] S = .ok (.bl (isTab (.tup ds))) S := fun S => by
          rw [ee_cmp, e, bind_ok, ee_lst, es_nil, bind_ok, if_pos (by decide), bind_ok]
          simp only [cmpF, q2, of_some, isTab, hs, Bool.true_and]
        simp! [↓ee]
      simp only [b__law_no_table, List.drop_succ_cons, List.drop_zero]
      rw [st_cons]
      have c0 : evS cl (.ife (.or (.not (.isi (.v 3) .tuple)) [(.cmp .NotIn (.bi .len [(.v 3)]) (.tup [(.c (.int 1)), (.c (.int 2)), (.c (.int 4)), (.c (.int 8)), (.c (.int 16))]))]) [.ret (.lst [(.v 3), (.c (.bl false))])] []) [s0, s1, s2, .v (.tup ds), .u] S = .ok (.nx [s0, s1, s2, .v (.tup ds), .u]) S := by
        simp! [q, hs]
      rw [c0, seq_nx, st_cons, e3, seq_rt]
  | wdt _ => simp [okI] at h
  | _ => simp! [b__law_no_table, isTab]
def noTab (ds : List D) : List D := [.tup (ds ++ GG.cutD ds none (some 1)), .tup (GG.cutD ds none (some (-1))), .tup (ds ++ ds), .lst ds, .tup (ds ++ [.int 2]), .tup (GG.cutD ds (some 1) none ++ [.bl true]), .tup [.tup ds]]
def noTab2 (ds : List D) (x : D) : List D := [.tup (GG.cutD ds none (some (-1)) ++ [.non]), .tup (GG.cutD ds none (some (-1)) ++ [.str "1"]), .tup (GG.cutD ds none (some (-1)) ++ [.int (-1)]), .tup [], x]
theorem odd_okI : ∀ d ∈ odds, okI d = true := by
  have : odds.all okI = true := by decide +kernel
  simpa only [List.all_eq_true] using this
theorem e_no_table (n : Nat) (k : Nat) (t : List Int) (S : Sto) (hk : k < S.length) (ht : t.length ≤ 16) : ∃ (d : D) (S' : Sto), evF pg (n + 4) 24 [.stm k, tb t] S = .ok (.lst [d, .bl (isTab d)]) S' ∧ okI d = true ∧ S'.length = S.length := by
  obtain ⟨x, S1, e1, m1, l1⟩ := e_odd n k S hk
  obtain ⟨ds, hds⟩ : ∃ ds : List D, ds = t.map .int := ⟨_, rfl⟩
  obtain ⟨d, S2, e2, m2, l2⟩ := e_pickL (n + 1) k (noTab ds ++ noTab2 ds x) S1 (by omega) (by simp [noTab]) (by simp [noTab, noTab2])
  have ok : ∀ y ∈ ds, okT y = true := fun y m => by
    rw [hds] at m
    obtain ⟨i, _, rfl⟩ := List.mem_map.mp m
    rfl
  have okc : ∀ lo hi, ∀ y ∈ GG.cutD ds lo hi, okT y = true := fun lo hi y m => ok y (cut_mem m)
  have hd : okI d = true := by
    have one : ∀ (xs : List D) (z : D), (∀ y ∈ xs, okT y = true) → okT z = true → okI (.tup (xs ++ [z])) = true := fun xs z a b => okI_tup fun y m => by
      rcases List.mem_append.mp m with m | m
      · exact a y m
      · rw [List.mem_singleton.mp m]; exact b
    have two : ∀ (xs zs : List D), (∀ y ∈ xs, okT y = true) → (∀ y ∈ zs, okT y = true) → okI (.tup (xs ++ zs)) = true := fun xs z a b => okI_tup fun y m => by
      rcases List.mem_append.mp m with m | m
      · exact a y m
      · exact b y m
    simp only [noTab, noTab2, List.cons_append, List.nil_append, List.mem_cons, List.not_mem_nil, or_false] at m2
    rcases m2 with rfl | rfl | rfl | rfl | rfl | rfl | rfl | rfl | rfl | rfl | rfl | rfl
    · exact two _ _ ok (okc _ _)
    · exact okI_tup (okc _ _)
    · exact two _ _ ok ok
    · rfl
    · exact one _ _ ok rfl
    · exact one _ _ (okc _ _) rfl
    · exact okI_tup fun y m => by rw [List.mem_singleton.mp m]; rfl
    · exact one _ _ (okc _ _) rfl
    · exact one _ _ (okc _ _) rfl
    · exact one _ _ (okc _ _) rfl
    · rfl
    · exact odd_okI _ m1
  refine ⟨d, S2, ?_, hd, by omega⟩
  rw [u_fn (n + 3) (f := d__law_no_table) rfl rfl]
  refine fn_ret ?_
  have ht' : ds.length ≤ 16 := by rw [hds, List.length_map]; exact ht
  have c1 := cut_len ds none (some 1)
  have c2 := cut_len ds none (some (-1))
  have c3 := cut_len ds (some 1) none
  have w1 : ds.length + (GG.cutD ds none (some 1)).length ≤ 16777216 := by omega
  have w2 : ds.length + ds.length ≤ 16777216 := by omega
  have w3 : ds.length + 1 ≤ 16777216 := by omega
  have w4 : (GG.cutD ds none (some (-1))).length + 1 ≤ 16777216 := by omega
  have w5 : (GG.cutD ds (some 1) none).length + 1 ≤ 16777216 := by omega
  have w7 : ds.length ≤ 16777215 := by omega
  have w8 : (GG.cutD ds none (some (-1))).length ≤ 16777215 := by omega
  have w9 : (GG.cutD ds (some 1) none).length ≤ 16777215 := by omega
  have wa : (noTab ds).length ≤ 16777211 := by simp [noTab]
  have w6 : ds.length ≤ 16777216 := by omega
  have hT : tb t = .tup ds := by rw [hds]
  show evSs (evF pg (n + 3)) b__law_no_table [.v (.stm k), .v (tb t), .u, .u, .u] S = _
  rw [hT]
  have sl : ∀ lo hi, opSl (.tup ds) lo hi = some (.tup (GG.cutD ds lo hi)) := fun _ _ => rfl
  have a1 : evS (evF pg (n + 3)) (b__law_no_table[0]) [.v (.stm k), .v (.tup ds), .u, .u, .u] S = .ok (.nx [.v (.stm k), .v (.tup ds), .o (.lst (noTab ds)), .u, .u]) S := by
    simp only [b__law_no_table, List.getElem_cons_zero]
    simp! [sl, w1, w2, w3, w4, w5, w6, w7, w8, w9, noTab]
  have a2 : evS (evF pg (n + 3)) (b__law_no_table[1]) [.v (.stm k), .v (.tup ds), .o (.lst (noTab ds)), .u, .u] S = .ok (.nx [.v (.stm k), .v (.tup ds), .v (.lst (noTab ds ++ noTab2 ds x)), .u, .u]) S1 := by
    simp only [b__law_no_table, List.getElem_cons_zero, List.getElem_cons_succ]
    simp! [sl, w4, w8, wa, e1, noTab2]
  have a3 : evS (evF pg (n + 3)) (b__law_no_table[2]) [.v (.stm k), .v (.tup ds), .v (.lst (noTab ds ++ noTab2 ds x)), .u, .u] S1 = .ok (.nx [.v (.stm k), .v (.tup ds), .v (.lst (noTab ds ++ noTab2 ds x)), .v d, .u]) S2 := by
    simp only [b__law_no_table, List.getElem_cons_zero, List.getElem_cons_succ]
    simp! [e2]
  have a4 := told (evF pg (n + 3)) d S2 (.v (.stm k)) (.v (.tup ds)) (.v (.lst (noTab ds ++ noTab2 ds x))) (fun d S h => e_law_is_bit (n + 2) d S h) hd
  show evSs _ (b__law_no_table[0] :: b__law_no_table[1] :: b__law_no_table[2] :: b__law_no_table.drop 3) _ _ = _
  rw [st_cons, a1, seq_nx, st_cons, a2, seq_nx, st_cons, a3, seq_nx, a4]
end LW
namespace LW
open PySem PySem.Spec PyProof.Rows L2 GG
/-- a row that continues another one -/
def Cont (row fur : List Int) : Prop := All2 (fun x c => (x < 2 → c = x) ∧ (c = 0 ∨ c = 1 ∨ c = 2)) row fur
theorem step_sub {x c : Int} {xs ys : List Nat} (hx : x = 0 ∨ x = 1 ∨ x = 2) (hc : (x < 2 → c = x) ∧ (c = 0 ∨ c = 1 ∨ c = 2)) (h : ∀ i ∈ ys, i ∈ xs) : ∀ i ∈ stepI c ys, i ∈ stepI x xs := fun i hi => by
  obtain ⟨h1, h2⟩ := hc
  by_cases hx2 : x = 2
  · subst hx2
    obtain ⟨j, hj, e⟩ := stepI_mem h2 hi
    simp only [stepI, if_pos, List.mem_append, List.mem_map]
    rcases e with rfl | rfl
    · exact .inl ⟨j, h j hj, rfl⟩
    · exact .inr ⟨j, h j hj, rfl⟩
  · have : c = x := h1 (by omega)
    subst this
    simp only [stepI, if_neg hx2, List.mem_map] at hi ⊢
    obtain ⟨j, hj, e⟩ := hi
    exact ⟨j, h j hj, e⟩
theorem idx_sub : ∀ {row fur : List Int} {xs ys : List Nat}, ok3 row → Cont row fur → (∀ i ∈ ys, i ∈ xs) → ∀ i ∈ idx fur ys, i ∈ idx row xs
  | [], _, xs, ys, _, h, s => by cases h; exact s
  | x :: row, _, xs, ys, hr, h, s => by
    cases h with
    | @cons _ c _ fur hc t =>
      show ∀ i ∈ idx fur (stepI c ys), i ∈ idx row (stepI x xs)
      exact idx_sub (row := row) (fun y m => hr y (List.mem_cons_of_mem _ m)) t (step_sub (hr x List.mem_cons_self) hc s)
theorem fin_sub {s s' : List Int} (hb : bits s) (hs : s' ≠ []) (h : ∀ x ∈ s', x ∈ s) (h2 : fin s < 2) : fin s' = fin s := by
  unfold fin at h2 ⊢
  by_cases c : s.count (s.getD 0 0) = s.length
  · rw [if_pos c]
    rw [List.count_eq_length] at c
    have all : ∀ b ∈ s', b = s.getD 0 0 := fun b m => (c b (h b m)).symm
    obtain ⟨a, r, rfl⟩ : ∃ a r, s' = a :: r := by cases s' with | nil => exact absurd rfl hs | cons a r => exact ⟨a, r, rfl⟩
    have e : (a :: r).getD 0 0 = a := rfl
    have ha := all a List.mem_cons_self
    rw [e, if_pos, ha]
    rw [List.count_eq_length]
    exact fun b m => by rw [all b m, ha]
  · rw [if_neg c] at h2
    exact absurd h2 (by decide)
theorem cont_fin {t row fur : List Int} (hb : bits t) (hr : ok3 row) (hl : t.length = 2 ^ row.length) (hc : Cont row fur) (h2 : fin (seen t row) < 2) : fin (seen t fur) = fin (seen t row) := by
  refine fin_sub (seen_bits hb hr hl) (seen_ne t fur) (fun x hx => ?_) h2
  obtain ⟨i, mi, rfl⟩ := List.mem_map.mp hx
  exact List.mem_map.mpr ⟨i, idx_sub hr hc (fun i h => h) i mi, rfl⟩
theorem cont_ok3 {row fur : List Int} (hc : Cont row fur) : ok3 fur := by
  induction hc with
  | nil => exact fun x m => absurd m List.not_mem_nil
  | cons h t ih =>
    intro x m
    rcases List.mem_cons.mp m with rfl | m
    · exact h.2
    · exact ih x m
theorem idx_bits : ∀ {row : List Int} {x : Nat}, bits row → idx row [x] = [(row.foldl (fun a x => 2 * a + x) (x : Int)).toNat]
  | [], x, _ => by simp [idx]
  | o :: row, x, h => by
    have ho := h o List.mem_cons_self
    have ih := idx_bits (row := row) (x := 2 * x + o.toNat) fun y m => h y (List.mem_cons_of_mem _ m)
    have e : stepI o [x] = [2 * x + o.toNat] := by rcases ho with rfl | rfl <;> rfl
    show idx row (stepI o [x]) = _
    rw [e, ih, List.foldl_cons]
    congr 2
    rcases ho with rfl | rfl <;> simp
theorem num_nn : ∀ {row : List Int} {x : Int}, bits row → 0 ≤ x → 0 ≤ row.foldl (fun a x => 2 * a + x) x
  | [], x, _, h => h
  | o :: row, x, hb, h => by
    have ho := hb o List.mem_cons_self
    exact num_nn (row := row) (fun y m => hb y (List.mem_cons_of_mem _ m)) (show 0 ≤ 2 * x + o by omega)
theorem num_lt : ∀ {row : List Int} {x : Int}, bits row → row.foldl (fun a x => 2 * a + x) x < (x + 1) * ((2 ^ row.length : Nat) : Int)
  | [], x, _ => by simp; omega
  | o :: row, x, hb => by
    have ho := hb o List.mem_cons_self
    have ih := num_lt (row := row) (x := 2 * x + o) fun y m => hb y (List.mem_cons_of_mem _ m)
    rw [List.foldl_cons]
    have e2 : ((2 ^ (o :: row).length : Nat) : Int) = 2 * ((2 ^ row.length : Nat) : Int) := by rw [List.length_cons, Nat.pow_succ, Nat.mul_comm]; rfl
    rw [e2]
    have p : (0 : Int) ≤ ((2 ^ row.length : Nat) : Int) := Int.natCast_nonneg _
    generalize ((2 ^ row.length : Nat) : Int) = P at ih p ⊢
    refine Int.lt_of_lt_of_le ih ?_
    rw [← Int.mul_assoc]
    exact Int.mul_le_mul_of_nonneg_right (by omega) p
theorem fin_bits {t row : List Int} (h : bits row) : fin (seen t row) = t.getD (num row).toNat 0 := by
  unfold seen
  rw [idx_bits h]
  simp [fin, num]
theorem fin_rng {t row : List Int} (hb : bits t) (hr : ok3 row) (hl : t.length = 2 ^ row.length) : 0 ≤ fin (seen t row) ∧ fin (seen t row) ≤ 2 := by
  have b := seen_bits hb hr hl
  have ne := seen_ne t row
  unfold fin
  split
  · cases h : seen t row with
    | nil => exact absurd h ne
    | cons a r =>
      have := b a (by rw [h]; exact List.mem_cons_self)
      show 0 ≤ a ∧ a ≤ 2
      omega
  · decide
theorem gd_tb {t : List Int} (h : bits t) (hl : t.length ≤ 16) : GD (16 * 201) 4 (tb t) := GD.tup (by simpa using hl) fun d m => by
  obtain ⟨i, mi, rfl⟩ := List.mem_map.mp m
  have := h i mi
  exact GD.small (by omega) (by omega)
theorem pow16 {n : Nat} (hn : n ≤ 4) : 2 ^ n ≤ 16 := Nat.pow_le_pow_right (by decide) hn
def fE : Ex := .lc (.ife (.cmp .Lt (.v 7) (.c (.int 2))) (.v 7) (.call 14 [(.v 0), (.c (.int 3))])) [7] (.n 7) (.itv (.v 4)) []
theorem further (n : Nat) (k : Nat) (row : List Int) (S : Sto) (s1 s2 s3 s5 s6 : Sl) (hk : k < S.length) (hr : ok3 row) :
    ∃ fur S', evE (evF pg (n + 1)) fE [.v (.stm k), s1, s2, s3, .v (tb row), s5, s6, .u] S = .ok (.lst (fur.map .int)) S' ∧ Cont row fur ∧ S'.length = S.length := by
  obtain ⟨ys, S2, e2, p, l2⟩ := lc_ex (cl := evF pg (n + 1)) (ε := [.v (.stm k), s1, s2, s3, .v (tb row), s5, s6, .u]) (S := S) (e := .ife (.cmp .Lt (.v 7) (.c (.int 2))) (.v 7) (.call 14 [(.v 0), (.c (.int 3))])) (own := [7]) (i := 7) (it := .itv (.v 4)) (S1 := S) (b := true) (xs := row) (en := D.int)
      (ε' := wipeE (fz (vs fE) [.v (.stm k), s1, s2, s3, .v (tb row), s5, s6, .u]) [7]) (fun x d => ∃ c, d = .int c ∧ (x < 2 → c = x) ∧ (c = 0 ∨ c = 1 ∨ c = 2)) (by
        have st : D.stills (row.map .int) = true := still_ints (fun x => x) row
        simp! [tb, st]) (by simp) rfl (fun x mx S hS => by
        by_cases h2 : x < 2
        · exact ⟨.int x, S, by simp! [fE, h2], ⟨x, rfl, fun _ => rfl, hr x mx⟩, hS⟩
        · obtain ⟨r, S3, e3, lr, l3⟩ := e_draw n k 3 S (by omega) (by decide) (by decide)
          exact ⟨.int r, S3, by simp! [fE, h2, e3], ⟨(r : Int), rfl, fun q => absurd q h2, by omega⟩, by omega⟩)
  obtain ⟨fur, rfl, hp⟩ := p.pickP
  exact ⟨fur, S2, e2, hp, l2⟩
theorem e_right (m : Nat) (k n : Nat) (t : List Int) (S : Sto) (hk : k < S.length) (hb : bits t) (hn : n ≤ 4) (ht : t.length = 2 ^ n) : ∃ S', evF pg (m + 7) 23 [.stm k, tb t, .int n] S = .ok (.bl true) S' ∧ S'.length = S.length := by
  rw [u_fn (m + 6) (f := d__law_right) rfl rfl]
  suffices h : ∃ S', evSs (evF pg (m + 6)) b__law_right [.v (.stm k), .v (tb t), .v (.int n), .u, .u, .u, .u, .u] S = .ok (.rt (.bl true)) S' ∧ S'.length = S.length by
    obtain ⟨S', e, l⟩ := h
    exact ⟨S', fn_ret e, l⟩
  have rp := repr_of (gd_tb hb (by rw [ht]; exact pow16 hn)) (by decide) (by decide)
  obtain ⟨K, hK⟩ : ∃ K, K = shw (tb t) := ⟨_, rfl⟩
  rw [← hK] at rp
  have e1 : ∀ S, evS (evF pg (m + 6)) (.set (.n 3) (.bi .repr [(.v 1)])) [.v (.stm k), .v (tb t), .v (.int n), .u, .u, .u, .u, .u] S = .ok (.nx [.v (.stm k), .v (tb t), .v (.int n), .v (.str K), .u, .u, .u, .u]) S := fun S => by
    rw [sm_set, ee_bi]
    simp [es_cons, es_nil, ee_v, rdE, of_some, bind_ok, rp, on_ok, setF, GG.fresh, onO_some', fzV, D.still, tg_n]
  have f1 := fun S => e_wires_of m S n t hb hn ht
  have f2 := fun S => e_is_table (m + 2) (tb t) S (okI_tb t)
  have f3 := fun S => e_used_wires m S n t hb hn ht
  have f4 := fun S => e_law_used (m + 5) S n t hn ht
  have it := isTab_tb hb hn ht
  have e2 : ∀ S, evS (evF pg (m + 6)) (b__law_right[1]) [.v (.stm k), .v (tb t), .v (.int n), .v (.str K), .u, .u, .u, .u] S = .ok (.nx [.v (.stm k), .v (tb t), .v (.int n), .v (.str K), .u, .u, .u, .u]) S := fun S => by
    simp only [b__law_right, List.getElem_cons_succ, List.getElem_cons_zero]
    generalize ((List.range n).filter (used t n)).map (fun w => ((w : Nat) : Int)) = us at f3 f4
    have q : opEq true (tb us) (tb us) = some (.bl false) := by rw [tb, eq_tup]; simp
    dsimp! [f1, f2, f3, f4, it, q]
  have er2 : ∀ S, evF pg (m + 6) 16 [.int n, .int 2] S = .ok (.lst ((rws n 2).map tb)) S := fun S => e_rows (m + 5) S n 2 hn (.inr rfl)
  have er1 : ∀ S, evF pg (m + 6) 16 [.int n, .int 1] S = .ok (.lst ((rws n 1).map tb)) S := fun S => e_rows (m + 5) S n 1 hn (.inl rfl)
  -- the rows of values
  obtain ⟨ε', S2, e3, ⟨s4, s5, s6, rfl⟩, l2⟩ := for_ex (tgt := tgS (.n 4)) (body := evSs (evF pg (m + 6)) [.set (.n 5) (.call 18 [(.v 1), (.v 4)]), .ife (.cmp .NotEq (.bi .repr [(.call 10 [(.v 1), (.v 4)])]) (.bi .repr [(.v 5)])) [.ret (.c (.bl false))] [], .set (.n 6) (.bi .tuple [fE]), .ife (.and (.cmp .Lt (.v 5) (.c (.int 2))) [(.cmp .NotEq (.call 10 [(.v 1), (.v 6)]) (.v 5))]) [.ret (.c (.bl false))] []])
    tb S.length (fun ε => ∃ s4 s5 s6, ε = [.v (.stm k), .v (tb t), .v (.int n), .v (.str K), s4, s5, s6, .u]) (xs := rws n 2) (ε := [.v (.stm k), .v (tb t), .v (.int n), .v (.str K), .u, .u, .u, .u]) (S := S) rfl
    (fun row hrow ε S' ⟨s4, s5, s6, hε⟩ hS => by
      subst hε
      have hr := rws_ok3 (by omega) hrow
      have hrl := rws_len _ _ row hrow
      have htl : t.length = 2 ^ row.length := by rw [hrl, ht]
      obtain ⟨v, hv⟩ : ∃ v, v = fin (seen t row) := ⟨_, rfl⟩
      have fr := fin_rng hb hr htl
      have g1 := fun S => e_law_forced (m + 5) S t row hb hr htl (by omega)
      have g2 := fun S => e_value_at m S n t row hb hn ht hr hrl
      rw [← hv] at g1 fr
      simp only [← hv] at g2
      have rv := repr_of (GD.small (i := v) (by omega) (by omega)) (by decide) (by decide)
      obtain ⟨fur, S3, ef, cf, lf⟩ := further (m + 5) k row S' (.v (tb t)) (.v (.int n)) (.v (.str K)) (.v (.int v)) s6 (by omega) hr
      have hfl : fur.length = n := by rw [← hrl]; exact cf.len
      have g3 := fun S => e_value_at m S n t fur hb hn ht (cont_ok3 cf) hfl
      have b1 : ∀ S, evSs (evF pg (m + 6)) [.set (.n 5) (.call 18 [(.v 1), (.v 4)]), .ife (.cmp .NotEq (.bi .repr [(.call 10 [(.v 1), (.v 4)])]) (.bi .repr [(.v 5)])) [.ret (.c (.bl false))] []]
          [.v (.stm k), .v (tb t), .v (.int n), .v (.str K), .v (tb row), s5, s6, .u] S = .ok (.nx [.v (.stm k), .v (tb t), .v (.int n), .v (.str K), .v (tb row), .v (.int v), s6, .u]) S := fun S => by
        dsimp! [g1, g2, rv]
      have b2 : evS (evF pg (m + 6)) (.set (.n 6) (.bi .tuple [fE])) [.v (.stm k), .v (tb t), .v (.int n), .v (.str K), .v (tb row), .v (.int v), s6, .u] S' = .ok (.nx [.v (.stm k), .v (tb t), .v (.int n), .v (.str K), .v (tb row), .v (.int v), .v (tb fur), .u]) S3 := by
        have st : D.stills (fur.map .int) = true := still_ints (fun x => x) fur
        dsimp! [ef, tb, st]
      refine ⟨_, [.v (.stm k), .v (tb t), .v (.int n), .v (.str K), .v (tb row), .v (.int v), .v (tb fur), .u], S3, rfl, ?_, ⟨_, _, _, rfl⟩, by omega⟩
      show evSs (evF pg (m + 6)) ([_, _] ++ [_, _]) [.v (.stm k), .v (tb t), .v (.int n), .v (.str K), .v (tb row), s5, s6, .u] S' = _
      rw [st_app, b1, seq_nx, st_cons, b2, seq_nx]
      by_cases h2 : v < 2
      · have cv := cont_fin hb hr htl cf (by rw [← hv]; exact h2)
        rw [← hv] at cv
        dsimp! [h2, g3, cv]
      · dsimp! [h2]) ⟨_, _, _, rfl⟩
  -- the rows of bits
  obtain ⟨ε'', S4, e4, ⟨s4', rfl⟩, l4⟩ := for_ex (tgt := tgS (.n 4)) (body := evSs (evF pg (m + 6)) [.ife (.cmp .NotEq (.call 10 [(.v 1), (.v 4)]) (.ix (.v 1) (.call 17 [(.v 4)]))) [.ret (.c (.bl false))] []])
    tb S.length (fun ε => ∃ s4, ε = [.v (.stm k), .v (tb t), .v (.int n), .v (.str K), s4, s5, s6, .u]) (xs := rws n 1) (ε := [.v (.stm k), .v (tb t), .v (.int n), .v (.str K), s4, s5, s6, .u]) (S := S2) l2
    (fun row hrow ε S' ⟨s4, hε⟩ hS => by
      subst hε
      have hr := rws_bits hrow
      have hrl := rws_len _ _ row hrow
      have g2 := fun S => e_value_at m S n t row hb hn ht (rws_ok3 (by omega) hrow) hrl
      have g3 := fun S => e_number (m + 5) S row
      have nn : 0 ≤ num row := num_nn hr (by decide)
      have lt : (num row).toNat < t.length := by
        have := num_lt (x := 0) hr
        rw [ht, ← hrl]
        simp only [num] at nn ⊢
        omega
      have q := ix_tb lt
      rw [show (((num row).toNat : Nat) : Int) = num row by omega] at q
      have fb := fin_bits (t := t) hr
      exact ⟨_, [.v (.stm k), .v (tb t), .v (.int n), .v (.str K), .v (tb row), s5, s6, .u], S', rfl, by dsimp! [g2, g3, q, fb], ⟨_, rfl⟩, hS⟩) ⟨_, rfl⟩
  refine ⟨S4, ?_, by omega⟩
  show evSs (evF pg (m + 6)) (_ :: b__law_right[1] :: _) _ _ = _
  rw [st_cons, e1, seq_nx, st_cons, e2, seq_nx, st_cons, sm_for]
  have i2 : evI (evF pg (m + 6)) (.itv (.call 16 [(.v 2), (.c (.int 2))])) [.v (.stm k), .v (tb t), .v (.int n), .v (.str K), .u, .u, .u, .u] S = .ok ((rws n 2).map tb, false) S := by dsimp! [er2]
  have i1 : evI (evF pg (m + 6)) (.itv (.call 16 [(.v 2), (.c (.int 1))])) [.v (.stm k), .v (tb t), .v (.int n), .v (.str K), s4, s5, s6, .u] S2 = .ok ((rws n 1).map tb, false) S2 := by dsimp! [er1]
  rw [i2, on_ok]
  dsimp only
  have fz2 : ∀ s4 s5 s6, fz (vs (.itv (.call 16 [(.v 2), (.c (.int 2))]))) [.v (.stm k), .v (tb t), .v (.int n), .v (.str K), s4, s5, s6, .u] = [.v (.stm k), .v (tb t), .v (.int n), .v (.str K), s4, s5, s6, .u] := fun _ _ _ => by dsimp! []
  rw [if_neg (by decide), fz2]
  unfold fE at e3
  rw [e3, seq_nx, st_cons, sm_for, i1, on_ok]
  dsimp only
  have fz1 : ∀ s4 s5 s6, fz (vs (.itv (.call 16 [(.v 2), (.c (.int 1))]))) [.v (.stm k), .v (tb t), .v (.int n), .v (.str K), s4, s5, s6, .u] = [.v (.stm k), .v (tb t), .v (.int n), .v (.str K), s4, s5, s6, .u] := fun _ _ _ => by dsimp! []
  rw [if_neg (by decide), fz1, e4, seq_nx]
  dsimp! [rp]
end LW
namespace LW
open PySem PySem.Spec PyProof.Rows L2 GG
theorem repr_b (b : Bool) : biF .repr [.bl b] = some (.str (shw (.bl b))) := repr_bl b
def tB3 : List Sm := [.set (.t [(.n 9), (.n 10)]) (.call 24 [(.v 4), (.v 6)]), .ife (.cmp .NotEq (.bi .repr [(.call 5 [(.v 9)])]) (.bi .repr [(.v 10)])) [.ret (.c (.bl false))] []]
def tB2 : List Sm := [.set (.n 6) (.call 19 [(.v 4), (.v 5)]), .ife (.not (.call 23 [(.v 4), (.v 6), (.v 5)])) [.ret (.c (.bl false))] [], .for_ (.n 7) (.rng [(.c (.int 3))]) tB3]
def tB1 : List Sm := [.set (.n 4) (.mkS 13 [(.v 0), (.v 1)]), .for_ (.n 5) (.rng [(.c (.int 5))]) tB2]
theorem three (k : Nat) (t : List Int) (ht : t.length ≤ 16) (s0 s1 s5 : Sl) (s7 s9 s10 : Sl) (S : Sto) (hk : k < S.length) :
    ∃ ε' S', forLoop (tgS (.n 7)) (evSs (evF pg 19) tB3) ((List.range 3).map fun (i : Nat) => .int (i : Nat)) [s0, s1, .u, .u, .v (.stm k), s5, .v (tb t), s7, .u, s9, s10] S = .ok (.nx ε') S' ∧ (∃ s7 s9 s10, ε' = [s0, s1, .u, .u, .v (.stm k), s5, .v (tb t), s7, .u, s9, s10]) ∧ S'.length = S.length :=
  for_ex (fun (i : Nat) => D.int (i : Nat)) S.length (fun ε' => ∃ s7 s9 s10, ε' = [s0, s1, .u, .u, .v (.stm k), s5, .v (tb t), s7, .u, s9, s10]) rfl (fun i _ ε S' ⟨s7, s9, s10, hε⟩ hS => by
    subst hε
    obtain ⟨d, S2, e, hd, l⟩ := e_no_table 15 k t S' (by omega) ht
    have f := fun S => e_is_table 15 d S hd
    have rb := repr_b (isTab d)
    refine ⟨_, [s0, s1, .u, .u, .v (.stm k), s5, .v (tb t), .v (.int (i : Nat)), .u, .v d, .v (.bl (isTab d))], S2, rfl, ?_, ⟨_, _, _, rfl⟩, by omega⟩
    unfold tB3
    have e0 : evS (evF pg 19) (.set (.t [(.n 9), (.n 10)]) (.call 24 [(.v 4), (.v 6)])) [s0, s1, .u, .u, .v (.stm k), s5, .v (tb t), .v (.int (i : Nat)), .u, s9, s10] S' = .ok (.nx [s0, s1, .u, .u, .v (.stm k), s5, .v (tb t), .v (.int (i : Nat)), .u, .v d, .v (.bl (isTab d))]) S2 := by
      cases hst : D.still d <;> dsimp! [e, hst]
    show evSs (evF pg 19) _ [s0, s1, .u, .u, .v (.stm k), s5, .v (tb t), .v (.int (i : Nat)), .u, s9, s10] S' = _
    rw [st_cons, e0, seq_nx]
    dsimp! [f, rb]) ⟨_, _, _, rfl⟩
theorem five (k : Nat) (s0 s1 s5 : Sl) (s6 s7 s9 s10 : Sl) (S : Sto) (hk : k < S.length) :
    ∃ ε' S', forLoop (tgS (.n 5)) (evSs (evF pg 19) tB2) ((List.range 5).map fun (i : Nat) => .int (i : Nat)) [s0, s1, .u, .u, .v (.stm k), s5, s6, s7, .u, s9, s10] S = .ok (.nx ε') S' ∧ (∃ s5 s6 s7 s9 s10, ε' = [s0, s1, .u, .u, .v (.stm k), s5, s6, s7, .u, s9, s10]) ∧ S'.length = S.length :=
  for_ex (fun (i : Nat) => D.int (i : Nat)) S.length (fun ε' => ∃ s5 s6 s7 s9 s10, ε' = [s0, s1, .u, .u, .v (.stm k), s5, s6, s7, .u, s9, s10]) rfl (fun i hi ε S' ⟨s5, s6, s7, s9, s10, hε⟩ hS => by
    subst hε
    have hi4 : i ≤ 4 := by have := List.mem_range.mp hi; omega
    obtain ⟨t, S2, e, hb, ht, l⟩ := e_table 17 S' k i (by omega) hi4
    obtain ⟨S3, e3, l3⟩ := e_right 12 k i t S2 (by omega) hb hi4 ht
    obtain ⟨ε4, S4, e4, ⟨s7', s9', s10', rfl⟩, l4⟩ := three k t (by rw [ht]; exact pow16 hi4) s0 s1 (.v (.int (i : Nat))) s7 s9 s10 S3 (by omega)
    refine ⟨_, [s0, s1, .u, .u, .v (.stm k), .v (.int (i : Nat)), .v (tb t), s7', .u, s9', s10'], S4, rfl, ?_, ⟨_, _, _, _, _, rfl⟩, by omega⟩
    show evSs (evF pg 19) tB2 [s0, s1, .u, .u, .v (.stm k), .v (.int (i : Nat)), s6, s7, .u, s9, s10] S' = _
    have st : D.stills (t.map .int) = true := still_ints (fun x => x) t
    have e0 : evS (evF pg 19) (.set (.n 6) (.call 19 [(.v 4), (.v 5)])) [s0, s1, .u, .u, .v (.stm k), .v (.int (i : Nat)), s6, s7, .u, s9, s10] S' = .ok (.nx [s0, s1, .u, .u, .v (.stm k), .v (.int (i : Nat)), .v (tb t), s7, .u, s9, s10]) S2 := by
      dsimp! [e, st]
    have e1 : evS (evF pg 19) (.ife (.not (.call 23 [(.v 4), (.v 6), (.v 5)])) [.ret (.c (.bl false))] []) [s0, s1, .u, .u, .v (.stm k), .v (.int (i : Nat)), .v (tb t), s7, .u, s9, s10] S2 = .ok (.nx [s0, s1, .u, .u, .v (.stm k), .v (.int (i : Nat)), .v (tb t), s7, .u, s9, s10]) S3 := by
      dsimp! [e3]
    unfold tB2
    rw [st_cons, e0, seq_nx, st_cons, e1, seq_nx, st_cons, sm_for, rng_nat _ _ _ _ 3 (by decide) (by rw [ee_c]; rfl), on_ok]
    dsimp only
    rw [if_pos rfl, e4, seq_nx, st_nil]) ⟨_, _, _, _, _, rfl⟩
theorem cells (ns : List Int) (K : Nat) (S : Sto) : ∃ ε' S', forLoop (tgS (.n 1)) (evSs (evF pg 19) tB1) ((List.range K).map fun (i : Nat) => .int (i : Nat)) [.v (.rol (ns.map .int)), .u, .u, .u, .u, .u, .u, .u, .u, .u, .u] S = .ok (.nx ε') S' ∧
    (∃ s1 s4 s5 s6 s7 s9 s10, ε' = [.v (.rol (ns.map .int)), s1, .u, .u, s4, s5, s6, s7, .u, s9, s10]) :=
  for_exS (fun (i : Nat) => D.int (i : Nat)) (fun ε' => ∃ s1 s4 s5 s6 s7 s9 s10, ε' = [.v (.rol (ns.map .int)), s1, .u, .u, s4, s5, s6, s7, .u, s9, s10]) (fun i _ ε S ⟨s1, s4, s5, s6, s7, s9, s10, hε⟩ => by
    subst hε
    obtain ⟨a, b, e⟩ := e_stream 18 ns i S
    obtain ⟨ε4, S4, e4, ⟨s5', s6', s7', s9', s10', rfl⟩, l4⟩ := five S.length (.v (.rol (ns.map .int))) (.v (.int (i : Nat))) s5 s6 s7 s9 s10 (S ++ [(a, b, 0)]) (by simp)
    refine ⟨_, [.v (.rol (ns.map .int)), .v (.int (i : Nat)), .u, .u, .v (.stm S.length), s5', s6', s7', .u, s9', s10'], S4, rfl, ?_, ⟨_, _, _, _, _, _, _, rfl⟩⟩
    show evSs (evF pg 19) tB1 [.v (.rol (ns.map .int)), .v (.int (i : Nat)), .u, .u, s4, s5, s6, s7, .u, s9, s10] S = _
    have e0 : evS (evF pg 19) (.set (.n 4) (.mkS 13 [(.v 0), (.v 1)])) [.v (.rol (ns.map .int)), .v (.int (i : Nat)), .u, .u, s4, s5, s6, s7, .u, s9, s10] S = .ok (.nx [.v (.rol (ns.map .int)), .v (.int (i : Nat)), .u, .u, .v (.stm S.length), s5, s6, s7, .u, s9, s10]) (S ++ [(a, b, 0)]) := by
      dsimp! [e, mkF]
    unfold tB1
    rw [st_cons, e0, seq_nx, st_cons, sm_for, rng_nat _ _ _ _ 5 (by decide) (by rw [ee_c]; rfl), on_ok]
    dsimp only
    rw [if_pos rfl, e4, seq_nx, st_nil]) ⟨_, _, _, _, _, _, _, rfl⟩
theorem rest (S : Sto) (s0 s1 s4 s5 s6 s7 s9 s10 : Sl) : evSs (evF pg 19) (b_law.drop 1) [s0, s1, .u, .u, s4, s5, s6, s7, .u, s9, s10] S = .ok (.rt (.bl true)) S := by
  kernel_rfl
theorem law_ok (ns : List Int) (hl : ns.length ≤ 63) (hb : ∀ z ∈ ns, Builtin.Int.intBits z ≤ 1048576) : ∃ S', evF pg 20 25 [.rol (ns.map D.int)] [] = .ok (.bl true) S' := by
  rw [u_fn 19 (f := d_law) rfl rfl]
  obtain ⟨ε', S2, e, s1, s4, s5, s6, s7, s9, s10, rfl⟩ := cells ns (max 1 (min 8 ns.length)) []
  refine ⟨S2, fn_ret ?_⟩
  show evSs (evF pg 19) (.for_ _ _ tB1 :: b_law.drop 1) [.v (.rol (ns.map .int)), .u, .u, .u, .u, .u, .u, .u, .u, .u, .u] [] = _
  have er : evE (evF pg 19) (.bi .max [(.c (.int 1)), (.bi .min [(.c (.int 8)), (.bi .len [(.v 0)])])]) [.v (.rol (ns.map .int)), .u, .u, .u, .u, .u, .u, .u, .u, .u, .u] [] = .ok (.int ((max 1 (min 8 ns.length) : Nat) : Int)) [] := by
    dsimp! []
    omega
  rw [st_cons, sm_for, rng_nat _ _ _ _ _ (by omega) er, on_ok]
  dsimp only
  rw [if_pos rfl, e, seq_nx, rest]
end LW
theorem mem_lookup_of {x : PySem.Str} {e : GG.D} : ∀ {g : List (PySem.Str × GG.D)}, g.lookup x = some e → (x, e) ∈ g
  | [], h => by cases h
  | (y, d) :: g, h => by
    rw [List.lookup_cons] at h
    split at h
    · next hb => rw [show x = y from by simpa using hb]; cases h; exact List.mem_cons_self
    · exact List.mem_cons_of_mem _ (mem_lookup_of h)
namespace LW
open PySem PySem.Spec PyProof.Rows L2 GG
def topS (i : Nat) : Stmt := PySem.Challenge.pw_loopgates_k02_tables_and_forced_bits.main.body.getD i (.Pass ⟨0, 0, 0, 0⟩)
abbrev s_is_integer : Stmt := topS 6
theorem sc_is_integer : FnScope d_is_integer.N ["value"] (defScope s_is_integer) := ⟨rfl, rfl, rfl, by decide +kernel, rfl, by decide +kernel, by decide +kernel⟩
theorem mt_is_integer : mSs ⟨d_is_integer.N, fnsOf pg, gt, 13⟩ d_is_integer.body (defScope s_is_integer) (defBody s_is_integer) = true := by decide +kernel
abbrev s_is_between : Stmt := topS 7
theorem sc_is_between : FnScope d_is_between.N ["value", "low", "high"] (defScope s_is_between) := ⟨rfl, rfl, rfl, by decide +kernel, rfl, by decide +kernel, by decide +kernel⟩
theorem mt_is_between : mSs ⟨d_is_between.N, fnsOf pg, gt, 13⟩ d_is_between.body (defScope s_is_between) (defBody s_is_between) = true := by decide +kernel
abbrev s_is_bit : Stmt := topS 8
theorem sc_is_bit : FnScope d_is_bit.N ["value"] (defScope s_is_bit) := ⟨rfl, rfl, rfl, by decide +kernel, rfl, by decide +kernel, by decide +kernel⟩
theorem mt_is_bit : mSs ⟨d_is_bit.N, fnsOf pg, gt, 13⟩ d_is_bit.body (defScope s_is_bit) (defBody s_is_bit) = true := by decide +kernel
abbrev s_is_value : Stmt := topS 9
theorem sc_is_value : FnScope d_is_value.N ["value"] (defScope s_is_value) := ⟨rfl, rfl, rfl, by decide +kernel, rfl, by decide +kernel, by decide +kernel⟩
theorem mt_is_value : mSs ⟨d_is_value.N, fnsOf pg, gt, 13⟩ d_is_value.body (defScope s_is_value) (defBody s_is_value) = true := by decide +kernel
abbrev s_is_row : Stmt := topS 10
theorem sc_is_row : FnScope d_is_row.N ["value"] (defScope s_is_row) := ⟨rfl, rfl, rfl, by decide +kernel, rfl, by decide +kernel, by decide +kernel⟩
theorem mt_is_row : mSs ⟨d_is_row.N, fnsOf pg, gt, 13⟩ d_is_row.body (defScope s_is_row) (defBody s_is_row) = true := by decide +kernel
abbrev s_is_table : Stmt := topS 14
theorem sc_is_table : FnScope d_is_table.N ["value"] (defScope s_is_table) := ⟨rfl, rfl, rfl, by decide +kernel, rfl, by decide +kernel, by decide +kernel⟩
theorem mt_is_table : mSs ⟨d_is_table.N, fnsOf pg, gt, 13⟩ d_is_table.body (defScope s_is_table) (defBody s_is_table) = true := by decide +kernel
abbrev s_require_table : Stmt := topS 15
theorem sc_require_table : FnScope d_require_table.N ["table"] (defScope s_require_table) := ⟨rfl, rfl, rfl, by decide +kernel, rfl, by decide +kernel, by decide +kernel⟩
theorem mt_require_table : mSs ⟨d_require_table.N, fnsOf pg, gt, 13⟩ d_require_table.body (defScope s_require_table) (defBody s_require_table) = true := by decide +kernel
abbrev s_wires_in : Stmt := topS 16
theorem sc_wires_in : FnScope d_wires_in.N ["table"] (defScope s_wires_in) := ⟨rfl, rfl, rfl, by decide +kernel, rfl, by decide +kernel, by decide +kernel⟩
theorem mt_wires_in : mSs ⟨d_wires_in.N, fnsOf pg, gt, 13⟩ d_wires_in.body (defScope s_wires_in) (defBody s_wires_in) = true := by decide +kernel
abbrev s_wires_of : Stmt := topS 17
theorem sc_wires_of : FnScope d_wires_of.N ["table"] (defScope s_wires_of) := ⟨rfl, rfl, rfl, by decide +kernel, rfl, by decide +kernel, by decide +kernel⟩
theorem mt_wires_of : mSs ⟨d_wires_of.N, fnsOf pg, gt, 13⟩ d_wires_of.body (defScope s_wires_of) (defBody s_wires_of) = true := by decide +kernel
abbrev s_forced_in : Stmt := topS 18
theorem sc_forced_in : FnScope d_forced_in.N ["table", "row"] (defScope s_forced_in) := ⟨rfl, rfl, rfl, by decide +kernel, rfl, by decide +kernel, by decide +kernel⟩
theorem mt_forced_in : mSs ⟨d_forced_in.N, fnsOf pg, gt, 13⟩ d_forced_in.body (defScope s_forced_in) (defBody s_forced_in) = true := by decide +kernel
abbrev s_value_at : Stmt := topS 19
theorem sc_value_at : FnScope d_value_at.N ["table", "row"] (defScope s_value_at) := ⟨rfl, rfl, rfl, by decide +kernel, rfl, by decide +kernel, by decide +kernel⟩
theorem mt_value_at : mSs ⟨d_value_at.N, fnsOf pg, gt, 13⟩ d_value_at.body (defScope s_value_at) (defBody s_value_at) = true := by decide +kernel
abbrev s_fixed_in : Stmt := topS 20
theorem sc_fixed_in : FnScope d_fixed_in.N ["table", "wire", "bit"] (defScope s_fixed_in) := ⟨rfl, rfl, rfl, by decide +kernel, rfl, by decide +kernel, by decide +kernel⟩
theorem mt_fixed_in : mSs ⟨d_fixed_in.N, fnsOf pg, gt, 13⟩ d_fixed_in.body (defScope s_fixed_in) (defBody s_fixed_in) = true := by decide +kernel
abbrev s_used_wires : Stmt := topS 21
theorem sc_used_wires : FnScope d_used_wires.N ["table"] (defScope s_used_wires) := ⟨rfl, rfl, rfl, by decide +kernel, rfl, by decide +kernel, by decide +kernel⟩
theorem mt_used_wires : mSs ⟨d_used_wires.N, fnsOf pg, gt, 13⟩ d_used_wires.body (defScope s_used_wires) (defBody s_used_wires) = true := by decide +kernel
abbrev s__law_stream : Stmt := topS 23
theorem sc__law_stream : FnScope d__law_stream.N ["_law_script", "_law_at"] (defScope s__law_stream) := ⟨rfl, rfl, rfl, by decide +kernel, rfl, by decide +kernel, by decide +kernel⟩
theorem mt__law_stream : mSs ⟨d__law_stream.N, fnsOf pg, gt, 13⟩ d__law_stream.body (defScope s__law_stream) (defBody s__law_stream) = true := by decide +kernel
abbrev s__law_draw : Stmt := topS 24
theorem sc__law_draw : FnScope d__law_draw.N ["_law_stream_here", "_law_total"] (defScope s__law_draw) := ⟨rfl, rfl, rfl, by decide +kernel, rfl, by decide +kernel, by decide +kernel⟩
theorem mt__law_draw : mSs ⟨d__law_draw.N, fnsOf pg, gt, 13⟩ d__law_draw.body (defScope s__law_draw) (defBody s__law_draw) = true := by decide +kernel
abbrev s__law_pick : Stmt := topS 25
theorem sc__law_pick : FnScope d__law_pick.N ["_law_stream_here", "_law_items"] (defScope s__law_pick) := ⟨rfl, rfl, rfl, by decide +kernel, rfl, by decide +kernel, by decide +kernel⟩
theorem mt__law_pick : mSs ⟨d__law_pick.N, fnsOf pg, gt, 13⟩ d__law_pick.body (defScope s__law_pick) (defBody s__law_pick) = true := by decide +kernel
abbrev s__law_rows : Stmt := topS 26
theorem sc__law_rows : FnScope d__law_rows.N ["_law_size", "_law_top"] (defScope s__law_rows) := ⟨rfl, rfl, rfl, by decide +kernel, rfl, by decide +kernel, by decide +kernel⟩
theorem mt__law_rows : mSs ⟨d__law_rows.N, fnsOf pg, gt, 13⟩ d__law_rows.body (defScope s__law_rows) (defBody s__law_rows) = true := by decide +kernel
abbrev s__law_number : Stmt := topS 27
theorem sc__law_number : FnScope d__law_number.N ["_law_row"] (defScope s__law_number) := ⟨rfl, rfl, rfl, by decide +kernel, rfl, by decide +kernel, by decide +kernel⟩
theorem mt__law_number : mSs ⟨d__law_number.N, fnsOf pg, gt, 13⟩ d__law_number.body (defScope s__law_number) (defBody s__law_number) = true := by decide +kernel
abbrev s__law_forced : Stmt := topS 28
theorem sc__law_forced : FnScope d__law_forced.N ["_law_table_here", "_law_row"] (defScope s__law_forced) := ⟨rfl, rfl, rfl, by decide +kernel, rfl, by decide +kernel, by decide +kernel⟩
theorem mt__law_forced : mSs ⟨d__law_forced.N, fnsOf pg, gt, 13⟩ d__law_forced.body (defScope s__law_forced) (defBody s__law_forced) = true := by decide +kernel
abbrev s__law_table : Stmt := topS 29
theorem sc__law_table : FnScope d__law_table.N ["_law_stream_here", "_law_size"] (defScope s__law_table) := ⟨rfl, rfl, rfl, by decide +kernel, rfl, by decide +kernel, by decide +kernel⟩
theorem mt__law_table : mSs ⟨d__law_table.N, fnsOf pg, gt, 13⟩ d__law_table.body (defScope s__law_table) (defBody s__law_table) = true := by decide +kernel
abbrev s__law_is_bit : Stmt := topS 30
theorem sc__law_is_bit : FnScope d__law_is_bit.N ["_law_thing"] (defScope s__law_is_bit) := ⟨rfl, rfl, rfl, by decide +kernel, rfl, by decide +kernel, by decide +kernel⟩
theorem mt__law_is_bit : mSs ⟨d__law_is_bit.N, fnsOf pg, gt, 13⟩ d__law_is_bit.body (defScope s__law_is_bit) (defBody s__law_is_bit) = true := by decide +kernel
abbrev s__law_odd : Stmt := topS 31
theorem sc__law_odd : FnScope d__law_odd.N ["_law_stream_here"] (defScope s__law_odd) := ⟨rfl, rfl, rfl, by decide +kernel, rfl, by decide +kernel, by decide +kernel⟩
theorem mt__law_odd : mSs ⟨d__law_odd.N, fnsOf pg, gt, 13⟩ d__law_odd.body (defScope s__law_odd) (defBody s__law_odd) = true := by decide +kernel
abbrev s__law_used : Stmt := topS 32
theorem sc__law_used : FnScope d__law_used.N ["_law_table_here", "_law_size"] (defScope s__law_used) := ⟨rfl, rfl, rfl, by decide +kernel, rfl, by decide +kernel, by decide +kernel⟩
theorem mt__law_used : mSs ⟨d__law_used.N, fnsOf pg, gt, 13⟩ d__law_used.body (defScope s__law_used) (defBody s__law_used) = true := by decide +kernel
abbrev s__law_right : Stmt := topS 33
theorem sc__law_right : FnScope d__law_right.N ["_law_stream_here", "_law_table_here", "_law_size"] (defScope s__law_right) := ⟨rfl, rfl, rfl, by decide +kernel, rfl, by decide +kernel, by decide +kernel⟩
theorem mt__law_right : mSs ⟨d__law_right.N, fnsOf pg, gt, 13⟩ d__law_right.body (defScope s__law_right) (defBody s__law_right) = true := by decide +kernel
abbrev s__law_no_table : Stmt := topS 34
theorem sc__law_no_table : FnScope d__law_no_table.N ["_law_stream_here", "_law_table_here"] (defScope s__law_no_table) := ⟨rfl, rfl, rfl, by decide +kernel, rfl, by decide +kernel, by decide +kernel⟩
theorem mt__law_no_table : mSs ⟨d__law_no_table.N, fnsOf pg, gt, 13⟩ d__law_no_table.body (defScope s__law_no_table) (defBody s__law_no_table) = true := by decide +kernel
abbrev s_law : Stmt := topS 35
theorem sc_law : FnScope d_law.N ["_law_script"] (defScope s_law) := ⟨rfl, rfl, rfl, by decide +kernel, rfl, by decide +kernel, by decide +kernel⟩
theorem mt_law : mSs ⟨d_law.N, fnsOf pg, gt, 13⟩ d_law.body (defScope s_law) (defBody s_law) = true := by decide +kernel
theorem ff_mk {K : PySem.W.Frag} {h : Heap} {mg : Str → Option Value} (X : K.In h) (G : h.Ns mainGlobals mg) (f : Fd) (st : Stmt) (ps : List Str) {f1 : Addr} {od an : Option Addr} {sl : Array (Option Value)} {oc kV dc pm cd ct : Value}
    (a : PySem.W.nsIn K mainGlobals f.name = some (some (.ref f1))) (l : K.lookup f1 = some ⟨oc, od, .func (PySem.W.fnOf f.name f.name (defArgs st) (defBody st) (defScope st) .none kV dc pm an cd ct), sl⟩)
    (c : PySem.W.codeIn K cd f.name = true) (k : PySem.W.keepIn K (.ref f1) = true) (sc : FnScope f.N ps (defScope st)) (mt : mSs ⟨f.N, fnsOf pg, gt, 13⟩ f.body (defScope st) (defBody st) = true)
    (bi : ∀ fd, L2.Fun K f.name f.name st f1 fd → Binds K fd ps []) (hl : ps.length = f.ar) : FFact K mg (fnsOf pg) gt 13 f :=
  ⟨f.name, st, f1, _, ps, fun_mk (st := st) l c k, sc, PySem.W.mg_of X G a, bi _ (fun_mk (st := st) l c k), hl, mt⟩
theorem all_mk {w : World} {K : PySem.W.Frag} {h : Heap} {mg : Str → Option Value} (X : K.In h) (G : h.Ns mainGlobals mg)
    {f0 : Addr} {od0 an0 : Option Addr} {sl0 : Array (Option Value)} {oc0 kV0 dc0 pm0 cd0 ct0 : Value} (a0 : PySem.W.nsIn K mainGlobals d_is_integer.name = some (some (.ref f0))) (l0 : K.lookup f0 = some ⟨oc0, od0, .func (PySem.W.fnOf d_is_integer.name d_is_integer.name (defArgs s_is_integer) (defBody s_is_integer) (defScope s_is_integer) .none kV0 dc0 pm0 an0 cd0 ct0), sl0⟩) (c0 : PySem.W.codeIn K cd0 d_is_integer.name = true) (k0 : PySem.W.keepIn K (.ref f0) = true)
    {f1 : Addr} {od1 an1 : Option Addr} {sl1 : Array (Option Value)} {oc1 kV1 dc1 pm1 cd1 ct1 : Value} (a1 : PySem.W.nsIn K mainGlobals d_is_between.name = some (some (.ref f1))) (l1 : K.lookup f1 = some ⟨oc1, od1, .func (PySem.W.fnOf d_is_between.name d_is_between.name (defArgs s_is_between) (defBody s_is_between) (defScope s_is_between) .none kV1 dc1 pm1 an1 cd1 ct1), sl1⟩) (c1 : PySem.W.codeIn K cd1 d_is_between.name = true) (k1 : PySem.W.keepIn K (.ref f1) = true)
    {f2 : Addr} {od2 an2 : Option Addr} {sl2 : Array (Option Value)} {oc2 kV2 dc2 pm2 cd2 ct2 : Value} (a2 : PySem.W.nsIn K mainGlobals d_is_bit.name = some (some (.ref f2))) (l2 : K.lookup f2 = some ⟨oc2, od2, .func (PySem.W.fnOf d_is_bit.name d_is_bit.name (defArgs s_is_bit) (defBody s_is_bit) (defScope s_is_bit) .none kV2 dc2 pm2 an2 cd2 ct2), sl2⟩) (c2 : PySem.W.codeIn K cd2 d_is_bit.name = true) (k2 : PySem.W.keepIn K (.ref f2) = true)
    {f3 : Addr} {od3 an3 : Option Addr} {sl3 : Array (Option Value)} {oc3 kV3 dc3 pm3 cd3 ct3 : Value} (a3 : PySem.W.nsIn K mainGlobals d_is_value.name = some (some (.ref f3))) (l3 : K.lookup f3 = some ⟨oc3, od3, .func (PySem.W.fnOf d_is_value.name d_is_value.name (defArgs s_is_value) (defBody s_is_value) (defScope s_is_value) .none kV3 dc3 pm3 an3 cd3 ct3), sl3⟩) (c3 : PySem.W.codeIn K cd3 d_is_value.name = true) (k3 : PySem.W.keepIn K (.ref f3) = true)
    {f4 : Addr} {od4 an4 : Option Addr} {sl4 : Array (Option Value)} {oc4 kV4 dc4 pm4 cd4 ct4 : Value} (a4 : PySem.W.nsIn K mainGlobals d_is_row.name = some (some (.ref f4))) (l4 : K.lookup f4 = some ⟨oc4, od4, .func (PySem.W.fnOf d_is_row.name d_is_row.name (defArgs s_is_row) (defBody s_is_row) (defScope s_is_row) .none kV4 dc4 pm4 an4 cd4 ct4), sl4⟩) (c4 : PySem.W.codeIn K cd4 d_is_row.name = true) (k4 : PySem.W.keepIn K (.ref f4) = true)
    {f5 : Addr} {od5 an5 : Option Addr} {sl5 : Array (Option Value)} {oc5 kV5 dc5 pm5 cd5 ct5 : Value} (a5 : PySem.W.nsIn K mainGlobals d_is_table.name = some (some (.ref f5))) (l5 : K.lookup f5 = some ⟨oc5, od5, .func (PySem.W.fnOf d_is_table.name d_is_table.name (defArgs s_is_table) (defBody s_is_table) (defScope s_is_table) .none kV5 dc5 pm5 an5 cd5 ct5), sl5⟩) (c5 : PySem.W.codeIn K cd5 d_is_table.name = true) (k5 : PySem.W.keepIn K (.ref f5) = true)
    {f6 : Addr} {od6 an6 : Option Addr} {sl6 : Array (Option Value)} {oc6 kV6 dc6 pm6 cd6 ct6 : Value} (a6 : PySem.W.nsIn K mainGlobals d_require_table.name = some (some (.ref f6))) (l6 : K.lookup f6 = some ⟨oc6, od6, .func (PySem.W.fnOf d_require_table.name d_require_table.name (defArgs s_require_table) (defBody s_require_table) (defScope s_require_table) .none kV6 dc6 pm6 an6 cd6 ct6), sl6⟩) (c6 : PySem.W.codeIn K cd6 d_require_table.name = true) (k6 : PySem.W.keepIn K (.ref f6) = true)
    {f7 : Addr} {od7 an7 : Option Addr} {sl7 : Array (Option Value)} {oc7 kV7 dc7 pm7 cd7 ct7 : Value} (a7 : PySem.W.nsIn K mainGlobals d_wires_in.name = some (some (.ref f7))) (l7 : K.lookup f7 = some ⟨oc7, od7, .func (PySem.W.fnOf d_wires_in.name d_wires_in.name (defArgs s_wires_in) (defBody s_wires_in) (defScope s_wires_in) .none kV7 dc7 pm7 an7 cd7 ct7), sl7⟩) (c7 : PySem.W.codeIn K cd7 d_wires_in.name = true) (k7 : PySem.W.keepIn K (.ref f7) = true)
    {f8 : Addr} {od8 an8 : Option Addr} {sl8 : Array (Option Value)} {oc8 kV8 dc8 pm8 cd8 ct8 : Value} (a8 : PySem.W.nsIn K mainGlobals d_wires_of.name = some (some (.ref f8))) (l8 : K.lookup f8 = some ⟨oc8, od8, .func (PySem.W.fnOf d_wires_of.name d_wires_of.name (defArgs s_wires_of) (defBody s_wires_of) (defScope s_wires_of) .none kV8 dc8 pm8 an8 cd8 ct8), sl8⟩) (c8 : PySem.W.codeIn K cd8 d_wires_of.name = true) (k8 : PySem.W.keepIn K (.ref f8) = true)
    {f9 : Addr} {od9 an9 : Option Addr} {sl9 : Array (Option Value)} {oc9 kV9 dc9 pm9 cd9 ct9 : Value} (a9 : PySem.W.nsIn K mainGlobals d_forced_in.name = some (some (.ref f9))) (l9 : K.lookup f9 = some ⟨oc9, od9, .func (PySem.W.fnOf d_forced_in.name d_forced_in.name (defArgs s_forced_in) (defBody s_forced_in) (defScope s_forced_in) .none kV9 dc9 pm9 an9 cd9 ct9), sl9⟩) (c9 : PySem.W.codeIn K cd9 d_forced_in.name = true) (k9 : PySem.W.keepIn K (.ref f9) = true)
    {f10 : Addr} {od10 an10 : Option Addr} {sl10 : Array (Option Value)} {oc10 kV10 dc10 pm10 cd10 ct10 : Value} (a10 : PySem.W.nsIn K mainGlobals d_value_at.name = some (some (.ref f10))) (l10 : K.lookup f10 = some ⟨oc10, od10, .func (PySem.W.fnOf d_value_at.name d_value_at.name (defArgs s_value_at) (defBody s_value_at) (defScope s_value_at) .none kV10 dc10 pm10 an10 cd10 ct10), sl10⟩) (c10 : PySem.W.codeIn K cd10 d_value_at.name = true) (k10 : PySem.W.keepIn K (.ref f10) = true)
    {f11 : Addr} {od11 an11 : Option Addr} {sl11 : Array (Option Value)} {oc11 kV11 dc11 pm11 cd11 ct11 : Value} (a11 : PySem.W.nsIn K mainGlobals d_fixed_in.name = some (some (.ref f11))) (l11 : K.lookup f11 = some ⟨oc11, od11, .func (PySem.W.fnOf d_fixed_in.name d_fixed_in.name (defArgs s_fixed_in) (defBody s_fixed_in) (defScope s_fixed_in) .none kV11 dc11 pm11 an11 cd11 ct11), sl11⟩) (c11 : PySem.W.codeIn K cd11 d_fixed_in.name = true) (k11 : PySem.W.keepIn K (.ref f11) = true)
    {f12 : Addr} {od12 an12 : Option Addr} {sl12 : Array (Option Value)} {oc12 kV12 dc12 pm12 cd12 ct12 : Value} (a12 : PySem.W.nsIn K mainGlobals d_used_wires.name = some (some (.ref f12))) (l12 : K.lookup f12 = some ⟨oc12, od12, .func (PySem.W.fnOf d_used_wires.name d_used_wires.name (defArgs s_used_wires) (defBody s_used_wires) (defScope s_used_wires) .none kV12 dc12 pm12 an12 cd12 ct12), sl12⟩) (c12 : PySem.W.codeIn K cd12 d_used_wires.name = true) (k12 : PySem.W.keepIn K (.ref f12) = true)
    {f13 : Addr} {od13 an13 : Option Addr} {sl13 : Array (Option Value)} {oc13 kV13 dc13 pm13 cd13 ct13 : Value} (a13 : PySem.W.nsIn K mainGlobals d__law_stream.name = some (some (.ref f13))) (l13 : K.lookup f13 = some ⟨oc13, od13, .func (PySem.W.fnOf d__law_stream.name d__law_stream.name (defArgs s__law_stream) (defBody s__law_stream) (defScope s__law_stream) .none kV13 dc13 pm13 an13 cd13 ct13), sl13⟩) (c13 : PySem.W.codeIn K cd13 d__law_stream.name = true) (k13 : PySem.W.keepIn K (.ref f13) = true)
    {f14 : Addr} {od14 an14 : Option Addr} {sl14 : Array (Option Value)} {oc14 kV14 dc14 pm14 cd14 ct14 : Value} (a14 : PySem.W.nsIn K mainGlobals d__law_draw.name = some (some (.ref f14))) (l14 : K.lookup f14 = some ⟨oc14, od14, .func (PySem.W.fnOf d__law_draw.name d__law_draw.name (defArgs s__law_draw) (defBody s__law_draw) (defScope s__law_draw) .none kV14 dc14 pm14 an14 cd14 ct14), sl14⟩) (c14 : PySem.W.codeIn K cd14 d__law_draw.name = true) (k14 : PySem.W.keepIn K (.ref f14) = true)
    {f15 : Addr} {od15 an15 : Option Addr} {sl15 : Array (Option Value)} {oc15 kV15 dc15 pm15 cd15 ct15 : Value} (a15 : PySem.W.nsIn K mainGlobals d__law_pick.name = some (some (.ref f15))) (l15 : K.lookup f15 = some ⟨oc15, od15, .func (PySem.W.fnOf d__law_pick.name d__law_pick.name (defArgs s__law_pick) (defBody s__law_pick) (defScope s__law_pick) .none kV15 dc15 pm15 an15 cd15 ct15), sl15⟩) (c15 : PySem.W.codeIn K cd15 d__law_pick.name = true) (k15 : PySem.W.keepIn K (.ref f15) = true)
    {f16 : Addr} {od16 an16 : Option Addr} {sl16 : Array (Option Value)} {oc16 kV16 dc16 pm16 cd16 ct16 : Value} (a16 : PySem.W.nsIn K mainGlobals d__law_rows.name = some (some (.ref f16))) (l16 : K.lookup f16 = some ⟨oc16, od16, .func (PySem.W.fnOf d__law_rows.name d__law_rows.name (defArgs s__law_rows) (defBody s__law_rows) (defScope s__law_rows) .none kV16 dc16 pm16 an16 cd16 ct16), sl16⟩) (c16 : PySem.W.codeIn K cd16 d__law_rows.name = true) (k16 : PySem.W.keepIn K (.ref f16) = true)
    {f17 : Addr} {od17 an17 : Option Addr} {sl17 : Array (Option Value)} {oc17 kV17 dc17 pm17 cd17 ct17 : Value} (a17 : PySem.W.nsIn K mainGlobals d__law_number.name = some (some (.ref f17))) (l17 : K.lookup f17 = some ⟨oc17, od17, .func (PySem.W.fnOf d__law_number.name d__law_number.name (defArgs s__law_number) (defBody s__law_number) (defScope s__law_number) .none kV17 dc17 pm17 an17 cd17 ct17), sl17⟩) (c17 : PySem.W.codeIn K cd17 d__law_number.name = true) (k17 : PySem.W.keepIn K (.ref f17) = true)
    {f18 : Addr} {od18 an18 : Option Addr} {sl18 : Array (Option Value)} {oc18 kV18 dc18 pm18 cd18 ct18 : Value} (a18 : PySem.W.nsIn K mainGlobals d__law_forced.name = some (some (.ref f18))) (l18 : K.lookup f18 = some ⟨oc18, od18, .func (PySem.W.fnOf d__law_forced.name d__law_forced.name (defArgs s__law_forced) (defBody s__law_forced) (defScope s__law_forced) .none kV18 dc18 pm18 an18 cd18 ct18), sl18⟩) (c18 : PySem.W.codeIn K cd18 d__law_forced.name = true) (k18 : PySem.W.keepIn K (.ref f18) = true)
    {f19 : Addr} {od19 an19 : Option Addr} {sl19 : Array (Option Value)} {oc19 kV19 dc19 pm19 cd19 ct19 : Value} (a19 : PySem.W.nsIn K mainGlobals d__law_table.name = some (some (.ref f19))) (l19 : K.lookup f19 = some ⟨oc19, od19, .func (PySem.W.fnOf d__law_table.name d__law_table.name (defArgs s__law_table) (defBody s__law_table) (defScope s__law_table) .none kV19 dc19 pm19 an19 cd19 ct19), sl19⟩) (c19 : PySem.W.codeIn K cd19 d__law_table.name = true) (k19 : PySem.W.keepIn K (.ref f19) = true)
    {f20 : Addr} {od20 an20 : Option Addr} {sl20 : Array (Option Value)} {oc20 kV20 dc20 pm20 cd20 ct20 : Value} (a20 : PySem.W.nsIn K mainGlobals d__law_is_bit.name = some (some (.ref f20))) (l20 : K.lookup f20 = some ⟨oc20, od20, .func (PySem.W.fnOf d__law_is_bit.name d__law_is_bit.name (defArgs s__law_is_bit) (defBody s__law_is_bit) (defScope s__law_is_bit) .none kV20 dc20 pm20 an20 cd20 ct20), sl20⟩) (c20 : PySem.W.codeIn K cd20 d__law_is_bit.name = true) (k20 : PySem.W.keepIn K (.ref f20) = true)
    {f21 : Addr} {od21 an21 : Option Addr} {sl21 : Array (Option Value)} {oc21 kV21 dc21 pm21 cd21 ct21 : Value} (a21 : PySem.W.nsIn K mainGlobals d__law_odd.name = some (some (.ref f21))) (l21 : K.lookup f21 = some ⟨oc21, od21, .func (PySem.W.fnOf d__law_odd.name d__law_odd.name (defArgs s__law_odd) (defBody s__law_odd) (defScope s__law_odd) .none kV21 dc21 pm21 an21 cd21 ct21), sl21⟩) (c21 : PySem.W.codeIn K cd21 d__law_odd.name = true) (k21 : PySem.W.keepIn K (.ref f21) = true)
    {f22 : Addr} {od22 an22 : Option Addr} {sl22 : Array (Option Value)} {oc22 kV22 dc22 pm22 cd22 ct22 : Value} (a22 : PySem.W.nsIn K mainGlobals d__law_used.name = some (some (.ref f22))) (l22 : K.lookup f22 = some ⟨oc22, od22, .func (PySem.W.fnOf d__law_used.name d__law_used.name (defArgs s__law_used) (defBody s__law_used) (defScope s__law_used) .none kV22 dc22 pm22 an22 cd22 ct22), sl22⟩) (c22 : PySem.W.codeIn K cd22 d__law_used.name = true) (k22 : PySem.W.keepIn K (.ref f22) = true)
    {f23 : Addr} {od23 an23 : Option Addr} {sl23 : Array (Option Value)} {oc23 kV23 dc23 pm23 cd23 ct23 : Value} (a23 : PySem.W.nsIn K mainGlobals d__law_right.name = some (some (.ref f23))) (l23 : K.lookup f23 = some ⟨oc23, od23, .func (PySem.W.fnOf d__law_right.name d__law_right.name (defArgs s__law_right) (defBody s__law_right) (defScope s__law_right) .none kV23 dc23 pm23 an23 cd23 ct23), sl23⟩) (c23 : PySem.W.codeIn K cd23 d__law_right.name = true) (k23 : PySem.W.keepIn K (.ref f23) = true)
    {f24 : Addr} {od24 an24 : Option Addr} {sl24 : Array (Option Value)} {oc24 kV24 dc24 pm24 cd24 ct24 : Value} (a24 : PySem.W.nsIn K mainGlobals d__law_no_table.name = some (some (.ref f24))) (l24 : K.lookup f24 = some ⟨oc24, od24, .func (PySem.W.fnOf d__law_no_table.name d__law_no_table.name (defArgs s__law_no_table) (defBody s__law_no_table) (defScope s__law_no_table) .none kV24 dc24 pm24 an24 cd24 ct24), sl24⟩) (c24 : PySem.W.codeIn K cd24 d__law_no_table.name = true) (k24 : PySem.W.keepIn K (.ref f24) = true)
    {f25 : Addr} {od25 an25 : Option Addr} {sl25 : Array (Option Value)} {oc25 kV25 dc25 pm25 cd25 ct25 : Value} (a25 : PySem.W.nsIn K mainGlobals d_law.name = some (some (.ref f25))) (l25 : K.lookup f25 = some ⟨oc25, od25, .func (PySem.W.fnOf d_law.name d_law.name (defArgs s_law) (defBody s_law) (defScope s_law) .none kV25 dc25 pm25 an25 cd25 ct25), sl25⟩) (c25 : PySem.W.codeIn K cd25 d_law.name = true) (k25 : PySem.W.keepIn K (.ref f25) = true)
    {t0 : Tok} (g0 : PySem.W.nsIn K mainGlobals "UNKNOWN" = some (some (.int 2 t0)))
    {t1 : Tok} (g1 : PySem.W.nsIn K mainGlobals "MAX_WIRES" = some (some (.int 4 t1)))
    {t2 : Addr} {es2 : Array DictEntry} {ep2 : Nat} (g2 : PySem.W.nsIn K mainGlobals "SIZES" = some (some (.ref t2))) (gl2 : K.lookup t2 = some ⟨.type "dict", none, .dict es2 ep2, #[]⟩) (gd2 : (t2 == sysModules) = false) (ge2 : entOk [(1, 0), (2, 1), (4, 2), (8, 3), (16, 4)] es2.toList = true)
    (z0 : PySem.W.nsIn K mainGlobals "len" = some none)
    (z1 : PySem.W.nsIn K mainGlobals "abs" = some none)
    (z2 : PySem.W.nsIn K mainGlobals "int" = some none)
    (z3 : PySem.W.nsIn K mainGlobals "max" = some none)
    (z4 : PySem.W.nsIn K mainGlobals "min" = some none)
    (z5 : PySem.W.nsIn K mainGlobals "repr" = some none)
    (z6 : PySem.W.nsIn K mainGlobals "str" = some none)
    (z7 : PySem.W.nsIn K mainGlobals "list" = some none)
    (z8 : PySem.W.nsIn K mainGlobals "tuple" = some none)
    (z9 : PySem.W.nsIn K mainGlobals "all" = some none)
    (z10 : PySem.W.nsIn K mainGlobals "any" = some none)
    (z11 : PySem.W.nsIn K mainGlobals "sum" = some none)
    (z12 : PySem.W.nsIn K mainGlobals "bool" = some none)
    (z13 : PySem.W.nsIn K mainGlobals "range" = some none)
    (z14 : PySem.W.nsIn K mainGlobals "enumerate" = some none)
    (z15 : PySem.W.nsIn K mainGlobals "zip" = some none)
    (z16 : PySem.W.nsIn K mainGlobals "isinstance" = some none)
    (z17 : PySem.W.nsIn K mainGlobals "dict" = some none) :
    (∀ x ∈ bnames, mg x = none) ∧ (∀ x e, gt.lookup x = some e → ∃ v u, mg x = some u ∧ RelV v u ∧ ∀ ρ H, RV ⟨K, w⟩ ρ H e v) ∧ ∀ f ∈ pg, FFact K mg (fnsOf pg) gt 13 f := by
  refine ⟨?_, ?_, ?_⟩
  · intro x hx
    simp only [bnames, List.mem_cons, List.not_mem_nil, or_false] at hx
    rcases hx with rfl | rfl | rfl | rfl | rfl | rfl | rfl | rfl | rfl | rfl | rfl | rfl | rfl | rfl | rfl | rfl | rfl | rfl
    · exact PySem.W.mg_none_of X G z0
    · exact PySem.W.mg_none_of X G z1
    · exact PySem.W.mg_none_of X G z2
    · exact PySem.W.mg_none_of X G z3
    · exact PySem.W.mg_none_of X G z4
    · exact PySem.W.mg_none_of X G z5
    · exact PySem.W.mg_none_of X G z6
    · exact PySem.W.mg_none_of X G z7
    · exact PySem.W.mg_none_of X G z8
    · exact PySem.W.mg_none_of X G z9
    · exact PySem.W.mg_none_of X G z10
    · exact PySem.W.mg_none_of X G z11
    · exact PySem.W.mg_none_of X G z12
    · exact PySem.W.mg_none_of X G z13
    · exact PySem.W.mg_none_of X G z14
    · exact PySem.W.mg_none_of X G z15
    · exact PySem.W.mg_none_of X G z16
    · exact PySem.W.mg_none_of X G z17
  · intro x e hx
    have hm : (x, e) ∈ gt := mem_lookup_of hx
    simp only [gt, List.mem_cons, List.not_mem_nil, or_false, Prod.mk.injEq] at hm
    rcases hm with ⟨rfl, rfl⟩ | ⟨rfl, rfl⟩ | ⟨rfl, rfl⟩
    · exact ⟨.int 2, _, PySem.W.mg_of X G g0, ⟨_, rfl⟩, fun _ _ => .mkInt _⟩
    · exact ⟨.int 4, _, PySem.W.mg_of X G g1, ⟨_, rfl⟩, fun _ _ => .mkInt _⟩
    · exact ⟨.ref t2, _, PySem.W.mg_of X G g2, rfl, fun ρ H => rv_wdt [(1, 0), (2, 1), (4, 2), (8, 3), (16, 4)] gl2 gd2 ge2 (by decide) ρ H⟩
  · unfold pg
    exact List.forall_mem_cons.mpr ⟨ff_mk X G d_is_integer s_is_integer ["value"] a0 l0 c0 k0 sc_is_integer mt_is_integer (fun fd F => F.binds (ps := ["value"]) fun _ _ _ _ _ _ us hl => match us, hl with | [_], _ => rfl) rfl,
      List.forall_mem_cons.mpr ⟨ff_mk X G d_is_between s_is_between ["value", "low", "high"] a1 l1 c1 k1 sc_is_between mt_is_between (fun fd F => F.binds (ps := ["value", "low", "high"]) fun _ _ _ _ _ _ us hl => match us, hl with | [_, _, _], _ => rfl) rfl,
      List.forall_mem_cons.mpr ⟨ff_mk X G d_is_bit s_is_bit ["value"] a2 l2 c2 k2 sc_is_bit mt_is_bit (fun fd F => F.binds (ps := ["value"]) fun _ _ _ _ _ _ us hl => match us, hl with | [_], _ => rfl) rfl,
      List.forall_mem_cons.mpr ⟨ff_mk X G d_is_value s_is_value ["value"] a3 l3 c3 k3 sc_is_value mt_is_value (fun fd F => F.binds (ps := ["value"]) fun _ _ _ _ _ _ us hl => match us, hl with | [_], _ => rfl) rfl,
      List.forall_mem_cons.mpr ⟨ff_mk X G d_is_row s_is_row ["value"] a4 l4 c4 k4 sc_is_row mt_is_row (fun fd F => F.binds (ps := ["value"]) fun _ _ _ _ _ _ us hl => match us, hl with | [_], _ => rfl) rfl,
      List.forall_mem_cons.mpr ⟨ff_mk X G d_is_table s_is_table ["value"] a5 l5 c5 k5 sc_is_table mt_is_table (fun fd F => F.binds (ps := ["value"]) fun _ _ _ _ _ _ us hl => match us, hl with | [_], _ => rfl) rfl,
      List.forall_mem_cons.mpr ⟨ff_mk X G d_require_table s_require_table ["table"] a6 l6 c6 k6 sc_require_table mt_require_table (fun fd F => F.binds (ps := ["table"]) fun _ _ _ _ _ _ us hl => match us, hl with | [_], _ => rfl) rfl,
      List.forall_mem_cons.mpr ⟨ff_mk X G d_wires_in s_wires_in ["table"] a7 l7 c7 k7 sc_wires_in mt_wires_in (fun fd F => F.binds (ps := ["table"]) fun _ _ _ _ _ _ us hl => match us, hl with | [_], _ => rfl) rfl,
      List.forall_mem_cons.mpr ⟨ff_mk X G d_wires_of s_wires_of ["table"] a8 l8 c8 k8 sc_wires_of mt_wires_of (fun fd F => F.binds (ps := ["table"]) fun _ _ _ _ _ _ us hl => match us, hl with | [_], _ => rfl) rfl,
      List.forall_mem_cons.mpr ⟨ff_mk X G d_forced_in s_forced_in ["table", "row"] a9 l9 c9 k9 sc_forced_in mt_forced_in (fun fd F => F.binds (ps := ["table", "row"]) fun _ _ _ _ _ _ us hl => match us, hl with | [_, _], _ => rfl) rfl,
      List.forall_mem_cons.mpr ⟨ff_mk X G d_value_at s_value_at ["table", "row"] a10 l10 c10 k10 sc_value_at mt_value_at (fun fd F => F.binds (ps := ["table", "row"]) fun _ _ _ _ _ _ us hl => match us, hl with | [_, _], _ => rfl) rfl,
      List.forall_mem_cons.mpr ⟨ff_mk X G d_fixed_in s_fixed_in ["table", "wire", "bit"] a11 l11 c11 k11 sc_fixed_in mt_fixed_in (fun fd F => F.binds (ps := ["table", "wire", "bit"]) fun _ _ _ _ _ _ us hl => match us, hl with | [_, _, _], _ => rfl) rfl,
      List.forall_mem_cons.mpr ⟨ff_mk X G d_used_wires s_used_wires ["table"] a12 l12 c12 k12 sc_used_wires mt_used_wires (fun fd F => F.binds (ps := ["table"]) fun _ _ _ _ _ _ us hl => match us, hl with | [_], _ => rfl) rfl,
      List.forall_mem_cons.mpr ⟨ff_mk X G d__law_stream s__law_stream ["_law_script", "_law_at"] a13 l13 c13 k13 sc__law_stream mt__law_stream (fun fd F => F.binds (ps := ["_law_script", "_law_at"]) fun _ _ _ _ _ _ us hl => match us, hl with | [_, _], _ => rfl) rfl,
      List.forall_mem_cons.mpr ⟨ff_mk X G d__law_draw s__law_draw ["_law_stream_here", "_law_total"] a14 l14 c14 k14 sc__law_draw mt__law_draw (fun fd F => F.binds (ps := ["_law_stream_here", "_law_total"]) fun _ _ _ _ _ _ us hl => match us, hl with | [_, _], _ => rfl) rfl,
      List.forall_mem_cons.mpr ⟨ff_mk X G d__law_pick s__law_pick ["_law_stream_here", "_law_items"] a15 l15 c15 k15 sc__law_pick mt__law_pick (fun fd F => F.binds (ps := ["_law_stream_here", "_law_items"]) fun _ _ _ _ _ _ us hl => match us, hl with | [_, _], _ => rfl) rfl,
      List.forall_mem_cons.mpr ⟨ff_mk X G d__law_rows s__law_rows ["_law_size", "_law_top"] a16 l16 c16 k16 sc__law_rows mt__law_rows (fun fd F => F.binds (ps := ["_law_size", "_law_top"]) fun _ _ _ _ _ _ us hl => match us, hl with | [_, _], _ => rfl) rfl,
      List.forall_mem_cons.mpr ⟨ff_mk X G d__law_number s__law_number ["_law_row"] a17 l17 c17 k17 sc__law_number mt__law_number (fun fd F => F.binds (ps := ["_law_row"]) fun _ _ _ _ _ _ us hl => match us, hl with | [_], _ => rfl) rfl,
      List.forall_mem_cons.mpr ⟨ff_mk X G d__law_forced s__law_forced ["_law_table_here", "_law_row"] a18 l18 c18 k18 sc__law_forced mt__law_forced (fun fd F => F.binds (ps := ["_law_table_here", "_law_row"]) fun _ _ _ _ _ _ us hl => match us, hl with | [_, _], _ => rfl) rfl,
      List.forall_mem_cons.mpr ⟨ff_mk X G d__law_table s__law_table ["_law_stream_here", "_law_size"] a19 l19 c19 k19 sc__law_table mt__law_table (fun fd F => F.binds (ps := ["_law_stream_here", "_law_size"]) fun _ _ _ _ _ _ us hl => match us, hl with | [_, _], _ => rfl) rfl,
      List.forall_mem_cons.mpr ⟨ff_mk X G d__law_is_bit s__law_is_bit ["_law_thing"] a20 l20 c20 k20 sc__law_is_bit mt__law_is_bit (fun fd F => F.binds (ps := ["_law_thing"]) fun _ _ _ _ _ _ us hl => match us, hl with | [_], _ => rfl) rfl,
      List.forall_mem_cons.mpr ⟨ff_mk X G d__law_odd s__law_odd ["_law_stream_here"] a21 l21 c21 k21 sc__law_odd mt__law_odd (fun fd F => F.binds (ps := ["_law_stream_here"]) fun _ _ _ _ _ _ us hl => match us, hl with | [_], _ => rfl) rfl,
      List.forall_mem_cons.mpr ⟨ff_mk X G d__law_used s__law_used ["_law_table_here", "_law_size"] a22 l22 c22 k22 sc__law_used mt__law_used (fun fd F => F.binds (ps := ["_law_table_here", "_law_size"]) fun _ _ _ _ _ _ us hl => match us, hl with | [_, _], _ => rfl) rfl,
      List.forall_mem_cons.mpr ⟨ff_mk X G d__law_right s__law_right ["_law_stream_here", "_law_table_here", "_law_size"] a23 l23 c23 k23 sc__law_right mt__law_right (fun fd F => F.binds (ps := ["_law_stream_here", "_law_table_here", "_law_size"]) fun _ _ _ _ _ _ us hl => match us, hl with | [_, _, _], _ => rfl) rfl,
      List.forall_mem_cons.mpr ⟨ff_mk X G d__law_no_table s__law_no_table ["_law_stream_here", "_law_table_here"] a24 l24 c24 k24 sc__law_no_table mt__law_no_table (fun fd F => F.binds (ps := ["_law_stream_here", "_law_table_here"]) fun _ _ _ _ _ _ us hl => match us, hl with | [_, _], _ => rfl) rfl,
      List.forall_mem_cons.mpr ⟨ff_mk X G d_law s_law ["_law_script"] a25 l25 c25 k25 sc_law mt_law (fun fd F => F.binds (ps := ["_law_script"]) fun _ _ _ _ _ _ us hl => match us, hl with | [_], _ => rfl) rfl,
      fun _ h => by cases h⟩⟩⟩⟩⟩⟩⟩⟩⟩⟩⟩⟩⟩⟩⟩⟩⟩⟩⟩⟩⟩⟩⟩⟩⟩⟩
end LW
open PySem PySem.W PyProof.Rows
set_option maxHeartbeats 0 in
theorem PySem.Challenge.cw_loopgates_k02_tables_and_forced_bits_holds : PySem.Challenge.rw_loopgates_k02_tables_and_forced_bits.Holds := by
  w_on; o_law; k_head; (case hw => w_witness2)
  k_fill
  refine GG.walk_g (l := PySem.Challenge.rw_loopgates_k02_tables_and_forced_bits) (n := 63) (k := 20) (Pg := LW.pg) (gt := LW.gt) (i := 25) (f := LW.d_law) (mk := 13) rfl rfl (by decide) rfl ⟨rfl, by decide, by decide⟩ (by decide +kernel) rfl rfl rfl (fun w h Y => PySem.W.kIn_of Y) ?F LW.law_ok
  case F =>
    intro w mg h KX G
    refine' LW.all_mk KX G ?a0 ?l0 ?c0 ?k0 ?a1 ?l1 ?c1 ?k1 ?a2 ?l2 ?c2 ?k2 ?a3 ?l3 ?c3 ?k3 ?a4 ?l4 ?c4 ?k4 ?a5 ?l5 ?c5 ?k5 ?a6 ?l6 ?c6 ?k6 ?a7 ?l7 ?c7 ?k7 ?a8 ?l8 ?c8 ?k8 ?a9 ?l9 ?c9 ?k9 ?a10 ?l10 ?c10 ?k10 ?a11 ?l11 ?c11 ?k11 ?a12 ?l12 ?c12 ?k12 ?a13 ?l13 ?c13 ?k13 ?a14 ?l14 ?c14 ?k14 ?a15 ?l15 ?c15 ?k15 ?a16 ?l16 ?c16 ?k16 ?a17 ?l17 ?c17 ?k17 ?a18 ?l18 ?c18 ?k18 ?a19 ?l19 ?c19 ?k19 ?a20 ?l20 ?c20 ?k20 ?a21 ?l21 ?c21 ?k21 ?a22 ?l22 ?c22 ?k22 ?a23 ?l23 ?c23 ?k23 ?a24 ?l24 ?c24 ?k24 ?a25 ?l25 ?c25 ?k25 ?qg0 ?qg1 ?qg2 ?ql2 ?qd2 ?qe2 ?z0 ?z1 ?z2 ?z3 ?z4 ?z5 ?z6 ?z7 ?z8 ?z9 ?z10 ?z11 ?z12 ?z13 ?z14 ?z15 ?z16 ?z17
    (case a0 => k_is); (case l0 => k_is); (case c0 => k_is); (case k0 => k_is); (case a1 => k_is); (case l1 => k_is); (case c1 => k_is); (case k1 => k_is); (case a2 => k_is); (case l2 => k_is); (case c2 => k_is); (case k2 => k_is); (case a3 => k_is); (case l3 => k_is); (case c3 => k_is); (case k3 => k_is); (case a4 => k_is); (case l4 => k_is); (case c4 => k_is); (case k4 => k_is); (case a5 => k_is); (case l5 => k_is); (case c5 => k_is); (case k5 => k_is); (case a6 => k_is); (case l6 => k_is); (case c6 => k_is); (case k6 => k_is); (case a7 => k_is); (case l7 => k_is); (case c7 => k_is); (case k7 => k_is); (case a8 => k_is); (case l8 => k_is); (case c8 => k_is); (case k8 => k_is); (case a9 => k_is); (case l9 => k_is); (case c9 => k_is); (case k9 => k_is); (case a10 => k_is); (case l10 => k_is); (case c10 => k_is); (case k10 => k_is); (case a11 => k_is); (case l11 => k_is); (case c11 => k_is); (case k11 => k_is); (case a12 => k_is); (case l12 => k_is); (case c12 => k_is); (case k12 => k_is); (case a13 => k_is); (case l13 => k_is); (case c13 => k_is); (case k13 => k_is); (case a14 => k_is); (case l14 => k_is); (case c14 => k_is); (case k14 => k_is); (case a15 => k_is); (case l15 => k_is); (case c15 => k_is); (case k15 => k_is); (case a16 => k_is); (case l16 => k_is); (case c16 => k_is); (case k16 => k_is); (case a17 => k_is); (case l17 => k_is); (case c17 => k_is); (case k17 => k_is); (case a18 => k_is); (case l18 => k_is); (case c18 => k_is); (case k18 => k_is); (case a19 => k_is); (case l19 => k_is); (case c19 => k_is); (case k19 => k_is); (case a20 => k_is); (case l20 => k_is); (case c20 => k_is); (case k20 => k_is); (case a21 => k_is); (case l21 => k_is); (case c21 => k_is); (case k21 => k_is); (case a22 => k_is); (case l22 => k_is); (case c22 => k_is); (case k22 => k_is); (case a23 => k_is); (case l23 => k_is); (case c23 => k_is); (case k23 => k_is); (case a24 => k_is); (case l24 => k_is); (case c24 => k_is); (case k24 => k_is); (case a25 => k_is); (case l25 => k_is); (case c25 => k_is); (case k25 => k_is); (case qg0 => k_is); (case qg1 => k_is); (case qg2 => k_is); (case ql2 => k_is); (case qd2 => rfl); (case qe2 => rfl); (case z0 => k_is); (case z1 => k_is); (case z2 => k_is); (case z3 => k_is); (case z4 => k_is); (case z5 => k_is); (case z6 => k_is); (case z7 => k_is); (case z8 => k_is); (case z9 => k_is); (case z10 => k_is); (case z11 => k_is); (case z12 => k_is); (case z13 => k_is); (case z14 => k_is); (case z15 => k_is); (case z16 => k_is); (case z17 => k_is)
