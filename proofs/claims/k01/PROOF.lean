import PyProof.Rows.All
import Wide.All
import OpenK.AllK
import Wide.FinOn
import HandS.ForMost
import HandS.ForExc
import HandS.Flow
import HandS.IsInst
import HandS.Style
import HandS.TupAny
import HandS.TupMul
import HandS.Conv
import HandS.Zip
import HandS.Rev
import HandS.DictComp
import HandS.EndBits
import HandS.Wide
import KE.GoesEnum
import KE.KxText
import PySem.Challenge.RW_loopgates_k01_names_and_rows
set_option Elab.async false
set_option linter.all false
set_option maxRecDepth 100000
namespace GG
open PySem PySem.Spec PyProof.Rows L2

/-! ## data, store, outcome -/
/-- data of the interpreter: tuples are values, everything that can change is a place of the store -/
inductive D where
  | non
  | bl (b : Bool)
  | int (i : Int)
  | str (x : Str)
  | tup (ds : List D)
  | rol (ds : List D)
  | loc (l : Nat)
mutual
def D.beq : D → D → Bool
  | .non, .non => true
  | .bl x, .bl y => decide (x = y)
  | .int x, .int y => decide (x = y)
  | .str x, .str y => decide (x = y)
  | .loc x, .loc y => decide (x = y)
  | .tup x, .tup y => D.beqs x y
  | .rol x, .rol y => D.beqs x y
  | _, _ => false
def D.beqs : List D → List D → Bool
  | [], [] => true
  | x :: xs, y :: ys => D.beq x y && D.beqs xs ys
  | _, _ => false
end
mutual
theorem D.beq_iff : ∀ a b : D, D.beq a b = true ↔ a = b
  | .non, b => by cases b <;> simp [D.beq]
  | .bl _, b => by cases b <;> simp [D.beq]
  | .int _, b => by cases b <;> simp [D.beq]
  | .str _, b => by cases b <;> simp [D.beq]
  | .loc _, b => by cases b <;> simp [D.beq]
  | .tup x, .tup y => by simp [D.beq, D.beqs_iff x y]
  | .tup _, .non => by simp [D.beq]
  | .tup _, .bl _ => by simp [D.beq]
  | .tup _, .int _ => by simp [D.beq]
  | .tup _, .str _ => by simp [D.beq]
  | .tup _, .loc _ => by simp [D.beq]
  | .tup _, .rol _ => by simp [D.beq]
  | .rol x, .rol y => by simp [D.beq, D.beqs_iff x y]
  | .rol _, .non => by simp [D.beq]
  | .rol _, .bl _ => by simp [D.beq]
  | .rol _, .int _ => by simp [D.beq]
  | .rol _, .str _ => by simp [D.beq]
  | .rol _, .loc _ => by simp [D.beq]
  | .rol _, .tup _ => by simp [D.beq]
theorem D.beqs_iff : ∀ a b : List D, D.beqs a b = true ↔ a = b
  | [], [] => by simp [D.beqs]
  | [], _ :: _ => by simp [D.beqs]
  | _ :: _, [] => by simp [D.beqs]
  | x :: xs, y :: ys => by simp [D.beqs, D.beq_iff x y, D.beqs_iff xs ys]
end
instance : DecidableEq D := fun a b => if h : D.beq a b = true then Decidable.isTrue ((D.beq_iff a b).mp h) else Decidable.isFalse fun e => h ((D.beq_iff a b).mpr e)
/-- what stands at a place -/
inductive O where
  | lst (ds : List D)
  | dK (kvs : List (Key × D))
  deriving DecidableEq
abbrev Sto := List O
abbrev Env := List (Option D)
inductive Out (α : Type) where
  | ok (a : α) (S : Sto)
  | exc (c : Str) (v : Option (Str × D)) (S : Sto)
  | bad
def Out.bind {α β : Type} (r : Out α) (g : α → Sto → Out β) : Out β :=
  match r with
  | .ok a S => g a S
  | .exc c v S => .exc c v S
  | .bad => .bad
@[simp] theorem Out.bind_ok {α β : Type} (a : α) (S : Sto) (g : α → Sto → Out β) : (Out.ok a S).bind g = g a S := rfl
@[simp] theorem Out.bind_exc {α β : Type} (c : Str) (v : Option (Str × D)) (S : Sto) (g : α → Sto → Out β) : (Out.exc c v S : Out α).bind g = .exc c v S := rfl
@[simp] theorem Out.bind_bad {α β : Type} (g : α → Sto → Out β) : (Out.bad : Out α).bind g = .bad := rfl

/-! all places of a datum lie below n -/
mutual
def D.lt (n : Nat) : D → Bool
  | .loc l => decide (l < n)
  | .tup ds => D.lts n ds
  | .rol ds => D.lts n ds
  | _ => true
def D.lts (n : Nat) : List D → Bool
  | [] => true
  | d :: ds => D.lt n d && D.lts n ds
end
def ltKV (n : Nat) : List (Key × D) → Bool
  | [] => true
  | kv :: r => D.lt n kv.2 && ltKV n r
def O.lt (n : Nat) : O → Bool
  | .lst ds => D.lts n ds
  | .dK kvs => ltKV n kvs
mutual
theorem D.lt_mono {n m : Nat} (h : n ≤ m) : ∀ d : D, D.lt n d = true → D.lt m d = true
  | .non, _ => by simp [D.lt]
  | .bl _, _ => by simp [D.lt]
  | .int _, _ => by simp [D.lt]
  | .str _, _ => by simp [D.lt]
  | .loc l, q => by simp only [D.lt, decide_eq_true_eq] at q ⊢; omega
  | .tup ds, q => by simp only [D.lt] at q ⊢; exact D.lts_mono h ds q
  | .rol ds, q => by simp only [D.lt] at q ⊢; exact D.lts_mono h ds q
theorem D.lts_mono {n m : Nat} (h : n ≤ m) : ∀ ds : List D, D.lts n ds = true → D.lts m ds = true
  | [], _ => by simp [D.lts]
  | d :: ds, q => by
    simp only [D.lts, Bool.and_eq_true] at q ⊢
    exact ⟨D.lt_mono h d q.1, D.lts_mono h ds q.2⟩
end
theorem ltKV_mono {n m : Nat} (h : n ≤ m) : ∀ kvs : List (Key × D), ltKV n kvs = true → ltKV m kvs = true
  | [], _ => by simp [ltKV]
  | d :: ds, q => by
    simp only [ltKV, Bool.and_eq_true] at q ⊢
    exact ⟨D.lt_mono h d.2 q.1, ltKV_mono h ds q.2⟩
theorem O.lt_mono {n m : Nat} (h : n ≤ m) : ∀ o : O, O.lt n o = true → O.lt m o = true
  | .lst ds, q => D.lts_mono h ds q
  | .dK kvs, q => ltKV_mono h kvs q

/-! ## how data lie in the abstract heap -/
section
variable (K : PySem.W.Frag)
/-- a list that nobody writes -/
def RoL (H : Hp) (a : Addr) (vs : List V) : Prop :=
  (∃ o, H a = some (.frz o (.lst vs))) ∨
    ∃ (o : Obj) (its : Array Value) (n : Nat), K.lookup a = some o ∧ o.cls = .type "list" ∧ o.dict = none ∧ o.data = .seq its n ∧ its.size ≤ sizeLine ∧ Vals vs its.toList
mutual
def RV (ρ : List Addr) (H : Hp) : D → V → Prop
  | .non, v => v = .non
  | .bl b, v => v = .bl b
  | .int i, v => v = .int i
  | .str x, v => v = .str x
  | .loc l, v => ∃ a, ρ[l]? = some a ∧ v = .ref a
  | .tup ds, v => ∃ a vs, v = .ref a ∧ SqT K H a vs ∧ RVs ρ H ds vs
  | .rol ds, v => ∃ a vs, v = .ref a ∧ RoL K H a vs ∧ RVs ρ H ds vs
def RVs (ρ : List Addr) (H : Hp) : List D → List V → Prop
  | [], vs => vs = []
  | d :: ds, vs => ∃ v r, vs = v :: r ∧ RV ρ H d v ∧ RVs ρ H ds r
end
def RKV (ρ : List Addr) (H : Hp) : List (Key × D) → List (Key × V) → Prop
  | [], vs => vs = []
  | kd :: ds, vs => ∃ v r, vs = (kd.1, v) :: r ∧ RV K ρ H kd.2 v ∧ RKV ρ H ds r
def RO (ρ : List Addr) (H : Hp) : O → Addr → Prop
  | .lst ds, a => ∃ vs, H a = some (.lst vs) ∧ RVs K ρ H ds vs
  | .dK kvs, a => ∃ ws, H a = some (.dK ws) ∧ RKV K ρ H kvs ws
/-- what stays from one abstract heap to a later one -/
structure Kp (H H' : Hp) : Prop where
  tup : ∀ b xs, H b = some (.tup xs) → H' b = some (.tup xs)
  frz : ∀ b o u, H b = some (.frz o u) → H' b = some (.frz o u)
  xd : ∀ b fs, H b = some (.xd fs) → H' b = some (.xd fs)
structure Rp (ρ : List Addr) (S : Sto) (H : Hp) : Prop where
  len : ρ.length = S.length
  nd : ρ.Nodup
  obj : ∀ (i : Nat) a o, ρ[i]? = some a → S[i]? = some o → RO K ρ H o a
  ord : ∀ (i : Nat) o, S[i]? = some o → O.lt i o = true
def Rs (ρ : List Addr) (H : Hp) (ε : Env) (σ : L2.St) : Prop :=
  ε.length = σ.length ∧ ∀ (i : Nat) d, ε[i]? = some (some d) → ∃ v, σ[i]? = some (some v) ∧ RV K ρ H d v
end
section
variable {K : PySem.W.Frag} {ρ ρ' : List Addr} {H H' H'' : Hp} {S : Sto}
theorem Kp.refl : Kp H H := ⟨fun _ _ h => h, fun _ _ _ h => h, fun _ _ h => h⟩
theorem Kp.trans (a : Kp H H') (b : Kp H' H'') : Kp H H'' := ⟨fun _ _ h => b.tup _ _ (a.tup _ _ h), fun _ _ _ h => b.frz _ _ _ (a.frz _ _ _ h), fun _ _ h => b.xd _ _ (a.xd _ _ h)⟩
theorem Kp.rdT (k : Kp H H') {a : Addr} {xs : List V} (h : SqT K H a xs) : SqT K H' a xs := by
  rcases h with (h | ⟨o, h⟩) | h
  · exact .inl (.inl (k.tup _ _ h))
  · exact .inl (.inr ⟨o, k.frz _ _ _ h⟩)
  · exact .inr h
theorem Kp.fresh {p : Addr} {o : HO} (h : H p = none) : Kp H (upd H p o) :=
  ⟨fun b _ e => by rw [upd_ne (ne_of_none e h)]; exact e, fun b _ _ e => by rw [upd_ne (ne_of_none e h)]; exact e, fun b _ e => by rw [upd_ne (ne_of_none e h)]; exact e⟩
/-- a store at what is neither a tuple, nor locked, nor an error's dict -/
theorem Kp.put {p : Addr} {u o : HO} (h : H p = some u) (n1 : ∀ xs, u ≠ .tup xs) (n2 : ∀ o x, u ≠ .frz o x) (n3 : ∀ fs, u ≠ .xd fs) : Kp H (upd H p o) :=
  ⟨fun b _ e => by rw [upd_ne (ne_of e h fun z => n1 _ z.symm)]; exact e, fun b _ _ e => by rw [upd_ne (ne_of e h fun z => n2 _ _ z.symm)]; exact e, fun b _ e => by rw [upd_ne (ne_of e h fun z => n3 _ z.symm)]; exact e⟩
theorem get_pre {α : Type} {l l' : List α} (p : l <+: l') {i : Nat} {x : α} (h : l[i]? = some x) : l'[i]? = some x := by
  obtain ⟨t, rfl⟩ := p
  rw [List.getElem?_append_left (List.getElem?_eq_some_iff.mp h).1]
  exact h
theorem RoL.mono (k : Kp H H') {a : Addr} {vs : List V} (h : RoL K H a vs) : RoL K H' a vs := by
  rcases h with ⟨o, h⟩ | h
  · exact .inl ⟨o, k.frz _ _ _ h⟩
  · exact .inr h
mutual
theorem RV.mono (p : ρ <+: ρ') (k : Kp H H') : ∀ (d : D) (v : V), RV K ρ H d v → RV K ρ' H' d v
  | .non, _, h => by simp only [RV] at h ⊢; exact h
  | .bl _, _, h => by simp only [RV] at h ⊢; exact h
  | .int _, _, h => by simp only [RV] at h ⊢; exact h
  | .str _, _, h => by simp only [RV] at h ⊢; exact h
  | .loc l, _, h => by
    simp only [RV] at h ⊢
    obtain ⟨a, e, q⟩ := h
    exact ⟨a, get_pre p e, q⟩
  | .tup ds, _, h => by
    simp only [RV] at h ⊢
    obtain ⟨a, vs, e, q, r⟩ := h
    exact ⟨a, vs, e, k.rdT q, RVs.mono p k ds vs r⟩
  | .rol ds, _, h => by
    simp only [RV] at h ⊢
    obtain ⟨a, vs, e, q, r⟩ := h
    exact ⟨a, vs, e, q.mono k, RVs.mono p k ds vs r⟩
theorem RVs.mono (p : ρ <+: ρ') (k : Kp H H') : ∀ (ds : List D) (vs : List V), RVs K ρ H ds vs → RVs K ρ' H' ds vs
  | [], _, h => by simp only [RVs] at h ⊢; exact h
  | d :: ds, _, h => by
    simp only [RVs] at h ⊢
    obtain ⟨v, r, e, q, t⟩ := h
    exact ⟨v, r, e, RV.mono p k d v q, RVs.mono p k ds r t⟩
end
theorem RKV.mono (p : ρ <+: ρ') (k : Kp H H') : ∀ (ds : List (Key × D)) (vs : List (Key × V)), RKV K ρ H ds vs → RKV K ρ' H' ds vs
  | [], _, h => by simp only [RKV] at h ⊢; exact h
  | d :: ds, _, h => by
    simp only [RKV] at h ⊢
    obtain ⟨v, r, e, q, t⟩ := h
    exact ⟨v, r, e, q.mono p k, RKV.mono p k ds r t⟩
theorem Rs.mono {ε : Env} {σ : L2.St} (p : ρ <+: ρ') (k : Kp H H') (h : Rs K ρ H ε σ) : Rs K ρ' H' ε σ :=
  ⟨h.1, fun i d e => let ⟨v, a, b⟩ := h.2 i d e; ⟨v, a, b.mono p k⟩⟩
theorem RoL.sq {a : Addr} {vs : List V} (h : RoL K H a vs) : SqL K H a vs := by
  rcases h with ⟨o, h⟩ | h
  · exact .inl (.inr ⟨o, h⟩)
  · exact .inr h
theorem pre_refl {α : Type} (l : List α) : l <+: l := ⟨[], List.append_nil l⟩
theorem RVs.len : ∀ {ds : List D} {vs : List V}, RVs K ρ H ds vs → ds.length = vs.length
  | [], _, h => by simp only [RVs] at h; subst h; rfl
  | d :: ds, _, h => by
    simp only [RVs] at h
    obtain ⟨v, r, rfl, _, t⟩ := h
    simp [t.len]
theorem RVs.get : ∀ {ds : List D} {vs : List V} {i : Nat} {d : D}, RVs K ρ H ds vs → ds[i]? = some d → ∃ v, vs[i]? = some v ∧ RV K ρ H d v
  | [], _, _, _, _, e => by simp at e
  | d :: ds, _, 0, _, h, e => by
    simp only [RVs] at h
    obtain ⟨v, r, rfl, q, _⟩ := h
    simp at e; subst e
    exact ⟨v, rfl, q⟩
  | d :: ds, _, i + 1, x, h, e => by
    simp only [RVs] at h
    obtain ⟨v, r, rfl, _, t⟩ := h
    simpa using RVs.get (i := i) (d := x) t (by simpa using e)
theorem RVs.append : ∀ {ds es : List D} {vs us : List V}, RVs K ρ H ds vs → RVs K ρ H es us → RVs K ρ H (ds ++ es) (vs ++ us)
  | [], _, _, _, h, t => by simp only [RVs] at h; subst h; exact t
  | d :: ds, _, _, _, h, t => by
    simp only [RVs] at h
    obtain ⟨v, r, rfl, q, t0⟩ := h
    show RVs K ρ H (d :: (ds ++ _)) (v :: (r ++ _))
    simp only [RVs]
    exact ⟨v, _, rfl, q, t0.append t⟩
theorem RVs.one {d : D} {v : V} (h : RV K ρ H d v) : RVs K ρ H [d] [v] := by simp only [RVs]; exact ⟨v, [], rfl, h, rfl⟩
theorem RVs.nil : RVs K ρ H [] [] := by simp only [RVs]
theorem RVs.cons {d : D} {v : V} {ds : List D} {vs : List V} (h : RV K ρ H d v) (t : RVs K ρ H ds vs) : RVs K ρ H (d :: ds) (v :: vs) := by simp only [RVs]; exact ⟨v, vs, rfl, h, t⟩
theorem RVs.uncons {d : D} {ds : List D} {vs : List V} (h : RVs K ρ H (d :: ds) vs) : ∃ v r, vs = v :: r ∧ RV K ρ H d v ∧ RVs K ρ H ds r := by simpa only [RVs] using h
mutual
theorem RV.lt : ∀ (d : D) (v : V), RV K ρ H d v → D.lt ρ.length d = true
  | .non, _, _ => by simp [D.lt]
  | .bl _, _, _ => by simp [D.lt]
  | .int _, _, _ => by simp [D.lt]
  | .str _, _, _ => by simp [D.lt]
  | .loc l, _, h => by
    simp only [RV] at h
    obtain ⟨a, e, _⟩ := h
    simp only [D.lt, decide_eq_true_eq]
    exact (List.getElem?_eq_some_iff.mp e).1
  | .tup ds, _, h => by
    simp only [RV] at h
    obtain ⟨a, vs, _, _, r⟩ := h
    simp only [D.lt]
    exact RVs.lts ds vs r
  | .rol ds, _, h => by
    simp only [RV] at h
    obtain ⟨a, vs, _, _, r⟩ := h
    simp only [D.lt]
    exact RVs.lts ds vs r
theorem RVs.lts : ∀ (ds : List D) (vs : List V), RVs K ρ H ds vs → D.lts ρ.length ds = true
  | [], _, _ => by simp [D.lts]
  | d :: ds, _, h => by
    simp only [RVs] at h
    obtain ⟨v, r, _, q, t⟩ := h
    simp only [D.lts, Bool.and_eq_true]
    exact ⟨RV.lt d v q, RVs.lts ds r t⟩
end
theorem RKV.lts : ∀ (ds : List (Key × D)) (vs : List (Key × V)), RKV K ρ H ds vs → ltKV ρ.length ds = true
  | [], _, _ => by simp [ltKV]
  | d :: ds, _, h => by
    simp only [RKV] at h
    obtain ⟨v, r, _, q, t⟩ := h
    simp only [ltKV, Bool.and_eq_true]
    exact ⟨RV.lt _ _ q, RKV.lts ds r t⟩
theorem RO.lt {o : O} {a : Addr} (h : RO K ρ H o a) : O.lt ρ.length o = true := by
  cases o with
  | lst ds => obtain ⟨vs, _, r⟩ := h; exact RVs.lts ds vs r
  | dK kvs => obtain ⟨vs, _, r⟩ := h; exact RKV.lts kvs vs r
/-! forgetting the youngest places -/
mutual
theorem RV.cut {n : Nat} : ∀ (d : D) (v : V), D.lt n d = true → RV K ρ H d v → RV K (ρ.take n) H d v
  | .non, _, _, h => by simp only [RV] at h ⊢; exact h
  | .bl _, _, _, h => by simp only [RV] at h ⊢; exact h
  | .int _, _, _, h => by simp only [RV] at h ⊢; exact h
  | .str _, _, _, h => by simp only [RV] at h ⊢; exact h
  | .loc l, _, q, h => by
    simp only [RV] at h ⊢
    simp only [D.lt, decide_eq_true_eq] at q
    obtain ⟨a, e, z⟩ := h
    exact ⟨a, by rw [List.getElem?_take_of_lt q]; exact e, z⟩
  | .tup ds, _, q, h => by
    simp only [RV] at h ⊢
    simp only [D.lt] at q
    obtain ⟨a, vs, e, z, r⟩ := h
    exact ⟨a, vs, e, z, RVs.cut ds vs q r⟩
  | .rol ds, _, q, h => by
    simp only [RV] at h ⊢
    simp only [D.lt] at q
    obtain ⟨a, vs, e, z, r⟩ := h
    exact ⟨a, vs, e, z, RVs.cut ds vs q r⟩
theorem RVs.cut {n : Nat} : ∀ (ds : List D) (vs : List V), D.lts n ds = true → RVs K ρ H ds vs → RVs K (ρ.take n) H ds vs
  | [], _, _, h => by simp only [RVs] at h ⊢; exact h
  | d :: ds, _, q, h => by
    simp only [RVs] at h ⊢
    simp only [D.lts, Bool.and_eq_true] at q
    obtain ⟨v, r, e, z, t⟩ := h
    exact ⟨v, r, e, RV.cut d v q.1 z, RVs.cut ds r q.2 t⟩
end
theorem RKV.cut {n : Nat} : ∀ (ds : List (Key × D)) (vs : List (Key × V)), ltKV n ds = true → RKV K ρ H ds vs → RKV K (ρ.take n) H ds vs
  | [], _, _, h => by simp only [RKV] at h ⊢; exact h
  | d :: ds, _, q, h => by
    simp only [RKV] at h ⊢
    simp only [ltKV, Bool.and_eq_true] at q
    obtain ⟨v, r, e, z, t⟩ := h
    exact ⟨v, r, e, RV.cut _ v q.1 z, RKV.cut ds r q.2 t⟩
theorem RO.cut {n : Nat} {o : O} {a : Addr} (q : O.lt n o = true) (h : RO K ρ H o a) : RO K (ρ.take n) H o a := by
  cases o with
  | lst ds => obtain ⟨vs, e, r⟩ := h; exact ⟨vs, e, RVs.cut ds vs q r⟩
  | dK kvs => obtain ⟨vs, e, r⟩ := h; exact ⟨vs, e, RKV.cut kvs vs q r⟩
theorem Rp.cut {n : Nat} (h : Rp K ρ S H) : Rp K (ρ.take n) (S.take n) H := by
  refine ⟨by rw [List.length_take, List.length_take, h.len], h.nd.sublist (List.take_sublist _ _), fun i a o e1 e2 => ?_, fun i o e => ?_⟩
  · have hi : i < n := by
      have := (List.getElem?_eq_some_iff.mp e2).1
      rw [List.length_take] at this
      omega
    rw [List.getElem?_take_of_lt hi] at e1 e2
    exact (h.obj i a o e1 e2).cut (O.lt_mono (Nat.le_of_lt hi) o (h.ord i o e2))
  · have hi : i < n := by
      have := (List.getElem?_eq_some_iff.mp e).1
      rw [List.length_take] at this
      omega
    rw [List.getElem?_take_of_lt hi] at e
    exact h.ord i o e
/-- an object stays as it is where its own place is not written -/
theorem RO.mono {o : O} {a : Addr} (p : ρ <+: ρ') (k : Kp H H') (hs : ∀ u, H a = some u → (∀ o x, u ≠ .frz o x) → H' a = some u) (h : RO K ρ H o a) : RO K ρ' H' o a := by
  cases o with
  | lst ds => obtain ⟨vs, e, r⟩ := h; exact ⟨vs, hs _ e (fun _ _ z => nomatch z), r.mono p k⟩
  | dK kvs => obtain ⟨vs, e, r⟩ := h; exact ⟨vs, hs _ e (fun _ _ z => nomatch z), r.mono p k⟩
/-- a new thing that is not tracked by the store -/
theorem Rp.fresh {p : Addr} {o : HO} (h : Rp K ρ S H) (hp : H p = none) : Rp K ρ S (upd H p o) :=
  ⟨h.len, h.nd, fun i a x e1 e2 => (h.obj i a x e1 e2).mono (pre_refl _) (Kp.fresh hp) fun u e _ => by rw [upd_ne (ne_of_none e hp)]; exact e, h.ord⟩
theorem RO.there {o : O} {a : Addr} (h : RO K ρ H o a) : ∃ u, H a = some u ∧ (∀ xs, u ≠ .tup xs) ∧ (∀ o x, u ≠ .frz o x) ∧ ∀ fs, u ≠ .xd fs := by
  cases o with
  | lst ds => obtain ⟨vs, e, _⟩ := h; exact ⟨_, e, (fun _ z => nomatch z), (fun _ _ z => nomatch z), (fun _ z => nomatch z)⟩
  | dK kvs => obtain ⟨vs, e, _⟩ := h; exact ⟨_, e, (fun _ z => nomatch z), (fun _ _ z => nomatch z), (fun _ z => nomatch z)⟩
theorem Rp.at (h : Rp K ρ S H) {i : Nat} {a : Addr} (e : ρ[i]? = some a) : ∃ o, S[i]? = some o ∧ RO K ρ H o a := by
  have hi : i < S.length := by rw [← h.len]; exact (List.getElem?_eq_some_iff.mp e).1
  exact ⟨S[i], List.getElem?_eq_getElem hi, h.obj i a S[i] e (List.getElem?_eq_getElem hi)⟩
theorem Rp.dom (h : Rp K ρ S H) {i : Nat} {a : Addr} (e : ρ[i]? = some a) : ∃ u, H a = some u :=
  let ⟨_, _, r⟩ := h.at e
  let ⟨u, q, _⟩ := r.there
  ⟨u, q⟩
end
end GG
namespace GG
open PySem PySem.Spec PyProof.Rows L2

/-! ## readings by functions -/
/-- how an error lies -/
def RX (K : PySem.W.Frag) (mg : Str → Option Value) (ρ : List Addr) (H : Hp) (c : Str) (v : Option (Str × D)) (cls : Value) (d : Option Addr) : Prop :=
  ∃ C, mg c = some (.ref C) ∧ cls = .ref C ∧ match v with
    | none => d = none
    | some (f, x) => ∃ dd u, d = some dd ∧ H dd = some (.xd [(f, u)]) ∧ RV K ρ H x u
section
variable (K : PySem.W.Frag) (mg : Str → Option Value)
/-- from one state of the abstract heap to a later one -/
structure Sx (ρ : List Addr) (H : Hp) (ρ' : List Addr) (H' : Hp) : Prop where
  pre : ρ <+: ρ'
  kp : Kp H H'
  fm : ∀ b u, H b = some u → b ∉ ρ → H' b = some u ∧ b ∉ ρ'
def Post {α β : Type} (RA : List Addr → Hp → α → β → Prop) (E : XK) (ρ : List Addr) (H : Hp) (r : Out α) (Q : β → Hp → Prop) : Prop :=
  match r with
  | .ok d S => ∀ ρ' v H', Sx ρ H ρ' H' → Rp K ρ' S H' → RA ρ' H' d v → Q v H'
  | .exc c x S => ∀ ρ' H' cls dd, Sx ρ H ρ' H' → Rp K ρ' S H' → RX K mg ρ' H' c x cls dd → E cls dd H'
  | .bad => False
def RB : List Addr → Hp → Bool → Bool → Prop := fun _ _ a b => b = a
def XW (W : WX) (σ : L2.St) : XK := fun cls d H => W cls d σ H
def TF (W : WX) (f : Env → Sto → Out D) : TE := fun σ H Q => ∃ ρ ε S, Rs K ρ H ε σ ∧ Rp K ρ S H ∧ Post K mg (RV K) (XW W σ) ρ H (f ε S) Q
def TFs (W : WX) (f : Env → Sto → Out (List D)) : TA := fun σ H Q => ∃ ρ ε S, Rs K ρ H ε σ ∧ Rp K ρ S H ∧ Post K mg (RVs K) (XW W σ) ρ H (f ε S) Q
def TFt (W : WX) (f : Env → Sto → Out Bool) : TT := fun σ H Q => ∃ ρ ε S, Rs K ρ H ε σ ∧ Rp K ρ S H ∧ Post K mg RB (XW W σ) ρ H (f ε S) Q
end
section
variable {K : PySem.W.Frag} {mg : Str → Option Value} {α β γ δ : Type} {RA : List Addr → Hp → α → β → Prop} {RC : List Addr → Hp → γ → δ → Prop} {E : XK} {ρ ρ1 : List Addr} {H H1 : Hp} {W : WX}
theorem Sx.refl : Sx ρ H ρ H := ⟨pre_refl _, Kp.refl, fun _ _ a b => ⟨a, b⟩⟩
theorem Sx.trans {ρ2 : List Addr} {H2 : Hp} (a : Sx ρ H ρ1 H1) (b : Sx ρ1 H1 ρ2 H2) : Sx ρ H ρ2 H2 :=
  ⟨a.pre.trans b.pre, a.kp.trans b.kp, fun c u e n => let ⟨e1, n1⟩ := a.fm c u e n; b.fm c u e1 n1⟩
theorem Sx.fresh {p : Addr} {o : HO} (h : H p = none) : Sx ρ H ρ (upd H p o) :=
  ⟨pre_refl _, Kp.fresh h, fun b u e n => ⟨by rw [upd_ne (ne_of_none e h)]; exact e, n⟩⟩
theorem Sx.push {p : Addr} {o : HO} (h : H p = none) : Sx ρ H (ρ ++ [p]) (upd H p o) :=
  ⟨⟨[p], rfl⟩, Kp.fresh h, fun b u e n => ⟨by rw [upd_ne (ne_of_none e h)]; exact e, by
    simp only [List.mem_append, List.mem_singleton, not_or]
    exact ⟨n, ne_of_none e h⟩⟩⟩
theorem Post.weak {r : Out α} {Q : β → Hp → Prop} (s : Sx ρ H ρ1 H1) (h : Post K mg RA E ρ H r Q) : Post K mg RA E ρ1 H1 r Q := by
  cases r with
  | ok d S => exact fun ρ' v H' s' => h ρ' v H' (s.trans s')
  | exc c x S => exact fun ρ' H' cls dd s' => h ρ' H' cls dd (s.trans s')
  | bad => exact h
theorem Post.imp {r : Out α} {Q Q' : β → Hp → Prop} (h : Post K mg RA E ρ H r Q) (i : ∀ v H', Q v H' → Q' v H') : Post K mg RA E ρ H r Q' := by
  cases r with
  | ok d S => exact fun ρ' v H' s' r' q => i _ _ (h ρ' v H' s' r' q)
  | exc c x S => exact h
  | bad => exact h
theorem Post.seq {r : Out α} {g : α → Sto → Out γ} {Q : δ → Hp → Prop} {Q1 : β → Hp → Prop} (h : Post K mg RC E ρ H (r.bind g) Q)
    (step : ∀ ρ1 v H1 d S1, Sx ρ H ρ1 H1 → Rp K ρ1 S1 H1 → RA ρ1 H1 d v → Post K mg RC E ρ1 H1 (g d S1) Q → Q1 v H1) : Post K mg RA E ρ H r Q1 := by
  cases r with
  | ok d S => exact fun ρ' v H' s' r' q => step ρ' v H' d S s' r' q (Post.weak s' h)
  | exc c x S => exact h
  | bad => exact h
/-- the end: a value of the very heap -/
theorem Post.here {d : α} {S : Sto} {v : β} {Q : β → Hp → Prop} (h : Post K mg RA E ρ H (.ok d S) Q) (rp : Rp K ρ S H) (r : RA ρ H d v) : Q v H := h ρ v H Sx.refl rp r

/-- a rule by two values serves a function -/
def VR2 (K : PySem.W.Frag) (mg : Str → Option Value) (r : R2) (h : D → D → Sto → Out D) : Prop :=
  ∀ (E : XK) (ρ : List Addr) (S : Sto) (H : Hp) (x y : D) (vx vy : V) (Q : VK), Rp K ρ S H → RV K ρ H x vx → RV K ρ H y vy → Post K mg (RV K) E ρ H (h x y S) Q → r vx vy H Q
def VR1 (K : PySem.W.Frag) (mg : Str → Option Value) (r : V → Hp → VK → Prop) (h : D → Sto → Out D) : Prop :=
  ∀ (E : XK) (ρ : List Addr) (S : Sto) (H : Hp) (x : D) (vx : V) (Q : VK), Rp K ρ S H → RV K ρ H x vx → Post K mg (RV K) E ρ H (h x S) Q → r vx H Q
def VRn (K : PySem.W.Frag) (mg : Str → Option Value) (r : List V → Hp → VK → Prop) (h : List D → Sto → Out D) : Prop :=
  ∀ (E : XK) (ρ : List Addr) (S : Sto) (H : Hp) (xs : List D) (vs : List V) (Q : VK), Rp K ρ S H → RVs K ρ H xs vs → Post K mg (RV K) E ρ H (h xs S) Q → r vs H Q
theorem PE.imp {X : Cx} {e : Expr} {t t' : TE} (h : PE X e t) (i : ∀ σ H Q, t' σ H Q → t σ H Q) : PE X e t' := ⟨fun pins s σ H Q I q => h.run pins s σ H Q I (i σ H Q q)⟩
theorem PA.imp {X : Cx} {e : List Expr} {t t' : TA} (h : PA X e t) (i : ∀ σ H Q, t' σ H Q → t σ H Q) : PA X e t' := ⟨fun pos pins s σ H Q I q => h.run pos pins s σ H Q I (i σ H Q q)⟩
theorem PT.imp {X : Cx} {e : Expr} {t t' : TT} (h : PT X e t) (i : ∀ σ H Q, t' σ H Q → t σ H Q) : PT X e t' := ⟨fun pins s σ H Q I q => h.run pins s σ H Q I (i σ H Q q)⟩
theorem PW.imp {X : Cx} {e : Expr} {t t' : TT} (h : PW X e t) (i : ∀ σ H Q, t' σ H Q → t σ H Q) : PW X e t' := ⟨fun w pins s σ H Q I q => h.run w pins s σ H Q I (i σ H Q q)⟩
theorem PS.imp {X : Cx} {e : Stmt} {t t' : TS} (h : PS X e t) (i : ∀ D σ H, t' D σ H → t D σ H) : PS X e t' := ⟨fun pins s σ H D I q => h.run pins s σ H D I (i D σ H q)⟩
theorem PSs.imp {X : Cx} {e : List Stmt} {t t' : TS} (h : PSs X e t) (i : ∀ D σ H, t' D σ H → t D σ H) : PSs X e t' := ⟨fun pins s σ H D I q => h.run pins s σ H D I (i D σ H q)⟩

theorem tf_op {r : R2} {fa fb : Env → Sto → Out D} {h : D → D → Sto → Out D} (v : VR2 K mg r h) (σ : L2.St) (H : Hp) (Q : VK)
    (q : TF K mg W (fun ε S => (fa ε S).bind fun x S1 => (fb ε S1).bind fun y S2 => h x y S2) σ H Q) : tOp r (TF K mg W fa) (TF K mg W fb) σ H Q := by
  obtain ⟨ρ, ε, S, hs, hp, q⟩ := q
  exact ⟨ρ, ε, S, hs, hp, q.seq fun ρ1 vx H1 x S1 s1 rp1 rx q1 =>
    ⟨ρ1, ε, S1, hs.mono s1.pre s1.kp, rp1, q1.seq fun ρ2 vy H2 y S2 s2 rp2 ry q2 => v _ _ _ _ _ _ _ _ _ rp2 (rx.mono s2.pre s2.kp) ry q2⟩⟩
theorem tf_un {r : V → Hp → VK → Prop} {fa : Env → Sto → Out D} {h : D → Sto → Out D} (v : VR1 K mg r h) (σ : L2.St) (H : Hp) (Q : VK)
    (q : TF K mg W (fun ε S => (fa ε S).bind fun x S1 => h x S1) σ H Q) : tUn r (TF K mg W fa) σ H Q := by
  obtain ⟨ρ, ε, S, hs, hp, q⟩ := q
  exact ⟨ρ, ε, S, hs, hp, q.seq fun ρ1 vx H1 x S1 s1 rp1 rx q1 => v _ _ _ _ _ _ _ rp1 rx q1⟩
theorem tf_cb {r : List V → Hp → VK → Prop} {fa : Env → Sto → Out (List D)} {h : List D → Sto → Out D} (v : VRn K mg r h) (σ : L2.St) (H : Hp) (Q : VK)
    (q : TF K mg W (fun ε S => (fa ε S).bind fun x S1 => h x S1) σ H Q) : tCB r (TFs K mg W fa) σ H Q := by
  obtain ⟨ρ, ε, S, hs, hp, q⟩ := q
  exact ⟨ρ, ε, S, hs, hp, q.seq fun ρ1 vx H1 x S1 s1 rp1 rx q1 => v _ _ _ _ _ _ _ rp1 rx q1⟩
theorem tf_nil (σ : L2.St) (H : Hp) (Q : List V → Hp → Prop) (q : TFs K mg W (fun _ S => .ok [] S) σ H Q) : tNil σ H Q := by
  obtain ⟨ρ, ε, S, hs, hp, q⟩ := q
  exact q.here hp RVs.nil
theorem tf_cons {fa : Env → Sto → Out D} {fr : Env → Sto → Out (List D)} (σ : L2.St) (H : Hp) (Q : List V → Hp → Prop)
    (q : TFs K mg W (fun ε S => (fa ε S).bind fun x S1 => (fr ε S1).bind fun xs S2 => .ok (x :: xs) S2) σ H Q) : tCons (TF K mg W fa) (TFs K mg W fr) σ H Q := by
  obtain ⟨ρ, ε, S, hs, hp, q⟩ := q
  exact ⟨ρ, ε, S, hs, hp, q.seq fun ρ1 vx H1 x S1 s1 rp1 rx q1 =>
    ⟨ρ1, ε, S1, hs.mono s1.pre s1.kp, rp1, q1.seq fun ρ2 vy H2 y S2 s2 rp2 ry q2 => q2.here rp2 (.cons (rx.mono s2.pre s2.kp) ry)⟩⟩
theorem tf_var {i : Nat} (σ : L2.St) (H : Hp) (Q : VK) (q : TF K mg W (fun ε S => match ε[i]? with | some (some d) => .ok d S | _ => .bad) σ H Q) : tVar i σ H Q := by
  obtain ⟨ρ, ε, S, hs, hp, q⟩ := q
  dsimp only at q
  split at q
  · rename_i d e
    obtain ⟨v, e1, r⟩ := hs.2 i d e
    exact ⟨v, e1, q.here hp r⟩
  · exact q.elim
theorem tf_c {d : D} {v : V} (r : ∀ ρ H, RV K ρ H d v) (σ : L2.St) (H : Hp) (Q : VK) (q : TF K mg W (fun _ S => .ok d S) σ H Q) : tC v σ H Q := by
  obtain ⟨ρ, ε, S, hs, hp, q⟩ := q
  exact q.here hp (r _ _)
/-- a new thing of the store -/
theorem Rp.push {S : Sto} (h : Rp K ρ S H) {p : Addr} {u : HO} {o : O} (hp : H p = none) (ro : RO K (ρ ++ [p]) (upd H p u) o p) (lt : O.lt S.length o = true) :
    Rp K (ρ ++ [p]) (S ++ [o]) (upd H p u) := by
  have pre : ρ <+: ρ ++ [p] := ⟨[p], rfl⟩
  refine ⟨by simp [h.len], ?_, fun i a x e1 e2 => ?_, fun i x e => ?_⟩
  · rw [List.nodup_append]
    refine ⟨h.nd, by simp, fun a ha b hb => ?_⟩
    have e : b = p := by simpa using hb
    subst e
    intro z
    subst z
    obtain ⟨i, hi⟩ := List.getElem?_of_mem ha
    obtain ⟨u, e⟩ := h.dom hi
    rw [hp] at e; cases e
  · by_cases hi : i < S.length
    · rw [List.getElem?_append_left (by rw [h.len]; exact hi)] at e1
      rw [List.getElem?_append_left hi] at e2
      exact (h.obj i a x e1 e2).mono pre (Kp.fresh hp) fun u e _ => by rw [upd_ne (ne_of_none e hp)]; exact e
    · have hi' : i = S.length := by
        have := (List.getElem?_eq_some_iff.mp e2).1
        simp at this
        omega
      subst hi'
      have e1' : a = p := by rw [← h.len] at e1; simpa using e1.symm
      have e2' : x = o := by simpa using e2.symm
      subst e1' e2'
      exact ro
  · by_cases hi : i < S.length
    · rw [List.getElem?_append_left hi] at e
      exact h.ord i x e
    · have hi' : i = S.length := by
        have := (List.getElem?_eq_some_iff.mp e).1
        simp at this
        omega
      subst hi'
      have e2' : x = o := by simpa using e.symm
      subst e2'
      exact lt
end
end GG
namespace GG
open PySem PySem.Spec PyProof.Rows L2

/-! ## operations on data -/
def tru (S : Sto) : D → Option Bool
  | .non => some false
  | .bl b => some b
  | .int i => some (i != 0)
  | .str x => if x.length ≤ sizeLine then some ((x.length : Int) != 0) else none
  | .tup ds => some (!ds.isEmpty)
  | .rol ds => some (!ds.isEmpty)
  | .loc l => match S[l]? with
    | some (.lst ds) => some (!ds.isEmpty)
    | some (.dK kvs) => some (!kvs.isEmpty)
    | none => none
/-- the items of a list or a tuple -/
def seqOf (S : Sto) : D → Option (List D)
  | .tup ds => some ds
  | .rol ds => some ds
  | .loc l => match S[l]? with
    | some (.lst ds) => some ds
    | _ => none
  | _ => none
def opAdd (x y : D) (S : Sto) : Out D :=
  match x, y with
  | .int i, .int j => .ok (.int (i + j)) S
  | .str i, .str j => if i.length + j.length ≤ sizeLine then .ok (.str (i ++ j)) S else .bad
  | .tup xs, .tup ys => if xs.length + ys.length ≤ sizeLine then .ok (.tup (xs ++ ys)) S else .bad
  | .loc l, .loc m => match S[l]?, S[m]? with
    | some (.lst xs), some (.lst ys) => if xs.length + ys.length ≤ sizeLine then .ok (.loc S.length) (S ++ [.lst (xs ++ ys)]) else .bad
    | _, _ => .bad
  | _, _ => .bad
def opSub (x y : D) (S : Sto) : Out D :=
  match x, y with
  | .int i, .int j => .ok (.int (i - j)) S
  | _, _ => .bad
def rep {α : Type} (k : Int) (xs : List α) : List α := (List.replicate k.toNat xs).flatten
def opMul (x y : D) (S : Sto) : Out D :=
  match x, y with
  | .int i, .int j => if (-(2 ^ 64) < i ∧ i < 2 ^ 64) ∨ (-(2 ^ 64) < j ∧ j < 2 ^ 64) then .ok (.int (i * j)) S else .bad
  | .loc l, .int k => match S[l]? with
    | some (.lst xs) => if -(2 ^ 63) ≤ k ∧ k < 2 ^ 63 ∧ xs.length * k.toNat ≤ sizeLine then .ok (.loc S.length) (S ++ [.lst (rep k xs)]) else .bad
    | _ => .bad
  | .tup xs, .int k => if k ≤ 1000 ∧ -(2 ^ 63) ≤ k ∧ xs.length ≤ 1000 then .ok (.tup (rep k xs)) S else .bad
  | _, _ => .bad
def opDiv (x y : D) (S : Sto) : Out D :=
  match x, y with
  | .int i, .int j => if 0 < j ∧ j < 1073741824 then .ok (.int (i / j)) S else .bad
  | _, _ => .bad
def opMod (x y : D) (S : Sto) : Out D :=
  match x, y with
  | .int i, .int j => if 0 < j then .ok (.int (i % j)) S else .bad
  | _, _ => .bad
section
variable {K : PySem.W.Frag} {mg : Str → Option Value} {ρ : List Addr} {H : Hp} {S : Sto}
theorem RV.int {i : Int} {v : V} (h : RV K ρ H (.int i) v) : v = .int i := by simpa only [RV] using h
theorem RV.bl {i : Bool} {v : V} (h : RV K ρ H (.bl i) v) : v = .bl i := by simpa only [RV] using h
theorem RV.str {i : Str} {v : V} (h : RV K ρ H (.str i) v) : v = .str i := by simpa only [RV] using h
theorem RV.non {v : V} (h : RV K ρ H .non v) : v = .non := by simpa only [RV] using h
theorem RV.tup {ds : List D} {v : V} (h : RV K ρ H (.tup ds) v) : ∃ a vs, v = .ref a ∧ SqT K H a vs ∧ RVs K ρ H ds vs := by simpa only [RV] using h
theorem RV.rol {ds : List D} {v : V} (h : RV K ρ H (.rol ds) v) : ∃ a vs, v = .ref a ∧ RoL K H a vs ∧ RVs K ρ H ds vs := by simpa only [RV] using h
theorem RV.loc {l : Nat} {v : V} (h : RV K ρ H (.loc l) v) : ∃ a, ρ[l]? = some a ∧ v = .ref a := by simpa only [RV] using h
theorem RV.mkInt (i : Int) : RV K ρ H (.int i) (.int i) := by simp only [RV]
theorem RV.mkBl (i : Bool) : RV K ρ H (.bl i) (.bl i) := by simp only [RV]
theorem RV.mkStr (i : Str) : RV K ρ H (.str i) (.str i) := by simp only [RV]
theorem RV.mkNon : RV K ρ H .non .non := by simp only [RV]
theorem RV.mkTup {a : Addr} {ds : List D} {vs : List V} (h : SqT K H a vs) (r : RVs K ρ H ds vs) : RV K ρ H (.tup ds) (.ref a) := by simp only [RV]; exact ⟨a, vs, rfl, h, r⟩
theorem RV.mkLoc {l : Nat} {a : Addr} (h : ρ[l]? = some a) : RV K ρ H (.loc l) (.ref a) := by simp only [RV]; exact ⟨a, h, rfl⟩
theorem Rp.lst (rp : Rp K ρ S H) {l : Nat} {a : Addr} {ds : List D} (e : ρ[l]? = some a) (s : S[l]? = some (.lst ds)) : ∃ vs, H a = some (.lst vs) ∧ RVs K ρ H ds vs := rp.obj l a _ e s
theorem Rp.dict (rp : Rp K ρ S H) {l : Nat} {a : Addr} {ds : List (Key × D)} (e : ρ[l]? = some a) (s : S[l]? = some (.dK ds)) : ∃ vs, H a = some (.dK vs) ∧ RKV K ρ H ds vs := rp.obj l a _ e s
theorem seqOf_ok {d : D} {v : V} {ds : List D} (rp : Rp K ρ S H) (r : RV K ρ H d v) (h : seqOf S d = some ds) : ∃ a vs, v = .ref a ∧ (SqL K H a vs ∨ SqT K H a vs) ∧ RVs K ρ H ds vs := by
  cases d with
  | tup xs => cases h; obtain ⟨a, vs, e, q, t⟩ := r.tup; exact ⟨a, vs, e, .inr q, t⟩
  | rol xs => cases h; obtain ⟨a, vs, e, q, t⟩ := r.rol; exact ⟨a, vs, e, .inl q.sq, t⟩
  | loc l =>
    obtain ⟨a, e, rfl⟩ := r.loc
    simp only [seqOf] at h
    split at h
    · rename_i xs hs
      cases h
      obtain ⟨vs, q, t⟩ := rp.lst e hs
      exact ⟨a, vs, rfl, .inl (SqL.of q), t⟩
    · cases h
  | _ => simp [seqOf] at h
/-- a new tuple -/
theorem post_tup {E : XK} {Q : VK} {ds : List D} {vs : List V} (rp : Rp K ρ S H) (r : RVs K ρ H ds vs) (q : Post K mg (RV K) E ρ H (.ok (.tup ds) S) Q) (p : Addr) (hp : H p = none) : Q (.ref p) (upd H p (.tup vs)) :=
  q ρ (.ref p) _ (Sx.fresh hp) (rp.fresh hp) (.mkTup (.inl (.inl upd_same)) (r.mono (pre_refl _) (Kp.fresh hp)))
/-- a new list -/
theorem post_lst {E : XK} {Q : VK} {ds : List D} {vs : List V} (rp : Rp K ρ S H) (r : RVs K ρ H ds vs) (q : Post K mg (RV K) E ρ H (.ok (.loc S.length) (S ++ [.lst ds])) Q) (p : Addr) (hp : H p = none) : Q (.ref p) (upd H p (.lst vs)) := by
  have pre : ρ <+: ρ ++ [p] := ⟨[p], rfl⟩
  refine q (ρ ++ [p]) (.ref p) _ (Sx.push hp) (rp.push hp ⟨vs, upd_same, r.mono pre (Kp.fresh hp)⟩ ?_) (.mkLoc ?_)
  · rw [← rp.len]; exact RVs.lts ds vs r
  · rw [← rp.len]; simp
theorem post_dict {E : XK} {Q : VK} {ds : List (Key × D)} {vs : List (Key × V)} (rp : Rp K ρ S H) (r : RKV K ρ H ds vs) (q : Post K mg (RV K) E ρ H (.ok (.loc S.length) (S ++ [.dK ds])) Q) (p : Addr) (hp : H p = none) : Q (.ref p) (upd H p (.dK vs)) := by
  have pre : ρ <+: ρ ++ [p] := ⟨[p], rfl⟩
  refine q (ρ ++ [p]) (.ref p) _ (Sx.push hp) (rp.push hp ⟨vs, upd_same, r.mono pre (Kp.fresh hp)⟩ ?_) (.mkLoc ?_)
  · rw [← rp.len]; exact RKV.lts ds vs r
  · rw [← rp.len]; simp
theorem RVs.isNil {ds : List D} {vs : List V} (r : RVs K ρ H ds vs) : ds = [] ↔ vs = [] := by
  have e := r.len
  constructor
  · rintro rfl; exact List.length_eq_zero_iff.mp e.symm
  · rintro rfl; exact List.length_eq_zero_iff.mp e
theorem RVs.rep {ds : List D} {vs : List V} (r : RVs K ρ H ds vs) (k : Int) : RVs K ρ H (GG.rep k ds) (List.replicate k.toNat vs).flatten := by
  unfold GG.rep
  induction k.toNat with
  | zero => exact RVs.nil
  | succ n ih =>
    rw [List.replicate_succ, List.replicate_succ, List.flatten_cons, List.flatten_cons]
    exact r.append ih
theorem tru_V {d : D} {v : V} {b : Bool} (rp : Rp K ρ S H) (r : RV K ρ H d v) (h : tru S d = some b) : TruV K v H b := by
  cases d with
  | non => rw [r.non]; cases h; rfl
  | bl x => rw [r.bl]; cases h; rfl
  | int i => rw [r.int]; cases h; rfl
  | str x =>
    rw [r.str]
    simp only [tru] at h
    split at h
    · rename_i z; cases h; exact ⟨z, rfl⟩
    · cases h
  | tup ds =>
    obtain ⟨a, vs, rfl, q, t⟩ := r.tup
    cases h
    refine .inr (.inl ⟨vs, q, ?_⟩)
    have e := t.len
    cases ds <;> cases vs <;> simp_all
  | rol ds =>
    obtain ⟨a, vs, rfl, q, t⟩ := r.rol
    cases h
    refine .inl ⟨vs, q.sq, ?_⟩
    have e := t.len
    cases ds <;> cases vs <;> simp_all
  | loc l =>
    obtain ⟨a, e, rfl⟩ := r.loc
    simp only [tru] at h
    split at h
    · rename_i xs hs
      cases h
      obtain ⟨vs, q, t⟩ := rp.lst e hs
      refine .inl ⟨vs, SqL.of q, ?_⟩
      have e := t.len
      cases xs <;> cases vs <;> simp_all
    · rename_i xs hs
      cases h
      obtain ⟨vs, q, t⟩ := rp.dict e hs
      refine .inr (.inr ⟨vs, q, ?_⟩)
      cases xs with
      | nil => simp only [RKV] at t; subst t; rfl
      | cons x r => simp only [RKV] at t; obtain ⟨v, r', rfl, _⟩ := t; rfl
    · cases h
/-! ### the operators' rules, joined -/
abbrev rAddA (K : PySem.W.Frag) : R2 := fun x y H Q => (rI0 (fun i j => .int (i + j)) x y H Q ∨ (fun x y (H : Hp) (Q : VK) => ∃ i j, x = .str i ∧ y = .str j ∧ i.length + j.length ≤ sizeLine ∧ Q (.str (i ++ j)) H) x y H Q) ∨ (rCatA K x y H Q ∨ rCat x y H Q)
theorem op_addA {X : Cx} : OpR X (binaryOp .Add) (rAddA X.K) := (op_add.or op_add_str).or (op_catA.or op_cat)
theorem vr_add : VR2 K mg (rAddA K) opAdd := by
  intro E ρ S H x y vx vy Q rp rx ry q
  unfold opAdd at q
  split at q
  · rw [rx.int, ry.int]; exact .inl (.inl ⟨_, _, rfl, rfl, q.here rp (.mkInt _)⟩)
  · split at q
    · rename_i z; rw [rx.str, ry.str]; exact .inl (.inr ⟨_, _, rfl, rfl, z, q.here rp (.mkStr _)⟩)
    · exact q.elim
  · rename_i xs ys
    split at q
    · rename_i z
      obtain ⟨a, us, rfl, qa, ta⟩ := rx.tup
      obtain ⟨b, ws, rfl, qb, tb⟩ := ry.tup
      refine .inr (.inl ⟨a, b, us, ws, rfl, rfl, qa, qb, ?_, fun e => ?_, fun e f => ?_, fun e f p hp => post_tup rp (ta.append tb) q p hp⟩)
      · rw [← ta.len, ← tb.len]; exact z
      · subst e
        have e : xs = [] := ta.isNil.mpr rfl
        subst e
        exact q.here rp (.mkTup qb tb)
      · subst f
        have e : ys = [] := tb.isNil.mpr rfl
        subst e
        rw [List.append_nil] at q
        exact q.here rp (.mkTup qa ta)
    · exact q.elim
  · split at q
    · rename_i _ _ l m _ _ xs ys e1 e2
      split at q
      · rename_i z
        obtain ⟨a, ea, rfl⟩ := rx.loc
        obtain ⟨b, eb, rfl⟩ := ry.loc
        obtain ⟨us, qa, ta⟩ := rp.lst ea e1
        obtain ⟨ws, qb, tb⟩ := rp.lst eb e2
        exact .inr (.inr ⟨a, b, us, ws, rfl, rfl, qa, qb, by rw [← ta.len, ← tb.len]; exact z, fun p hp => post_lst rp (ta.append tb) q p hp⟩)
      · exact q.elim
    · exact q.elim
  · exact q.elim
theorem vr_sub : VR2 K mg (rI0 fun i j => .int (i - j)) opSub := by
  intro E ρ S H x y vx vy Q rp rx ry q
  unfold opSub at q
  split at q
  · rw [rx.int, ry.int]; exact ⟨_, _, rfl, rfl, q.here rp (.mkInt _)⟩
  · exact q.elim
theorem vr_div : VR2 K mg (rI CDiv fun i j => .int (i / j)) opDiv := by
  intro E ρ S H x y vx vy Q rp rx ry q
  unfold opDiv at q
  split at q
  · split at q
    · rename_i z; rw [rx.int, ry.int]; exact ⟨_, _, rfl, rfl, z, q.here rp (.mkInt _)⟩
    · exact q.elim
  · exact q.elim
theorem vr_mod : VR2 K mg (rI (fun _ j => 0 < j) fun i j => .int (i % j)) opMod := by
  intro E ρ S H x y vx vy Q rp rx ry q
  unfold opMod at q
  split at q
  · split at q
    · rename_i z; rw [rx.int, ry.int]; exact ⟨_, _, rfl, rfl, z, q.here rp (.mkInt _)⟩
    · exact q.elim
  · exact q.elim
end
end GG
namespace GG
open PySem PySem.Spec PyProof.Rows L2
/-! ## t * k for small k -/
/-- t * 1, or an empty t: the same object -/
theorem tuple_mul1 (l : Addr) (items : Array Value) (n : Nat) (dd : Option Addr) (sl : Array (Option Value)) (x : Int) (u : Tok)
    (c0 : (decide (x < -(2 ^ 63)) || decide (x ≥ 2 ^ 63)) = false) (c1 : (items.isEmpty || x == 1) = true) :
    Meets (Builtin.«tuple.__mul__» ⟨[.ref l, .int x u], []⟩) (fun _ R s => s.heap.get? l = some { cls := .type "tuple", dict := dd, data := .seq items n, slots := sl } ∧
      R (.ok (.ret (Value.ref l))) s) :=
  .of_wp fun prog w A R s h => by
    obtain ⟨hp, g, d, tk, os⟩ := s
    obtain ⟨hl, h⟩ := h
    have f1 := AutoSeq1.idx_int
    have z0 := decide_eq_false (p := (decide (x < -(2 ^ 63)) || decide (x ≥ 2 ^ 63)) = true) (by rw [c0]; exact Bool.false_ne_true)
    wp_walk using wpAny_loadPart' hl
    refine wpAny_ite_false z0 ?_
    wp_walk using wpAny_loadPart' hl
    exact ⟨_, rfl, h⟩
/-- t * k, k not positive: an empty tuple -/
theorem tuple_mul0 (l : Addr) (items : Array Value) (n : Nat) (dd : Option Addr) (sl : Array (Option Value)) (x : Int) (u : Tok)
    (c0 : (decide (x < -(2 ^ 63)) || decide (x ≥ 2 ^ 63)) = false) (c1 : (items.isEmpty || x == 1) = false) (c2 : (decide (x ≤ 0) || items.isEmpty) = true) :
    Meets (Builtin.«tuple.__mul__» ⟨[.ref l, .int x u], []⟩) (fun _ R s => s.heap.get? l = some { cls := .type "tuple", dict := dd, data := .seq items n, slots := sl } ∧
      R (.ok (.ret (Value.ref s.heap.objs.size))) { s with heap := s.heap.push { cls := Value.type "tuple", data := Data.seq #[] } }) :=
  .of_wp fun prog w A R s h => by
    obtain ⟨hp, g, d, tk, os⟩ := s
    obtain ⟨hl, h⟩ := h
    have f1 := AutoSeq1.idx_int
    have z0 := decide_eq_false (p := (decide (x < -(2 ^ 63)) || decide (x ≥ 2 ^ 63)) = true) (by rw [c0]; exact Bool.false_ne_true)
    wp_walk using wpAny_loadPart' hl
    refine wpAny_ite_false z0 ?_
    wp_walk using wpAny_loadPart' hl
    exact ⟨_, rfl, h⟩
def rRepS (K : PySem.W.Frag) : R2 := fun x y H Q => ∃ l k xs, x = .ref l ∧ y = .int k ∧ SqT K H l xs ∧ -(2 ^ 63) ≤ k ∧ k < 2 ^ 63 ∧
  (((xs = [] ∨ k = 1) ∧ Q (.ref l) H) ∨ (xs ≠ [] ∧ k ≤ 0 ∧ ∀ p, H p = none → Q (.ref p) (upd H p (.tup []))))
theorem op_repS {X : Cx} : OpR X (binaryOp .Mult) (rRepS X.K) := by
  intro pins s σ H x y v u Q I rx ry h
  obtain ⟨l, k, xs, rfl, rfl, hT, h1, h2, q⟩ := h
  cases rx
  obtain ⟨t, rfl⟩ := ry
  obtain ⟨its, r, ⟨⟨cls, dd, data, sl⟩, ho, hc, n, hd⟩, hs⟩ := I.tuple hT
  simp only at hc hd
  subst hc hd
  have hle : its.length = xs.length := r.length.symm
  have c0 : (decide (k < -(2 ^ 63)) || decide (k ≥ 2 ^ 63)) = false := by
    rw [decide_eq_false (by omega), decide_eq_false (by omega)]; rfl
  refine wpAny_binaryOp_repeat_ref (T := "tuple") (U := "int") (by decide) ⟨_, ho, rfl⟩
    (fun s' => typeIs_int s' k t) noFill_tuple_mul F.fills_int_mul F.slot_int_rmul repeat_tuple F.slot_int_index.lookup ?_
  refine call_meets F.slot_int_rmul (typeIs_int s k t) F.entry_int_rmul (F.args_int_rmul_2 _ _)
    (int_rmul_tuple k t l its.toArray n dd sl) ⟨ho, rfl, ⟨_, ho, rfl⟩, ?_⟩
  have emp : its.toArray.isEmpty = its.isEmpty := by cases its <;> rfl
  rcases q with ⟨hx, q⟩ | ⟨hx, hk, q⟩
  · have c1 : (its.toArray.isEmpty || k == 1) = true := by
      rcases hx with hx | hx
      · have : its = [] := List.eq_nil_of_length_eq_zero (by rw [hle, hx]; rfl)
        subst this; rfl
      · subst hx; simp
    exact call_meets F.slot_tuple_mul ⟨_, ho, rfl⟩ F.entry_tuple_mul (F.args_tuple_mul_2 _ _)
      (tuple_mul1 l its.toArray n dd sl k t c0 c1) ⟨ho, ⟨.ref l, H, I.tok _, rfl, q⟩⟩
  · have hne : its.isEmpty = false := by
      cases its with
      | nil => exact absurd (List.eq_nil_of_length_eq_zero hle.symm) hx
      | cons a b => rfl
    have c1 : (its.toArray.isEmpty || k == 1) = false := by
      rw [emp, hne, Bool.false_or]; exact beq_eq_false_iff_ne.mpr (by omega)
    have c2 : (decide (k ≤ 0) || its.toArray.isEmpty) = true := by
      rw [decide_eq_true hk]; rfl
    refine call_meets F.slot_tuple_mul ⟨_, ho, rfl⟩ F.entry_tuple_mul (F.args_tuple_mul_2 _ _)
      (tuple_mul0 l its.toArray n dd sl k t c0 c1 c2) ⟨ho, ?_⟩
    have hf : H s.heap.objs.size = none := I.hok.fresh (Nat.le_refl _)
    refine ⟨.ref s.heap.objs.size, upd H s.heap.objs.size (.tup []), I.laid (t' := s.toks) (fun b u e => Heap.get?_push_of_some _ e) (Nat.le_refl _) ?_, rfl, q _ hf⟩
    exact ⟨Nat.zero_le _, [], .nil, IsTup.new s.heap #[]⟩
abbrev rMulA (K : PySem.W.Frag) : R2 := fun x y H Q => (rI CMul (fun i j => .int (i * j)) x y H Q ∨ rRep x y H Q) ∨ (rRepT K x y H Q ∨ rRepS K x y H Q)
theorem op_mulA {X : Cx} : OpR X (binaryOp .Mult) (rMulA X.K) := (op_mul.or op_rep).or (op_repT.or op_repS)
section
variable {K : PySem.W.Frag} {mg : Str → Option Value}
theorem vr_mul : VR2 K mg (rMulA K) opMul := by
  intro E ρ S H x y vx vy Q rp rx ry q
  unfold opMul at q
  split at q
  · split at q
    · rename_i z; rw [rx.int, ry.int]; exact .inl (.inl ⟨_, _, rfl, rfl, z, q.here rp (.mkInt _)⟩)
    · exact q.elim
  · split at q
    · rename_i _ _ l k _ xs e1
      split at q
      · rename_i z
        obtain ⟨a, ea, rfl⟩ := rx.loc
        rw [ry.int]
        obtain ⟨us, qa, ta⟩ := rp.lst ea e1
        exact .inl (.inr ⟨a, _, us, rfl, rfl, qa, z.1, z.2.1, by rw [← ta.len]; exact z.2.2, fun p hp => post_lst rp (ta.rep _) q p hp⟩)
      · exact q.elim
    · exact q.elim
  · rename_i xs k
    split at q
    · rename_i z
      obtain ⟨a, us, rfl, qa, ta⟩ := rx.tup
      rw [ry.int]
      refine .inr ?_
      by_cases hn : us = []
      · refine .inr ⟨a, k, us, rfl, rfl, qa, z.2.1, by omega, .inl ⟨.inl hn, ?_⟩⟩
        have e : xs = [] := ta.isNil.mpr hn
        subst e
        have e2 : rep k ([] : List D) = [] := by unfold rep; simp
        rw [e2] at q
        exact q.here rp (.mkTup qa ta)
      · by_cases hk : k = 1
        · subst hk
          refine .inr ⟨a, 1, us, rfl, rfl, qa, z.2.1, by omega, .inl ⟨.inr rfl, ?_⟩⟩
          have e2 : rep 1 xs = xs := by unfold rep; simp
          rw [e2] at q
          exact q.here rp (.mkTup qa ta)
        · by_cases hk0 : k ≤ 0
          · refine .inr ⟨a, k, us, rfl, rfl, qa, z.2.1, by omega, .inr ⟨hn, hk0, fun p hp => ?_⟩⟩
            have e2 : rep k xs = [] := by
              unfold rep
              rw [show k.toNat = 0 by omega]; rfl
            rw [e2] at q
            exact post_tup rp RVs.nil q p hp
          · exact .inl ⟨a, k, us, rfl, rfl, qa, hn, by omega, z.1, by rw [← ta.len]; exact z.2.2, fun p hp => post_tup rp (ta.rep k) q p hp⟩
    · exact q.elim
  · exact q.elim
end
end GG
namespace GG
open PySem PySem.Spec PyProof.Rows L2
/-! ## data as the library's data -/
def kPy : Key → PyData
  | .inl i => .int i
  | .inr x => .str x
def omap {α β : Type} (f : α → Option β) : List α → Option (List β)
  | [] => some []
  | x :: r => match f x, omap f r with
    | some y, some ys => some (y :: ys)
    | _, _ => none
def pyF : Nat → Sto → D → Option PyData
  | 0, _, _ => none
  | n + 1, S, d => match d with
    | .non => some .none
    | .bl b => some (.bool b)
    | .int i => some (.int i)
    | .str x => some (.str x)
    | .tup ds => (omap (pyF n S) ds).map .tuple
    | .rol ds => (omap (pyF n S) ds).map .list
    | .loc l => match S[l]? with
      | some (.lst ds) => (omap (pyF n S) ds).map .list
      | some (.dK kvs) => (omap (fun kv => (pyF n S kv.2).map fun p => (kPy kv.1, p)) kvs).map .dict
      | none => none
def py (S : Sto) (d : D) : Option PyData := pyF 20 S d
section
variable {K : PySem.W.Frag} {mg : Str → Option Value} {ρ : List Addr} {H : Hp} {S : Sto}
theorem omap_dp {f : D → Option PyData} (hf : ∀ d v p, f d = some p → p.canLay0 = true → RV K ρ H d v → Dp K H v p) : ∀ (ds : List D) (vs : List V) (ps : List PyData), omap f ds = some ps → PyData.canLayAll0 ps = true → RVs K ρ H ds vs → DpAll K H vs ps
  | [], vs, ps, e, _, r => by
    simp only [RVs] at r; subst r
    simp only [omap] at e; cases e
    exact .nil
  | d :: ds, vs, ps, e, c, r => by
    obtain ⟨v, vr, rfl, rv, rr⟩ := r.uncons
    simp only [omap] at e
    split at e
    · rename_i p pr e1 e2
      cases e
      simp only [PyData.canLayAll0, Bool.and_eq_true] at c
      exact .cons (hf d v p e1 c.1 rv) (omap_dp hf ds vr pr e2 c.2 rr)
    · cases e
theorem py_dp (rp : Rp K ρ S H) : ∀ (n : Nat) (d : D) (v : V) (p : PyData), pyF n S d = some p → p.canLay0 = true → RV K ρ H d v → Dp K H v p
  | 0, _, _, _, e, _, _ => by simp [pyF] at e
  | n + 1, d, v, p, e, c, r => by
    have ih := py_dp rp n
    cases d with
    | non => simp only [pyF] at e; cases e; rw [r.non]; exact .non
    | bl b => simp only [pyF] at e; cases e; rw [r.bl]; exact .bl b
    | int b => simp only [pyF] at e; cases e; rw [r.int]; exact .int b
    | str b => simp only [pyF] at e; cases e; rw [r.str]; exact .str b
    | tup ds =>
      simp only [pyF, Option.map_eq_some_iff] at e
      obtain ⟨ps, e, rfl⟩ := e
      obtain ⟨a, vs, rfl, q, t⟩ := r.tup
      simp only [PyData.canLay0] at c
      exact .tup q (omap_dp ih ds vs ps e c t)
    | rol ds =>
      simp only [pyF, Option.map_eq_some_iff] at e
      obtain ⟨ps, e, rfl⟩ := e
      obtain ⟨a, vs, rfl, q, t⟩ := r.rol
      simp only [PyData.canLay0] at c
      exact .lst q.sq (omap_dp ih ds vs ps e c t)
    | loc l =>
      simp only [pyF] at e
      obtain ⟨a, ea, rfl⟩ := r.loc
      split at e
      · rename_i ds hs
        simp only [Option.map_eq_some_iff] at e
        obtain ⟨ps, e, rfl⟩ := e
        obtain ⟨vs, q, t⟩ := rp.lst ea hs
        simp only [PyData.canLay0] at c
        exact .lst (SqL.of q) (omap_dp ih ds vs ps e c t)
      · simp only [Option.map_eq_some_iff] at e
        obtain ⟨ps, e, rfl⟩ := e
        simp [PyData.canLay0] at c
      · cases e
end
def opEq (neg : Bool) (x y : D) (S : Sto) : Out D :=
  match x, y with
  | .int i, .int j => .ok (.bl (if neg then !decide (i = j) else decide (i = j))) S
  | .str i, .str j => .ok (.bl (if neg then !decide (i = j) else decide (i = j))) S
  | x, y => match py S x, py S y with
    | some a, some b => if SeqAt.shaped a = true ∧ SeqAt.shaped b = true then .ok (.bl (if neg then !PyData.eqv a b else PyData.eqv a b)) S else .bad
    | _, _ => .bad
def opInt (f : Int → Int → Bool) (g : List Nat → List Nat → Bool) (x y : D) (S : Sto) : Out D :=
  match x, y with
  | .int i, .int j => .ok (.bl (f i j)) S
  | .str i, .str j => .ok (.bl (g i.cps.toList j.cps.toList)) S
  | _, _ => .bad
def flatD : D → Bool
  | .non | .bl _ | .int _ | .str _ => true
  | _ => false
def eqFD : D → D → Bool
  | .non, .non => true
  | .bl a, .bl b => a == b
  | .bl a, .int b => (if a then 1 else 0) == b
  | .int a, .bl b => a == (if b then 1 else 0)
  | .int a, .int b => a == b
  | .str a, .str b => a == b
  | _, _ => false
def opIn (neg : Bool) (x y : D) (S : Sto) : Out D :=
  match x, y with
  | .str i, .str j => match i.cps.toList with
    | [c] => .ok (.bl (if neg then !decide (c ∈ j.cps.toList) else decide (c ∈ j.cps.toList))) S
    | _ => .ok (.bl (if neg then !(!(Builtin.Str.occurrences j i 0 j.length 1).isEmpty) else !(Builtin.Str.occurrences j i 0 j.length 1).isEmpty)) S
  | x, y => match seqOf S y with
    | some ds => if flatD x = true ∧ ds.all flatD = true then .ok (.bl (if neg then !(ds.any fun z => eqFD z x) else ds.any fun z => eqFD z x)) S else .bad
    | none => .bad
def opIs (neg : Bool) (x y : D) (S : Sto) : Out D :=
  match y with
  | .non => .ok (.bl (if neg then !decide (x = .non) else decide (x = .non))) S
  | .bl b => match x with
    | .bl a => .ok (.bl (if neg then !decide (a = b) else decide (a = b))) S
    | _ => .bad
  | _ => .bad
section
variable {K : PySem.W.Frag} {mg : Str → Option Value}
theorem shaped_lay {a : PyData} (h : SeqAt.shaped a = true) : a.canLay0 = true := by
  simp only [SeqAt.shaped, Bool.and_eq_true] at h
  exact h.1
theorem vr_eq : VR2 K mg (fun x y H Q => rEq x y H Q ∨ rEqD K x y H Q) (opEq false) := by
  intro E ρ S H x y vx vy Q rp rx ry q
  unfold opEq at q
  split at q
  · rw [rx.int, ry.int]
    exact .inl ⟨rfl, by simp only [V.int.injEq]; exact q.here rp (.mkBl _)⟩
  · rw [rx.str, ry.str]
    exact .inl ⟨rfl, by simp only [V.str.injEq]; exact q.here rp (.mkBl _)⟩
  · unfold py at q
    split at q
    · rename_i a b e1 e2
      split at q
      · rename_i z
        exact .inr ⟨a, b, py_dp rp 20 _ vx a e1 (shaped_lay z.1) rx, py_dp rp 20 _ vy b e2 (shaped_lay z.2) ry, z.1, z.2, q.here rp (.mkBl _)⟩
      · exact q.elim
    · exact q.elim
theorem vr_ne : VR2 K mg (fun x y H Q => rNe x y H Q ∨ rNeD K x y H Q) (opEq true) := by
  intro E ρ S H x y vx vy Q rp rx ry q
  unfold opEq at q
  split at q
  · rw [rx.int, ry.int]
    exact .inl ⟨rfl, by simp only [V.int.injEq]; exact q.here rp (.mkBl _)⟩
  · rw [rx.str, ry.str]
    exact .inl ⟨rfl, by simp only [V.str.injEq]; exact q.here rp (.mkBl _)⟩
  · unfold py at q
    split at q
    · rename_i a b e1 e2
      split at q
      · rename_i z
        exact .inr ⟨a, b, py_dp rp 20 _ vx a e1 (shaped_lay z.1) rx, py_dp rp 20 _ vy b e2 (shaped_lay z.2) ry, z.1, z.2, q.here rp (.mkBl _)⟩
      · exact q.elim
    · exact q.elim
theorem vr_int {f : Int → Int → Bool} {g : List Nat → List Nat → Bool} : VR2 K mg (fun x y H Q => rI0 (fun i j => .bl (f i j)) x y H Q ∨ (∃ i j, x = .str i ∧ y = .str j ∧ Q (.bl (g i.cps.toList j.cps.toList)) H)) (opInt f g) := by
  intro E ρ S H x y vx vy Q rp rx ry q
  unfold opInt at q
  split at q
  · rw [rx.int, ry.int]; exact .inl ⟨_, _, rfl, rfl, q.here rp (.mkBl _)⟩
  · rw [rx.str, ry.str]; exact .inr ⟨_, _, rfl, rfl, q.here rp (.mkBl _)⟩
  · exact q.elim
theorem flat_V {ρ : List Addr} {H : Hp} {d : D} {v : V} (r : RV K ρ H d v) (h : flatD d = true) : flatV v = true := by
  cases d with
  | non => rw [r.non]; rfl
  | bl b => rw [r.bl]; rfl
  | int b => rw [r.int]; rfl
  | str b => rw [r.str]; rfl
  | _ => simp [flatD] at h
theorem flat_Vs {ρ : List Addr} {H : Hp} : ∀ {ds : List D} {vs : List V}, RVs K ρ H ds vs → ds.all flatD = true → vs.all flatV = true
  | [], vs, r, _ => by simp only [RVs] at r; subst r; rfl
  | d :: ds, vs, r, h => by
    obtain ⟨v, vr, rfl, rv, rr⟩ := r.uncons
    simp only [List.all_cons, Bool.and_eq_true] at h ⊢
    exact ⟨flat_V rv h.1, flat_Vs rr h.2⟩
theorem eqF_V {ρ : List Addr} {H : Hp} {a b : D} {v w : V} (r : RV K ρ H a v) (t : RV K ρ H b w) (ha : flatD a = true) (hb : flatD b = true) : eqV v w = eqFD a b := by
  cases a <;> cases b <;> simp [flatD] at ha hb <;>
    first
    | (rw [r.non, t.non]; rfl) | (rw [r.non, t.bl]; rfl) | (rw [r.non, t.int]; rfl) | (rw [r.non, t.str]; rfl)
    | (rw [r.bl, t.non]; rfl) | (rw [r.bl, t.bl]; rfl) | (rw [r.bl, t.int]; rfl) | (rw [r.bl, t.str]; rfl)
    | (rw [r.int, t.non]; rfl) | (rw [r.int, t.bl]; rfl) | (rw [r.int, t.int]; rfl) | (rw [r.int, t.str]; rfl)
    | (rw [r.str, t.non]; rfl) | (rw [r.str, t.bl]; rfl) | (rw [r.str, t.int]; rfl) | (rw [r.str, t.str]; rfl)
theorem inF_V {ρ : List Addr} {H : Hp} {x : D} {vx : V} (r : RV K ρ H x vx) (hx : flatD x = true) : ∀ {ds : List D} {vs : List V}, RVs K ρ H ds vs → ds.all flatD = true → inV vx vs = ds.any fun z => eqFD z x
  | [], vs, rs, _ => by simp only [RVs] at rs; subst rs; rfl
  | d :: ds, vs, rs, h => by
    obtain ⟨v, vr, rfl, rv, rr⟩ := rs.uncons
    simp only [List.all_cons, Bool.and_eq_true] at h
    show (eqV v vx || inV vx vr) = _
    rw [List.any_cons, eqF_V rv r h.1 hx, inF_V r hx rr h.2]
abbrev rInA (K : PySem.W.Frag) (neg : Bool) : R2 := fun x y H Q =>
  ((∃ (c : Nat) (z : Str), x = .str ⟨#[c]⟩ ∧ y = .str z ∧ Q (.bl (if neg then !decide (c ∈ z.cps.toList) else decide (c ∈ z.cps.toList))) H) ∨
    (∃ i j, x = .str i ∧ y = .str j ∧ Q (.bl (if neg then !(!(Builtin.Str.occurrences j i 0 j.length 1).isEmpty) else !(Builtin.Str.occurrences j i 0 j.length 1).isEmpty)) H)) ∨ rIn K neg x y H Q
theorem op_inA {X : Cx} : OpR X (compareOp .In) (rInA X.K false) := (op_in_sign.or op_in_str).or op_in_seq
theorem op_notInA {X : Cx} : OpR X (compareOp .NotIn) (rInA X.K true) := (op_notIn_sign.or op_notin_str).or op_notIn_seq
theorem vr_in (neg : Bool) : VR2 K mg (rInA K neg) (opIn neg) := by
  intro E ρ S H x y vx vy Q rp rx ry q
  have seq : ∀ {x y : D}, RV K ρ H x vx → RV K ρ H y vy → Post K mg (RV K) E ρ H (match seqOf S y with
    | some ds => if flatD x = true ∧ ds.all flatD = true then Out.ok (.bl (if neg then !(ds.any fun z => eqFD z x) else ds.any fun z => eqFD z x)) S else .bad
    | none => .bad) Q → rInA K neg vx vy H Q := fun {x y} rx ry q => by
    split at q
    · rename_i ds e
      split at q
      · rename_i z
        obtain ⟨a, vs, rfl, sq, t⟩ := seqOf_ok rp ry e
        refine .inr ⟨a, vs, rfl, sq, flat_V rx z.1, flat_Vs t z.2, ?_⟩
        rw [inF_V rx z.1 t z.2]
        exact q.here rp (.mkBl _)
      · exact q.elim
    · exact q.elim
  unfold opIn at q
  split at q
  · split at q
    · rename_i i j _ c e
      rw [rx.str, ry.str]
      refine .inl (.inl ⟨c, j, ?_, rfl, q.here rp (.mkBl _)⟩)
      obtain ⟨cps⟩ := i
      have : cps = #[c] := by
        apply Array.ext'
        simpa using e
      rw [this]
    · rw [rx.str, ry.str]
      exact .inl (.inr ⟨_, _, rfl, rfl, q.here rp (.mkBl _)⟩)
  · exact seq rx ry q
theorem vr_is (neg : Bool) : VR2 K mg (fun x y H Q => (y = .non ∧ Q (.bl (if neg then !decide (x = .non) else decide (x = .non))) H) ∨ (∃ a b : Bool, x = .bl a ∧ y = .bl b ∧ Q (.bl (if neg then !decide (a = b) else decide (a = b))) H)) (opIs neg) := by
  intro E ρ S H x y vx vy Q rp rx ry q
  unfold opIs at q
  split at q
  · refine .inl ⟨ry.non, ?_⟩
    have e : decide (vx = V.non) = decide (x = .non) := by
      cases x with
      | non => rw [rx.non]; rfl
      | bl b => rw [rx.bl]; rfl
      | int b => rw [rx.int]; rfl
      | str b => rw [rx.str]; rfl
      | tup ds => obtain ⟨a, vs, rfl, _⟩ := rx.tup; rfl
      | rol ds => obtain ⟨a, vs, rfl, _⟩ := rx.rol; rfl
      | loc ds => obtain ⟨a, vs, rfl⟩ := rx.loc; rfl
    rw [e]
    exact q.here rp (.mkBl _)
  · split at q
    · rw [rx.bl, ry.bl]; exact .inr ⟨_, _, rfl, rfl, q.here rp (.mkBl _)⟩
    · exact q.elim
  · exact q.elim
theorem opr_no {X : Cx} {f : Value → Value → Sem Value} : OpR X f (fun _ _ _ _ => False) := fun _ _ _ _ _ _ _ _ _ _ _ _ h => h.elim
def cmpF : CmpOp → D → D → Sto → Out D
  | .Eq => opEq false
  | .NotEq => opEq true
  | .Lt => opInt (fun i j => decide (i < j)) (fun i j => decide (i < j))
  | .LtE => opInt (fun i j => decide (i ≤ j)) (fun i j => !decide (j < i))
  | .Gt => opInt (fun i j => decide (j < i)) (fun i j => decide (j < i))
  | .GtE => opInt (fun i j => decide (j ≤ i)) (fun i j => !decide (i < j))
  | .In => opIn false
  | .NotIn => opIn true
  | .Is => opIs false
  | .IsNot => opIs true
theorem op_cmp {X : Cx} (hu : X.A.units + 64 < cLine) (o : CmpOp) : ∃ r, OpR X (compareOp o) r ∧ VR2 X.K mg r (cmpF o) := by
  cases o with
  | Eq => exact ⟨_, op_eq.or (op_eqD hu), vr_eq⟩
  | NotEq => exact ⟨_, op_ne.or (op_neD hu), vr_ne⟩
  | Lt => exact ⟨_, op_lt.or op_lt_str, vr_int (f := fun i j => decide (i < j)) (g := fun i j => decide (i < j))⟩
  | LtE => exact ⟨_, op_le.or op_le_str, vr_int (f := fun i j => decide (i ≤ j)) (g := fun i j => !decide (j < i))⟩
  | Gt => exact ⟨_, op_gt.or op_gt_str, vr_int (f := fun i j => decide (j < i)) (g := fun i j => decide (j < i))⟩
  | GtE => exact ⟨_, op_ge.or op_ge_str, vr_int (f := fun i j => decide (j ≤ i)) (g := fun i j => !decide (i < j))⟩
  | In => exact ⟨_, op_inA, vr_in false⟩
  | NotIn => exact ⟨_, op_notInA, vr_in true⟩
  | Is => exact ⟨_, op_isN.or op_isBl, vr_is false⟩
  | IsNot => exact ⟨_, op_notN.or op_notBl, vr_is true⟩
def opPow (x y : D) (S : Sto) : Out D :=
  match x, y with
  | .int i, .int j => if 0 ≤ j ∧ (Builtin.Int.intBits i : Int) * j ≤ 2 ^ 27 then .ok (.int (i ^ j.toNat)) S else .bad
  | _, _ => .bad
theorem op_powA {X : Cx} : OpR X (binaryOp .Pow) (rI (fun i j => 0 ≤ j ∧ (Builtin.Int.intBits i : Int) * j ≤ 2 ^ 27) fun i j => .int (i ^ j.toNat)) := opI fun _ _ _ _ _ _ _ hc q => pow_int hc.1 hc.2 q
theorem vr_pow : VR2 K mg (rI (fun i j => 0 ≤ j ∧ (Builtin.Int.intBits i : Int) * j ≤ 2 ^ 27) fun i j => .int (i ^ j.toNat)) opPow := by
  intro E ρ S H x y vx vy Q rp rx ry q
  unfold opPow at q
  split at q
  · split at q
    · rename_i z; rw [rx.int, ry.int]; exact ⟨_, _, rfl, rfl, z, q.here rp (.mkInt _)⟩
    · exact q.elim
  · exact q.elim
def opSh (f : Int → Int → Int) (x y : D) (S : Sto) : Out D :=
  match x, y with
  | .int i, .int j => if 0 ≤ j ∧ j ≤ 1000000 ∧ i.natAbs < 2 ^ 64 then .ok (.int (f i j)) S else .bad
  | _, _ => .bad
def opBit (f : Int → Int → Int) (x y : D) (S : Sto) : Out D :=
  match x, y with
  | .int i, .int j => .ok (.int (f i j)) S
  | _, _ => .bad
theorem vr_bit {f : Int → Int → Int} : VR2 K mg (rI0 fun i j => .int (f i j)) (opBit f) := by
  intro E ρ S H x y vx vy Q rp rx ry q
  unfold opBit at q
  split at q
  · rw [rx.int, ry.int]; exact ⟨_, _, rfl, rfl, q.here rp (.mkInt _)⟩
  · exact q.elim
theorem vr_shl : VR2 K mg (rI CPow fun i j => .int (i * 2 ^ j.toNat)) (opSh fun i j => i * 2 ^ j.toNat) := by
  intro E ρ S H x y vx vy Q rp rx ry q
  unfold opSh at q
  split at q
  · split at q
    · rename_i z; rw [rx.int, ry.int]; exact ⟨_, _, rfl, rfl, z, q.here rp (.mkInt _)⟩
    · exact q.elim
  · exact q.elim
theorem vr_shr : VR2 K mg (rI (fun _ j => 0 ≤ j) fun i j => .int (i / 2 ^ j.toNat)) (opSh fun i j => i / 2 ^ j.toNat) := by
  intro E ρ S H x y vx vy Q rp rx ry q
  unfold opSh at q
  split at q
  · split at q
    · rename_i z; rw [rx.int, ry.int]; exact ⟨_, _, rfl, rfl, z.1, q.here rp (.mkInt _)⟩
    · exact q.elim
  · exact q.elim
def binF : Operator → D → D → Sto → Out D
  | .Add => opAdd
  | .Sub => opSub
  | .Mult => opMul
  | .FloorDiv => opDiv
  | .Mod => opMod
  | .Pow => opPow
  | .LShift => opSh fun i j => i * 2 ^ j.toNat
  | .RShift => opSh fun i j => i / 2 ^ j.toNat
  | .BitAnd => opBit Builtin.bitAnd
  | .BitOr => opBit Builtin.bitOr
  | .BitXor => opBit Builtin.bitXor
  | _ => fun _ _ _ => .bad
theorem op_bin {X : Cx} (o : Operator) : ∃ r, OpR X (binaryOp o) r ∧ VR2 X.K mg r (binF o) := by
  cases o with
  | Add => exact ⟨_, op_addA, vr_add⟩
  | Sub => exact ⟨_, op_sub, vr_sub⟩
  | Mult => exact ⟨_, op_mulA, vr_mul⟩
  | FloorDiv => exact ⟨_, op_fdiv, vr_div⟩
  | Mod => exact ⟨_, op_mod, vr_mod⟩
  | Pow => exact ⟨_, op_powA, vr_pow⟩
  | LShift => exact ⟨_, op_shl, vr_shl⟩
  | RShift => exact ⟨_, op_shr, vr_shr⟩
  | BitAnd => exact ⟨_, op_and, vr_bit⟩
  | BitOr => exact ⟨_, op_or, vr_bit⟩
  | BitXor => exact ⟨_, op_xor, vr_bit⟩
  | _ => exact ⟨_, opr_no, fun _ _ _ _ _ _ _ _ _ _ _ _ q => q⟩
end
end GG
namespace GG
open PySem PySem.Spec PyProof.Rows L2
/-! ## repr -/
/-- the dict of the modules stands where it stands -/
def SmOk (base : Heap) : Prop := ∃ o es ep, base.get? sysModules = some o ∧ o.data = .dict es ep
section
variable {X : Cx} {pins : List (Addr × Obj)} {σ : L2.St} {H : Hp} {s : Shared} {ρ : List Addr} {S : Sto}
theorem sm_ne (I : Inv X pins σ H s) (sm : SmOk X.base) {a : Addr} {u : HO} (h : H a = some u) : a ≠ sysModules := by
  intro e
  subst e
  obtain ⟨o, es, ep, q, _⟩ := sm
  rw [(I.bs _ _ q).2] at h
  cases h
theorem omap_reads {f : D → Option PyData} (I : Inv X pins σ H s) (hf : ∀ d v p u, f d = some p → RV X.K ρ H d v → RelV v u → ∃ as, Reads s.heap u p as ∧ sysModules ∉ as) :
    ∀ (ds : List D) (vs : List V) (ps : List PyData) (us : List Value), omap f ds = some ps → RVs X.K ρ H ds vs → Vals vs us → ∃ as, ReadsAll s.heap us ps as ∧ sysModules ∉ as
  | [], vs, ps, us, e, r, t => by
    simp only [RVs] at r; subst r
    cases t
    simp only [omap] at e; cases e
    exact ⟨_, .nil, by simp⟩
  | d :: ds, vs, ps, us, e, r, t => by
    obtain ⟨v, vr, rfl, rv, rr⟩ := r.uncons
    cases t with
    | cons t1 t2 =>
      simp only [omap] at e
      split at e
      · rename_i p pr e1 e2
        cases e
        obtain ⟨as, q1, n1⟩ := hf d v p _ e1 rv t1
        obtain ⟨bs, q2, n2⟩ := omap_reads I hf ds vr pr _ e2 rr t2
        exact ⟨_, .cons q1 q2, by simp [n1, n2]⟩
      · cases e
theorem omapKV_reads {f : D → Option PyData} (I : Inv X pins σ H s) (hf : ∀ d v p u, f d = some p → RV X.K ρ H d v → RelV v u → ∃ as, Reads s.heap u p as ∧ sysModules ∉ as) :
    ∀ (ds : List (Key × D)) (vs : List (Key × V)) (ps : List (PyData × PyData)) (ws : List (Key × Value)) (es : List DictEntry), omap (fun kv => (f kv.2).map fun p => (kPy kv.1, p)) ds = some ps → RKV X.K ρ H ds vs → KV vs ws → Pairs (mixKind X.prog X.w) es ws →
      ∃ as bs, ReadsAll s.heap (es.map (·.key)) (ps.map (·.1)) as ∧ ReadsAll s.heap (es.map (·.val)) (ps.map (·.2)) bs ∧ sysModules ∉ as ∧ sysModules ∉ bs
  | [], vs, ps, ws, es, e, r, t, g => by
    simp only [RKV] at r; subst r
    cases t
    cases g
    simp only [omap] at e; cases e
    exact ⟨_, _, .nil, .nil, by simp, by simp⟩
  | d :: ds, vs, ps, ws, es, e, r, t, g => by
    simp only [RKV] at r
    obtain ⟨v, vr, rfl, rv, rr⟩ := r
    cases t with
    | cons t1 t2 =>
      cases g with
      | @cons e0 kv0 es0 kvs0 g1 g2 g3 =>
        simp only [omap] at e
        split at e
        · rename_i p pr e1 e2
          cases e
          simp only [Option.map_eq_some_iff] at e1
          obtain ⟨p0, e1, rfl⟩ := e1
          obtain ⟨h1, h2⟩ := t1
          obtain ⟨bs, q1, n1⟩ := hf d.2 v p0 _ e1 rv h2
          obtain ⟨cs, ds', q2, q3, n2, n3⟩ := omapKV_reads I hf ds vr pr _ _ e2 rr t2 g3
          have hk : Reads s.heap e0.key (kPy d.1) [] := by
            have h1' := h1
            dsimp only at h1'
            rw [h1']
            rcases keyIs_shape (show keyIs _ _ = true from g1) with ⟨i, tt, ei, ev⟩ | ⟨x, tt, ei, ev⟩
            · rw [ei, ev]; exact .int i tt
            · rw [ei, ev]; exact .str x tt
          refine ⟨_, _, .cons hk q2, .cons (g2 ▸ q1) q3, by simpa using n2, by simp [n1, n3]⟩
        · cases e
theorem py_reads (I : Inv X pins σ H s) (sm : SmOk X.base) (rp : Rp X.K ρ S H) : ∀ (n : Nat) (d : D) (v : V) (p : PyData) (u : Value), pyF n S d = some p → RV X.K ρ H d v → RelV v u → ∃ as, Reads s.heap u p as ∧ sysModules ∉ as
  | 0, _, _, _, _, e, _, _ => by simp [pyF] at e
  | n + 1, d, v, p, u, e, r, t => by
    have ih := py_reads I sm rp n
    cases d with
    | non => simp only [pyF] at e; cases e; rw [r.non] at t; cases t; exact ⟨_, .none, by simp⟩
    | bl b => simp only [pyF] at e; cases e; rw [r.bl] at t; cases t; exact ⟨_, .bool b, by simp⟩
    | int b => simp only [pyF] at e; cases e; rw [r.int] at t; obtain ⟨tt, rfl⟩ := t; exact ⟨_, .int b tt, by simp⟩
    | str b => simp only [pyF] at e; cases e; rw [r.str] at t; obtain ⟨tt, rfl⟩ := t; exact ⟨_, .str b tt, by simp⟩
    | tup ds =>
      simp only [pyF, Option.map_eq_some_iff] at e
      obtain ⟨ps, e, rfl⟩ := e
      obtain ⟨a, vs, rfl, q, tt⟩ := r.tup
      cases t
      obtain ⟨its, rv, ⟨o, ho, hc, n, hd⟩, _⟩ := I.tuple q
      obtain ⟨as, hr, hn⟩ := omap_reads I ih ds vs ps its e tt rv
      exact ⟨_, .tuple ho hc hd hr, hn⟩
    | rol ds =>
      simp only [pyF, Option.map_eq_some_iff] at e
      obtain ⟨ps, e, rfl⟩ := e
      obtain ⟨a, vs, rfl, q, tt⟩ := r.rol
      cases t
      obtain ⟨its, rv, ⟨o, n, ho, hc, _, hd⟩, _⟩ := I.list q.sq
      obtain ⟨as, hr, hn⟩ := omap_reads I ih ds vs ps its e tt rv
      refine ⟨_, .list ho hc hd hr, ?_⟩
      rcases q with ⟨o', q⟩ | ⟨o', its', n', q, qc, _, qd, _⟩
      · have := sm_ne I sm q
        simp only [List.mem_cons, not_or]
        exact ⟨fun z => this z.symm, hn⟩
      · simp only [List.mem_cons, not_or]
        refine ⟨fun z => ?_, hn⟩
        subst z
        obtain ⟨o2, es, ep, hb, hc2⟩ := sm
        have z := I.ok.mod.kin _ _ q
        rw [hb] at z
        cases z
        rw [hc2] at qd
        cases qd
    | loc l =>
      simp only [pyF] at e
      obtain ⟨a, ea, rfl⟩ := r.loc
      cases t
      split at e
      · rename_i ds hs
        simp only [Option.map_eq_some_iff] at e
        obtain ⟨ps, e, rfl⟩ := e
        obtain ⟨vs, q, tt⟩ := rp.lst ea hs
        obtain ⟨its, rv, ⟨o, n, ho, hc, _, hd⟩, _⟩ := I.list (SqL.of q)
        obtain ⟨as, hr, hn⟩ := omap_reads I ih ds vs ps its e tt rv
        refine ⟨_, .list ho hc hd hr, ?_⟩
        have := sm_ne I sm q
        simp only [List.mem_cons, not_or]
        exact ⟨fun z => this z.symm, hn⟩
      · rename_i ds hs
        simp only [Option.map_eq_some_iff] at e
        obtain ⟨ps, e, rfl⟩ := e
        obtain ⟨vs, q, tt⟩ := rp.dict ea hs
        obtain ⟨_, hne, ws, kv, o, es, ep, ho, hx, hd, _, hp, _⟩ := dk_of I.hok q
        obtain ⟨as, bs, q1, q2, n1, n2⟩ := omapKV_reads I ih ds vs ps ws es.toList e tt kv hp
        refine ⟨_, .dict ho hx.1 hd q1 q2, ?_⟩
        have := sm_ne I sm q
        simp only [List.cons_append, List.mem_cons, List.mem_append, not_or]
        exact ⟨fun z => this z.symm, n1, n2⟩
      · cases e
/-- repr of data -/
def rRepr (K : PySem.W.Frag) : List V → Hp → VK → Prop := fun xs H Q => ∃ ρ S d p x, xs = [x] ∧ Rp K ρ S H ∧ RV K ρ H d x ∧ py S d = some p ∧ p.showable = true ∧ p.depth ≤ 60 ∧ p.shown.length ≤ sizeLine ∧ Q (.str p.shown) H
theorem call_reprA (sm : SmOk X.base) (hg : X.A.guards = some []) (hu : X.A.units + 64 < cLine) : CallR X (.builtin "repr") (rRepr X.K) := by
  intro pins s σ H xs us Q I r h
  obtain ⟨ρ, S, d, p, x, rfl, rp, rv, e, hs, hd, hz, q⟩ := h
  obtain ⟨u, rfl, ru⟩ := vals1 r
  obtain ⟨as, rd, na⟩ := py_reads I sm rp 20 d x p u e rv ru
  have fin : ∀ (h' : Heap) (t : Tok) (tk : Nat), (∀ b o, s.heap.get? b = some o → h'.get? b = some o) → EP X pins σ Q (.str p.shown t) { s with heap := h', toks := tk } :=
    fun h' t tk k => ⟨.str p.shown, H, I.kept (t' := tk) k, ⟨t, rfl⟩, q⟩
  cases u with
  | ref a => exact repr_of_reads' rd hs (fun _ => na) hg (by omega) (fun _ _ z => z) (fun h' u tk k => fin h' u tk k) hz
  | none => cases rd; exact PySem.P.repr_of_none (fin _ _ _ fun _ _ z => z)
  | bool b => cases rd; exact PySem.P.repr_of_bool (fin _ _ _ fun _ _ z => z)
  | int i t => cases rd; exact PySem.P.repr_of_int (by simpa [PyData.showable] using hs) (fin _ _ _ fun _ _ z => z)
  | str z t => cases rd; exact PySem.P.repr_of_str (fin _ _ _ fun _ _ z => z) hz
  | _ => cases rd
end
end GG
namespace GG
open PySem PySem.Spec PyProof.Rows L2
/-! ## subscripts, slices, built-ins -/
def opIx (x y : D) (S : Sto) : Out D :=
  match y with
  | .int i => match x with
    | .str z => if z.length ≤ sizeLine then (match atI z.cps.toList i with | some c => .ok (.str ⟨#[c]⟩) S | none => .bad) else .bad
    | x => match seqOf S x with
      | some ds => match atI ds i with | some d => .ok d S | none => .bad
      | none => .bad
  | _ => .bad
def cutD (xs : List D) (lo hi : Option Int) : List D := (xs.drop (HT.sIx xs.length 0 lo)).take (HT.sIx xs.length xs.length hi - HT.sIx xs.length 0 lo)
def opSl (x : D) (lo hi : Option Int) (S : Sto) : Out D :=
  match x with
  | .str z => if z.length ≤ sizeLine then .ok (.str (cutS z lo hi)) S else .bad
  | .tup ds => .ok (.tup (cutD ds lo hi)) S
  | x => match seqOf S x with
    | some ds => .ok (.loc S.length) (S ++ [.lst (cutD ds lo hi)])
    | none => .bad
def opRev (x : D) (S : Sto) : Out D :=
  match x with
  | .tup ds => .ok (.tup ds.reverse) S
  | x => match seqOf S x with
    | some ds => .ok (.loc S.length) (S ++ [.lst ds.reverse])
    | none => .bad
section
variable {K : PySem.W.Frag} {mg : Str → Option Value} {ρ : List Addr} {H : Hp} {S : Sto}
theorem RVs.atI {ds : List D} {vs : List V} {i : Int} {d : D} (r : RVs K ρ H ds vs) (h : L2.atI ds i = some d) : ∃ v, L2.atI vs i = some v ∧ RV K ρ H d v := by
  unfold L2.atI at h ⊢
  rw [← r.len]
  cases e : ixN ds.length i with
  | none => rw [e] at h; cases h
  | some j =>
    rw [e] at h
    exact r.get (i := j) h
theorem RVs.drop : ∀ (n : Nat) {ds : List D} {vs : List V}, RVs K ρ H ds vs → RVs K ρ H (ds.drop n) (vs.drop n)
  | 0, _, _, r => r
  | n + 1, [], vs, r => by simp only [RVs] at r; subst r; exact RVs.nil
  | n + 1, d :: ds, vs, r => by
    obtain ⟨v, vr, rfl, _, rr⟩ := r.uncons
    exact RVs.drop n rr
theorem RVs.take : ∀ (n : Nat) {ds : List D} {vs : List V}, RVs K ρ H ds vs → RVs K ρ H (ds.take n) (vs.take n)
  | 0, _, _, _ => RVs.nil
  | n + 1, [], vs, r => by simp only [RVs] at r; subst r; exact RVs.nil
  | n + 1, d :: ds, vs, r => by
    obtain ⟨v, vr, rfl, rv, rr⟩ := r.uncons
    exact .cons rv (RVs.take n rr)
theorem RVs.cutV {ds : List D} {vs : List V} (r : RVs K ρ H ds vs) (lo hi : Option Int) : RVs K ρ H (cutD ds lo hi) (L2.cutV vs lo hi) := by
  unfold cutD L2.cutV
  rw [← r.len]
  exact (r.drop _).take _
theorem RVs.rev : ∀ {ds : List D} {vs : List V}, RVs K ρ H ds vs → RVs K ρ H ds.reverse vs.reverse
  | [], vs, r => by simp only [RVs] at r; subst r; exact RVs.nil
  | d :: ds, vs, r => by
    obtain ⟨v, vr, rfl, rv, rr⟩ := r.uncons
    rw [List.reverse_cons, List.reverse_cons]
    exact rr.rev.append (.one rv)
theorem vr_ix : VR2 K mg (rIx K) opIx := by
  intro E ρ S H x y vx vy Q rp rx ry q
  unfold opIx at q
  split at q
  · rename_i i
    have seq : ∀ {x : D}, RV K ρ H x vx → Post K mg (RV K) E ρ H (match seqOf S x with
      | some ds => match L2.atI ds i with | some d => Out.ok d S | none => .bad
      | none => .bad) Q → rIx K vx vy H Q := fun {x} rx q => by
      split at q
      · rename_i ds e
        split at q
        · rename_i d e2
          obtain ⟨a, vs, rfl, sq, t⟩ := seqOf_ok rp rx e
          obtain ⟨v, e3, rv⟩ := t.atI e2
          rcases sq with sq | sq
          · exact .inl ⟨a, vs, i, v, rfl, ry.int, sq, e3, q.here rp rv⟩
          · exact .inr (.inl ⟨a, vs, i, v, rfl, ry.int, sq, e3, q.here rp rv⟩)
        · exact q.elim
      · exact q.elim
    split at q
    · split at q
      · rename_i z
        split at q
        · rename_i c e
          rw [rx.str]
          exact .inr (.inr ⟨_, i, c, rfl, ry.int, z, e, q.here rp (.mkStr _)⟩)
        · exact q.elim
      · exact q.elim
    · exact seq rx q
  · exact q.elim
def VRsl (K : PySem.W.Frag) (mg : Str → Option Value) (r : V → Option Int → Option Int → Hp → VK → Prop) (h : D → Option Int → Option Int → Sto → Out D) : Prop :=
  ∀ (E : XK) (ρ : List Addr) (S : Sto) (H : Hp) (x : D) (vx : V) (lo hi : Option Int) (Q : VK), Rp K ρ S H → RV K ρ H x vx → Post K mg (RV K) E ρ H (h x lo hi S) Q → r vx lo hi H Q
abbrev rSlX (K : PySem.W.Frag) : V → Option Int → Option Int → Hp → VK → Prop := fun x lo hi H Q => rSlA K x lo hi H Q ∨ (rSlL K x lo hi H Q ∨ rSlS x lo hi H Q)
theorem sl_all {X : Cx} : SlR X (rSlX X.K) := sl_tupA.or (sl_list.or sl_str)
theorem vr_sl : VRsl K mg (rSlX K) opSl := by
  intro E ρ S H x vx lo hi Q rp rx q
  have seq : ∀ {x : D}, (∀ ds, x ≠ .tup ds) → RV K ρ H x vx → Post K mg (RV K) E ρ H (match seqOf S x with
    | some ds => Out.ok (.loc S.length) (S ++ [.lst (cutD ds lo hi)])
    | none => .bad) Q → rSlX K vx lo hi H Q := fun {x} hx rx q => by
    split at q
    · rename_i ds e
      have sqL : ∃ a vs, vx = .ref a ∧ SqL K H a vs ∧ RVs K ρ H ds vs := by
        cases x with
        | tup xs => exact absurd rfl (hx xs)
        | rol xs => cases e; obtain ⟨a, vs, e, q, t⟩ := rx.rol; exact ⟨a, vs, e, q.sq, t⟩
        | loc l =>
          obtain ⟨a, ea, rfl⟩ := rx.loc
          simp only [seqOf] at e
          split at e
          · rename_i xs hs
            cases e
            obtain ⟨vs, q, t⟩ := rp.lst ea hs
            exact ⟨a, vs, rfl, SqL.of q, t⟩
          · cases e
        | _ => simp [seqOf] at e
      obtain ⟨a, vs, rfl, sq, t⟩ := sqL
      exact .inr (.inl ⟨a, vs, rfl, sq, fun p hp => post_lst rp (t.cutV lo hi) q p hp⟩)
    · exact q.elim
  unfold opSl at q
  split at q
  · split at q
    · rename_i z; rw [rx.str]; exact .inr (.inr ⟨_, rfl, z, q.here rp (.mkStr _)⟩)
    · exact q.elim
  · rename_i ds
    obtain ⟨a, vs, rfl, sq, t⟩ := rx.tup
    refine .inl ⟨a, vs, rfl, sq, fun w => ?_, fun _ p hp => post_tup rp (t.cutV lo hi) q p hp⟩
    have e : cutD ds lo hi = ds := by
      unfold cutD
      rw [t.len, w.1, w.2, ← t.len]
      simp
    rw [e] at q
    exact q.here rp (.mkTup sq t)
  · rename_i h1 h2
    exact seq (fun ds e => h2 ds e) rx q
end
/-! ### built-in functions -/
inductive Bi where
  | len | abs | int | max | min | repr | str | list | tuple | all | any | sum | bool
  deriving DecidableEq
def Bi.name : Bi → Str
  | .len => "len" | .abs => "abs" | .int => "int" | .max => "max" | .min => "min" | .repr => "repr" | .str => "str" | .list => "list" | .tuple => "tuple" | .all => "all" | .any => "any" | .sum => "sum" | .bool => "bool"
def Bi.val : Bi → Value
  | .len => .builtin "len" | .abs => .builtin "abs" | .int => .type "int" | .max => .builtin "max" | .min => .builtin "min" | .repr => .builtin "repr" | .str => .type "str" | .list => .type "list" | .tuple => .type "tuple" | .all => .builtin "all" | .any => .builtin "any" | .sum => .builtin "sum" | .bool => .type "bool"
def boolsOf : List D → Option (List Bool)
  | [] => some []
  | .bl b :: r => (boolsOf r).map (b :: ·)
  | _ :: _ => none
def intsOf : List D → Option (List Int)
  | [] => some []
  | .int b :: r => (intsOf r).map (b :: ·)
  | _ :: _ => none
def strsOf : List D → Option (List Str)
  | [] => some []
  | .str b :: r => (strsOf r).map (b :: ·)
  | _ :: _ => none
/-- the items of a list, not of a tuple -/
def lstOf (S : Sto) : D → Option (List D)
  | .rol ds => some ds
  | .loc l => match S[l]? with
    | some (.lst ds) => some ds
    | _ => none
  | _ => none
def biF : Bi → List D → Sto → Out D
  | .len, [.str z], S => if z.length ≤ sizeLine then .ok (.int z.length) S else .bad
  | .len, [.loc l], S => match S[l]? with
    | some (.lst ds) => .ok (.int ds.length) S
    | some (.dK kvs) => .ok (.int kvs.length) S
    | none => .bad
  | .len, [.tup ds], S => .ok (.int ds.length) S
  | .len, [.rol ds], S => .ok (.int ds.length) S
  | .abs, [.int i], S => .ok (.int (if i < 0 then -i else i)) S
  | .int, [.int i], S => .ok (.int i) S
  | .int, [.bl b], S => .ok (.int (if b then 1 else 0)) S
  | .bool, [.int i], S => .ok (.bl (i != 0)) S
  | .bool, [.bl b], S => .ok (.bl b) S
  | .max, [.int i, .int j], S => .ok (.int (if j > i then j else i)) S
  | .min, [.int i, .int j], S => .ok (.int (if j < i then j else i)) S
  | .repr, [d], S => match py S d with
    | some p => if p.showable = true ∧ p.depth ≤ 60 ∧ p.shown.length ≤ sizeLine then .ok (.str p.shown) S else .bad
    | none => .bad
  | .str, [.int i], S => if i.natAbs.log2 < 1920 then .ok (.str (toString i)) S else .bad
  | .str, [.str x], S => .ok (.str x) S
  | .list, [d], S => match seqOf S d with
    | some ds => .ok (.loc S.length) (S ++ [.lst ds])
    | none => .bad
  | .tuple, [d], S => match seqOf S d with
    | some ds => .ok (.tup ds) S
    | none => .bad
  | .all, [d], S => match (lstOf S d).bind boolsOf with
    | some bs => .ok (.bl (bs.all id)) S
    | none => .bad
  | .any, [d], S => match (lstOf S d).bind boolsOf with
    | some bs => .ok (.bl (bs.any id)) S
    | none => .bad
  | .sum, [d], S => match (lstOf S d).bind intsOf with
    | some ns => .ok (.int ns.sum) S
    | none => .bad
  | _, _, _ => .bad
section
variable {X : Cx}
theorem call_str_str' : CallR X (.type "str") (fun xs H Q => ∃ a, xs = [.str a] ∧ Q (.str a) H) := by
  intro pins s σ H xs us Q I r h
  obtain ⟨a, rfl, q⟩ := h
  obtain ⟨u, rfl, tt⟩ := vals1 r
  obtain ⟨t, rfl⟩ := tt
  exact PySem.P.str_of_str ⟨.str a, H, I, ⟨t, rfl⟩, q⟩
end
section
variable {K : PySem.W.Frag} {mg : Str → Option Value}
theorem bools_V {ρ : List Addr} {H : Hp} : ∀ {ds : List D} {vs : List V} {bs : List Bool}, RVs K ρ H ds vs → boolsOf ds = some bs → vs = bs.map V.bl
  | [], vs, bs, r, e => by simp only [RVs] at r; subst r; cases e; rfl
  | d :: ds, vs, bs, r, e => by
    obtain ⟨v, vr, rfl, rv, rr⟩ := r.uncons
    cases d with
    | bl b =>
      simp only [boolsOf, Option.map_eq_some_iff] at e
      obtain ⟨cs, e, rfl⟩ := e
      rw [rv.bl, bools_V rr e]; rfl
    | _ => simp [boolsOf] at e
theorem ints_V {ρ : List Addr} {H : Hp} : ∀ {ds : List D} {vs : List V} {bs : List Int}, RVs K ρ H ds vs → intsOf ds = some bs → vs = bs.map V.int
  | [], vs, bs, r, e => by simp only [RVs] at r; subst r; cases e; rfl
  | d :: ds, vs, bs, r, e => by
    obtain ⟨v, vr, rfl, rv, rr⟩ := r.uncons
    cases d with
    | int b =>
      simp only [intsOf, Option.map_eq_some_iff] at e
      obtain ⟨cs, e, rfl⟩ := e
      rw [rv.int, ints_V rr e]; rfl
    | _ => simp [intsOf] at e
theorem strs_V {ρ : List Addr} {H : Hp} : ∀ {ds : List D} {vs : List V} {bs : List Str}, RVs K ρ H ds vs → strsOf ds = some bs → vs = bs.map V.str
  | [], vs, bs, r, e => by simp only [RVs] at r; subst r; cases e; rfl
  | d :: ds, vs, bs, r, e => by
    obtain ⟨v, vr, rfl, rv, rr⟩ := r.uncons
    cases d with
    | str b =>
      simp only [strsOf, Option.map_eq_some_iff] at e
      obtain ⟨cs, e, rfl⟩ := e
      rw [rv.str, strs_V rr e]; rfl
    | _ => simp [strsOf] at e
theorem lstOf_ok {ρ : List Addr} {H : Hp} {S : Sto} {d : D} {v : V} {ds : List D} (rp : Rp K ρ S H) (r : RV K ρ H d v) (h : lstOf S d = some ds) : ∃ a vs, v = .ref a ∧ SqL K H a vs ∧ RVs K ρ H ds vs := by
  cases d with
  | rol xs => cases h; obtain ⟨a, vs, e, q, t⟩ := r.rol; exact ⟨a, vs, e, q.sq, t⟩
  | loc l =>
    obtain ⟨a, e, rfl⟩ := r.loc
    simp only [lstOf] at h
    split at h
    · rename_i xs hs
      cases h
      obtain ⟨vs, q, t⟩ := rp.lst e hs
      exact ⟨a, vs, rfl, SqL.of q, t⟩
    · cases h
  | _ => simp [lstOf] at h
theorem RVs.one' {ρ : List Addr} {H : Hp} {d : D} {vs : List V} (r : RVs K ρ H [d] vs) : ∃ v, vs = [v] ∧ RV K ρ H d v := by
  obtain ⟨v, vr, rfl, rv, rr⟩ := r.uncons
  simp only [RVs] at rr; subst rr
  exact ⟨v, rfl, rv⟩
theorem RVs.two' {ρ : List Addr} {H : Hp} {d e : D} {vs : List V} (r : RVs K ρ H [d, e] vs) : ∃ v w, vs = [v, w] ∧ RV K ρ H d v ∧ RV K ρ H e w := by
  obtain ⟨v, vr, rfl, rv, rr⟩ := r.uncons
  obtain ⟨w, rfl, rw'⟩ := rr.one'
  exact ⟨v, w, rfl, rv, rw'⟩
theorem RKV.len {ρ : List Addr} {H : Hp} : ∀ {ds : List (Key × D)} {vs : List (Key × V)}, RKV K ρ H ds vs → ds.length = vs.length
  | [], _, h => by simp only [RKV] at h; subst h; rfl
  | d :: ds, _, h => by
    simp only [RKV] at h
    obtain ⟨v, r, rfl, _, t⟩ := h
    simp [t.len]
theorem bi_ok {X : Cx} (hc : X.calm = true) (sm : SmOk X.base) (hg : X.A.guards = some []) (hu : X.A.units + 64 < cLine) (b : Bi) :
    ∃ r, CallR X b.val r ∧ VRn X.K mg r (biF b) := by
  cases b with
  | len =>
    refine ⟨_, call_len.or call_lenD, fun E ρ S H xs vs Q rp rx q => ?_⟩
    unfold biF at q
    split at q <;> try exact q.elim
    all_goals first | (rename_i h; cases h) | skip
    · split at q
      · rename_i z
        obtain ⟨v, rfl, rv⟩ := rx.one'
        rw [rv.str]
        exact .inl ⟨_, _, rfl, ⟨z, rfl⟩, q.here rp (.mkInt _)⟩
      · exact q.elim
    · obtain ⟨v, rfl, rv⟩ := rx.one'
      obtain ⟨a, ea, rfl⟩ := rv.loc
      split at q
      · rename_i ds hs
        obtain ⟨ws, h1, t⟩ := rp.lst ea hs
        rw [t.len] at q
        exact .inl ⟨_, _, rfl, .inl ⟨ws, SqL.of h1, rfl⟩, q.here rp (.mkInt _)⟩
      · rename_i ds hs
        obtain ⟨ws, h1, t⟩ := rp.dict ea hs
        rw [t.len] at q
        exact .inr ⟨a, ws, rfl, h1, q.here rp (.mkInt _)⟩
      · exact q.elim
    · obtain ⟨v, rfl, rv⟩ := rx.one'
      obtain ⟨a, ws, rfl, sq, t⟩ := rv.tup
      rw [t.len] at q
      exact .inl ⟨_, _, rfl, .inr ⟨ws, sq, rfl⟩, q.here rp (.mkInt _)⟩
    · obtain ⟨v, rfl, rv⟩ := rx.one'
      obtain ⟨a, ws, rfl, sq, t⟩ := rv.rol
      rw [t.len] at q
      exact .inl ⟨_, _, rfl, .inl ⟨ws, sq.sq, rfl⟩, q.here rp (.mkInt _)⟩
  | abs =>
    refine ⟨_, call_abs, fun E ρ S H xs vs Q rp rx q => ?_⟩
    unfold biF at q
    split at q <;> try exact q.elim
    all_goals first | (rename_i h; cases h) | skip
    obtain ⟨v, rfl, rv⟩ := rx.one'
    rw [rv.int]
    exact ⟨_, rfl, q.here rp (.mkInt _)⟩
  | int =>
    refine ⟨_, call_int1, fun E ρ S H xs vs Q rp rx q => ?_⟩
    unfold biF at q
    split at q <;> try exact q.elim
    all_goals first | (rename_i h; cases h) | skip
    · obtain ⟨v, rfl, rv⟩ := rx.one'
      rw [rv.int]
      exact .inl ⟨_, rfl, q.here rp (.mkInt _)⟩
    · obtain ⟨v, rfl, rv⟩ := rx.one'
      rw [rv.bl]
      exact .inr ⟨_, rfl, q.here rp (.mkInt _)⟩
  | bool =>
    refine ⟨_, call_bool1, fun E ρ S H xs vs Q rp rx q => ?_⟩
    unfold biF at q
    split at q <;> try exact q.elim
    all_goals first | (rename_i h; cases h) | skip
    · obtain ⟨v, rfl, rv⟩ := rx.one'
      rw [rv.int]
      exact .inl ⟨_, rfl, q.here rp (.mkBl _)⟩
    · obtain ⟨v, rfl, rv⟩ := rx.one'
      rw [rv.bl]
      exact .inr ⟨_, rfl, q.here rp (.mkBl _)⟩
  | max =>
    refine ⟨_, call_max2 hc, fun E ρ S H xs vs Q rp rx q => ?_⟩
    unfold biF at q
    split at q <;> try exact q.elim
    all_goals first | (rename_i h; cases h) | skip
    obtain ⟨v, w, rfl, rv, rw'⟩ := rx.two'
    rw [rv.int, rw'.int]
    exact ⟨_, _, rfl, q.here rp (.mkInt _)⟩
  | min =>
    refine ⟨_, call_min2 hc, fun E ρ S H xs vs Q rp rx q => ?_⟩
    unfold biF at q
    split at q <;> try exact q.elim
    all_goals first | (rename_i h; cases h) | skip
    obtain ⟨v, w, rfl, rv, rw'⟩ := rx.two'
    rw [rv.int, rw'.int]
    exact ⟨_, _, rfl, q.here rp (.mkInt _)⟩
  | repr =>
    refine ⟨_, call_reprA sm hg hu, fun E ρ S H xs vs Q rp rx q => ?_⟩
    unfold biF at q
    split at q <;> try exact q.elim
    all_goals first | (rename_i h; cases h) | skip
    obtain ⟨v, rfl, rv⟩ := rx.one'
    split at q
    · rename_i p e
      split at q
      · rename_i z
        exact ⟨ρ, _, _, p, v, rfl, rp, rv, e, z.1, z.2.1, z.2.2, q.here rp (.mkStr _)⟩
      · exact q.elim
    · exact q.elim
  | str =>
    refine ⟨_, call_str_int.or call_str_str', fun E ρ S H xs vs Q rp rx q => ?_⟩
    unfold biF at q
    split at q <;> try exact q.elim
    all_goals first | (rename_i h; cases h) | skip
    · split at q
      · rename_i z
        obtain ⟨v, rfl, rv⟩ := rx.one'
        rw [rv.int]
        exact .inl ⟨_, rfl, z, q.here rp (.mkStr _)⟩
      · exact q.elim
    · obtain ⟨v, rfl, rv⟩ := rx.one'
      rw [rv.str]
      exact .inr ⟨_, rfl, q.here rp (.mkStr _)⟩
  | list =>
    refine ⟨_, call_list_of, fun E ρ S H xs vs Q rp rx q => ?_⟩
    unfold biF at q
    split at q <;> try exact q.elim
    all_goals first | (rename_i h; cases h) | skip
    obtain ⟨v, rfl, rv⟩ := rx.one'
    split at q
    · rename_i ds e
      obtain ⟨a, ws, rfl, sq, t⟩ := seqOf_ok rp rv e
      exact ⟨a, ws, rfl, sq, fun p hp => post_lst rp t q p hp⟩
    · exact q.elim
  | tuple =>
    refine ⟨_, call_tuple_of, fun E ρ S H xs vs Q rp rx q => ?_⟩
    unfold biF at q
    split at q <;> try exact q.elim
    all_goals first | (rename_i h; cases h) | skip
    obtain ⟨v, rfl, rv⟩ := rx.one'
    split at q
    · rename_i ds e
      obtain ⟨a, ws, rfl, sq, t⟩ := seqOf_ok rp rv e
      refine ⟨a, ws, rfl, ?_⟩
      rcases sq with sq | sq
      · exact .inl ⟨sq, fun p hp => post_tup rp t q p hp⟩
      · exact .inr ⟨sq, q.here rp (.mkTup sq t)⟩
    · exact q.elim
  | all =>
    refine ⟨_, cr_all hc, fun E ρ S H xs vs Q rp rx q => ?_⟩
    unfold biF at q
    split at q <;> try exact q.elim
    all_goals first | (rename_i h; cases h) | skip
    obtain ⟨v, rfl, rv⟩ := rx.one'
    split at q
    · rename_i bs e
      obtain ⟨ds, e1, e2⟩ := Option.bind_eq_some_iff.mp e
      obtain ⟨a, ws, rfl, sq, t⟩ := lstOf_ok rp rv e1
      have e3 := bools_V t e2
      subst e3
      exact ⟨a, bs, rfl, sq, q.here rp (.mkBl _)⟩
    · exact q.elim
  | any =>
    refine ⟨_, cr_any hc, fun E ρ S H xs vs Q rp rx q => ?_⟩
    unfold biF at q
    split at q <;> try exact q.elim
    all_goals first | (rename_i h; cases h) | skip
    obtain ⟨v, rfl, rv⟩ := rx.one'
    split at q
    · rename_i bs e
      obtain ⟨ds, e1, e2⟩ := Option.bind_eq_some_iff.mp e
      obtain ⟨a, ws, rfl, sq, t⟩ := lstOf_ok rp rv e1
      have e3 := bools_V t e2
      subst e3
      exact ⟨a, bs, rfl, sq, q.here rp (.mkBl _)⟩
    · exact q.elim
  | sum =>
    refine ⟨_, cr_sum hc, fun E ρ S H xs vs Q rp rx q => ?_⟩
    unfold biF at q
    split at q <;> try exact q.elim
    all_goals first | (rename_i h; cases h) | skip
    obtain ⟨v, rfl, rv⟩ := rx.one'
    split at q
    · rename_i bs e
      obtain ⟨ds, e1, e2⟩ := Option.bind_eq_some_iff.mp e
      obtain ⟨a, ws, rfl, sq, t⟩ := lstOf_ok rp rv e1
      have e3 := ints_V t e2
      subst e3
      exact ⟨a, bs, rfl, sq, q.here rp (.mkInt _)⟩
    · exact q.elim
end
end GG
namespace GG
open PySem PySem.Spec PyProof.Rows L2
/-! ## what is walked -/
def chk (gs : List (Nat × O)) (S : Sto) : Bool := gs.all fun p => decide (S[p.1]? = some p.2)
abbrev Its := List D × List (Nat × O)
structure Wk (K : PySem.W.Frag) (ρ0 : List Addr) (H0 : Hp) (p : Its) (J : It) : Prop where
  go : ∀ (ρ : List Addr) (S : Sto) (H : Hp) (i : Nat) (d : D), ρ0 <+: ρ → Kp H0 H → Rp K ρ S H → chk p.2 S = true → p.1[i]? = some d → J.go i H
  stop : ∀ (ρ : List Addr) (S : Sto) (H : Hp), ρ0 <+: ρ → Kp H0 H → Rp K ρ S H → chk p.2 S = true → J.stop p.1.length H
  yld : ∀ (ρ : List Addr) (S : Sto) (H : Hp) (i : Nat) (d : D) (x : V) (H' : Hp), ρ0 <+: ρ → Kp H0 H → Rp K ρ S H → chk p.2 S = true → p.1[i]? = some d → J.yld i H x H' →
    Kp H H' ∧ Rp K ρ S H' ∧ RV K ρ H' d x ∧ ∀ b u, H b = some u → H' b = some u
def TFi (K : PySem.W.Frag) (mg : Str → Option Value) (W : WX) (f : Env → Sto → Out Its) : TI := fun σ H R => ∃ ρ ε S, Rs K ρ H ε σ ∧ Rp K ρ S H ∧ Post K mg (fun ρ' H' p J => Wk K ρ' H' p J) (XW W σ) ρ H (f ε S) R
theorem PI.imp {X : Cx} {tg e : Expr} {t t' : TI} (h : PI X tg e t) (i : ∀ σ H Q, t' σ H Q → t σ H Q) : PI X tg e t' := ⟨fun pins s σ H Q I q => h.run pins s σ H Q I (i σ H Q q)⟩
theorem pi_or {X : Cx} {tg e : Expr} {t t' : TI} (h : PI X tg e t) (h' : PI X tg e t') : PI X tg e (fun σ H Q => t σ H Q ∨ t' σ H Q) := ⟨fun pins s σ H Q I q => q.elim (h.run pins s σ H Q I) (h'.run pins s σ H Q I)⟩
def iterV (d : D) (S : Sto) : Out Its :=
  match d with
  | .tup ds => .ok (ds, []) S
  | .rol ds => .ok (ds, []) S
  | .str x => .ok (x.cps.toList.map fun c => .str ⟨#[c]⟩, []) S
  | .loc l => match S[l]? with
    | some (.lst ds) => .ok (ds, [(l, .lst ds)]) S
    | _ => .bad
  | _ => .bad
section
variable {K : PySem.W.Frag} {mg : Str → Option Value} {W : WX}
theorem wk_fix_tup {ρ : List Addr} {H : Hp} {a : Addr} {ds : List D} {vs : List V} (sq : SqT K H a vs) (t : RVs K ρ H ds vs) : Wk K ρ H (ds, []) (Itt K a) where
  go := fun ρ' S H' i d p k rp _ e => by
    obtain ⟨v, e1, _⟩ := (t.mono p k).get e
    exact ⟨vs, v, k.rdT sq, e1⟩
  stop := fun ρ' S H' p k rp _ => ⟨vs, k.rdT sq, by rw [t.len]; exact Nat.le_refl _⟩
  yld := fun ρ' S H' i d x H2 p k rp _ e y => by
    obtain ⟨rfl, y⟩ := y
    obtain ⟨v, e1, r⟩ := (t.mono p k).get e
    have e2 := y vs (k.rdT sq)
    rw [e1] at e2; cases e2
    exact ⟨Kp.refl, rp, r, fun _ _ z => z⟩
theorem wk_rol {ρ : List Addr} {H : Hp} {a : Addr} {ds : List D} {vs : List V} (sq : RoL K H a vs) (t : RVs K ρ H ds vs) : Wk K ρ H (ds, []) (Itl K a) where
  go := fun ρ' S H' i d p k rp _ e => by
    obtain ⟨v, e1, _⟩ := (t.mono p k).get e
    exact ⟨vs, v, (sq.mono k).sq, e1⟩
  stop := fun ρ' S H' p k rp _ => ⟨vs, (sq.mono k).sq, by rw [t.len]; exact Nat.le_refl _⟩
  yld := fun ρ' S H' i d x H2 p k rp _ e y => by
    obtain ⟨rfl, y⟩ := y
    obtain ⟨v, e1, r⟩ := (t.mono p k).get e
    have e2 := y vs (sq.mono k).sq
    rw [e1] at e2; cases e2
    exact ⟨Kp.refl, rp, r, fun _ _ z => z⟩
theorem chk_one {l : Nat} {o : O} {S : Sto} (h : chk [(l, o)] S = true) : S[l]? = some o := by
  simpa [chk] using h
theorem wk_lst {ρ : List Addr} {H : Hp} {l : Nat} {a : Addr} {ds : List D} (ea : ρ[l]? = some a) : Wk K ρ H (ds, [(l, .lst ds)]) (Itl K a) where
  go := fun ρ' S H' i d p k rp c e => by
    obtain ⟨vs, q, t⟩ := rp.lst (get_pre p ea) (chk_one c)
    obtain ⟨v, e1, _⟩ := t.get e
    exact ⟨vs, v, SqL.of q, e1⟩
  stop := fun ρ' S H' p k rp c => by
    obtain ⟨vs, q, t⟩ := rp.lst (get_pre p ea) (chk_one c)
    exact ⟨vs, SqL.of q, by rw [t.len]; exact Nat.le_refl _⟩
  yld := fun ρ' S H' i d x H2 p k rp c e y => by
    obtain ⟨rfl, y⟩ := y
    obtain ⟨vs, q, t⟩ := rp.lst (get_pre p ea) (chk_one c)
    obtain ⟨v, e1, r⟩ := t.get e
    have e2 := y vs (SqL.of q)
    rw [e1] at e2; cases e2
    exact ⟨Kp.refl, rp, r, fun _ _ z => z⟩
theorem wk_str {ρ : List Addr} {H : Hp} {x : Str} : Wk K ρ H (x.cps.toList.map fun c => .str ⟨#[c]⟩, []) (L2.Its x) where
  go := fun ρ' S H' i d p k rp _ e => by
    show i < x.cps.size
    have := (List.getElem?_eq_some_iff.mp e).1
    simpa using this
  stop := fun ρ' S H' p k rp _ => by
    show x.cps.size ≤ _
    simp
  yld := fun ρ' S H' i d y H2 p k rp _ e z => by
    obtain ⟨rfl, c, e1, rfl⟩ := z
    simp only [List.getElem?_map, Option.map_eq_some_iff] at e
    obtain ⟨c', e2, rfl⟩ := e
    rw [Array.getElem?_toList, e1] at e2
    cases e2
    exact ⟨Kp.refl, rp, .mkStr _, fun _ _ z => z⟩
theorem wk_rng {ρ : List Addr} {H : Hp} {lo : Int} {n : Nat} : Wk K ρ H ((List.range n).map fun i => .int (lo + (i : Nat)), []) (Itr lo n) where
  go := fun ρ' S H' i d p k rp _ e => by
    show i < n
    have := (List.getElem?_eq_some_iff.mp e).1
    simpa using this
  stop := fun ρ' S H' p k rp _ => by
    show n ≤ _
    simp
  yld := fun ρ' S H' i d y H2 p k rp _ e z => by
    obtain ⟨rfl, rfl⟩ := z
    have hi : i < n := by
      have := (List.getElem?_eq_some_iff.mp e).1
      simpa using this
    have e1 : ((List.range n).map fun i => D.int (lo + ((i : Nat) : Int)))[i]? = some (.int (lo + ((i : Nat) : Int))) := by
      rw [List.getElem?_map, List.getElem?_range hi]; rfl
    have e2 := e1.symm.trans e
    cases e2
    exact ⟨Kp.refl, rp, .mkInt _, fun _ _ z => z⟩
theorem pi_val {X : Cx} {tg e : Expr} {fa : Env → Sto → Out D} (he : PE X e (TF X.K mg W fa)) : PI X tg e (TFi X.K mg W fun ε S => (fa ε S).bind iterV) := by
  refine PI.imp (pi_or (pi_list he) (pi_or (pi_tup he) (pi_str he))) fun σ H R q => ?_
  obtain ⟨ρ, ε, S, hs, hp, q⟩ := q
  dsimp only at q
  cases h : fa ε S with
  | bad => rw [h] at q; exact q.elim
  | exc c x S1 => rw [h] at q; exact .inl ⟨ρ, ε, S, hs, hp, by rw [h]; exact q⟩
  | ok d S1 =>
    rw [h, Out.bind_ok] at q
    cases d with
    | tup ds =>
      refine .inr (.inl ⟨ρ, ε, S, hs, hp, ?_⟩)
      rw [h]
      intro ρ1 v H1 sx rp r
      obtain ⟨a, vs, rfl, sq, t⟩ := r.tup
      exact ⟨a, rfl, ⟨vs, sq⟩, q ρ1 _ H1 sx rp (wk_fix_tup sq t)⟩
    | rol ds =>
      refine .inl ⟨ρ, ε, S, hs, hp, ?_⟩
      rw [h]
      intro ρ1 v H1 sx rp r
      obtain ⟨a, vs, rfl, sq, t⟩ := r.rol
      exact ⟨a, rfl, ⟨vs, sq.sq⟩, q ρ1 _ H1 sx rp (wk_rol sq t)⟩
    | str x =>
      refine .inr (.inr ⟨ρ, ε, S, hs, hp, ?_⟩)
      rw [h]
      intro ρ1 v H1 sx rp r
      exact ⟨x, r.str, q ρ1 _ H1 sx rp wk_str⟩
    | loc l =>
      simp only [iterV] at q
      split at q
      · rename_i ds e
        refine .inl ⟨ρ, ε, S, hs, hp, ?_⟩
        rw [h]
        intro ρ1 v H1 sx rp r
        obtain ⟨a, ea, rfl⟩ := r.loc
        obtain ⟨vs, e1, t⟩ := rp.lst ea e
        exact ⟨a, rfl, ⟨vs, SqL.of e1⟩, q ρ1 _ H1 sx rp (wk_lst ea)⟩
      · exact q.elim
    | _ => exact q.elim
def iterR (ds : List D) (S : Sto) : Out Its :=
  match ds with
  | [.int j] => if -(2 ^ 62) ≤ j ∧ j < 2 ^ 62 then .ok ((List.range j.toNat).map fun i => .int ((0 : Int) + (i : Nat)), []) S else .bad
  | [.int i, .int j] => if -(2 ^ 62) ≤ i ∧ i < 2 ^ 62 ∧ -(2 ^ 62) ≤ j ∧ j < 2 ^ 62 then .ok ((List.range (j - i).toNat).map fun k => .int (i + (k : Nat)), []) S else .bad
  | _ => .bad
theorem pi_rng1 {X : Cx} {tg a : Expr} {p pos : Pos} {fa : Env → Sto → Out (List D)} (hg : Gl X "range") (hm : X.mg "range" = none) (ha : PA X [a] (TFs X.K mg W fa)) (hs : starEach [a] X.env = [(false, eval a X.env)])
    (h1 : ∀ ε S ds S1, fa ε S = .ok ds S1 → ds.length = 1) : PI X tg (.Call (.Name "range" p) [a] [] pos) (TFi X.K mg W fun ε S => (fa ε S).bind iterR) := by
  refine PI.imp (pi_range1 hg hm ha hs) fun σ H R q => ?_
  obtain ⟨ρ, ε, S, hs, hp, q⟩ := q
  dsimp only at q
  cases h : fa ε S with
  | bad => rw [h] at q; exact q.elim
  | exc c x S1 => rw [h] at q; exact ⟨ρ, ε, S, hs, hp, by rw [h]; exact q⟩
  | ok ds S1 =>
    rw [h, Out.bind_ok] at q
    refine ⟨ρ, ε, S, hs, hp, ?_⟩
    rw [h]
    intro ρ1 vs H1 sx rp r
    unfold iterR at q
    split at q
    · split at q
      · rename_i z
        obtain ⟨v, rfl, rv⟩ := r.one'
        rw [rv.int]
        exact ⟨_, rfl, z.1, z.2, q ρ1 _ H1 sx rp wk_rng⟩
      · exact q.elim
    · have := h1 _ _ _ _ h
      simp at this
    · exact q.elim
theorem pi_rng2 {X : Cx} {tg a b : Expr} {p pos : Pos} {fa : Env → Sto → Out (List D)} (hg : Gl X "range") (hm : X.mg "range" = none) (ha : PA X [a, b] (TFs X.K mg W fa)) (hs : starEach [a, b] X.env = [(false, eval a X.env), (false, eval b X.env)])
    (hs2 : starEach [b] X.env = [(false, eval b X.env)]) (h1 : ∀ ε S ds S1, fa ε S = .ok ds S1 → ds.length = 2) : PI X tg (.Call (.Name "range" p) [a, b] [] pos) (TFi X.K mg W fun ε S => (fa ε S).bind iterR) := by
  refine PI.imp (pi_range2 hg hm ha hs hs2) fun σ H R q => ?_
  obtain ⟨ρ, ε, S, hs, hp, q⟩ := q
  dsimp only at q
  cases h : fa ε S with
  | bad => rw [h] at q; exact q.elim
  | exc c x S1 => rw [h] at q; exact ⟨ρ, ε, S, hs, hp, by rw [h]; exact q⟩
  | ok ds S1 =>
    rw [h, Out.bind_ok] at q
    refine ⟨ρ, ε, S, hs, hp, ?_⟩
    rw [h]
    intro ρ1 vs H1 sx rp r
    unfold iterR at q
    split at q
    · have := h1 _ _ _ _ h
      simp at this
    · split at q
      · rename_i z
        obtain ⟨v, w, rfl, rv, rw'⟩ := r.two'
        rw [rv.int, rw'.int]
        exact ⟨_, _, rfl, z, q ρ1 _ H1 sx rp wk_rng⟩
      · exact q.elim
    · exact q.elim
end
end GG
namespace GG
open PySem PySem.Spec PyProof.Rows L2
/-! ## the language -/
inductive Tg where
  | n (i : Nat)
  | t (ts : List Tg)
inductive Ty where
  | int | bool | str | tuple | list | dict
  deriving DecidableEq
inductive Me where
  | join | upper | append
  deriving DecidableEq
inductive Ex where
  | v (i : Nat)
  | c (d : D)
  | g (x : Str) (d : D)
  | bop (o : Operator) (a b : Ex)
  | neg (a : Ex)
  | not (a : Ex)
  | cmp (o : CmpOp) (a b : Ex)
  | chain (o o' : CmpOp) (a b c : Ex)
  | and (a : Ex) (es : List Ex)
  | or (a : Ex) (es : List Ex)
  | ife (t a b : Ex)
  | tup (es : List Ex)
  | lst (es : List Ex)
  | dct (ks : List Key) (es : List Ex)
  | ix (a i : Ex)
  | sl (a : Ex) (lo hi : List Ex)
  | rev (a : Ex)
  | call (f : Nat) (es : List Ex)
  | bi (b : Bi) (es : List Ex)
  | isi (a : Ex) (t : Ty)
  | me (m : Me) (o : Ex) (es : List Ex)
  | lc (e : Ex) (own : List Nat) (tg : Tg) (it : Ex) (ifs : List Ex)
  | rng (es : List Ex)
  | enum (e : Ex)
  | zip (a b : Ex)
  | itv (e : Ex)
/-! ### its meaning -/
mutual
def tgS : Tg → D → Env → Option Env
  | .n i, d, ε => if i < ε.length then some (ε.set i (some d)) else none
  | .t ts, d, ε => match d with
    | .tup ds => tgsS ts ds ε
    | _ => none
def tgsS : List Tg → List D → Env → Option Env
  | [], [], ε => some ε
  | t :: ts, d :: ds, ε => match tgS t d ε with
    | some ε1 => tgsS ts ds ε1
    | none => none
  | _, _, _ => none
end
def wipeE (ε : Env) : List Nat → Env
  | [] => ε
  | v :: vs => (wipeE ε vs).set v none
def noX {α : Type} : Out α → Out α
  | .exc _ _ _ => .bad
  | r => r
def lcLoop (gs : List (Nat × O)) (tgt : D → Option Env) (cond : Env → Sto → Out Bool) (elt : Env → Sto → Out D) : List D → Sto → Out (List D)
  | [], S => if chk gs S = true then .ok [] S else .bad
  | d :: r, S => if chk gs S = true then (match tgt d with
    | none => .bad
    | some ε => (noX (cond ε S)).bind fun b S1 =>
      if b = true then (noX (elt ε S1)).bind fun y S2 => (lcLoop gs tgt cond elt r S2).bind fun ys S3 => .ok (y :: ys) S3
      else lcLoop gs tgt cond elt r S1) else .bad
def tyName (S : Sto) : D → Option String
  | .non => some "NoneType"
  | .bl _ => some "bool"
  | .int _ => some "int"
  | .str _ => some "str"
  | .tup _ => some "tuple"
  | .rol _ => some "list"
  | .loc l => match S[l]? with
    | some (.lst _) => some "list"
    | some (.dK _) => some "dict"
    | none => none
def Ty.name : Ty → String
  | .int => "int" | .bool => "bool" | .str => "str" | .tuple => "tuple" | .list => "list" | .dict => "dict"
def isiF (t : Ty) (d : D) (S : Sto) : Out D :=
  match tyName S d with
  | some n => .ok (.bl (decide (n = t.name) || (decide (n = "bool") && decide (t = .int)))) S
  | none => .bad
def meF : Me → D → List D → Sto → Out D
  | .join, .str a, [d], S => match (seqOf S d).bind strsOf with
    | some ys => if (ys.map (·.length)).sum + ys.length * a.length ≤ 16777216 then .ok (.str (Txt.join a ys)) S else .bad
    | none => .bad
  | .upper, .str a, [], S => if a.length ≤ 5592405 then .ok (.str (Txt.upper a)) S else .bad
  | .append, .loc l, [d], S => match S[l]? with
    | some (.lst ds) => if D.lt l d = true ∧ ds.length < sizeLine then .ok .non (S.set l (.lst (ds ++ [d]))) else .bad
    | _ => .bad
  | _, _, _, _ => .bad
/-- what a method asks of its object -/
def meR : Me → D → Sto → Bool
  | .join, .str _, _ => true
  | .upper, .str _, _ => true
  | .append, .loc l, S => match S[l]? with
    | some (.lst _) => true
    | _ => false
  | _, _, _ => false
def putD (kvs : List (Key × D)) (k : Key) (v : D) : List (Key × D) :=
  if (kvs.any fun kv => decide (kv.1 = k)) = true then kvs.map (fun kv => if kv.1 = k then (kv.1, v) else kv) else kvs ++ [(k, v)]
def mergeD (kvs more : List (Key × D)) : List (Key × D) := more.foldl (fun acc kv => putD acc kv.1 kv.2) kvs
def asInt (d : D) (S : Sto) : Out (Option Int) :=
  match d with
  | .int i => .ok (some i) S
  | _ => .bad
def truF (d : D) (S : Sto) : Out Bool :=
  match tru S d with
  | some b => .ok b S
  | none => .bad
def pairUp : Nat → List D → List D
  | _, [] => []
  | n, d :: r => .tup [.int (n : Nat), d] :: pairUp (n + 1) r
def zipUp : List D → List D → List D
  | a :: r, b :: t => .tup [a, b] :: zipUp r t
  | _, _ => []
/-- enumerate -/
def iterN (d : D) (S : Sto) : Out Its :=
  match d with
  | .rol ds => .ok (pairUp 0 ds, []) S
  | .tup ds => .ok (pairUp 0 ds, []) S
  | .loc l => match S[l]? with
    | some (.lst ds) => .ok (pairUp 0 ds, [(l, .lst ds)]) S
    | _ => .bad
  | _ => .bad
/-- zip of two lists or two tuples -/
def iterZ (d d' : D) (S : Sto) : Out Its :=
  match d, d' with
  | .tup xs, .tup ys => .ok (zipUp xs ys, []) S
  | .loc l, .loc m => match S[l]?, S[m]? with
    | some (.lst xs), some (.lst ys) => .ok (zipUp xs ys, [(l, .lst xs), (m, .lst ys)]) S
    | _, _ => .bad
  | _, _ => .bad
section
variable (cl : Nat → List D → Sto → Out D)
mutual
def evE : Ex → Env → Sto → Out D
  | .v i => fun ε S => match ε[i]? with
    | some (some d) => .ok d S
    | _ => .bad
  | .c d => fun _ S => .ok d S
  | .g _ d => fun _ S => .ok d S
  | .bop o a b => fun ε S => (evE a ε S).bind fun x S1 => (evE b ε S1).bind fun y S2 => binF o x y S2
  | .neg a => fun ε S => (evE a ε S).bind fun x S1 => match x with
    | .int i => .ok (.int (-i)) S1
    | _ => .bad
  | .not a => fun ε S => (evE a ε S).bind fun x S1 => (truF x S1).bind fun b S2 => .ok (.bl (!b)) S2
  | .cmp o a b => fun ε S => (evE a ε S).bind fun x S1 => (evE b ε S1).bind fun y S2 => cmpF o x y S2
  | .chain o o' a b c => fun ε S => (evE a ε S).bind fun x S1 => (evE b ε S1).bind fun y S2 => (cmpF o x y S2).bind fun r S3 => match r with
    | .bl true => (evE c ε S3).bind fun z S4 => cmpF o' y z S4
    | .bl false => .ok (.bl false) S3
    | _ => .bad
  | .and a es => fun ε S => (evE a ε S).bind fun x S1 => evAnd es x ε S1
  | .or a es => fun ε S => (evE a ε S).bind fun x S1 => evOr es x ε S1
  | .ife t a b => fun ε S => (evE t ε S).bind fun x S1 => (truF x S1).bind fun k S2 => if k = true then evE a ε S2 else evE b ε S2
  | .tup es => fun ε S => (evEs es ε S).bind fun ds S1 => if ds.length ≤ sizeLine then .ok (.tup ds) S1 else .bad
  | .lst es => fun ε S => (evEs es ε S).bind fun ds S1 => if ds.length ≤ sizeLine then .ok (.loc S1.length) (S1 ++ [.lst ds]) else .bad
  | .dct ks es => fun ε S => (evEs es ε S).bind fun ds S1 => if ds.length ≤ 15 then .ok (.loc S1.length) (S1 ++ [.dK (mergeD [] (ks.zip ds))]) else .bad
  | .ix a i => fun ε S => (evE a ε S).bind fun x S1 => (evE i ε S1).bind fun y S2 => opIx x y S2
  | .sl a lo hi => fun ε S => (evE a ε S).bind fun x S1 => (evO lo ε S1).bind fun l S2 => (evO hi ε S2).bind fun h S3 => opSl x l h S3
  | .rev a => fun ε S => (evE a ε S).bind fun x S1 => opRev x S1
  | .call f es => fun ε S => (evEs es ε S).bind fun ds S1 => cl f ds S1
  | .bi b es => fun ε S => (evEs es ε S).bind fun ds S1 => biF b ds S1
  | .isi a t => fun ε S => (evE a ε S).bind fun x S1 => isiF t x S1
  | .me m o es => fun ε S => (evE o ε S).bind fun x S1 => if meR m x S1 = true then (evEs es ε S1).bind fun ds S2 => meF m x ds S2 else .bad
  | .lc e own tg it ifs => fun ε S => (evI it ε S).bind fun p S1 =>
    (lcLoop p.2 (fun d => tgS tg d (wipeE ε own)) (evTs ifs) (evE e) p.1 S1).bind fun ys S2 => if ys.length ≤ sizeLine then .ok (.loc S2.length) (S2 ++ [.lst ys]) else .bad
  | .rng _ => fun _ _ => .bad
  | .enum _ => fun _ _ => .bad
  | .zip _ _ => fun _ _ => .bad
  | .itv _ => fun _ _ => .bad
def evEs : List Ex → Env → Sto → Out (List D)
  | [] => fun _ S => .ok [] S
  | e :: es => fun ε S => (evE e ε S).bind fun x S1 => (evEs es ε S1).bind fun xs S2 => .ok (x :: xs) S2
def evAnd : List Ex → D → Env → Sto → Out D
  | [] => fun x _ S => .ok x S
  | e :: es => fun x ε S => (truF x S).bind fun b S1 => if b = true then (evE e ε S1).bind fun y S2 => evAnd es y ε S2 else .ok x S1
def evOr : List Ex → D → Env → Sto → Out D
  | [] => fun x _ S => .ok x S
  | e :: es => fun x ε S => (truF x S).bind fun b S1 => if b = true then .ok x S1 else (evE e ε S1).bind fun y S2 => evOr es y ε S2
def evO : List Ex → Env → Sto → Out (Option Int)
  | [] => fun _ S => .ok none S
  | e :: _ => fun ε S => (evE e ε S).bind asInt
/-- the tests of a comprehension: none or one -/
def evTs : List Ex → Env → Sto → Out Bool
  | [] => fun _ S => .ok true S
  | e :: _ => fun ε S => (evE e ε S).bind truF
def evI : Ex → Env → Sto → Out Its
  | .rng es => fun ε S => (evEs es ε S).bind iterR
  | .enum e => fun ε S => (evE e ε S).bind iterN
  | .zip a b => fun ε S => (evE a ε S).bind fun d S1 => (evE b ε S1).bind fun d' S2 => iterZ d d' S2
  | .itv e => fun ε S => (evE e ε S).bind iterV
  | _ => fun _ _ => .bad
end
end
end GG
namespace GG
open PySem PySem.Spec PyProof.Rows L2
/-! ## which syntax a term of the language stands for -/
structure Cn where
  N : List Str
  fns : List (Str × Nat)
  gt : List (Str × D)
def visB (sc : Scope) (x : Str) : Bool := match sc.names.lookup x with
  | some .local => true
  | some .cell => true
  | some .free => true
  | _ => false
def locB (sc : Scope) (x : Str) : Bool := match sc.names.lookup x with
  | some .local => true
  | some .cell => true
  | _ => false
def glB (sc : Scope) (x : Str) : Bool := decide (sc.names.lookup x = some .globalImplicit)
def plainN (x : Str) : Bool := !(x == ("__debug__" : Str)) && !(x == ("__classdict__" : Str)) && !decide (x = ("__name__" : Str))
def noStar : Expr → Bool
  | .Starred _ _ => false
  | _ => true
def noSlice : Expr → Bool
  | .Slice _ _ _ _ => false
  | _ => true
def noCall0 : Expr → Bool
  | .Call _ _ _ _ => false
  | _ => true
def noSet : Expr → Bool
  | .Set _ _ _ => false
  | _ => true
def noComp : Expr → Bool
  | .ListComp _ _ _ _ => false
  | .SetComp _ _ _ _ => false
  | .DictComp _ _ _ _ _ => false
  | _ => true
def constIs : D → Const → Bool
  | .non, .none => true
  | .bl b, .bool b' => decide (b = b')
  | .int i, .int j => decide (i = j)
  | .str x, .str y => decide (x = y)
  | _, _ => false
def Me.name : Me → Str
  | .join => "join" | .upper => "upper" | .append => "append"
def Me.ar : Me → Nat
  | .join => 1 | .upper => 0 | .append => 1
mutual
def mG (okN : Str → Bool) (N : List Str) : Tg → Expr → Bool
  | .n i => fun e => match e with
    | .Name x _ => decide (N[i]? = some x) && okN x
    | _ => false
  | .t ts => fun e => match e with
    | .Tuple es _ _ => mGs okN N ts es
    | _ => false
def mGs (okN : Str → Bool) (N : List Str) : List Tg → List Expr → Bool
  | [] => fun es => match es with
    | [] => true
    | _ => false
  | t :: ts => fun es => match es with
    | e :: es => mG okN N t e && noStar e && mGs okN N ts es
    | _ => false
end
mutual
def tgIn (own : List Nat) : Tg → Bool
  | .n i => decide (i ∈ own)
  | .t ts => tgsIn own ts
def tgsIn (own : List Nat) : List Tg → Bool
  | [] => true
  | t :: ts => tgIn own t && tgsIn own ts
end
def ownOf (N : List Str) (own : List Nat) : List (Str × Nat) := own.map fun i => (N.getD i "", i)
def blkN (scope sc : Scope) (x : Str) : Bool := match (relS scope sc).names.lookup x with
  | some .local => true
  | some .cell => scope.names.lookup x == some .cell
  | _ => false
def isTup : Expr → Bool
  | .Tuple _ _ _ => true
  | _ => false
/-- written keys -/
def keyIsC : Key → Expr → Bool
  | .inl i, .Constant (.int j) _ _ => decide (i = j)
  | .inr x, .Constant (.str y) _ _ => decide (x = y)
  | _, _ => false
def mK : List Key → List (Option Expr) → Bool
  | [], [] => true
  | k :: ks, some e :: es => keyIsC k e && mK ks es
  | _, _ => false
def revStep : Expr → Bool
  | .UnaryOp .USub (.Constant (.int i) _ _) _ => decide (i = 1)
  | _ => false
section
variable (cn : Cn)
mutual
def mE : Ex → Scope → Expr → Bool
  | .v i => fun sc e => match e with
    | .Name x _ => decide (cn.N[i]? = some x) && visB sc x && plainN x
    | _ => false
  | .c d => fun sc e => match e with
    | .Constant k _ _ => constIs d k
    | _ => false
  | .g x d => fun sc e => match e with
    | .Name y _ => decide (x = y) && glB sc x && plainN x && decide (cn.gt.lookup x = some d)
    | _ => false
  | .bop o a b => fun sc e => match e with
    | .BinOp l o' r _ => decide (o = o') && mE a sc l && mE b sc r
    | _ => false
  | .neg a => fun sc e => match e with
    | .UnaryOp .USub l _ => mE a sc l
    | _ => false
  | .not a => fun sc e => match e with
    | .UnaryOp .Not l _ => mE a sc l
    | _ => false
  | .cmp o a b => fun sc e => match e with
    | .Compare l [o'] [r] _ => decide (o = o') && mE a sc l && mE b sc r && noSet r
    | _ => false
  | .chain o o2 a b c => fun sc e => match e with
    | .Compare l [p, p2] [m, r] _ => decide (o = p) && decide (o2 = p2) && mE a sc l && mE b sc m && mE c sc r && noSet r
    | _ => false
  | .and a es => fun sc e => match e with
    | .BoolOp .And (l :: vs) _ => mE a sc l && mEs es sc vs && !vs.isEmpty
    | _ => false
  | .or a es => fun sc e => match e with
    | .BoolOp .Or (l :: vs) _ => mE a sc l && mEs es sc vs && !vs.isEmpty
    | _ => false
  | .ife t a b => fun sc e => match e with
    | .IfExp c l r _ => mE t sc c && mE a sc l && mE b sc r
    | _ => false
  | .tup es => fun sc e => match e with
    | .Tuple vs _ _ => mEs es sc vs
    | _ => false
  | .lst es => fun sc e => match e with
    | .List vs _ => mEs es sc vs
    | _ => false
  | .dct ks es => fun sc e => match e with
    | .Dict keys vs _ => mK ks keys && mEs es sc vs && decide (ks.length = es.length) && decide (ks.length ≤ 15)
    | _ => false
  | .ix a i => fun sc e => match e with
    | .Subscript l s _ => mE a sc l && mE i sc s && noSlice s
    | _ => false
  | .sl a lo hi => fun sc e => match e with
    | .Subscript l (.Slice lo' hi' none _) _ => mE a sc l && mO lo sc lo' && mO hi sc hi'
    | _ => false
  | .rev a => fun sc e => match e with
    | .Subscript l (.Slice none none (some st) _) _ => mE a sc l && revStep st
    | _ => false
  | .call f es => fun sc e => match e with
    | .Call (.Name x _) (v :: vs) [] _ => decide (cn.fns[f]? = some (x, es.length)) && glB sc x && plainN x && mEs es sc (v :: vs)
    | _ => false
  | .bi b es => fun sc e => match e with
    | .Call (.Name x _) (v :: vs) [] _ => decide (x = b.name) && glB sc x && mEs es sc (v :: vs)
    | _ => false
  | .isi a t => fun sc e => match e with
    | .Call (.Name x _) [v, .Name y _] [] _ => decide (x = "isinstance") && glB sc x && mE a sc v && noStar v && decide (y = Str.ofString t.name) && glB sc y
    | _ => false
  | .me m o es => fun sc e => match e with
    | .Call (.Attribute v nm ap) vs [] cp => decide (nm = m.name) && mE o sc v && mEs es sc vs && noCall0 v && (ap.endLine == cp.line) && decide (es.length = m.ar)
    | _ => false
  | .lc e own tg it ifs => fun sc e' => match e' with
    | .ListComp el [⟨t, i, fs, 0⟩] scope _ => blkC cn.N sc scope (ownOf cn.N own) && mG (blkN scope sc) cn.N tg t && tgIn own tg && mI it sc i t && noSet i && mTs ifs (relS scope sc) fs && mE e (relS scope sc) el
    | _ => false
  | .rng _ => fun sc e => false
  | .enum _ => fun sc e => false
  | .zip _ _ => fun sc e => false
  | .itv _ => fun sc e => false
def mEs : List Ex → Scope → List Expr → Bool
  | [] => fun sc es => match es with
    | [] => true
    | _ => false
  | a :: r => fun sc es => match es with
    | e :: es => mE a sc e && noStar e && mEs r sc es
    | _ => false
def mO : List Ex → Scope → Option Expr → Bool
  | [] => fun sc o => match o with
    | none => true
    | _ => false
  | a :: r => fun sc o => match o with
    | some e => mE a sc e && r.isEmpty
    | _ => false
def mTs : List Ex → Scope → List Expr → Bool
  | [] => fun sc es => match es with
    | [] => true
    | _ => false
  | a :: r => fun sc es => match es with
    | [e] => mE a sc e && r.isEmpty
    | _ => false
def mI : Ex → Scope → Expr → Expr → Bool
  | .itv a => fun sc e t => mE a sc e
  | .rng es => fun sc e t => match e with
    | .Call (.Name x _) (v :: vs) [] _ => decide (x = "range") && glB sc x && mEs es sc (v :: vs) && decide (vs.length ≤ 1)
    | _ => false
  | .enum a => fun sc e t => match e with
    | .Call (.Name x _) [v] [] _ => decide (x = "enumerate") && glB sc x && mE a sc v && noStar v && isTup t
    | _ => false
  | .zip a b => fun sc e t => match e with
    | .Call (.Name x _) [v, w] [] _ => decide (x = "zip") && glB sc x && mE a sc v && mE b sc w && noStar v && noStar w && isTup t
    | _ => false
  | _ => fun sc e t => false
end
end
end GG
namespace GG
open PySem PySem.Spec PyProof.Rows L2
/-! ## calls of the program's own defs -/
def SpF (K : PySem.W.Frag) (mg : Str → Option Value) (h : List D → Sto → Out D) : Sp := fun vs H Q E => ∃ ρ S ds, Rp K ρ S H ∧ RVs K ρ H ds vs ∧ Post K mg (RV K) E ρ H (h ds S) Q
/-- the def x, of n parameters, does what h says, up to level k -/
def FnG (P : Program) (w : World) (K : PySem.W.Frag) (mg : Str → Option Value) (base : Heap) (k : Nat) (x : Str) (n : Nat) (h : List D → Sto → Out D) : Prop :=
  ∃ (f : Addr) (fd : FuncData) (ps : List Str), mg x = some (.ref f) ∧ PySem.W.keepIn K (.ref f) = true ∧ Binds K fd ps [] ∧ ps.length = n ∧
    ∀ (A : Around) (outer : List PySem.Env) (s : Shared) (H : Hp) (args : Args) (us : List Value) (vs : List V) (Q : VK) (E : XK), Room k A → A.guards = some [] → Env0 P w K mg base A outer s H →
      vs.length = ps.length → BindsTo s fd args (ps.zip us) → Vals vs us → SpF K mg h vs H Q E → codeAny (model P w) A (.call (.ref f) args) (CR (L2.CX P w) outer P w H s Q E) s
def bnames : List Str := ["len", "abs", "int", "max", "min", "repr", "str", "list", "tuple", "all", "any", "sum", "bool", "range", "enumerate", "zip", "isinstance", "dict"]
structure Good (cn : Cn) (cl : Nat → List D → Sto → Out D) (k : Nat) (W : WX) (X : Cx) : Prop where
  nN : X.N = cn.N
  calm : X.calm = true
  nd : X.N.Nodup
  room : Room k X.A
  gd : X.A.guards = some []
  sm : SmOk X.base
  tk : Takes X W
  blt : ∀ x ∈ bnames, X.mg x = none
  gl : ∀ x d, cn.gt.lookup x = some d → ∃ v u, X.mg x = some u ∧ RelV v u ∧ ∀ ρ H, RV X.K ρ H d v
  fn : ∀ (f : Nat) (x : Str) (n : Nat), cn.fns[f]? = some (x, n) → FnG X.prog X.w X.K X.mg X.base k x n (cl f)
section
variable {cn : Cn} {cl : Nat → List D → Sto → Out D} {k : Nat} {W : WX} {X : Cx}
theorem Good.blk (g : Good cn cl k W X) (s : Shared) (H : Hp) (scope : Scope) (ce : PySem.Env) (fp : List Addr) : Good cn cl k (fun _ _ _ _ => False) (X.blk s H scope ce fp) :=
  ⟨g.nN, g.calm, g.nd, g.room, g.gd, g.sm, takes0, g.blt, g.gl, g.fn⟩
/-! ### small facts of the syntax -/
theorem star_cons {e : Expr} {es : List Expr} {env : PySem.Env} (h : noStar e = true) : starEach (e :: es) env = (false, eval e env) :: starEach es env := by
  cases e <;> first | rfl | (simp [noStar] at h)
def noStars : List Expr → Bool
  | [] => true
  | e :: es => noStar e && noStars es
theorem star_any {env : PySem.Env} {pos : Pos} : ∀ {es : List Expr}, noStars es = true → (backTo pos (starEach es env)).any (·.1) = false
  | [], _ => rfl
  | e :: es, h => by
    simp only [noStars, Bool.and_eq_true] at h
    rw [star_cons h.1]
    show (false || (backTo pos (starEach es env)).any (·.1)) = false
    rw [star_any h.2]; rfl
theorem star_all {env : PySem.Env} {pos : Pos} : ∀ {es : List Expr}, noStars es = true → (backTo pos (starEach es env)).all (fun x => !x.1) = true
  | [], _ => rfl
  | e :: es, h => by
    simp only [noStars, Bool.and_eq_true] at h
    rw [star_cons h.1]
    show (true && (backTo pos (starEach es env)).all (fun x => !x.1)) = true
    rw [star_all h.2]; rfl
theorem mEs_stars : ∀ {as : List Ex} {sc : Scope} {es : List Expr}, mEs cn as sc es = true → noStars es = true
  | [], sc, es, h => by
    cases es with
    | nil => rfl
    | cons e es => simp [mEs] at h
  | a :: r, sc, es, h => by
    cases es with
    | nil => simp [mEs] at h
    | cons e es =>
      simp only [mEs, Bool.and_eq_true] at h
      simp only [noStars, Bool.and_eq_true]
      exact ⟨h.1.2, mEs_stars h.2⟩
theorem mEs_len : ∀ {as : List Ex} {sc : Scope} {es : List Expr}, mEs cn as sc es = true → as.length = es.length
  | [], sc, es, h => by
    cases es with
    | nil => rfl
    | cons e es => simp [mEs] at h
  | a :: r, sc, es, h => by
    cases es with
    | nil => simp [mEs] at h
    | cons e es =>
      simp only [mEs, Bool.and_eq_true] at h
      simp [mEs_len h.2]
theorem evEs_len : ∀ {as : List Ex} {ε : Env} {S : Sto} {ds : List D} {S1 : Sto}, evEs cl as ε S = .ok ds S1 → ds.length = as.length
  | [], ε, S, ds, S1, h => by simp only [evEs] at h; cases h; rfl
  | a :: r, ε, S, ds, S1, h => by
    simp only [evEs] at h
    cases e1 : evE cl a ε S with
    | ok x S2 =>
      rw [e1, Out.bind_ok] at h
      cases e2 : evEs cl r ε S2 with
      | ok xs S3 =>
        rw [e2, Out.bind_ok] at h
        cases h
        simp [evEs_len e2]
      | exc c v S3 => rw [e2] at h; cases h
      | bad => rw [e2] at h; cases h
    | exc c v S2 => rw [e1] at h; cases h
    | bad => rw [e1] at h; cases h
theorem vis_of {sc : Scope} {x : Str} (h : visB sc x = true) : Vis sc x := by
  unfold visB at h
  unfold Vis
  split at h <;> first | (rename_i e; exact .inl e) | (rename_i e; exact .inr (.inl e)) | (rename_i e; exact .inr (.inr e)) | cases h
theorem plain_of {x : Str} (h : plainN x = true) : (x == ("__debug__" : Str)) = false ∧ (x == ("__classdict__" : Str)) = false ∧ x ≠ "__name__" := by
  unfold plainN at h
  simp only [Bool.and_eq_true, Bool.not_eq_true', decide_eq_false_iff_not] at h
  exact ⟨h.1.1, h.1.2, h.2⟩
theorem gl_of {x : Str} (h : glB X.env.scope x = true) : Gl X x := by
  unfold glB at h
  have z := of_decide_eq_true h
  exact z
theorem noSet_mark {o : CmpOp} {e : Expr} (h : noSet e = true) : behindInMarks o e = false := by
  cases e <;> first | rfl | (simp [noSet] at h)
theorem noSet_fold {e : Expr} {env : PySem.Env} (h : noSet e = true) (x : Value) : foldedSetIterable e env x = pure x := by
  cases e <;> first | rfl | (simp [noSet] at h)
theorem noSlice_ix {e : Expr} (h : noSlice e = true) : PlainIx e := by
  intro o i
  cases e <;> first | rfl | (simp [noSlice] at h)
theorem noCall_base {e : Expr} {nm : Str} {env : PySem.Env} {w : Sem Value} (h : noCall0 e = true) : attributeBase e nm env w = w := by
  cases e <;> first | rfl | (simp [noCall0] at h)
/-! ### a def of the program called -/
theorem run_g {mg : Str → Option Value} {x : Str} {n : Nat} {h : List D → Sto → Out D} {f : Addr} {fd : FuncData} {ps : List Str} (g : Good cn cl k W X) (hb : Binds X.K fd ps [])
    (run : ∀ (A : Around) (outer : List PySem.Env) (s : Shared) (H : Hp) (args : Args) (us : List Value) (vs : List V) (Q : VK) (E : XK), Room k A → A.guards = some [] → Env0 X.prog X.w X.K X.mg X.base A outer s H →
      vs.length = ps.length → BindsTo s fd args (ps.zip us) → Vals vs us → SpF X.K X.mg h vs H Q E → codeAny (model X.prog X.w) A (.call (.ref f) args) (CR (L2.CX X.prog X.w) outer X.prog X.w H s Q E) s)
    {pins : List (Addr × Obj)} {σ : L2.St} {H : Hp} {s : Shared} {Q : VK} {us : List Value} {vs : List V} (I : Inv X pins σ H s) (hl : vs.length = ps.length) (r : Vals vs us) (q : SpF X.K X.mg h vs H Q (XW W σ)) :
    wpAny (model X.prog X.w) X.A (call (.ref f) us) (EP X pins σ Q) X.xe s := by
  have hl2 : (us ++ []).length = ps.length := by rw [List.append_nil, ← r.length]; exact hl
  have hbb := hb s us I.kIn hl2
  rw [List.append_nil] at hbb
  refine wpAny_call (codeAny_mono (run X.A X.stack s H ⟨us, []⟩ us vs Q (XW W σ) g.room g.gd I.env0 hl hbb r q) fun r s' hq => ?_)
  cases r with
  | error e => exact g.tk e s' (XE.of_call I (fun _ _ _ z => z) hq)
  | ok fl =>
    cases fl with
    | ret u => exact I.after hq
    | next => exact False.elim hq
    | brk => exact False.elim hq
    | cont => exact False.elim hq
theorem pe_callG {x : Str} {n : Nat} {h : List D → Sto → Out D} {e : Expr} {es : List Expr} {p pos : Pos} {fa : Env → Sto → Out (List D)} (g : Good cn cl k W X) (F : FnG X.prog X.w X.K X.mg X.base k x n h)
    (hg : Gl X x) (hd : (x == ("__debug__" : Str)) = false) (ha : PA X (e :: es) (TFs X.K X.mg W fa)) (hn : ∀ ε S ds S1, fa ε S = .ok ds S1 → ds.length = n) (hs : noStars (e :: es) = true) :
    PE X (.Call (.Name x p) (e :: es) [] pos) (TF X.K X.mg W fun ε S => (fa ε S).bind h) := by
  obtain ⟨f, fd, ps, hm, hk, hb, hl, run⟩ := F
  have hs' := hs
  simp only [noStars, Bool.and_eq_true] at hs'
  refine ⟨fun pins s σ H Q I q => ?_⟩
  obtain ⟨ρ, ε, S, r1, r2, q⟩ := q
  refine wpAny_Call_Name_kw (ld_glob I hg hm ?_ hd)
  have q1 : TFs X.K X.mg W fa σ H fun vs H1 => vs.length = n ∧ SpF X.K X.mg h vs H1 Q (XW W σ) := by
    dsimp only at q
    refine ⟨ρ, ε, S, r1, r2, ?_⟩
    cases e1 : fa ε S with
    | ok ds S1 =>
      rw [e1, Out.bind_ok] at q
      have el := hn _ _ _ _ e1
      intro ρ1 vs H1 sx rp rv
      exact ⟨by rw [← rv.len]; exact el, ρ1, S1, ds, rp, rv, q.weak sx⟩
    | exc c v S1 => rw [e1] at q; exact q
    | bad => rw [e1] at q; exact q
  refine PySem.W.callWith_K (h₀ := X.base) I.ok.mod.kin hk (thn (ha.run pos pins s σ H _ I q1) fun us s1 hh => ?_) (star_cons hs'.1) (star_any hs'.2)
  obtain ⟨vs, H1, I1, r, el, q2⟩ := hh
  exact ⟨I1.kIn, run_g (mg := X.mg) (x := x) (n := n) g hb run I1 (by rw [el, hl]) r q2⟩
theorem pe_callG0 {x : Str} {h : List D → Sto → Out D} {p pos : Pos} (g : Good cn cl k W X) (F : FnG X.prog X.w X.K X.mg X.base k x 0 h)
    (hg : Gl X x) (hd : (x == ("__debug__" : Str)) = false) : PE X (.Call (.Name x p) [] [] pos) (TF X.K X.mg W fun ε S => h [] S) := by
  obtain ⟨f, fd, ps, hm, hk, hb, hl, run⟩ := F
  refine ⟨fun pins s σ H Q I q => ?_⟩
  obtain ⟨ρ, ε, S, r1, r2, q⟩ := q
  refine wpAny_Call_Name_kw (ld_glob I hg hm ?_ hd)
  exact PySem.W.callWith_K0 I.kIn hk (run_g (mg := X.mg) (x := x) (n := 0) g hb run (us := []) (vs := []) I (by rw [hl]; rfl) .nil ⟨ρ, S, [], r2, RVs.nil, q⟩)
end
end GG
namespace GG
open PySem PySem.Spec PyProof.Rows L2
/-! ## tests -/
section
variable {K : PySem.W.Frag} {mg : Str → Option Value} {cn : Cn} {cl : Nat → List D → Sto → Out D} {k : Nat} {W : WX} {X : Cx}
theorem tf_truth {fa : Env → Sto → Out D} (σ : L2.St) (H : Hp) (Q : Bool → Hp → Prop) (q : TFt K mg W (fun ε S => (fa ε S).bind truF) σ H Q) :
    TF K mg W fa σ H fun x H' => ∃ b, TruV K x H' b ∧ Q b H' := by
  obtain ⟨ρ, ε, S, hs, hp, q⟩ := q
  refine ⟨ρ, ε, S, hs, hp, q.seq fun ρ1 v H1 d S1 sx rp r q1 => ?_⟩
  unfold truF at q1
  split at q1
  · rename_i b e
    exact ⟨b, tru_V rp r e, q1.here rp rfl⟩
  · exact q1.elim
def plainT : Expr → Bool
  | .UnaryOp .Not _ _ => false
  | .BoolOp _ _ _ => false
  | .IfExp _ _ _ _ => false
  | .Compare _ _ _ _ => false
  | _ => true
theorem plainT_eq {e : Expr} {env : PySem.Env} (h : plainT e = true) : ∀ whole, isTrue e env whole = (do let v ← whole; standAt e.pos; holding [v] (truthy v)) := by
  intro w
  cases e with
  | UnaryOp o a p => cases o <;> first | rfl | (simp [plainT] at h)
  | BoolOp o a p => simp [plainT] at h
  | IfExp a b c p => simp [plainT] at h
  | Compare a b c p => simp [plainT] at h
  | _ => rfl
theorem pt_plain {e : Expr} {fa : Env → Sto → Out D} (he : PE X e (TF X.K mg W fa)) (h : plainT e = true) : PT X e (TFt X.K mg W fun ε S => (fa ε S).bind truF) :=
  PT.imp (pt_truth he (plainT_eq h)) fun σ H Q q => tf_truth σ H Q q
/-- a comparison's reading as a test -/
theorem tf_test {fa : Env → Sto → Out D} (hb : ∀ ε S d S1, fa ε S = .ok d S1 → ∃ b, d = .bl b) (σ : L2.St) (H : Hp) (Q : Bool → Hp → Prop) (q : TFt K mg W (fun ε S => (fa ε S).bind truF) σ H Q) :
    TF K mg W fa σ H fun x H' => ∃ b, x = .bl b ∧ Q b H' := by
  obtain ⟨ρ, ε, S, hs, hp, q⟩ := q
  dsimp only at q
  refine ⟨ρ, ε, S, hs, hp, ?_⟩
  cases e : fa ε S with
  | ok d S1 =>
    obtain ⟨b, rfl⟩ := hb _ _ _ _ e
    rw [e, Out.bind_ok] at q
    intro ρ1 v H1 sx rp r
    exact ⟨b, r.bl, q ρ1 b H1 sx rp rfl⟩
  | exc c v S1 => rw [e] at q; exact q
  | bad => rw [e] at q; exact q
theorem pt_if {c a b : Expr} {pos : Pos} {tc ta tb : TT} (hc : PT X c tc) (ha : PT X a ta) (hb : PT X b tb) : PT X (.IfExp c a b pos) (fun σ H Q => tc σ H fun k H1 => if k = true then ta σ H1 Q else tb σ H1 Q) := by
  refine ⟨fun pins s σ H Q I q => ?_⟩
  show wpAny _ _ (isTrue c X.env (eval c X.env) >>= fun t => if t = true then isTrue a X.env (eval a X.env) else isTrue b X.env (eval b X.env)) _ _ s
  refine wpAny_bind (thn (hc.run pins s σ H _ I q) fun k s1 ⟨H1, I1, q1⟩ => ?_)
  cases k with
  | true => rw [if_pos rfl] at q1 ⊢; exact ha.run pins s1 σ H1 Q I1 q1
  | false => rw [if_neg Bool.false_ne_true] at q1 ⊢; exact hb.run pins s1 σ H1 Q I1 q1
theorem cmpF_bl {o : CmpOp} {x y : D} {S : Sto} {d : D} {S1 : Sto} (h : cmpF o x y S = .ok d S1) : ∃ b, d = .bl b := by
  cases o <;> simp only [cmpF] at h
  all_goals first
    | (unfold opEq at h; split at h <;> (try split at h) <;> (try split at h) <;> first | (cases h; exact ⟨_, rfl⟩) | cases h)
    | (unfold opInt at h; split at h <;> first | (cases h; exact ⟨_, rfl⟩) | cases h)
    | (unfold opIn at h; split at h <;> (try split at h) <;> (try split at h) <;> first | (cases h; exact ⟨_, rfl⟩) | cases h)
    | (unfold opIs at h; split at h <;> (try split at h) <;> first | (cases h; exact ⟨_, rfl⟩) | cases h)
theorem Out.bind_okI {α β : Type} {r : Out α} {g : α → Sto → Out β} {b : β} {S : Sto} (h : r.bind g = .ok b S) : ∃ a S1, r = .ok a S1 ∧ g a S1 = .ok b S := by
  cases r with
  | ok a S1 => exact ⟨a, S1, rfl, h⟩
  | exc c v S1 => cases h
  | bad => cases h
end
end GG
namespace GG
open PySem PySem.Spec PyProof.Rows L2
/-! ## targets -/
mutual
def gOf (K : PySem.W.Frag) : Tg → TG
  | .n i => gName i
  | .t ts => gTup K ts.length (gsOf K ts)
def gsOf (K : PySem.W.Frag) : List Tg → TGs
  | [] => gNil
  | t :: ts => gCons (gOf K t) (gsOf K ts)
end
section
variable {K : PySem.W.Frag} {mg : Str → Option Value} {cn : Cn} {cl : Nat → List D → Sto → Out D} {k : Nat} {W : WX} {X : Cx}
theorem asg_cons {e : Expr} {es : List Expr} {env : PySem.Env} (h : noStar e = true) : assignEach (e :: es) env = (false, assign e env) :: assignEach es env := by
  cases e <;> first | rfl | (simp [noStar] at h)
theorem mGs_facts {okN : Str → Bool} {N : List Str} {env : PySem.Env} : ∀ {ts : List Tg} {es : List Expr}, mGs okN N ts es = true → (assignEach es env).length = ts.length ∧ (assignEach es env).findIdx? (·.1) = none
  | [], es, h => by
    cases es with
    | nil => exact ⟨rfl, rfl⟩
    | cons e es => simp [mGs] at h
  | t :: ts, es, h => by
    cases es with
    | nil => simp [mGs] at h
    | cons e es =>
      simp only [mGs, Bool.and_eq_true] at h
      obtain ⟨a, b⟩ := mGs_facts (env := env) h.2
      rw [asg_cons h.1.2]
      refine ⟨by simp [a], ?_⟩
      simp [List.findIdx?_cons, b]
mutual
theorem pg_of {okN : Str → Bool} {N : List Str} (hN : X.N = N) (nd : X.N.Nodup) (hc : X.calm = true) (hok : ∀ x, okN x = true → Loc X.env.scope x ∧ (X.fn x = true ∨ X.env.scope.names.lookup x = some .local)) :
    ∀ (t : Tg) (e : Expr), mG okN N t e = true → PG X e (gOf X.K t)
  | .n i, e, h => by
    cases e with
    | Name x p =>
      simp only [mG, Bool.and_eq_true, decide_eq_true_eq] at h
      simp only [gOf]
      obtain ⟨a, b⟩ := hok x h.2
      exact pg_name nd (by rw [hN]; exact h.1) a b
    | _ => simp [mG] at h
  | .t ts, e, h => by
    cases e with
    | Tuple es kk p =>
      simp only [mG] at h
      simp only [gOf]
      obtain ⟨a, b⟩ := mGs_facts (env := X.env) h
      exact pg_tup hc (pgs_of hN nd hc hok ts es h) a b
    | _ => simp [mG] at h
theorem pgs_of {okN : Str → Bool} {N : List Str} (hN : X.N = N) (nd : X.N.Nodup) (hc : X.calm = true) (hok : ∀ x, okN x = true → Loc X.env.scope x ∧ (X.fn x = true ∨ X.env.scope.names.lookup x = some .local)) :
    ∀ (ts : List Tg) (es : List Expr), mGs okN N ts es = true → PGs X es (gsOf X.K ts)
  | [], es, h => by
    cases es with
    | nil => simp only [gsOf]; exact pgs_nil
    | cons e es => simp [mGs] at h
  | t :: ts, es, h => by
    cases es with
    | nil => simp [mGs] at h
    | cons e es =>
      simp only [mGs, Bool.and_eq_true] at h
      simp only [gsOf]
      exact pgs_cons (pg_of hN nd hc hok t e h.1.1) (pgs_of hN nd hc hok ts es h.2) (by rw [asg_cons h.1.2]; rfl)
end
theorem wipe_get {σ : L2.St} {j : Nat} : ∀ {vs : List Nat}, (wipe σ vs)[j]? = if j ∈ vs then (σ[j]?).map (fun _ => none) else σ[j]?
  | [] => by simp [wipe]
  | v :: vs => by
    simp only [wipe]
    by_cases hv : v = j
    · subst hv
      rw [List.getElem?_set]
      simp only [if_true, List.mem_cons, true_or]
      rw [wipe_length]
      by_cases hl : v < σ.length
      · rw [if_pos hl, List.getElem?_eq_getElem hl]; rfl
      · rw [if_neg hl, List.getElem?_eq_none (by omega)]; rfl
    · rw [List.getElem?_set_ne hv, wipe_get]
      by_cases hj : j ∈ vs
      · simp [hj]
      · have : ¬ j = v := fun e => hv e.symm
        simp [hj, this]
theorem wipeE_len {ε : Env} : ∀ {vs : List Nat}, (wipeE ε vs).length = ε.length
  | [] => rfl
  | v :: vs => by simp only [wipeE, List.length_set]; exact wipeE_len
theorem wipeE_get {σ : Env} {j : Nat} : ∀ {vs : List Nat}, (wipeE σ vs)[j]? = if j ∈ vs then (σ[j]?).map (fun _ => none) else σ[j]?
  | [] => by simp [wipeE]
  | v :: vs => by
    simp only [wipeE]
    by_cases hv : v = j
    · subst hv
      rw [List.getElem?_set]
      simp only [if_true, List.mem_cons, true_or]
      rw [wipeE_len]
      by_cases hl : v < σ.length
      · rw [if_pos hl, List.getElem?_eq_getElem hl]; rfl
      · rw [if_neg hl, List.getElem?_eq_none (by omega)]; rfl
    · rw [List.getElem?_set_ne hv, wipeE_get]
      by_cases hj : j ∈ vs
      · simp [hj]
      · have : ¬ j = v := fun e => hv e.symm
        simp [hj, this]
theorem wipe_set {σ : L2.St} {i : Nat} {x : Option V} {vs : List Nat} (h : i ∈ vs) : wipe (σ.set i x) vs = wipe σ vs := by
  apply List.ext_getElem?
  intro j
  rw [wipe_get, wipe_get]
  by_cases hj : j ∈ vs
  · rw [if_pos hj, if_pos hj]
    by_cases e : i = j
    · subst e
      rw [List.getElem?_set]
      simp only [if_true]
      by_cases hl : i < σ.length
      · rw [if_pos hl, List.getElem?_eq_getElem hl]; rfl
      · rw [if_neg hl, List.getElem?_eq_none (by omega)]
    · rw [List.getElem?_set_ne e]
  · rw [if_neg hj, if_neg hj]
    have e : i ≠ j := fun z => hj (z ▸ h)
    rw [List.getElem?_set_ne e]
theorem Rs.wipe {ρ : List Addr} {H : Hp} {ε : Env} {σ : L2.St} (h : Rs K ρ H ε σ) (vs : List Nat) : Rs K ρ H (wipeE ε vs) (L2.wipe σ vs) := by
  refine ⟨by rw [wipeE_len, wipe_length]; exact h.1, fun i d e => ?_⟩
  rw [wipeE_get] at e
  by_cases hj : i ∈ vs
  · rw [if_pos hj] at e
    cases q : ε[i]? with
    | none => rw [q] at e; cases e
    | some z => rw [q] at e; cases e
  · rw [if_neg hj] at e
    obtain ⟨v, e1, r⟩ := h.2 i d e
    exact ⟨v, by rw [wipe_get, if_neg hj]; exact e1, r⟩
theorem Rs.set {ρ : List Addr} {H : Hp} {ε : Env} {σ : L2.St} {i : Nat} {d : D} {v : V} (h : Rs K ρ H ε σ) (hi : i < ε.length) (r : RV K ρ H d v) : Rs K ρ H (ε.set i (some d)) (σ.set i (some v)) := by
  refine ⟨by simp [h.1], fun j d' e => ?_⟩
  by_cases hj : i = j
  · subst hj
    rw [List.getElem?_set, if_pos rfl, if_pos hi] at e
    cases e
    exact ⟨v, by rw [List.getElem?_set, if_pos rfl, if_pos (by rw [← h.1]; exact hi)], r⟩
  · rw [List.getElem?_set_ne hj] at e
    obtain ⟨v', e1, r1⟩ := h.2 j d' e
    exact ⟨v', by rw [List.getElem?_set_ne hj]; exact e1, r1⟩
mutual
theorem tg_ok {ρ : List Addr} {H : Hp} : ∀ (t : Tg) (d : D) (v : V) (ε ε' : Env) (σ : L2.St) (Q : L2.St → Hp → Prop), tgS t d ε = some ε' → RV K ρ H d v → Rs K ρ H ε σ →
    (∀ σ', Rs K ρ H ε' σ' → (∀ vs, tgIn vs t = true → wipe σ' vs = wipe σ vs) → Q σ' H) → gOf K t v σ H Q
  | .n i, d, v, ε, ε', σ, Q, e, r, hs, q => by
    simp only [tgS] at e
    split at e
    · rename_i hi
      cases e
      simp only [gOf]
      exact q _ (hs.set hi r) fun vs h => by
        simp only [tgIn, decide_eq_true_eq] at h
        exact wipe_set h
    · cases e
  | .t ts, d, v, ε, ε', σ, Q, e, r, hs, q => by
    simp only [tgS] at e
    split at e
    · rename_i ds
      obtain ⟨a, vs, rfl, sq, t⟩ := r.tup
      simp only [gOf]
      have hl : ds.length = ts.length := tgs_len ts ds ε ε' e
      exact ⟨a, vs, rfl, sq, by rw [← t.len, hl], tgs_ok ts ds vs ε ε' σ Q e t hs fun σ' h1 h2 => q σ' h1 fun ws hw => h2 ws (by simpa only [tgIn] using hw)⟩
    · cases e
theorem tgs_len : ∀ (ts : List Tg) (ds : List D) (ε ε' : Env), tgsS ts ds ε = some ε' → ds.length = ts.length
  | [], [], ε, ε', e => rfl
  | [], _ :: _, ε, ε', e => by simp [tgsS] at e
  | _ :: _, [], ε, ε', e => by simp [tgsS] at e
  | t :: ts, d :: ds, ε, ε', e => by
    simp only [tgsS] at e
    split at e
    · rename_i ε1 e1
      simp [tgs_len ts ds ε1 ε' e]
    · cases e
theorem tgs_ok {ρ : List Addr} {H : Hp} : ∀ (ts : List Tg) (ds : List D) (vs : List V) (ε ε' : Env) (σ : L2.St) (Q : L2.St → Hp → Prop), tgsS ts ds ε = some ε' → RVs K ρ H ds vs → Rs K ρ H ε σ →
    (∀ σ', Rs K ρ H ε' σ' → (∀ ws, tgsIn ws ts = true → wipe σ' ws = wipe σ ws) → Q σ' H) → gsOf K ts vs σ H Q
  | [], [], vs, ε, ε', σ, Q, e, r, hs, q => by
    simp only [RVs] at r; subst r
    simp only [tgsS] at e; cases e
    simp only [gsOf]
    exact ⟨rfl, q σ hs fun _ _ => rfl⟩
  | [], _ :: _, _, ε, ε', _, _, e, _, _, _ => by simp [tgsS] at e
  | _ :: _, [], _, ε, ε', _, _, e, _, _, _ => by simp [tgsS] at e
  | t :: ts, d :: ds, vs, ε, ε', σ, Q, e, r, hs, q => by
    simp only [tgsS] at e
    split at e
    · rename_i ε1 e1
      obtain ⟨v, vr, rfl, rv, rr⟩ := r.uncons
      simp only [gsOf]
      refine ⟨v, vr, rfl, tg_ok t d v ε ε1 σ _ e1 rv hs fun σ1 h1 w1 => tgs_ok ts ds vr ε1 ε' σ1 Q e rr h1 fun σ2 h2 w2 => q σ2 h2 fun ws hw => ?_⟩
      simp only [tgsIn, Bool.and_eq_true] at hw
      rw [w2 ws hw.2, w1 ws hw.1]
    · cases e
end
/-! ## a comprehension -/
theorem Rp.other {ρ : List Addr} {S : Sto} {H : Hp} {p : Addr} {u o : HO} (h : Rp K ρ S H) (hp : p ∉ ρ) (hu : H p = some u) (n1 : ∀ xs, u ≠ .tup xs) (n2 : ∀ o x, u ≠ .frz o x) (n3 : ∀ fs, u ≠ .xd fs) : Rp K ρ S (upd H p o) :=
  ⟨h.len, h.nd, fun i a x e1 e2 => (h.obj i a x e1 e2).mono (pre_refl _) (Kp.put hu n1 n2 n3) fun u e _ => by
    have hne : a ≠ p := fun z => hp (z ▸ List.mem_of_getElem? e1)
    rw [upd_ne hne]; exact e, h.ord⟩
theorem Rp.adopt {ρ : List Addr} {S : Sto} {H : Hp} {p : Addr} {o : O} (h : Rp K ρ S H) (hp : p ∉ ρ) (ro : RO K ρ H o p) : Rp K (ρ ++ [p]) (S ++ [o]) H := by
  have pre : ρ <+: ρ ++ [p] := ⟨[p], rfl⟩
  refine ⟨by simp [h.len], ?_, fun i a x e1 e2 => ?_, fun i x e => ?_⟩
  · rw [List.nodup_append]
    refine ⟨h.nd, by simp, fun a ha b hb => ?_⟩
    have e : b = p := by simpa using hb
    subst e
    intro z
    subst z
    exact hp ha
  · by_cases hi : i < S.length
    · rw [List.getElem?_append_left (by rw [h.len]; exact hi)] at e1
      rw [List.getElem?_append_left hi] at e2
      exact (h.obj i a x e1 e2).mono pre Kp.refl fun u e _ => e
    · have hi' : i = S.length := by
        have := (List.getElem?_eq_some_iff.mp e2).1
        simp at this
        omega
      subst hi'
      have e1' : a = p := by rw [← h.len] at e1; simpa using e1.symm
      have e2' : x = o := by simpa using e2.symm
      subst e1' e2'
      exact ro.mono pre Kp.refl fun u e _ => e
  · by_cases hi : i < S.length
    · rw [List.getElem?_append_left hi] at e
      exact h.ord i x e
    · have hi' : i = S.length := by
        have := (List.getElem?_eq_some_iff.mp e).1
        simp at this
        omega
      subst hi'
      have e2' : x = o := by simpa using e.symm
      subst e2'
      rw [← h.len]; exact ro.lt
theorem lcLoop_noexc {gs : List (Nat × O)} {tgt : D → Option Env} {fc : Env → Sto → Out Bool} {fe : Env → Sto → Out D} : ∀ (ds : List D) (S : Sto) (c : Str) (v : Option (Str × D)) (S1 : Sto), lcLoop gs tgt fc fe ds S ≠ .exc c v S1
  | [], S, c, v, S1 => by
    simp only [lcLoop]
    split <;> simp
  | d :: r, S, c, v, S1 => by
    simp only [lcLoop]
    split
    · split
      · simp
      · rename_i ε _
        cases e1 : fc ε S with
        | ok b S2 =>
          simp only [noX, Out.bind_ok]
          split
          · cases e2 : fe ε S2 with
            | ok y S3 =>
              simp only [Out.bind_ok]
              cases e3 : lcLoop gs tgt fc fe r S3 with
              | ok ys S4 => simp
              | exc c' v' S4 => exact absurd e3 (lcLoop_noexc r S3 c' v' S4)
              | bad => simp
            | exc c' v' S3 => simp
            | bad => simp
          · exact lcLoop_noexc r S2 c v S1
        | exc c' v' S2 => simp [noX]
        | bad => simp [noX]
    · simp
end
end GG
namespace GG
open PySem PySem.Spec PyProof.Rows L2
section
variable {cn : Cn} {cl : Nat → List D → Sto → Out D} {k : Nat} {W : WX} {X : Cx}
abbrev W0 : WX := fun _ _ _ _ => False
def lcFin (acc ys : List D) (S : Sto) : Out D := if (acc ++ ys).length ≤ sizeLine then .ok (.loc S.length) (S ++ [.lst (acc ++ ys)]) else .bad
theorem lc_imp {own : List Nat} {tg : Tg} {fi : Env → Sto → Out Its} {fc : Env → Sto → Out Bool} {fe : Env → Sto → Out D} (hin : tgIn own tg = true) (σ : L2.St) (H : Hp) (Q : VK)
    (q : TF X.K X.mg W (fun ε S => (fi ε S).bind fun p S1 =>
      (lcLoop p.2 (fun d => tgS tg d (wipeE ε own)) fc fe p.1 S1).bind fun ys S2 => if ys.length ≤ sizeLine then .ok (.loc S2.length) (S2 ++ [.lst ys]) else .bad) σ H Q) :
    tLc (TFi X.K X.mg W fi) (gOf X.K tg) (TFt X.K X.mg W0 fc) (TF X.K X.mg W0 fe) own σ H Q := by
  obtain ⟨ρ, ε, S, rs, rp, q⟩ := q
  refine ⟨ρ, ε, S, rs, rp, q.seq fun ρ1 J H1 p S1 sx1 rp1 wk q1 => fun D hD => ?_⟩
  have rs1 : Rs X.K ρ1 H1 (wipeE ε own) (wipe σ own) := (rs.mono sx1.pre sx1.kp).wipe own
  refine ⟨fun i m H => m = p.1.length - i ∧ i ≤ p.1.length ∧ ∃ ρ2 S2 acc vacc, Sx ρ1 H1 ρ2 H ∧ D ∉ ρ2 ∧ Rp X.K ρ2 S2 H ∧ H D = some (.lst vacc) ∧ RVs X.K ρ2 H acc vacc ∧
    Post X.K X.mg (RV X.K) (XW W σ) ρ1 H1 ((lcLoop p.2 (fun d => tgS tg d (wipeE ε own)) fc fe (p.1.drop i) S2).bind (lcFin acc)) Q, ⟨p.1.length, by simp, Nat.zero_le _, ρ1, S1, [], [], Sx.fresh hD, ?_, rp1.fresh hD, upd_same, RVs.nil, ?_⟩, ?_⟩
  · intro z
    obtain ⟨i, hi⟩ := List.getElem?_of_mem z
    obtain ⟨u, e⟩ := rp1.dom hi
    rw [hD] at e; cases e
  · exact q1
  · rintro i m H2 ⟨rfl, hle, ρ2, S2, acc, vacc, sx2, nD, rp2, hD2, racc, q2⟩
    have hD1 : ∀ b u, H1 b = some u → b ≠ D := fun b u e => ne_of_none e hD
    by_cases hlt : i < p.1.length
    · -- a turn
      have ed : p.1[i]? = some p.1[i] := List.getElem?_eq_getElem hlt
      rw [List.drop_eq_getElem_cons hlt] at q2
      simp only [lcLoop] at q2
      split at q2
      · rename_i hck
        split at q2
        · exact q2.elim
        · rename_i ε1 et
          refine .inr ⟨wk.go ρ2 S2 H2 i _ sx2.pre sx2.kp rp2 hck ed, fun H' => (fun i m H => m = p.1.length - i ∧ i ≤ p.1.length ∧ ∃ ρ2 S2 acc vacc, Sx ρ1 H1 ρ2 H ∧ D ∉ ρ2 ∧ Rp X.K ρ2 S2 H ∧ H D = some (.lst vacc) ∧ RVs X.K ρ2 H acc vacc ∧
            Post X.K X.mg (RV X.K) (XW W σ) ρ1 H1 ((lcLoop p.2 (fun d => tgS tg d (wipeE ε own)) fc fe (p.1.drop i) S2).bind (lcFin acc)) Q) (i + 1) (p.1.length - (i + 1)) H', fun H' h' => ⟨p.1.length - (i + 1), by omega, h'⟩, fun x H3 hy => ?_⟩
          obtain ⟨kp3, rp3, rv3, fr3⟩ := wk.yld ρ2 S2 H2 i _ x H3 sx2.pre sx2.kp rp2 hck ed hy
          have sx23 : Sx ρ2 H2 ρ2 H3 := ⟨pre_refl _, kp3, fun b u e n => ⟨fr3 b u e, n⟩⟩
          have sx3 : Sx ρ1 H1 ρ2 H3 := sx2.trans sx23
          have rs3 : Rs X.K ρ2 H3 (wipeE ε own) (wipe σ own) := rs1.mono sx3.pre sx3.kp
          refine tg_ok tg _ x _ ε1 _ _ et rv3 rs3 fun σ1 rs4 hw => ⟨?_, ?_⟩
          · rw [hw own hin]
            apply List.ext_getElem?
            intro j
            rw [wipe_get]
            by_cases hj : j ∈ own
            · rw [if_pos hj, wipe_get, if_pos hj]
              cases σ[j]? <;> rfl
            · rw [if_neg hj]
          · refine ⟨ρ2, ε1, S2, rs4, rp3, ?_⟩
            cases e1 : fc ε1 S2 with
            | bad => rw [e1] at q2; exact q2.elim
            | exc c v S3 => rw [e1] at q2; exact q2.elim
            | ok b S3 =>
              rw [e1] at q2
              simp only [noX, Out.bind_ok] at q2
              intro ρ3 b' H4 sx4 rp4 eb
              have eb' : b' = b := eb
              subst eb'
              have hD4 := sx4.fm D _ (fr3 D _ hD2) nD
              have rs5 := rs4.mono sx4.pre sx4.kp
              cases b' with
              | false =>
                rw [if_neg Bool.false_ne_true] at q2 ⊢
                exact ⟨rfl, hlt, ρ3, S3, acc, vacc, sx3.trans sx4, hD4.2, rp4, hD4.1, (racc.mono sx23.pre sx23.kp).mono sx4.pre sx4.kp, q2⟩
              | true =>
                rw [if_pos rfl] at q2 ⊢
                refine ⟨ρ3, ε1, S3, rs5, rp4, ?_⟩
                cases e2 : fe ε1 S3 with
                | bad => rw [e2] at q2; exact q2.elim
                | exc c v S4 => rw [e2] at q2; exact q2.elim
                | ok y S4 =>
                  rw [e2] at q2
                  simp only [noX, Out.bind_ok] at q2
                  intro ρ4 vy H5 sx5 rp5 ry
                  have hD5 := sx5.fm D _ hD4.1 hD4.2
                  have sx45 := sx4.trans sx5
                  have racc5 := ((racc.mono sx23.pre sx23.kp).mono sx45.pre sx45.kp)
                  have kpD : Kp H5 (upd H5 D (.lst (vacc ++ [vy]))) := Kp.put hD5.1 (fun _ z => nomatch z) (fun _ _ z => nomatch z) (fun _ z => nomatch z)
                  cases e3 : lcLoop p.2 (fun d => tgS tg d (wipeE ε own)) fc fe (p.1.drop (i + 1)) S4 with
                  | bad => rw [e3] at q2; exact q2.elim
                  | exc c v S5 => exact absurd e3 (lcLoop_noexc _ _ _ _ _)
                  | ok ys S5 =>
                    rw [e3] at q2
                    simp only [Out.bind_ok, lcFin] at q2
                    have hlen : (acc ++ y :: ys).length ≤ sizeLine := by
                      by_cases h : (acc ++ y :: ys).length ≤ sizeLine
                      · exact h
                      · rw [if_neg h] at q2; exact q2.elim
                    have ra := racc.len
                    refine ⟨vacc, hD5.1, ?_, ?_⟩
                    · rw [← ra]
                      simp only [List.length_append, List.length_cons] at hlen
                      omega
                    · refine ⟨rfl, hlt, ρ4, S4, acc ++ [y], vacc ++ [vy], ?_, hD5.2, rp5.other hD5.2 hD5.1 (fun _ z => nomatch z) (fun _ _ z => nomatch z) (fun _ z => nomatch z), upd_same, (racc5.append (.one ry)).mono (pre_refl _) kpD, ?_⟩
                      · have s15 := sx3.trans sx45
                        exact ⟨s15.pre, s15.kp.trans kpD, fun b u e n => ⟨by rw [upd_ne (hD1 b u e)]; exact (s15.fm b u e n).1, (s15.fm b u e n).2⟩⟩
                      · rw [e3]
                        simp only [Out.bind_ok, lcFin, List.append_assoc, List.cons_append, List.nil_append]
                        exact q2
      · exact q2.elim
    · have hii : i = p.1.length := by omega
      subst hii
      rw [List.drop_length] at q2
      simp only [lcLoop] at q2
      split at q2
      · rename_i hck
        simp only [Out.bind_ok, lcFin, List.append_nil] at q2
        refine .inl ⟨wk.stop ρ2 S2 H2 sx2.pre sx2.kp rp2 hck, ?_⟩
        split at q2
        · refine q2 (ρ2 ++ [D]) (.ref D) H2 ⟨sx2.pre.trans ⟨[D], rfl⟩, sx2.kp, fun b u e n => ⟨(sx2.fm b u e n).1, ?_⟩⟩ (rp2.adopt nD ⟨vacc, hD2, racc⟩) (.mkLoc ?_)
          · simp only [List.mem_append, List.mem_singleton, not_or]
            exact ⟨(sx2.fm b u e n).2, hD1 b u e⟩
          · rw [← rp2.len]; simp
        · exact q2.elim
      · exact q2.elim
theorem pe_lcG {el t it : Expr} {fs : List Expr} {scope : Scope} {pos : Pos} {own : List Nat} {tg : Tg} {fi : Env → Sto → Out Its} {fc : Env → Sto → Out Bool} {fe : Env → Sto → Out D}
    (hc : X.calm = true) (hN : X.N.Nodup) (hi : PI X t it (TFi X.K X.mg W fi)) (ok : BlkOk X.N X.env.scope scope (ownOf X.N own)) (hin : tgIn own tg = true)
    (hg : ∀ (s : Shared) (H : Hp) (C : Addr) (c : List (Str × Addr)) (fp : List Addr), PG (X.blk s H scope (compEnvC scope c C X.env) fp) t (gOf X.K tg))
    (ht : ∀ (s : Shared) (H : Hp) (C : Addr) (c : List (Str × Addr)) (fp : List Addr), PTs (X.blk s H scope (compEnvC scope c C X.env) fp) fs (TFt X.K X.mg W0 fc))
    (he : ∀ (s : Shared) (H : Hp) (C : Addr) (c : List (Str × Addr)) (fp : List Addr), PE (X.blk s H scope (compEnvC scope c C X.env) fp) el (TF X.K X.mg W0 fe)) (hs : ∀ x, foldedSetIterable it X.env x = pure x) :
    PE X (.ListComp el [⟨t, it, fs, 0⟩] scope pos) (TF X.K X.mg W fun ε S => (fi ε S).bind fun p S1 =>
      (lcLoop p.2 (fun d => tgS tg d (wipeE ε own)) fc fe p.1 S1).bind fun ys S2 => if ys.length ≤ sizeLine then .ok (.loc S2.length) (S2 ++ [.lst ys]) else .bad) := by
  have eown : (ownOf X.N own).map (·.2) = own := by
    unfold ownOf
    rw [List.map_map]
    exact List.map_id' _
  have base := pe_lc (pos := pos) hc hN hi ok hg ht he hs
  rw [eown] at base
  exact PE.imp base fun σ H Q q => lc_imp hin σ H Q q
end
end GG
namespace GG
open PySem PySem.Spec PyProof.Rows L2
/-! ## enumerate over a tuple -/
set_option maxHeartbeats 1000000 in
theorem meets_enum1 {v : Value} {ob : Obj} {B : Heap → Prop} (bg : Begins v ob B) :
    Meets (Builtin.«enumerate.__new__» ⟨[.type "enumerate", v], []⟩) (fun _ R s => B s.heap ∧
      R (.ok (.ret (.ref (s.heap.push ob).objs.size))) { s with heap := (s.heap.push ob).push { cls := .type "enumerate", data := .fields #[.none, .bool false, .ref s.heap.objs.size, rawInt 0, .none, .none] } }) :=
  .of_wp fun prog w A R s h => by
    obtain ⟨hp, g, d, tk, os⟩ := s; obtain ⟨h1, h⟩ := h; have hsub := sub_enumerate
    have q1 : ∀ {A' : Around} {E : Value → Shared → Prop} {Q : Value → Shared → Prop}, Q (.ref hp.objs.size) ⟨hp.push ob, g, d, tk, os⟩ → wpAny (model prog w) A' (pyIter v) Q E ⟨hp, g, d, tk, os⟩ := fun q => bg.iter prog w _ _ ⟨hp, g, d, tk, os⟩ _ h1 q
    wp_walk using q1
    refine wpAny_stack_any fun st => wpAny_pure ?_
    split
    · rename_i c _ _ _ _ _
      cases (c == Value.type "enumerate") <;> (wp_walk using q1; exact ⟨_, rfl, h⟩)
    · wp_walk using q1; exact ⟨_, rfl, h⟩
section
variable {prog : Program} {w : World} {A : Around} {E : Value → Shared → Prop} {s : Shared}
theorem call_enum1 {v : Value} {ob : Obj} {B : Heap → Prop} {Q : Value → Shared → Prop} (bg : Begins v ob B) (hb : B s.heap)
    (h : ∀ h', IsEnum h' (s.heap.objs.size + 1) s.heap.objs.size 0 .none → h'.get? s.heap.objs.size = some ob → (∀ b o, s.heap.get? b = some o → h'.get? b = some o) → Q (.ref (s.heap.objs.size + 1)) { s with heap := h' }) :
    wpAny (model prog w) A (call (.type "enumerate") [v]) Q E s := by
  refine callType_new F.called_enumerate (by decide) (F.typeCall_enumerate_1 _) (F.newCall_enumerate_1 _) (fun obj => F.args_object_init_2 obj _) F.entry_enumerate_new (meets_enum1 bg) ⟨hb, ?_⟩
  have sz : (s.heap.push ob).objs.size = s.heap.objs.size + 1 := Heap.size_push ..
  show _ ∧ _
  rw [sz]
  have en : IsEnum ((s.heap.push ob).push { cls := .type "enumerate", data := .fields #[.none, .bool false, .ref s.heap.objs.size, rawInt 0, .none, .none] }) (s.heap.objs.size + 1) s.heap.objs.size 0 .none := by
    have z := Heap.get?_push_size (s.heap.push ob) (o := { cls := .type "enumerate", data := .fields #[.none, .bool false, .ref s.heap.objs.size, rawInt 0, .none, .none] }) rfl
    rw [sz] at z; exact z
  exact ⟨⟨_, en, rfl⟩, h _ en (Heap.get?_push_of_some _ (Heap.get?_push_size _ bg.free)) fun b o x => Heap.get?_push_of_some _ (Heap.get?_push_of_some _ x)⟩
end
/-- the tuple at a, its items in new pairs -/
def IteT (K : PySem.W.Frag) (a : Addr) : It :=
  ⟨fun i H => ∃ (xs : List V) (x : V), SqT K H a xs ∧ xs[i]? = some x, fun i H v H' => ∃ T x, v = .ref T ∧ H T = none ∧ H' = upd H T (.tup [.int (i : Nat), x]) ∧ ∀ xs, SqT K H a xs → xs[i]? = some x, fun i H => ∃ xs : List V, SqT K H a xs ∧ i = xs.length⟩
theorem turn_enumT {P : Program} {w : World} {K : PySem.W.Frag} {elts : List Expr} {kk : Nat} {tpos : Pos} (a e it : Addr) :
    Turn P w K (.Tuple elts kk tpos) (IteT K a) [e, it] e (fun i h => (∃ old, IsEnum h e it ((i : Nat) : Int) old) ∧ h.IsTupleIter it a i ∧ e ≠ it) where
  mem := by simp
  obj := fun i h st b hb => by
    obtain ⟨⟨old, he⟩, ⟨o, ho, hc, hd⟩, _⟩ := st
    rcases (show b = e ∨ b = it by simpa using hb) with z | z <;> rw [z]
    · exact ⟨_, he, fun v q => nomatch q⟩
    · exact ⟨o, ho, fun v q => by rw [hd] at q; cases q⟩
  keep := fun i h h' st k => let ⟨⟨old, he⟩, hi, hne⟩ := st; ⟨⟨old, k e (by simp) _ he⟩, hi.at fun o q => k it (by simp) o q, hne⟩
  item := by
    intro X hP hw hK hc i pins s σ H E I hf st hg
    subst hP hw hK
    obtain ⟨⟨old, he⟩, hit, hne⟩ := st
    obtain ⟨xs, x, hq, hx⟩ := hg
    obtain ⟨its, rv, p, hz⟩ := I.tuple hq
    obtain ⟨u, hu, ru⟩ := rv.get hx
    have hel : e < s.heap.objs.size := Heap.lt_size he
    have hil : it < s.heap.objs.size := by obtain ⟨_, q, _⟩ := hit; exact Heap.lt_size q
    have p2 : s.heap.IsTuple a its.toArray := p
    have ne1 : a ≠ it := fun z => by
      obtain ⟨o, e1, c1, _⟩ := hit
      obtain ⟨o', e2, c2, _⟩ := p2
      rw [z, e1] at e2; cases e2; rw [c1] at c2; simp at c2
    have ne2 : e ≠ a := fun z => by
      obtain ⟨o', e2, c2, _⟩ := p2
      have he' := he
      unfold IsEnum at he'
      rw [z, e2] at he'; cases he'; simp at c2
    have lt : i < its.toArray.size := by rw [List.size_toArray]; exact (List.getElem?_eq_some_iff.mp hu).1
    refine wpAny_pyNext_enum_itemD (Draws.tuple (prog := X.prog) (w := X.w) (A := X.A.in1) (I.ok.hd hc) it a ne1 its.toArray) he ⟨hit, p2⟩ lt hne (by simp [hne, ne2]) fun y h' tk hy ho st' hT hsz hk => ?_
    have ey : y = u := by
      have hy2 : its.toArray[i]? = some y := hy
      rw [List.getElem?_toArray, hu] at hy2; cases hy2; rfl
    subst ey
    refine ⟨_, rfl, wpAny_letOwnedTupleGo_enum (s := { s with heap := h', toks := tk + 1 }) ho fun h'' he' sb => ?_⟩
    have hT2 : h''.get? s.heap.objs.size = some { cls := .type "tuple", data := .seq #[.int i tk, y] } := (sb.2 _ (Nat.ne_of_gt hel)).trans hT
    have new : ObjOk X.prog X.w (upd H s.heap.objs.size (.tup [.int (i : Nat), x])) h'' s.heap.objs.size (.tup [.int (i : Nat), x]) :=
      ⟨by show 2 ≤ sizeLine; decide, [.int i tk, y], .cons ⟨_, rfl⟩ (.cons ru .nil), ⟨_, hT2, rfl, _, rfl⟩⟩
    have I1 : Inv X pins σ (upd H s.heap.objs.size (.tup [.int (i : Nat), x])) { s with heap := h'', toks := tk + 1 } :=
      I.turnedNew (ch := [e, it]) (fun b ob hb q => (sb.2 b (fun z => hb (by simp [z]))).trans (hk b ob (fun z => hb (by simp [z])) (fun z => hb (by simp [z])) q)) hf (Nat.le_refl _) new
    refine ⟨.ref s.heap.objs.size, _, I1, rfl, ⟨_, x, rfl, I.hok.fresh (Nat.le_refl _), rfl, fun ys hy => by rw [I.tuple_inj hy hq]; exact hx⟩, ⟨⟨y, ?_⟩, st'.1.at fun o q => (sb.2 it (Ne.symm hne)).trans q, hne⟩, fun b hb => ?_⟩
    · rw [show ((i + 1 : Nat) : Int) = (i : Int) + 1 by omega]; exact he'
    · have hb' : b < s.heap.objs.size := by
        rcases (show b = e ∨ b = it by simpa using hb) with z | z <;> rw [z]
        · exact hel
        · exact hil
      rw [upd_ne (Nat.ne_of_lt hb')]
      exact (hf b hb).1
  done := by
    intro X hP hw hK hc i pins s σ H E I hf st hg
    subst hP hw hK
    obtain ⟨⟨old, he⟩, hit, hne⟩ := st
    obtain ⟨xs, hq, hx⟩ := hg
    obtain ⟨its, rv, p, hz⟩ := I.tuple hq
    obtain ⟨f0, f1, f2, f3, f4, f5⟩ := hf it (by simp)
    have hl := rv.length
    have p2 : s.heap.IsTuple a its.toArray := p
    have ne1 : a ≠ it := fun z => by
      obtain ⟨o, e1, c1, _⟩ := hit
      obtain ⟨o', e2, c2, _⟩ := p2
      rw [z, e1] at e2; cases e2; rw [c1] at c2; simp at c2
    have hi : i = its.toArray.size := by rw [List.size_toArray]; omega
    rw [hi] at hit
    exact wpAny_pyNext_enum_endD (Draws.tuple (prog := X.prog) (w := X.w) (A := X.A.in1) (I.ok.hd hc) it a ne1 its.toArray) he ⟨hit, p2⟩ fun h' eb => ⟨rfl, I.turned (t' := s.toks) (fun b o hb q => eb b o hb q) f0 f1 f3 f4 f5⟩
  self := fun A i s Q E st h => let ⟨⟨_, he⟩, _⟩ := st; wpAny_pyIter_enum he h
def iEnumA (K : PySem.W.Frag) (ta : TA) : TI := fun σ H R => ta σ H fun vs H1 => ∃ a xs, vs = [.ref a] ∧ ((SqL K H1 a xs ∧ R (Ite K a) H1) ∨ (SqT K H1 a xs ∧ R (IteT K a) H1))
theorem pi_enumA {X : Cx} {e : Expr} {ta : TA} {p pos tpos : Pos} {elts : List Expr} {kk : Nat} (hg : Gl X "enumerate") (hm : X.mg "enumerate" = none) (ha : PA X [e] ta) (hs : starEach [e] X.env = [(false, eval e X.env)] := by rfl) :
    PI X (.Tuple elts kk tpos) (.Call (.Name "enumerate" p) [e] [] pos) (iEnumA X.K ta) := by
  refine ⟨fun pins s σ H R I h => ?_⟩
  refine Call_ (ld_blt I hg hm boot_enumerate (PyProof.Rows.callWith_type1 (thn (ha.run pos pins s σ H _ I h) fun us s1 ⟨vs, H1, I1, r1, q1⟩ => ?_) hs rfl))
  obtain ⟨a, xs, ex, q⟩ := q1
  subst ex
  cases r1 with
  | cons r rr =>
    cases rr
    cases r
    have far : ∀ b ∈ [s1.heap.objs.size + 1, s1.heap.objs.size], FpOk X pins H1 b := fun b hb => by
      have hle : s1.heap.objs.size ≤ b := by
        rcases (show b = s1.heap.objs.size + 1 ∨ b = s1.heap.objs.size by simpa using hb) with z | z <;> rw [z]
        · exact Nat.le_add_right _ _
        · exact Nat.le_refl _
      exact I1.fpOk hle (I1.hok.fresh hle)
    rcases q with ⟨hq, q⟩ | ⟨hq, q⟩
    · obtain ⟨its, rv, p', hz⟩ := I1.list hq
      refine call_enum1 (begins_list a its.toArray) p'.isList fun h' he hit hk => wpAny_pyIter_enum he ?_
      exact ⟨s1.heap.objs.size + 1, _, _, _, H1, rfl, I1.kept (t' := s1.toks) hk, turn_enum a (s1.heap.objs.size + 1) s1.heap.objs.size, ⟨⟨.none, he⟩, ⟨_, hit, rfl, rfl⟩, Nat.succ_ne_self _⟩, far, q⟩
    · obtain ⟨its, rv, p', hz⟩ := I1.tuple hq
      refine call_enum1 (begins_tuple a its.toArray) p' fun h' he hit hk => wpAny_pyIter_enum he ?_
      exact ⟨s1.heap.objs.size + 1, _, _, _, H1, rfl, I1.kept (t' := s1.toks) hk, turn_enumT a (s1.heap.objs.size + 1) s1.heap.objs.size, ⟨⟨.none, he⟩, ⟨_, hit, rfl, rfl⟩, Nat.succ_ne_self _⟩, far, q⟩
end GG
namespace GG
open PySem PySem.Spec PyProof.Rows L2
/-! ## enumerate, zip -/
theorem pairUp_get : ∀ (ds : List D) (n i : Nat) (d : D), (pairUp n ds)[i]? = some d → ∃ x, ds[i]? = some x ∧ d = .tup [.int ((n + i : Nat) : Int), x]
  | [], n, i, d, e => by simp [pairUp] at e
  | a :: r, n, 0, d, e => by simp [pairUp] at e; exact ⟨a, rfl, by rw [← e]; rfl⟩
  | a :: r, n, i + 1, d, e => by
    simp only [pairUp, List.getElem?_cons_succ] at e
    obtain ⟨x, e1, e2⟩ := pairUp_get r (n + 1) i d e
    exact ⟨x, by simpa using e1, by rw [e2]; congr 3; omega⟩
theorem pairUp_len : ∀ (ds : List D) (n : Nat), (pairUp n ds).length = ds.length
  | [], n => rfl
  | a :: r, n => by simp [pairUp, pairUp_len r]
theorem zipUp_get : ∀ (xs ys : List D) (i : Nat) (d : D), (zipUp xs ys)[i]? = some d → ∃ x y, xs[i]? = some x ∧ ys[i]? = some y ∧ d = .tup [x, y]
  | [], ys, i, d, e => by simp [zipUp] at e
  | a :: r, [], i, d, e => by simp [zipUp] at e
  | a :: r, b :: t, 0, d, e => by simp [zipUp] at e; exact ⟨a, b, rfl, rfl, e.symm⟩
  | a :: r, b :: t, i + 1, d, e => by
    simp only [zipUp, List.getElem?_cons_succ] at e
    obtain ⟨x, y, e1, e2, e3⟩ := zipUp_get r t i d e
    exact ⟨x, y, by simpa using e1, by simpa using e2, e3⟩
theorem zipUp_len : ∀ (xs ys : List D), xs.length ≤ (zipUp xs ys).length ∨ ys.length ≤ (zipUp xs ys).length
  | [], ys => .inl (Nat.zero_le _)
  | a :: r, [] => .inr (Nat.zero_le _)
  | a :: r, b :: t => by
    simp only [zipUp, List.length_cons]
    rcases zipUp_len r t with h | h
    · exact .inl (by omega)
    · exact .inr (by omega)
section
variable {K : PySem.W.Frag} {mg : Str → Option Value} {W : WX}
/-- the list that is walked, as it stands at any turn -/
theorem wk_enum {ρ : List Addr} {H : Hp} {a : Addr} {ds : List D} {gs : List (Nat × O)}
    (at' : ∀ ρ' S H', ρ <+: ρ' → Kp H H' → Rp K ρ' S H' → chk gs S = true → ∃ vs, SqL K H' a vs ∧ RVs K ρ' H' ds vs) : Wk K ρ H (pairUp 0 ds, gs) (Ite K a) where
  go := fun ρ' S H' i d p k rp c e => by
    obtain ⟨vs, sq, t⟩ := at' ρ' S H' p k rp c
    obtain ⟨x, e1, _⟩ := pairUp_get ds 0 i d e
    obtain ⟨v, e2, _⟩ := t.get e1
    exact ⟨vs, v, sq, e2⟩
  stop := fun ρ' S H' p k rp c => by
    obtain ⟨vs, sq, t⟩ := at' ρ' S H' p k rp c
    exact ⟨vs, sq, by show vs.length ≤ (pairUp 0 ds).length; rw [pairUp_len, t.len]; exact Nat.le_refl _⟩
  yld := fun ρ' S H' i d x H2 p k rp c e y => by
    obtain ⟨T, z, rfl, hT, rfl, y⟩ := y
    obtain ⟨vs, sq, t⟩ := at' ρ' S H' p k rp c
    obtain ⟨x, e1, rfl⟩ := pairUp_get ds 0 i d e
    obtain ⟨v, e2, r⟩ := t.get e1
    have e3 := y vs sq
    rw [e2] at e3; cases e3
    refine ⟨Kp.fresh hT, rp.fresh hT, .mkTup (.inl (.inl upd_same)) (.cons ?_ (.one (r.mono (pre_refl _) (Kp.fresh hT)))), fun b u q => by rw [upd_ne (ne_of_none q hT)]; exact q⟩
    rw [Nat.zero_add]
    exact .mkInt _
theorem wk_enumT {ρ : List Addr} {H : Hp} {a : Addr} {ds : List D} {vs : List V} (sq : SqT K H a vs) (t : RVs K ρ H ds vs) : Wk K ρ H (pairUp 0 ds, []) (IteT K a) where
  go := fun ρ' S H' i d p k rp c e => by
    obtain ⟨x, e1, _⟩ := pairUp_get ds 0 i d e
    obtain ⟨v, e2, _⟩ := (t.mono p k).get e1
    exact ⟨vs, v, k.rdT sq, e2⟩
  stop := fun ρ' S H' p k rp c => ⟨vs, k.rdT sq, by show (pairUp 0 ds).length = vs.length; rw [pairUp_len, t.len]⟩
  yld := fun ρ' S H' i d x H2 p k rp c e y => by
    obtain ⟨T, z, rfl, hT, rfl, y⟩ := y
    obtain ⟨x, e1, rfl⟩ := pairUp_get ds 0 i d e
    obtain ⟨v, e2, r⟩ := (t.mono p k).get e1
    have e3 := y vs (k.rdT sq)
    rw [e2] at e3; cases e3
    refine ⟨Kp.fresh hT, rp.fresh hT, .mkTup (.inl (.inl upd_same)) (.cons ?_ (.one (r.mono (pre_refl _) (Kp.fresh hT)))), fun b u q => by rw [upd_ne (ne_of_none q hT)]; exact q⟩
    rw [Nat.zero_add]
    exact .mkInt _
theorem pi_enumG {X : Cx} {e t : Expr} {p pos : Pos} {fa : Env → Sto → Out D} (ht : isTup t = true) (hg : Gl X "enumerate") (hm : X.mg "enumerate" = none) (ha : PE X e (TF X.K mg W fa)) (hs : noStar e = true) :
    PI X t (.Call (.Name "enumerate" p) [e] [] pos) (TFi X.K mg W fun ε S => (fa ε S).bind iterN) := by
  cases t with
  | Tuple es kk tp =>
    have s1 : starEach [e] X.env = [(false, eval e X.env)] := star_cons hs
    refine PI.imp (pi_enumA hg hm (pa_cons ha pa_nil s1) s1) fun σ H R q => ?_
    obtain ⟨ρ, ε, S, hs, hp, q⟩ := q
    refine ⟨ρ, ε, S, hs, hp, q.seq fun ρ1 v H1 d S1 sx rp r q1 => ?_⟩
    unfold iterN at q1
    split at q1
    · obtain ⟨a, vs, rfl, sq, t⟩ := r.rol
      exact ⟨a, vs, rfl, .inl ⟨sq.sq, q1.here rp (wk_enum fun ρ' S H' p k rp c => ⟨vs, (sq.mono k).sq, t.mono p k⟩)⟩⟩
    · obtain ⟨a, vs, rfl, sq, t⟩ := r.tup
      exact ⟨a, vs, rfl, .inr ⟨sq, q1.here rp (wk_enumT sq t)⟩⟩
    · split at q1
      · rename_i ds e
        obtain ⟨a, ea, rfl⟩ := r.loc
        obtain ⟨vs, q, t⟩ := rp.lst ea e
        exact ⟨a, vs, rfl, .inl ⟨SqL.of q, q1.here rp (wk_enum fun ρ' S H' p k rp c => by
          obtain ⟨ws, q, t⟩ := rp.lst (get_pre p ea) (chk_one c)
          exact ⟨ws, SqL.of q, t⟩)⟩⟩
      · exact q1.elim
    · exact q1.elim
  | _ => simp [isTup] at ht
theorem wk_zip {ρ : List Addr} {H : Hp} {a b : Addr} {xs ys : List D} {gs : List (Nat × O)}
    (at' : ∀ ρ' S H', ρ <+: ρ' → Kp H H' → Rp K ρ' S H' → chk gs S = true → ∃ vs ws, SqL K H' a vs ∧ RVs K ρ' H' xs vs ∧ SqL K H' b ws ∧ RVs K ρ' H' ys ws) : Wk K ρ H (zipUp xs ys, gs) (Itz K a b) where
  go := fun ρ' S H' i d p k rp c e => by
    obtain ⟨vs, ws, sq, t, sq2, t2⟩ := at' ρ' S H' p k rp c
    obtain ⟨x, y, e1, e2, _⟩ := zipUp_get xs ys i d e
    obtain ⟨v, e3, _⟩ := t.get e1
    obtain ⟨w, e4, _⟩ := t2.get e2
    exact ⟨vs, ws, v, w, sq, sq2, e3, e4⟩
  stop := fun ρ' S H' p k rp c => by
    obtain ⟨vs, ws, sq, t, sq2, t2⟩ := at' ρ' S H' p k rp c
    refine ⟨vs, ws, sq, sq2, ?_⟩
    rw [← t.len, ← t2.len]
    exact zipUp_len xs ys
  yld := fun ρ' S H' i d x H2 p k rp c e y => by
    obtain ⟨T, z, z2, rfl, hT, rfl, y, y2⟩ := y
    obtain ⟨vs, ws, sq, t, sq2, t2⟩ := at' ρ' S H' p k rp c
    obtain ⟨x, y', e1, e2, rfl⟩ := zipUp_get xs ys i d e
    obtain ⟨v, e3, r⟩ := t.get e1
    obtain ⟨w, e4, r2⟩ := t2.get e2
    have e5 := y vs sq
    rw [e3] at e5; cases e5
    have e6 := y2 ws sq2
    rw [e4] at e6; cases e6
    exact ⟨Kp.fresh hT, rp.fresh hT, .mkTup (.inl (.inl upd_same)) (.cons (r.mono (pre_refl _) (Kp.fresh hT)) (.one (r2.mono (pre_refl _) (Kp.fresh hT)))), fun b u q => by rw [upd_ne (ne_of_none q hT)]; exact q⟩
theorem wk_zipT {ρ : List Addr} {H : Hp} {a b : Addr} {xs ys : List D} {gs : List (Nat × O)}
    (at' : ∀ ρ' S H', ρ <+: ρ' → Kp H H' → Rp K ρ' S H' → chk gs S = true → ∃ vs ws, SqT K H' a vs ∧ RVs K ρ' H' xs vs ∧ SqT K H' b ws ∧ RVs K ρ' H' ys ws) : Wk K ρ H (zipUp xs ys, gs) (RZ.ItzT K a b) where
  go := fun ρ' S H' i d p k rp c e => by
    obtain ⟨vs, ws, sq, t, sq2, t2⟩ := at' ρ' S H' p k rp c
    obtain ⟨x, y, e1, e2, _⟩ := zipUp_get xs ys i d e
    obtain ⟨v, e3, _⟩ := t.get e1
    obtain ⟨w, e4, _⟩ := t2.get e2
    exact ⟨vs, ws, v, w, sq, sq2, e3, e4⟩
  stop := fun ρ' S H' p k rp c => by
    obtain ⟨vs, ws, sq, t, sq2, t2⟩ := at' ρ' S H' p k rp c
    refine ⟨vs, ws, sq, sq2, ?_⟩
    rw [← t.len, ← t2.len]
    exact zipUp_len xs ys
  yld := fun ρ' S H' i d x H2 p k rp c e y => by
    obtain ⟨T, z, z2, rfl, hT, rfl, y, y2⟩ := y
    obtain ⟨vs, ws, sq, t, sq2, t2⟩ := at' ρ' S H' p k rp c
    obtain ⟨x, y', e1, e2, rfl⟩ := zipUp_get xs ys i d e
    obtain ⟨v, e3, r⟩ := t.get e1
    obtain ⟨w, e4, r2⟩ := t2.get e2
    have e5 := y vs sq
    rw [e3] at e5; cases e5
    have e6 := y2 ws sq2
    rw [e4] at e6; cases e6
    exact ⟨Kp.fresh hT, rp.fresh hT, .mkTup (.inl (.inl upd_same)) (.cons (r.mono (pre_refl _) (Kp.fresh hT)) (.one (r2.mono (pre_refl _) (Kp.fresh hT)))), fun b u q => by rw [upd_ne (ne_of_none q hT)]; exact q⟩
theorem pi_zipG {X : Cx} {e e2 t : Expr} {p pos : Pos} {fa fb : Env → Sto → Out D} (ht : isTup t = true) (hg : Gl X "zip") (hm : X.mg "zip" = none) (ha : PE X e (TF X.K mg W fa)) (hb : PE X e2 (TF X.K mg W fb)) (hs : noStar e = true) (hs2 : noStar e2 = true) :
    PI X t (.Call (.Name "zip" p) [e, e2] [] pos) (TFi X.K mg W fun ε S => (fa ε S).bind fun d S1 => (fb ε S1).bind fun d' S2 => iterZ d d' S2) := by
  cases t with
  | Tuple es kk tp =>
    have s2 : starEach [e2] X.env = (false, eval e2 X.env) :: starEach [] X.env := star_cons hs2
    have s1 : starEach [e, e2] X.env = (false, eval e X.env) :: starEach [e2] X.env := star_cons hs
    refine PI.imp (RZ.pi_zipA hg hm (pa_cons ha (pa_cons hb pa_nil s2) s1) s1 (by rw [s2]; rfl)) fun σ H R q => ?_
    obtain ⟨ρ, ε, S, hs, hp, q⟩ := q
    refine ⟨ρ, ε, S, hs, hp, q.seq fun ρ1 v H1 d S1 sx rp r q1 => ⟨ρ1, ε, S1, hs.mono sx.pre sx.kp, rp, q1.seq fun ρ2 v2 H2 d2 S2 sx2 rp2 r2 q2 => ?_⟩⟩
    have r' := r.mono sx2.pre sx2.kp
    unfold iterZ at q2
    split at q2
    · obtain ⟨a, vs, rfl, sq, t⟩ := r'.tup
      obtain ⟨b, ws, rfl, sq2, t2⟩ := r2.tup
      exact ⟨a, b, vs, ws, rfl, .inr ⟨sq, sq2, q2.here rp2 (wk_zipT fun ρ' S H' p k rp c => ⟨vs, ws, k.rdT sq, t.mono p k, k.rdT sq2, t2.mono p k⟩)⟩⟩
    · split at q2
      · rename_i _ _ l m _ _ xs ys e1 e2'
        obtain ⟨a, ea, rfl⟩ := r'.loc
        obtain ⟨b, eb, rfl⟩ := r2.loc
        obtain ⟨vs, q, t⟩ := rp2.lst ea e1
        obtain ⟨ws, q', t'⟩ := rp2.lst eb e2'
        refine ⟨a, b, vs, ws, rfl, .inl ⟨SqL.of q, SqL.of q', q2.here rp2 (wk_zip fun ρ' S H' p k rp c => ?_)⟩⟩
        simp only [chk, List.all_cons, List.all_nil, Bool.and_true, Bool.and_eq_true, decide_eq_true_eq] at c
        obtain ⟨vs, q, t⟩ := rp.lst (get_pre p ea) c.1
        obtain ⟨ws, q', t'⟩ := rp.lst (get_pre p eb) c.2
        exact ⟨vs, ws, SqL.of q, t, SqL.of q', t'⟩
      · exact q2.elim
    · exact q2.elim
  | _ => simp [isTup] at ht
end
end GG
namespace GG
open PySem PySem.Spec PyProof.Rows L2
/-! ## every expression of the language -/
section
variable {K : PySem.W.Frag} {mg : Str → Option Value} {cn : Cn} {cl : Nat → List D → Sto → Out D} {k : Nat} {W : WX} {X : Cx}
def TFo (K : PySem.W.Frag) (mg : Str → Option Value) (W : WX) (f : Env → Sto → Out (Option Int)) : TO := fun σ H Q => ∃ ρ ε S, Rs K ρ H ε σ ∧ Rp K ρ S H ∧ Post K mg (fun _ _ a b => b = a) (XW W σ) ρ H (f ε S) Q
theorem PO.imp {e : Option Expr} {t t' : TO} (h : PO X e t) (i : ∀ σ H Q, t' σ H Q → t σ H Q) : PO X e t' := ⟨fun pins s σ H Q I q => h.run pins s σ H Q I (i σ H Q q)⟩
theorem PTs.imp {e : List Expr} {t t' : TT} (h : PTs X e t) (i : ∀ σ H Q, t' σ H Q → t σ H Q) : PTs X e t' := ⟨fun pins s σ H Q I q => h.run pins s σ H Q I (i σ H Q q)⟩
theorem tf_sl {fa : Env → Sto → Out D} {fl fh : Env → Sto → Out (Option Int)} (σ : L2.St) (H : Hp) (Q : VK)
    (q : TF K mg W (fun ε S => (fa ε S).bind fun x S1 => (fl ε S1).bind fun l S2 => (fh ε S2).bind fun h S3 => opSl x l h S3) σ H Q) : tSl (rSlX K) (TF K mg W fa) (TFo K mg W fl) (TFo K mg W fh) σ H Q := by
  obtain ⟨ρ, ε, S, hs, hp, q⟩ := q
  refine ⟨ρ, ε, S, hs, hp, q.seq fun ρ1 vx H1 x S1 s1 rp1 rx q1 => ⟨ρ1, ε, S1, hs.mono s1.pre s1.kp, rp1, q1.seq fun ρ2 vl H2 l S2 s2 rp2 rl q2 => ?_⟩⟩
  subst rl
  refine ⟨ρ2, ε, S2, (hs.mono s1.pre s1.kp).mono s2.pre s2.kp, rp2, q2.seq fun ρ3 vh H3 h S3 s3 rp3 rh q3 => ?_⟩
  subst rh
  exact vr_sl _ _ _ _ _ _ _ _ _ rp3 ((rx.mono s2.pre s2.kp).mono s3.pre s3.kp) q3
theorem tf_lst {fs : Env → Sto → Out (List D)} (σ : L2.St) (H : Hp) (Q : VK) (q : TF K mg W (fun ε S => (fs ε S).bind fun ds S1 => if ds.length ≤ sizeLine then .ok (.loc S1.length) (S1 ++ [.lst ds]) else .bad) σ H Q) : tLst (TFs K mg W fs) σ H Q := by
  obtain ⟨ρ, ε, S, hs, hp, q⟩ := q
  refine ⟨ρ, ε, S, hs, hp, q.seq fun ρ1 vs H1 ds S1 s1 rp1 rv q1 => ?_⟩
  split at q1
  · rename_i z
    exact ⟨by rw [← rv.len]; exact z, fun p hp => post_lst rp1 rv q1 p hp⟩
  · exact q1.elim
theorem tf_tup {fs : Env → Sto → Out (List D)} (σ : L2.St) (H : Hp) (Q : VK) (q : TF K mg W (fun ε S => (fs ε S).bind fun ds S1 => if ds.length ≤ sizeLine then .ok (.tup ds) S1 else .bad) σ H Q) : tTup (TFs K mg W fs) σ H Q := by
  obtain ⟨ρ, ε, S, hs, hp, q⟩ := q
  refine ⟨ρ, ε, S, hs, hp, q.seq fun ρ1 vs H1 ds S1 s1 rp1 rv q1 => ?_⟩
  split at q1
  · rename_i z
    exact ⟨by rw [← rv.len]; exact z, fun p hp => post_tup rp1 rv q1 p hp⟩
  · exact q1.elim
theorem tf_if {ft : Env → Sto → Out Bool} {fa fb : Env → Sto → Out D} (σ : L2.St) (H : Hp) (Q : VK) (q : TF K mg W (fun ε S => (ft ε S).bind fun b S2 => if b = true then fa ε S2 else fb ε S2) σ H Q) :
    tIf (TFt K mg W ft) (TF K mg W fa) (TF K mg W fb) σ H Q := by
  obtain ⟨ρ, ε, S, hs, hp, q⟩ := q
  refine ⟨ρ, ε, S, hs, hp, q.seq fun ρ1 b H1 d S1 s1 rp1 e q1 => ?_⟩
  have e' : b = d := e
  subst e'
  cases b with
  | true => rw [if_pos rfl] at q1 ⊢; exact ⟨ρ1, ε, S1, hs.mono s1.pre s1.kp, rp1, q1⟩
  | false => rw [if_neg Bool.false_ne_true] at q1 ⊢; exact ⟨ρ1, ε, S1, hs.mono s1.pre s1.kp, rp1, q1⟩
theorem ty_V {ρ : List Addr} {H : Hp} {S : Sto} {d : D} {v : V} {n : String} (rp : Rp K ρ S H) (r : RV K ρ H d v) (h : tyName S d = some n) : TyX K H v (.type n) := by
  cases d with
  | non => cases h; rw [r.non]; exact .base .non
  | bl b => cases h; rw [r.bl]; exact .base (.bl b)
  | int b => cases h; rw [r.int]; exact .base (.int b)
  | str b => cases h; rw [r.str]; exact .base (.str b)
  | tup ds =>
    cases h
    obtain ⟨a, vs, rfl, sq, _⟩ := r.tup
    rcases sq with (sq | ⟨o, sq⟩) | ⟨o, its, n, hk, hc, _⟩
    · exact .base (.tup sq)
    · exact .fTuple sq
    · exact .kTuple hk hc
  | rol ds =>
    cases h
    obtain ⟨a, vs, rfl, sq, _⟩ := r.rol
    rcases sq with ⟨o, sq⟩ | ⟨o, its, n, hk, hc, _⟩
    · exact .base (.frz sq)
    · exact .kList hk hc
  | loc l =>
    obtain ⟨a, ea, rfl⟩ := r.loc
    simp only [tyName] at h
    split at h
    · rename_i ds e
      cases h
      obtain ⟨vs, q, _⟩ := rp.lst ea e
      exact .base (.lst q)
    · rename_i ds e
      cases h
      obtain ⟨vs, q, _⟩ := rp.dict ea e
      exact .base (.dK q)
    · cases h
theorem kit_isi {n : String} (S : Sto) (d : D) (h : tyName S d = some n) (t : Ty) : PySem.W.kitOne K (.type n) (.type t.name) = some (decide (n = t.name) || (decide (n = "bool") && decide (t = .int))) := by
  have hn : n = "NoneType" ∨ n = "bool" ∨ n = "int" ∨ n = "str" ∨ n = "tuple" ∨ n = "list" ∨ n = "dict" := by
    cases d <;> simp only [tyName] at h <;> first | (cases h; simp) | (split at h <;> cases h <;> simp)
  rcases hn with rfl | rfl | rfl | rfl | rfl | rfl | rfl <;> cases t <;> exact kit_ty (by decide +kernel)
theorem tf_isi {fa : Env → Sto → Out D} (t : Ty) (σ : L2.St) (H : Hp) (Q : VK) (q : TF K mg W (fun ε S => (fa ε S).bind fun x S1 => isiF t x S1) σ H Q) : tCB (rIsi K) (tCons (TF K mg W fa) (tCons (tC (.ty t.name)) tNil)) σ H Q := by
  obtain ⟨ρ, ε, S, hs, hp, q⟩ := q
  refine ⟨ρ, ε, S, hs, hp, q.seq fun ρ1 vx H1 x S1 s1 rp1 rx q1 => ?_⟩
  unfold isiF at q1
  split at q1
  · rename_i n e
    exact ⟨vx, .ty t.name, .type n, .type t.name, _, rfl, .ty _, ty_V rp1 rx e, kit_isi S1 x e t, q1.here rp1 (.mkBl _)⟩
  · exact q1.elim
theorem bi_boot (b : Bi) : bootBuiltins b.name = some b.val := by cases b <;> decide +kernel
theorem bi_name (b : Bi) : b.name ∈ bnames ∧ b.name ≠ "__name__" ∧ (b.name == ("__debug__" : Str)) = false := by
  cases b <;> decide +kernel
theorem pe_bi {b : Bi} {e : Expr} {es : List Expr} {p pos : Pos} {fa : Env → Sto → Out (List D)} (g : Good cn cl k W X) (hg : Gl X b.name) (ha : PA X (e :: es) (TFs X.K X.mg W fa)) (hs : noStars (e :: es) = true) :
    PE X (.Call (.Name b.name p) (e :: es) [] pos) (TF X.K X.mg W fun ε S => (fa ε S).bind fun ds S1 => biF b ds S1) := by
  obtain ⟨r, hr, vr⟩ := bi_ok (mg := X.mg) g.calm g.sm g.gd g.room.units b
  have hs' := hs
  simp only [noStars, Bool.and_eq_true] at hs'
  obtain ⟨hb, hn, hd⟩ := bi_name b
  have hv := bi_boot b
  have s1 := star_cons (es := es) (env := X.env) hs'.1
  have s2 := star_any (env := X.env) (pos := pos) hs'.2
  cases b <;> first
    | exact PE.imp (pe_callB hr hg (g.blt _ hb) hv ha hn hd s1 s2) fun σ H Q q => tf_cb vr σ H Q q
    | exact PE.imp (pe_callTy hr hg (g.blt _ hb) hv ha hn hd s1 s2) fun σ H Q q => tf_cb vr σ H Q q
def PX (cn : Cn) (cl : Nat → List D → Sto → Out D) (k : Nat) (ex : Ex) : Prop :=
  (∀ (X : Cx) (W : WX) (e : Expr), Good cn cl k W X → mE cn ex X.env.scope e = true → PE X e (TF X.K X.mg W (evE cl ex)) ∧ PT X e (TFt X.K X.mg W fun ε S => (evE cl ex ε S).bind truF)) ∧
  (∀ (X : Cx) (W : WX) (e t : Expr), Good cn cl k W X → mI cn ex X.env.scope e t = true → PI X t e (TFi X.K X.mg W (evI cl ex)))
def PXs (cn : Cn) (cl : Nat → List D → Sto → Out D) (k : Nat) (es : List Ex) : Prop :=
  (∀ (X : Cx) (W : WX) (vs : List Expr), Good cn cl k W X → mEs cn es X.env.scope vs = true → PA X vs (TFs X.K X.mg W (evEs cl es))) ∧
  (∀ (X : Cx) (W : WX) (l : Expr) (vs : List Expr) (pos : Pos) (fa : Env → Sto → Out D), Good cn cl k W X → PE X l (TF X.K X.mg W fa) → PT X l (TFt X.K X.mg W fun ε S => (fa ε S).bind truF) → mEs cn es X.env.scope vs = true →
    PE X (.BoolOp .And (l :: vs) pos) (TF X.K X.mg W fun ε S => (fa ε S).bind fun x S1 => evAnd cl es x ε S1) ∧ PW X (.BoolOp .And (l :: vs) pos) (TFt X.K X.mg W fun ε S => ((fa ε S).bind fun x S1 => evAnd cl es x ε S1).bind truF)) ∧
  (∀ (X : Cx) (W : WX) (l : Expr) (vs : List Expr) (pos : Pos) (fa : Env → Sto → Out D), Good cn cl k W X → PE X l (TF X.K X.mg W fa) → PT X l (TFt X.K X.mg W fun ε S => (fa ε S).bind truF) → mEs cn es X.env.scope vs = true →
    PE X (.BoolOp .Or (l :: vs) pos) (TF X.K X.mg W fun ε S => (fa ε S).bind fun x S1 => evOr cl es x ε S1) ∧ PW X (.BoolOp .Or (l :: vs) pos) (TFt X.K X.mg W fun ε S => ((fa ε S).bind fun x S1 => evOr cl es x ε S1).bind truF)) ∧
  (∀ (X : Cx) (W : WX) (o : Option Expr), Good cn cl k W X → mO cn es X.env.scope o = true → PO X o (TFo X.K X.mg W (evO cl es))) ∧
  (∀ (X : Cx) (W : WX) (fs : List Expr), Good cn cl k W X → mTs cn es X.env.scope fs = true → PTs X fs (TFt X.K X.mg W (evTs cl es))) ∧
  ∀ a ∈ es, PX cn cl k a
theorem bind_assoc {α β γ : Type} (r : Out α) (f : α → Sto → Out β) (g : β → Sto → Out γ) : (r.bind f).bind g = r.bind fun a S => (f a S).bind g := by
  cases r <;> rfl
/-- a plain expression: its test by its value -/
theorem both {e : Expr} {ex : Ex} (h : PE X e (TF X.K X.mg W (evE cl ex))) (p : plainT e = true) : PE X e (TF X.K X.mg W (evE cl ex)) ∧ PT X e (TFt X.K X.mg W fun ε S => (evE cl ex ε S).bind truF) := ⟨h, pt_plain h p⟩
theorem truF_ok {d : D} {S : Sto} {b : Bool} {S1 : Sto} (h : truF d S = .ok b S1) : S1 = S ∧ tru S d = some b := by
  unfold truF at h
  split at h
  · rename_i b' e; cases h; exact ⟨rfl, e⟩
  · cases h
theorem truF_ne {d : D} {S : Sto} {c : Str} {v : Option (Str × D)} {S1 : Sto} : truF d S ≠ .exc c v S1 := by
  unfold truF
  split <;> simp
theorem pxs_nil : PXs cn cl k [] := by
  refine ⟨fun X W vs g h => ?_, fun X W l vs pos fa g he ht h => ?_, fun X W l vs pos fa g he ht h => ?_, fun X W o g h => ?_, fun X W fs g h => ?_, fun a h => by simp at h⟩
  · cases vs with
    | nil => exact PA.imp pa_nil fun σ H Q q => tf_nil σ H Q q
    | cons e es => simp [mEs] at h
  · cases vs with
    | nil =>
      have e : (fun (ε : Env) (S : Sto) => (fa ε S).bind fun x S1 => evAnd cl [] x ε S1) = fa := by
        funext ε S
        cases fa ε S <;> rfl
      rw [e]
      refine ⟨pe_one he, PW.imp (pw_and1 ht) fun σ H Q q => ?_⟩
      have e2 : (fun (ε : Env) (S : Sto) => ((fa ε S).bind fun x S1 => evAnd cl [] x ε S1).bind truF) = fun ε S => (fa ε S).bind truF := by
        funext ε S
        cases fa ε S <;> rfl
      rw [e2] at q
      exact q
    | cons e es => simp [mEs] at h
  · cases vs with
    | nil =>
      have e : (fun (ε : Env) (S : Sto) => (fa ε S).bind fun x S1 => evOr cl [] x ε S1) = fa := by
        funext ε S
        cases fa ε S <;> rfl
      rw [e]
      refine ⟨pe_one he, PW.imp (pw_or1 ht) fun σ H Q q => ?_⟩
      have e2 : (fun (ε : Env) (S : Sto) => ((fa ε S).bind fun x S1 => evOr cl [] x ε S1).bind truF) = fun ε S => (fa ε S).bind truF := by
        funext ε S
        cases fa ε S <;> rfl
      rw [e2] at q
      exact q
    | cons e es => simp [mEs] at h
  · cases o with
    | none =>
      refine PO.imp po_none fun σ H Q q => ?_
      obtain ⟨ρ, ε, S, hs, hp, q⟩ := q
      exact q.here hp rfl
    | some e => simp [mO] at h
  · cases fs with
    | nil =>
      refine PTs.imp pts_nil fun σ H Q q => ?_
      obtain ⟨ρ, ε, S, hs, hp, q⟩ := q
      exact q.here hp rfl
    | cons e es => simp [mTs] at h
theorem pxs_cons {a : Ex} {r : List Ex} (ha : PX cn cl k a) (hr : PXs cn cl k r) : PXs cn cl k (a :: r) := by
  refine ⟨fun X W vs g h => ?_, fun X W l vs pos fa g he ht h => ?_, fun X W l vs pos fa g he ht h => ?_, fun X W o g h => ?_, fun X W fs g h => ?_, fun b h => (List.mem_cons.mp h).elim (fun z => z ▸ ha) (hr.2.2.2.2.2 b)⟩
  · cases vs with
    | nil => simp [mEs] at h
    | cons e es =>
      simp only [mEs, Bool.and_eq_true] at h
      exact PA.imp (pa_cons (ha.1 X W e g h.1.1).1 (hr.1 X W es g h.2) (star_cons h.1.2)) fun σ H Q q => tf_cons σ H Q q
  · cases vs with
    | nil => simp [mEs] at h
    | cons e es =>
      simp only [mEs, Bool.and_eq_true] at h
      obtain ⟨h1, h2⟩ := ha.1 X W e g h.1.1
      obtain ⟨b1, b2⟩ := hr.2.1 X W e es pos (evE cl a) g h1 h2 h.2
      constructor
      · refine PE.imp (pe_andT he b1) fun σ H Q q => ?_
        obtain ⟨ρ, ε, S, hs, hp, q⟩ := q
        refine ⟨ρ, ε, S, hs, hp, q.seq fun ρ1 vx H1 x S1 s1 rp1 rx q1 => ?_⟩
        simp only [evAnd] at q1
        cases e1 : truF x S1 with
        | bad => rw [e1] at q1; exact q1.elim
        | exc c v S2 => exact absurd e1 truF_ne
        | ok b S2 =>
          obtain ⟨rfl, e2⟩ := truF_ok e1
          rw [e1, Out.bind_ok] at q1
          refine ⟨b, tru_V rp1 rx e2, ?_⟩
          cases b with
          | true => rw [if_pos rfl] at q1 ⊢; exact ⟨ρ1, ε, _, hs.mono s1.pre s1.kp, rp1, q1⟩
          | false => rw [if_neg Bool.false_ne_true] at q1 ⊢; exact q1.here rp1 rx
      · refine PW.imp (pw_and ht b2) fun σ H Q q => ?_
        obtain ⟨ρ, ε, S, hs, hp, q⟩ := q
        refine ⟨ρ, ε, S, hs, hp, ?_⟩
        dsimp only at q ⊢
        cases e0 : fa ε S with
        | bad => rw [e0] at q; exact q.elim
        | exc c v S2 => rw [e0] at q; exact q
        | ok x S1 =>
          rw [e0] at q
          simp only [Out.bind_ok, evAnd] at q ⊢
          cases e1 : truF x S1 with
          | bad => rw [e1] at q; exact q.elim
          | exc c v S2 => exact absurd e1 truF_ne
          | ok b S2 =>
            obtain ⟨rfl, e2⟩ := truF_ok e1
            rw [e1, Out.bind_ok] at q
            intro ρ1 b' H1 s1 rp1 eb
            have eb' : b' = b := eb
            subst eb'
            cases b' with
            | true => rw [if_pos rfl] at q ⊢; exact ⟨ρ1, ε, _, hs.mono s1.pre s1.kp, rp1, q.weak s1⟩
            | false =>
              rw [if_neg Bool.false_ne_true, Out.bind_ok, e1] at q
              rw [if_neg Bool.false_ne_true]
              exact q ρ1 false H1 s1 rp1 rfl
  · cases vs with
    | nil => simp [mEs] at h
    | cons e es =>
      simp only [mEs, Bool.and_eq_true] at h
      obtain ⟨h1, h2⟩ := ha.1 X W e g h.1.1
      obtain ⟨b1, b2⟩ := hr.2.2.1 X W e es pos (evE cl a) g h1 h2 h.2
      constructor
      · refine PE.imp (pe_orT he b1) fun σ H Q q => ?_
        obtain ⟨ρ, ε, S, hs, hp, q⟩ := q
        refine ⟨ρ, ε, S, hs, hp, q.seq fun ρ1 vx H1 x S1 s1 rp1 rx q1 => ?_⟩
        simp only [evOr] at q1
        cases e1 : truF x S1 with
        | bad => rw [e1] at q1; exact q1.elim
        | exc c v S2 => exact absurd e1 truF_ne
        | ok b S2 =>
          obtain ⟨rfl, e2⟩ := truF_ok e1
          rw [e1, Out.bind_ok] at q1
          refine ⟨b, tru_V rp1 rx e2, ?_⟩
          cases b with
          | true => rw [if_pos rfl] at q1 ⊢; exact q1.here rp1 rx
          | false => rw [if_neg Bool.false_ne_true] at q1 ⊢; exact ⟨ρ1, ε, _, hs.mono s1.pre s1.kp, rp1, q1⟩
      · refine PW.imp (pw_or ht b2) fun σ H Q q => ?_
        obtain ⟨ρ, ε, S, hs, hp, q⟩ := q
        refine ⟨ρ, ε, S, hs, hp, ?_⟩
        dsimp only at q ⊢
        cases e0 : fa ε S with
        | bad => rw [e0] at q; exact q.elim
        | exc c v S2 => rw [e0] at q; exact q
        | ok x S1 =>
          rw [e0] at q
          simp only [Out.bind_ok, evOr] at q ⊢
          cases e1 : truF x S1 with
          | bad => rw [e1] at q; exact q.elim
          | exc c v S2 => exact absurd e1 truF_ne
          | ok b S2 =>
            obtain ⟨rfl, e2⟩ := truF_ok e1
            rw [e1, Out.bind_ok] at q
            intro ρ1 b' H1 s1 rp1 eb
            have eb' : b' = b := eb
            subst eb'
            cases b' with
            | false => rw [if_neg Bool.false_ne_true] at q ⊢; exact ⟨ρ1, ε, _, hs.mono s1.pre s1.kp, rp1, q.weak s1⟩
            | true =>
              rw [if_pos rfl, Out.bind_ok, e1] at q
              rw [if_pos rfl]
              exact q ρ1 true H1 s1 rp1 rfl
  · cases o with
    | none => simp [mO] at h
    | some e =>
      simp only [mO, Bool.and_eq_true] at h
      refine PO.imp (po_some (ha.1 X W e g h.1).1) fun σ H Q q => ?_
      obtain ⟨ρ, ε, S, hs, hp, q⟩ := q
      refine ⟨ρ, ε, S, hs, hp, q.seq fun ρ1 vx H1 x S1 s1 rp1 rx q1 => ?_⟩
      unfold asInt at q1
      split at q1
      · exact ⟨_, rx.int, q1.here rp1 rfl⟩
      · exact q1.elim
  · cases fs with
    | nil => simp [mTs] at h
    | cons e es =>
      cases es with
      | nil =>
        simp only [mTs, Bool.and_eq_true] at h
        exact pts_one (ha.1 X W e g h.1).2
      | cons e2 es2 => simp [mTs] at h
end
end GG
namespace GG
open PySem PySem.Spec PyProof.Rows L2
section
variable {cn : Cn} {cl : Nat → List D → Sto → Out D} {k : Nat}
/-- no way of walking -/
theorem noI {ex : Ex} (h : ∀ sc e t, mI cn ex sc e t = false) : ∀ (X : Cx) (W : WX) (e t : Expr), Good cn cl k W X → mI cn ex X.env.scope e t = true → PI X t e (TFi X.K X.mg W (evI cl ex)) := by
  intro X W e t g q
  rw [h] at q; cases q
theorem px_v (i : Nat) : PX cn cl k (.v i) := by
  refine ⟨fun X W e g h => ?_, noI fun _ _ _ => by simp [mI]⟩
  cases e with
  | Name x p =>
    simp only [mE, Bool.and_eq_true, decide_eq_true_eq] at h
    obtain ⟨a, b, c⟩ := plain_of h.2
    exact both (PE.imp (pe_var (i := i) (by rw [g.nN]; exact h.1.1) (vis_of h.1.2) a b) fun σ H Q q => tf_var σ H Q q) rfl
  | _ => simp [mE] at h
theorem px_c (d : D) : PX cn cl k (.c d) := by
  refine ⟨fun X W e g h => ?_, noI fun _ _ _ => by simp [mI]⟩
  cases e with
  | Constant c i p =>
    simp only [mE] at h
    refine both ?_ rfl
    cases d <;> cases c <;> simp only [constIs, decide_eq_true_eq, Bool.false_eq_true] at h
    · exact PE.imp pe_non fun σ H Q q => tf_c (fun _ _ => .mkNon) σ H Q q
    · subst h; exact PE.imp pe_bl fun σ H Q q => tf_c (fun _ _ => .mkBl _) σ H Q q
    · subst h; exact PE.imp pe_int fun σ H Q q => tf_c (fun _ _ => .mkInt _) σ H Q q
    · subst h; exact PE.imp pe_str fun σ H Q q => tf_c (fun _ _ => .mkStr _) σ H Q q
  | _ => simp [mE] at h
theorem px_g (x : Str) (d : D) : PX cn cl k (.g x d) := by
  refine ⟨fun X W e g h => ?_, noI fun _ _ _ => by simp [mI]⟩
  cases e with
  | Name y p =>
    simp only [mE, Bool.and_eq_true, decide_eq_true_eq] at h
    obtain ⟨⟨⟨rfl, hg⟩, hp⟩, hl⟩ := h
    obtain ⟨a, b, c⟩ := plain_of hp
    obtain ⟨v, u, hm, r, rv⟩ := g.gl x d hl
    exact both (PE.imp (pe_glob (gl_of hg) hm r a) fun σ H Q q => tf_c rv σ H Q q) rfl
  | _ => simp [mE] at h
theorem px_bop (o : Operator) {a b : Ex} (ha : PX cn cl k a) (hb : PX cn cl k b) : PX cn cl k (.bop o a b) := by
  refine ⟨fun X W e g h => ?_, noI fun _ _ _ => by simp [mI]⟩
  cases e with
  | BinOp l o' r p =>
    simp only [mE, Bool.and_eq_true, decide_eq_true_eq] at h
    obtain ⟨⟨rfl, h1⟩, h2⟩ := h
    obtain ⟨rr, op, vr⟩ := op_bin (X := X) (mg := X.mg) o
    exact both (PE.imp (pe_op op (ha.1 X W l g h1).1 (hb.1 X W r g h2).1) fun σ H Q q => tf_op vr σ H Q q) rfl
  | _ => simp [mE] at h
theorem vr_neg {K : PySem.W.Frag} {mg : Str → Option Value} : VR1 K mg (rU fun i => .int (-i)) (fun x S1 => match x with | .int i => .ok (.int (-i)) S1 | _ => .bad) := by
  intro E ρ S H x vx Q rp rx q
  dsimp only at q
  split at q
  · rw [rx.int]; exact ⟨_, rfl, q.here rp (.mkInt _)⟩
  · exact q.elim
theorem px_neg {a : Ex} (ha : PX cn cl k a) : PX cn cl k (.neg a) := by
  refine ⟨fun X W e g h => ?_, noI fun _ _ _ => by simp [mI]⟩
  cases e with
  | UnaryOp o l p =>
    cases o with
    | USub =>
      simp only [mE] at h
      exact both (PE.imp (pe_un un_neg (ha.1 X W l g h).1) fun σ H Q q => tf_un vr_neg σ H Q q) rfl
    | _ => simp [mE] at h
  | _ => simp [mE] at h
theorem px_not {a : Ex} (ha : PX cn cl k a) : PX cn cl k (.not a) := by
  refine ⟨fun X W e g h => ?_, noI fun _ _ _ => by simp [mI]⟩
  cases e with
  | UnaryOp o l p =>
    cases o with
    | Not =>
      simp only [mE] at h
      obtain ⟨h1, h2⟩ := ha.1 X W l g h
      constructor
      · refine PE.imp (pe_notT h1) fun σ H Q q => ?_
        obtain ⟨ρ, ε, S, hs, hp, q⟩ := q
        refine ⟨ρ, ε, S, hs, hp, q.seq fun ρ1 vx H1 x S1 s1 rp1 rx q1 => ?_⟩
        cases e1 : truF x S1 with
        | bad => rw [e1] at q1; exact q1.elim
        | exc c v S2 => exact absurd e1 truF_ne
        | ok b S2 =>
          obtain ⟨rfl, e2⟩ := truF_ok e1
          rw [e1, Out.bind_ok] at q1
          exact ⟨b, tru_V rp1 rx e2, q1.here rp1 (.mkBl _)⟩
      · refine PT.imp (pt_not h2) fun σ H Q q => ?_
        obtain ⟨ρ, ε, S, hs, hp, q⟩ := q
        refine ⟨ρ, ε, S, hs, hp, ?_⟩
        dsimp only at q ⊢
        simp only [evE] at q
        cases e0 : evE cl a ε S with
        | bad => rw [e0] at q; exact q.elim
        | exc c v S2 => rw [e0] at q; exact q
        | ok x S1 =>
          rw [e0] at q
          simp only [Out.bind_ok] at q ⊢
          cases e1 : truF x S1 with
          | bad => rw [e1] at q; exact q.elim
          | exc c v S2 => exact absurd e1 truF_ne
          | ok b S2 =>
            rw [e1] at q
            simp only [Out.bind_ok] at q
            intro ρ1 b' H1 s1 rp1 eb
            have eb' : b' = b := eb
            subst eb'
            exact q ρ1 (!b') H1 s1 rp1 rfl
    | _ => simp [mE] at h
  | _ => simp [mE] at h
theorem px_cmp (o : CmpOp) {a b : Ex} (ha : PX cn cl k a) (hb : PX cn cl k b) : PX cn cl k (.cmp o a b) := by
  refine ⟨fun X W e g h => ?_, noI fun _ _ _ => by simp [mI]⟩
  cases e with
  | Compare l os rs p =>
    match os, rs, h with
    | [o'], [r], h =>
      simp only [mE, Bool.and_eq_true, decide_eq_true_eq] at h
      obtain ⟨⟨⟨rfl, h1⟩, h2⟩, h3⟩ := h
      obtain ⟨rr, op, vr⟩ := op_cmp (X := X) (mg := X.mg) g.room.units o
      constructor
      · exact PE.imp (pe_cmpR op (ha.1 X W l g h1).1 (hb.1 X W r g h2).1 (noSet_mark h3)) fun σ H Q q => tf_op vr σ H Q q
      · refine PT.imp (pt_cmpR op (ha.1 X W l g h1).1 (hb.1 X W r g h2).1 (noSet_mark h3)) fun σ H Q q => ?_
        refine tf_op vr σ H _ (tf_test (fun ε S d S1 e => ?_) σ H Q q)
        obtain ⟨x, S2, e1, e⟩ := Out.bind_okI e
        obtain ⟨y, S3, e2, e⟩ := Out.bind_okI e
        exact cmpF_bl e
    | [], _, h => simp [mE] at h
    | [_], [], h => simp [mE] at h
    | [_], _ :: _ :: _, h => simp [mE] at h
    | _ :: _ :: _, _, h => simp [mE] at h
  | _ => simp [mE] at h
theorem px_and {a : Ex} {es : List Ex} (ha : PX cn cl k a) (hs : PXs cn cl k es) : PX cn cl k (.and a es) := by
  refine ⟨fun X W e g h => ?_, noI fun _ _ _ => by simp [mI]⟩
  cases e with
  | BoolOp o vs p =>
    cases o with
    | And =>
      cases vs with
      | nil => simp [mE] at h
      | cons l vs =>
        simp only [mE, Bool.and_eq_true] at h
        obtain ⟨h1, h2⟩ := ha.1 X W l g h.1.1
        obtain ⟨b1, b2⟩ := hs.2.1 X W l vs p (evE cl a) g h1 h2 h.1.2
        simp only [evE]
        exact ⟨b1, b2.pt⟩
    | Or => simp [mE] at h
  | _ => simp [mE] at h
theorem px_or {a : Ex} {es : List Ex} (ha : PX cn cl k a) (hs : PXs cn cl k es) : PX cn cl k (.or a es) := by
  refine ⟨fun X W e g h => ?_, noI fun _ _ _ => by simp [mI]⟩
  cases e with
  | BoolOp o vs p =>
    cases o with
    | Or =>
      cases vs with
      | nil => simp [mE] at h
      | cons l vs =>
        simp only [mE, Bool.and_eq_true] at h
        obtain ⟨h1, h2⟩ := ha.1 X W l g h.1.1
        obtain ⟨b1, b2⟩ := hs.2.2.1 X W l vs p (evE cl a) g h1 h2 h.1.2
        simp only [evE]
        exact ⟨b1, b2.pt⟩
    | And => simp [mE] at h
  | _ => simp [mE] at h
theorem px_ife {t a b : Ex} (ht : PX cn cl k t) (ha : PX cn cl k a) (hb : PX cn cl k b) : PX cn cl k (.ife t a b) := by
  refine ⟨fun X W e g h => ?_, noI fun _ _ _ => by simp [mI]⟩
  cases e with
  | IfExp c l r p =>
    simp only [mE, Bool.and_eq_true] at h
    obtain ⟨t1, t2⟩ := ht.1 X W c g h.1.1
    obtain ⟨a1, a2⟩ := ha.1 X W l g h.1.2
    obtain ⟨b1, b2⟩ := hb.1 X W r g h.2
    have e : evE cl (.ife t a b) = fun ε S => ((evE cl t ε S).bind truF).bind fun kk S2 => if kk = true then evE cl a ε S2 else evE cl b ε S2 := by
      funext ε S
      simp only [evE]
      rw [bind_assoc]
    constructor
    · rw [e]
      exact PE.imp (pe_ifExp t2 a1 b1) fun σ H Q q => tf_if σ H Q q
    · refine PT.imp (pt_if t2 a2 b2) fun σ H Q q => ?_
      rw [e] at q
      obtain ⟨ρ, ε, S, hs, hp, q⟩ := q
      dsimp only at q
      rw [bind_assoc] at q
      refine ⟨ρ, ε, S, hs, hp, q.seq fun ρ1 c H1 d S1 s1 rp1 ec q1 => ?_⟩
      have ec' : c = d := ec
      subst ec'
      cases c with
      | true => rw [if_pos rfl] at q1 ⊢; exact ⟨ρ1, ε, S1, hs.mono s1.pre s1.kp, rp1, q1⟩
      | false => rw [if_neg Bool.false_ne_true] at q1 ⊢; exact ⟨ρ1, ε, S1, hs.mono s1.pre s1.kp, rp1, q1⟩
  | _ => simp [mE] at h
theorem px_tup {es : List Ex} (hs : PXs cn cl k es) : PX cn cl k (.tup es) := by
  refine ⟨fun X W e g h => ?_, noI fun _ _ _ => by simp [mI]⟩
  cases e with
  | Tuple vs kk p =>
    simp only [mE] at h
    exact both (PE.imp (pe_tup (hs.1 X W vs g h)) fun σ H Q q => tf_tup σ H Q q) rfl
  | _ => simp [mE] at h
theorem px_lst {es : List Ex} (hs : PXs cn cl k es) : PX cn cl k (.lst es) := by
  refine ⟨fun X W e g h => ?_, noI fun _ _ _ => by simp [mI]⟩
  cases e with
  | List vs p =>
    simp only [mE] at h
    exact both (PE.imp (pe_lst (hs.1 X W vs g h)) fun σ H Q q => tf_lst σ H Q q) rfl
  | _ => simp [mE] at h
theorem px_ix {a i : Ex} (ha : PX cn cl k a) (hi : PX cn cl k i) : PX cn cl k (.ix a i) := by
  refine ⟨fun X W e g h => ?_, noI fun _ _ _ => by simp [mI]⟩
  cases e with
  | Subscript l s p =>
    simp only [mE, Bool.and_eq_true] at h
    exact both (PE.imp (pe_ix ix_seq (ha.1 X W l g h.1.1).1 (hi.1 X W s g h.1.2).1 (noSlice_ix h.2)) fun σ H Q q => tf_op vr_ix σ H Q q) rfl
  | _ => simp [mE] at h
theorem px_sl {a : Ex} {lo hi : List Ex} (ha : PX cn cl k a) (hl : PXs cn cl k lo) (hh : PXs cn cl k hi) : PX cn cl k (.sl a lo hi) := by
  refine ⟨fun X W e g h => ?_, noI fun _ _ _ => by simp [mI]⟩
  cases e with
  | Subscript l s p =>
    cases s with
    | Slice lo' hi' st p2 =>
      cases st with
      | none =>
        simp only [mE, Bool.and_eq_true] at h
        exact both (PE.imp (pe_slice sl_all (ha.1 X W l g h.1.1).1 (hl.2.2.2.1 X W lo' g h.1.2) (hh.2.2.2.1 X W hi' g h.2)) fun σ H Q q => tf_sl σ H Q q) rfl
      | some z => simp [mE] at h
    | _ => simp [mE] at h
  | _ => simp [mE] at h
theorem px_call (f : Nat) {es : List Ex} (hs : PXs cn cl k es) : PX cn cl k (.call f es) := by
  refine ⟨fun X W e g h => ?_, noI fun _ _ _ => by simp [mI]⟩
  cases e with
  | Call fe vs ks p =>
    cases fe with
    | Name x pp =>
      cases vs with
      | nil => cases ks <;> simp [mE] at h
      | cons v vs =>
        cases ks with
        | cons kw ks => simp [mE] at h
        | nil =>
          simp only [mE, Bool.and_eq_true, decide_eq_true_eq] at h
          obtain ⟨a, b, c⟩ := plain_of h.1.2
          exact both (pe_callG g (g.fn f x es.length h.1.1.1) (gl_of h.1.1.2) a (hs.1 X W (v :: vs) g h.2) (fun ε S ds S1 e => evEs_len e) (mEs_stars h.2)) rfl
    | _ => simp [mE] at h
  | _ => simp [mE] at h
theorem px_bi (b : Bi) {es : List Ex} (hs : PXs cn cl k es) : PX cn cl k (.bi b es) := by
  refine ⟨fun X W e g h => ?_, noI fun _ _ _ => by simp [mI]⟩
  cases e with
  | Call fe vs ks p =>
    cases fe with
    | Name x pp =>
      cases vs with
      | nil => cases ks <;> simp [mE] at h
      | cons v vs =>
        cases ks with
        | cons kw ks => simp [mE] at h
        | nil =>
          simp only [mE, Bool.and_eq_true, decide_eq_true_eq] at h
          obtain ⟨⟨rfl, h1⟩, h2⟩ := h
          exact both (pe_bi g (gl_of h1) (hs.1 X W (v :: vs) g h2) (mEs_stars h2)) rfl
    | _ => simp [mE] at h
  | _ => simp [mE] at h
theorem ty_boot (t : Ty) : bootBuiltins (Str.ofString t.name) = some (.type t.name) := by cases t <;> decide +kernel
theorem ty_names (t : Ty) : Str.ofString t.name ∈ bnames ∧ Str.ofString t.name ≠ "__name__" ∧ (Str.ofString t.name == ("__debug__" : Str)) = false := by cases t <;> decide +kernel
theorem px_isi {a : Ex} (t : Ty) (ha : PX cn cl k a) : PX cn cl k (.isi a t) := by
  refine ⟨fun X W e g h => ?_, noI fun _ _ _ => by simp [mI]⟩
  cases e with
  | Call fe vs ks p =>
    cases fe with
    | Name x pp =>
      match vs, ks, h with
      | [v, w], [], h =>
        cases w with
        | Name y py =>
          simp only [mE, Bool.and_eq_true, decide_eq_true_eq] at h
          obtain ⟨⟨⟨⟨⟨rfl, h1⟩, h2⟩, h3⟩, rfl⟩, h4⟩ := h
          obtain ⟨n1, n2, n3⟩ := ty_names t
          have s1 : starEach [v, .Name (Str.ofString t.name) py] X.env = (false, eval v X.env) :: starEach [.Name (Str.ofString t.name) py] X.env := star_cons h3
          exact both (PE.imp (pe_callB call_isi (gl_of h1) (g.blt _ (by decide +kernel)) boot_isinstance
            (pa_cons (ha.1 X W v g h2).1 (pa_cons (pe_bltn (v := .ty t.name) (gl_of h4) (g.blt _ n1) (ty_boot t) rfl n2 n3) pa_nil rfl) s1) (by decide) (by decide) s1 rfl) fun σ H Q q => tf_isi t σ H Q q) rfl
        | _ => simp [mE] at h
      | [], ks, h => cases ks <;> simp [mE] at h
      | [_], ks, h => cases ks <;> simp [mE] at h
      | [v, w], _ :: _, h => cases w <;> simp [mE] at h
      | v :: w :: u :: vs, ks, h => cases ks <;> cases w <;> simp [mE] at h
    | _ => simp [mE] at h
  | _ => simp [mE] at h
end
end GG
namespace GG
open PySem PySem.Spec PyProof.Rows L2
/-! ## t[::-1] -/
theorem pick_back (xs : Array Value) : ((List.range xs.size).filterMap fun (m : Nat) => xs[((((xs.size : Nat) : Int) - 1) + (m : Int) * (-1)).toNat]?) = xs.toList.reverse := by
  have e : ((List.range xs.size).filterMap fun (m : Nat) => xs[((((xs.size : Nat) : Int) - 1) + (m : Int) * (-1)).toNat]?) = ((List.range xs.size).map fun m => xs.size - 1 - m).filterMap (xs[·]?) := by
    rw [List.filterMap_map]
    congr 1
    funext m
    show _ = xs[xs.size - 1 - m]?
    rw [show ((((xs.size : Nat) : Int) - 1) + (m : Int) * (-1)).toNat = xs.size - 1 - m by omega]
  rw [e, PySem.W.krv_range, List.filterMap_reverse, PySem.W.krv_all]
section
variable {prog : Program} {w : World} {A : Around} {E : Value → Shared → Prop} {s : Shared}
theorem applied_back {sl : Addr} {vs : Value} {n : Nat} {Q : Int × Int × Nat → Shared → Prop} (hs : s.heap.IsSliceOf sl .none .none vs) (ps : IsPart vs (some (-1)))
    (h : Q (((n : Nat) : Int) - 1, -1, n) s) : wpAny (model prog w) A (Builtin.Slice.sliceApplied (.ref sl) (pure (n : Int))) Q E s := by
  obtain ⟨os, hos, hcs, hds⟩ := id hs
  unfold Builtin.Slice.sliceApplied Builtin.Slice.sliceFields
  refine wpAny_bind (wpAny_bind (wpAny_field hos hds (x := .none) rfl ?_))
  refine wpAny_bind (wpAny_field hos hds (x := .none) rfl ?_)
  refine wpAny_bind (wpAny_field hos hds (x := vs) rfl (wpAny_pure ?_))
  refine wpAny_bind (HT.slicePart_ ps ?_)
  show wpAny _ _ (if ((-1 : Int) == 0) = true then _ else _) _ _ s
  rw [if_neg (by decide)]
  refine wpAny_bind (PyProof.Rows.slicePart_none (wpAny_bind (PyProof.Rows.slicePart_none ?_)))
  refine wpAny_bind (wpAny_pure ?_)
  have e : Builtin.Slice.slicePlaces (((n : Nat) : Int) - 1) (-1) (-1) = n := by
    unfold Builtin.Slice.slicePlaces
    rw [if_neg (by decide)]
    by_cases hn : n = 0
    · subst hn; rfl
    · rw [if_pos (by omega)]
      simp only [Int.neg_neg, Int.ediv_one]
      omega
  show wpAny _ _ (pure (((n : Nat) : Int) - 1, (-1 : Int), Builtin.Slice.slicePlaces (((n : Nat) : Int) - 1) (-1) (-1))) _ _ s
  rw [e]
  exact wpAny_pure h
theorem getItem_tuple_back {t sl : Addr} {items : Array Value} {vs : Value} {Q : Value → Shared → Prop} (ht : IsTup s.heap t items) (hs : s.heap.IsSliceOf sl .none .none vs) (ps : IsPart vs (some (-1)))
    (h : Q (.ref s.heap.objs.size) { s with heap := s.heap.push { cls := .type "tuple", data := .seq items.toList.reverse.toArray } }) (hsz : items.size ≤ sizeLine) :
    wpAny (model prog w) A (getItem (.ref t) (.ref sl)) Q E s := by
  have hok : sizeOk (.seq items.toList.reverse.toArray) := by
    show items.toList.reverse.toArray.size ≤ sizeLine
    simpa using hsz
  obtain ⟨os, hos, hcs, hds⟩ := id hs
  have hTs : s.TypeIs (.ref sl) "slice" := ⟨os, hos, hcs⟩
  unfold getItem
  try with_reducible refine wpAny_holding ?_
  first | refine wpAny_bind (wpAny_pure ?_) | skip
  refine wpAny_bind (wpAny_sequenceKey ht.typeIs (by decide) ?_)
  have sg := PyProof.Rows.slot_tuple_getitem
  refine wpAny_bind (wpAny_callSpecial?_slot (name := Str.ofString "__getitem__") ht.typeIs sg (wpAny_call_entry sg ht.typeIs entry_tuple_getitem ?_ (args_tuple_getitem _ _)))
  show wpAny _ _ (Builtin.Tuple.tupleItemsOf (.ref t) >>= _) _ _ s
  refine wpAny_bind (tupleItemsOf_ ht ?_)
  refine wpAny_bind (wpAny_typeOf hTs ?_)
  rw [if_pos (by decide)]
  refine wpAny_bind (applied_back hs ps ?_)
  have hno : ¬ (((((items.size : Nat) : Int) - 1) == 0 && (-1 : Int) == 1 && items.size == items.size) = true) := by
    intro q
    rw [Bool.and_eq_true, Bool.and_eq_true] at q
    exact absurd q.1.2 (by decide)
  show wpAny _ _ (if ((((items.size : Nat) : Int) - 1) == 0 && (-1 : Int) == 1 && items.size == items.size) = true then _ else _) _ _ s
  rw [if_neg hno, pick_back]
  first
    | exact wpAny_bind (m := Builtin.Tuple.tupleExact _) (wpAny_newObj_type (wpAny_pure ⟨_, rfl, wpAny_pure h⟩) hok)
    | exact wpAny_bind (m := Builtin.Tuple.tupleExact _) (wpAny_newObj_type (wpAny_bind (wpAny_pure (wpAny_pure ⟨_, rfl, wpAny_pure h⟩))) hok)
    | exact wpAny_bind (wpAny_bind (m := Builtin.Tuple.tupleExact _) (wpAny_newObj_type (wpAny_pure (wpAny_pure ⟨_, rfl, wpAny_pure h⟩)) hok))
    | exact wpAny_bind (wpAny_bind (m := Builtin.Tuple.tupleExact _) (wpAny_newObj_type (wpAny_pure ⟨_, rfl, wpAny_pure h⟩) hok))
end
section
variable {X : Cx}
def tRevT (K : PySem.W.Frag) (te : TE) : TE := fun σ H Q => te σ H fun x H1 => ∃ a xs, x = .ref a ∧ SqT K H1 a xs ∧ ∀ p, H1 p = none → Q (.ref p) (upd H1 p (.tup xs.reverse))
theorem pe_revT {e : Expr} {te : TE} {k : Nat} {p1 p2 p3 pos : Pos} (he : PE X e te) : PE X (.Subscript e (.Slice none none (some (.UnaryOp .USub (.Constant (.int 1) k p1) p2)) p3) pos) (tRevT X.K te) := by
  refine ⟨fun pins s σ H Q I h => ?_⟩
  refine Subscript_ (thn (he.run pins s σ H _ I h) fun v s1 hh => ?_)
  obtain ⟨x, H1, I1, r1, a, xs, ex, hx, q⟩ := hh
  subst ex
  cases r1
  have hst : PO X (some (.UnaryOp .USub (.Constant (.int 1) k p1) p2)) (tPart (tUn (rU fun i => .int (-i)) (tC (.int 1)))) := po_some (pe_un un_neg pe_int)
  refine wpAny_Slice (thn (po_none.run pins s1 σ H1 (fun o H2 => o = none ∧ H2 = H1) I1 ⟨rfl, rfl⟩) fun vl s2 hl => ?_)
  obtain ⟨l, H2, I2, pl, rfl, rfl⟩ := hl
  refine thn (po_none.run pins s2 σ H2 (fun o H3 => o = none ∧ H3 = H2) I2 ⟨rfl, rfl⟩) fun vu s3 hl => ?_
  obtain ⟨u, H3, I3, pu, rfl, rfl⟩ := hl
  refine thn (hst.run pins s3 σ H3 (fun o H4 => o = some (-1) ∧ H4 = H3) I3 ⟨1, rfl, -1, rfl, rfl, rfl⟩) fun vs s4 hl => ?_
  obtain ⟨o, H4, I4, ps, rfl, rfl⟩ := hl
  cases pl
  cases pu
  have I5 : Inv X pins σ H4 { s4 with heap := s4.heap.push { cls := .type "slice", data := .fields #[.none, .none, vs] } } :=
    I4.kept (t' := s4.toks) fun b ob q => Heap.get?_push_of_some _ q
  obtain ⟨its, r, ht, hz⟩ := I5.tuple hx
  have hlen := r.length
  show wpAny (model X.prog X.w) X.A (subscriptTail e (.Slice none none (some (.UnaryOp .USub (.Constant (.int 1) k p1) p2)) p3) (.ref a) (.ref s4.heap.objs.size)) (EP X pins σ Q) X.xe
    { s4 with heap := s4.heap.push { cls := .type "slice", data := .fields #[.none, .none, vs] } }
  refine tail_any (ops := [.ref a, .ref s4.heap.objs.size]) ht.typeIs (PyProof.Rows.slot_tuple_getitem.lookup) ?_ (by with_unfolding_all rfl)
  refine getItem_tuple_back ht (Heap.IsSliceOf.new _ .none .none vs) ps ?_ (by rw [List.size_toArray]; omega)
  refine ⟨.ref _, _, I5.laid (t' := s4.toks) (o := .tup xs.reverse) (fun b ob q => Heap.get?_push_of_some _ q) (Nat.le_refl _) ?_, rfl, q _ (I5.hok.fresh (Nat.le_refl _))⟩
  refine ⟨by rw [List.length_reverse]; exact hz, its.reverse, r.reverse, ?_⟩
  exact IsTup.new _ _
end
end GG
namespace GG
open PySem PySem.Spec PyProof.Rows L2
/-! ## a place written -/
section
variable {K : PySem.W.Frag} {mg : Str → Option Value} {ρ : List Addr} {H : Hp} {S : Sto}
theorem Rp.put {l : Nat} {a : Addr} {o' : O} {u' : HO} (rp : Rp K ρ S H) (ea : ρ[l]? = some a) (ro : RO K ρ (upd H a u') o' a) (lt : O.lt l o' = true) : Rp K ρ (S.set l o') (upd H a u') ∧ Sx ρ H ρ (upd H a u') := by
  obtain ⟨o, es, r0⟩ := rp.at ea
  obtain ⟨u, hu, n1, n2, n3⟩ := r0.there
  have kp : Kp H (upd H a u') := Kp.put hu n1 n2 n3
  have hl : l < S.length := (List.getElem?_eq_some_iff.mp es).1
  refine ⟨⟨by rw [List.length_set]; exact rp.len, rp.nd, fun i b x e1 e2 => ?_, fun i x e => ?_⟩, ⟨pre_refl _, kp, fun b v e n => ⟨?_, n⟩⟩⟩
  · by_cases hi : l = i
    · subst hi
      rw [ea] at e1; cases e1
      rw [List.getElem?_set, if_pos rfl, if_pos hl] at e2
      cases e2
      exact ro
    · rw [List.getElem?_set_ne hi] at e2
      have hne : b ≠ a := by
        intro z
        subst z
        have h1 := (List.getElem?_eq_some_iff.mp ea)
        have h2 := (List.getElem?_eq_some_iff.mp e1)
        exact hi ((List.getElem_inj rp.nd).mp (h1.2.trans h2.2.symm))
      exact (rp.obj i b x e1 e2).mono (pre_refl _) kp fun v e _ => by rw [upd_ne hne]; exact e
  · by_cases hi : l = i
    · subst hi
      rw [List.getElem?_set, if_pos rfl, if_pos hl] at e
      cases e
      exact lt
    · rw [List.getElem?_set_ne hi] at e
      exact rp.ord i x e
  · have hne : b ≠ a := fun z => n (z ▸ List.mem_of_getElem? ea)
    rw [upd_ne hne]; exact e
theorem lts_append {n : Nat} : ∀ {xs ys : List D}, D.lts n xs = true → D.lts n ys = true → D.lts n (xs ++ ys) = true
  | [], ys, _, h => h
  | x :: xs, ys, h, h2 => by
    simp only [D.lts, Bool.and_eq_true, List.cons_append] at h ⊢
    exact ⟨h.1, lts_append h.2 h2⟩
theorem lts_set {n i : Nat} {d : D} (hd : D.lt n d = true) : ∀ {xs : List D}, D.lts n xs = true → D.lts n (xs.set i d) = true := by
  intro xs
  induction xs generalizing i with
  | nil => intro h; exact h
  | cons x xs ih =>
    intro h
    simp only [D.lts, Bool.and_eq_true] at h
    cases i with
    | zero => simp only [List.set_cons_zero, D.lts, Bool.and_eq_true]; exact ⟨hd, h.2⟩
    | succ i => simp only [List.set_cons_succ, D.lts, Bool.and_eq_true]; exact ⟨h.1, ih h.2⟩
theorem RVs.set {d : D} {v : V} (r : RV K ρ H d v) : ∀ {xs : List D} {vs : List V} (i : Nat), RVs K ρ H xs vs → RVs K ρ H (xs.set i d) (vs.set i v)
  | [], vs, i, h => by simp only [RVs] at h; subst h; exact RVs.nil
  | x :: xs, vs, 0, h => by
    obtain ⟨w, wr, rfl, rw', rr⟩ := h.uncons
    exact .cons r rr
  | x :: xs, vs, i + 1, h => by
    obtain ⟨w, wr, rfl, rw', rr⟩ := h.uncons
    exact .cons rw' (RVs.set r i rr)
theorem RKV.put {k : Key} {d : D} {v : V} (r : RV K ρ H d v) : ∀ {ds : List (Key × D)} {vs : List (Key × V)}, RKV K ρ H ds vs → RKV K ρ H (putD ds k d) (putK vs k v) := by
  intro ds vs h
  have any : (ds.any fun kv => decide (kv.1 = k)) = (vs.any fun kv => decide (kv.1 = k)) := by
    induction ds generalizing vs with
    | nil => simp only [RKV] at h; subst h; rfl
    | cons x xs ih =>
      simp only [RKV] at h
      obtain ⟨w, wr, rfl, rw', rr⟩ := h
      simp only [List.any_cons, ih rr]
  unfold putD putK
  rw [any]
  split
  · rename_i q0
    clear any q0
    induction ds generalizing vs with
    | nil => simp only [RKV] at h; subst h; simp only [List.map_nil, RKV]
    | cons x xs ih =>
      simp only [RKV] at h
      obtain ⟨w, wr, rfl, rw', rr⟩ := h
      simp only [List.map_cons, RKV]
      refine ⟨if x.1 = k then v else w, _, ?_, ?_, ih rr⟩
      · split <;> rfl
      · split
        · exact r
        · exact rw'
  · clear any
    induction ds generalizing vs with
    | nil => simp only [RKV] at h; subst h; simp only [List.nil_append, RKV]; exact ⟨v, [], rfl, r, rfl⟩
    | cons x xs ih =>
      simp only [RKV] at h
      obtain ⟨w, wr, rfl, rw', rr⟩ := h
      rename_i q
      simp only [List.cons_append, RKV]
      refine ⟨w, _, rfl, rw', ih rr ?_⟩
      intro z
      apply q
      simp only [List.any_cons, z, Bool.or_true]
theorem RKV.merge : ∀ {more : List (Key × D)} {mv : List (Key × V)} {ds : List (Key × D)} {vs : List (Key × V)}, RKV K ρ H ds vs → RKV K ρ H more mv → RKV K ρ H (mergeD ds more) (mergeK vs mv)
  | [], mv, ds, vs, h, m => by simp only [RKV] at m; subst m; exact h
  | x :: xs, mv, ds, vs, h, m => by
    simp only [RKV] at m
    obtain ⟨w, wr, rfl, rw', rr⟩ := m
    exact RKV.merge (more := xs) (mv := wr) (h.put rw') rr
end
section
variable {cn : Cn} {cl : Nat → List D → Sto → Out D} {k : Nat}
theorem px_chain (o o' : CmpOp) {a b c : Ex} (ha : PX cn cl k a) (hb : PX cn cl k b) (hc : PX cn cl k c) : PX cn cl k (.chain o o' a b c) := by
  refine ⟨fun X W e g h => ?_, noI fun _ _ _ => by simp [mI]⟩
  cases e with
  | Compare l os rs p =>
    match os, rs, h with
    | [p1, p2], [m, r], h =>
      simp only [mE, Bool.and_eq_true, decide_eq_true_eq] at h
      obtain ⟨⟨⟨⟨⟨rfl, rfl⟩, h1⟩, h2⟩, h3⟩, h4⟩ := h
      obtain ⟨rr, op, vr⟩ := op_cmp (X := X) (mg := X.mg) g.room.units o
      obtain ⟨rr', op', vr'⟩ := op_cmp (X := X) (mg := X.mg) g.room.units o'
      have key : ∀ σ H Q, TF X.K X.mg W (evE cl (.chain o o' a b c)) σ H Q → tChain rr rr' (TF X.K X.mg W (evE cl a)) (TF X.K X.mg W (evE cl b)) (TF X.K X.mg W (evE cl c)) σ H Q := by
        intro σ H Q q
        obtain ⟨ρ, ε, S, hs, hp, q⟩ := q
        simp only [evE] at q
        refine ⟨ρ, ε, S, hs, hp, q.seq fun ρ1 vx H1 x S1 s1 rp1 rx q1 => ⟨ρ1, ε, S1, hs.mono s1.pre s1.kp, rp1, q1.seq fun ρ2 vy H2 y S2 s2 rp2 ry q2 => ?_⟩⟩
        have hs2 := (hs.mono s1.pre s1.kp).mono s2.pre s2.kp
        refine vr _ _ _ _ _ _ _ _ _ rp2 (rx.mono s2.pre s2.kp) ry (q2.seq fun ρ3 vz H3 z S3 s3 rp3 rz q3 => ?_)
        split at q3
        · exact ⟨true, rz.bl, by rw [if_pos rfl]; exact ⟨ρ3, ε, S3, hs2.mono s3.pre s3.kp, rp3, q3.seq fun ρ4 vw H4 w S4 s4 rp4 rw' q4 => vr' _ _ _ _ _ _ _ _ _ rp4 ((ry.mono s3.pre s3.kp).mono s4.pre s4.kp) rw' q4⟩⟩
        · exact ⟨false, rz.bl, by rw [if_neg Bool.false_ne_true]; exact q3.here rp3 (.mkBl _)⟩
        · exact q3.elim
      have hm : lastMarks [o, o'] [m, r] = false := noSet_mark h4
      constructor
      · exact PE.imp (pe_chain op op' (ha.1 X W l g h1).1 (hb.1 X W m g h2).1 (hc.1 X W r g h3).1 hm) key
      · refine PT.imp (pt_chain op op' (ha.1 X W l g h1).1 (hb.1 X W m g h2).1 (hc.1 X W r g h3).1 hm) fun σ H Q q => ?_
        refine key σ H _ (tf_test (fun ε S d S1 e => ?_) σ H Q q)
        simp only [evE] at e
        obtain ⟨x, S2, e1, e⟩ := Out.bind_okI e
        obtain ⟨y, S3, e2, e⟩ := Out.bind_okI e
        obtain ⟨z, S4, e3, e⟩ := Out.bind_okI e
        split at e
        · obtain ⟨w, S5, e4, e⟩ := Out.bind_okI e
          exact cmpF_bl e
        · cases e; exact ⟨_, rfl⟩
        · cases e
    | [], _, h => simp [mE] at h
    | [_], _, h => simp [mE] at h
    | [_, _], [], h => simp [mE] at h
    | [_, _], [_], h => simp [mE] at h
    | [_, _], _ :: _ :: _ :: _, h => simp [mE] at h
    | _ :: _ :: _ :: _, _, h => simp [mE] at h
  | _ => simp [mE] at h
theorem px_rev {a : Ex} (ha : PX cn cl k a) : PX cn cl k (.rev a) := by
  refine ⟨fun X W e g h => ?_, noI fun _ _ _ => by simp [mI]⟩
  cases e with
  | Subscript l s p =>
    cases s with
    | Slice lo hi st p2 =>
      match lo, hi, st, h with
      | none, none, some st, h =>
        simp only [mE, Bool.and_eq_true] at h
        obtain ⟨h1, h2⟩ := h
        have he := (ha.1 X W l g h1).1
        obtain ⟨i, pc, pu, rfl⟩ : ∃ i pc pu, st = .UnaryOp .USub (.Constant (.int 1) i pc) pu := by
          unfold revStep at h2
          split at h2
          · have := of_decide_eq_true h2
            subst this
            exact ⟨_, _, _, rfl⟩
          · cases h2
        refine both ?_ rfl
        have h1 := pe_revL (k := i) (p1 := pc) (p2 := pu) (p3 := p2) (pos := p) he
        have h2 := pe_revT (k := i) (p1 := pc) (p2 := pu) (p3 := p2) (pos := p) he
        refine ⟨fun pins s σ H Q I q => ?_⟩
        obtain ⟨ρ, ε, S, hs, hp, q⟩ := q
        simp only [evE] at q
        cases e0 : evE cl a ε S with
        | bad => rw [e0] at q; exact q.elim
        | exc c v S2 => rw [e0] at q; exact h1.run pins s σ H Q I ⟨ρ, ε, S, hs, hp, by rw [e0]; exact q⟩
        | ok x S1 =>
          rw [e0, Out.bind_ok] at q
          unfold opRev at q
          split at q
          · refine h2.run pins s σ H Q I ⟨ρ, ε, S, hs, hp, ?_⟩
            rw [e0]
            intro ρ1 v H1 sx rp r
            obtain ⟨b, vs, rfl, sq, t⟩ := r.tup
            exact ⟨b, vs, rfl, sq, fun p hp => post_tup rp t.rev (q.weak sx) p hp⟩
          · rename_i hx
            split at q
            · rename_i ds e
              refine h1.run pins s σ H Q I ⟨ρ, ε, S, hs, hp, ?_⟩
              rw [e0]
              intro ρ1 v H1 sx rp r
              have e' : lstOf S1 x = some ds := by
                cases x with
                | tup xs => exact absurd rfl (hx xs)
                | rol xs => exact e
                | loc l => exact e
                | _ => simp [seqOf] at e
              obtain ⟨b, vs, rfl, sq, t⟩ := lstOf_ok rp r e'
              exact ⟨b, vs, rfl, sq, fun p hp => post_lst rp t.rev (q.weak sx) p hp⟩
            · exact q.elim
      | some _, _, _, h => simp [mE] at h
      | none, some _, _, h => simp [mE] at h
      | none, none, none, h => simp [mE] at h
    | _ => simp [mE] at h
  | _ => simp [mE] at h
/-- the parts of a comprehension that is matched -/
theorem lc_parts {a it : Ex} {own : List Nat} {tg : Tg} {ifs : List Ex} (ha : PX cn cl k a) (hi : PX cn cl k it) (hf : PXs cn cl k ifs) {X : Cx} {W : WX} {el : Expr} {gs : List Comprehension} {scope : Scope} {p : Pos} (g : Good cn cl k W X)
    (h : mE cn (.lc a own tg it ifs) X.env.scope (.ListComp el gs scope p) = true) : ∃ t i fs, gs = [⟨t, i, fs, 0⟩] ∧ PI X t i (TFi X.K X.mg W (evI cl it)) ∧ BlkOk X.N X.env.scope scope (ownOf X.N own) ∧ tgIn own tg = true ∧
      (∀ (s : Shared) (H : Hp) (C : Addr) (c : List (Str × Addr)) (fp : List Addr), PG (X.blk s H scope (compEnvC scope c C X.env) fp) t (gOf X.K tg)) ∧
      (∀ (s : Shared) (H : Hp) (C : Addr) (c : List (Str × Addr)) (fp : List Addr), PTs (X.blk s H scope (compEnvC scope c C X.env) fp) fs (TFt X.K X.mg W0 (evTs cl ifs))) ∧
      (∀ (s : Shared) (H : Hp) (C : Addr) (c : List (Str × Addr)) (fp : List Addr), PE (X.blk s H scope (compEnvC scope c C X.env) fp) el (TF X.K X.mg W0 (evE cl a))) ∧ ∀ x, foldedSetIterable i X.env x = pure x := by
  match gs, h with
  | [⟨t, i, fs, as⟩], h =>
    by_cases hz : as = 0
    · subst hz
      simp only [mE, Bool.and_eq_true] at h
      obtain ⟨⟨⟨⟨⟨⟨h1, h2⟩, h3⟩, h4⟩, h5⟩, h6⟩, h7⟩ := h
      refine ⟨t, i, fs, rfl, hi.2 X W i t g h4, by rw [g.nN]; exact blkOk_by h1, h3, fun s H C c fp => ?_, fun s H C c fp => ?_, fun s H C c fp => ?_, noSet_fold h5⟩
      · refine pg_of (X := X.blk s H scope (compEnvC scope c C X.env) fp) (okN := blkN scope X.env.scope) g.nN g.nd g.calm (fun x hx => ?_) tg t h2
        unfold blkN at hx
        split at hx
        · rename_i e; exact ⟨.inl e, .inr e⟩
        · rename_i e; exact ⟨.inr e, .inl hx⟩
        · cases hx
      · exact hf.2.2.2.2.1 (X.blk s H scope (compEnvC scope c C X.env) fp) W0 fs (g.blk s H scope _ fp) h6
      · exact (ha.1 (X.blk s H scope (compEnvC scope c C X.env) fp) W0 el (g.blk s H scope _ fp) h7).1
    · exfalso
      simp only [mE] at h
      split at h
      · rename_i q; cases q; exact hz rfl
      · cases h
  | [], h => simp [mE] at h
  | _ :: _ :: _, h => simp [mE] at h
theorem px_lc {a it : Ex} {own : List Nat} {tg : Tg} {ifs : List Ex} (ha : PX cn cl k a) (hi : PX cn cl k it) (hf : PXs cn cl k ifs) : PX cn cl k (.lc a own tg it ifs) := by
  refine ⟨fun X W e g h => ?_, noI fun _ _ _ => by simp [mI]⟩
  cases e with
  | ListComp el gs scope p =>
    obtain ⟨t, i, fs, rfl, h1, h2, h3, h4, h5, h6, h7⟩ := lc_parts ha hi hf g h
    exact both (pe_lcG g.calm g.nd h1 h2 h3 h4 h5 h6 h7) rfl
  | _ => simp [mE] at h
theorem px_itv {a : Ex} (ha : PX cn cl k a) : PX cn cl k (.itv a) := by
  refine ⟨fun X W e g h => by simp [mE] at h, fun X W e t g h => ?_⟩
  simp only [mI] at h
  exact pi_val (ha.1 X W e g h).1
theorem px_rng {es : List Ex} (hs : PXs cn cl k es) : PX cn cl k (.rng es) := by
  refine ⟨fun X W e g h => by simp [mE] at h, fun X W e t g h => ?_⟩
  cases e with
  | Call fe vs ks p =>
    cases fe with
    | Name x pp =>
      match vs, ks, h with
      | [v], [], h =>
        simp only [mI, Bool.and_eq_true, decide_eq_true_eq] at h
        obtain ⟨⟨⟨rfl, h1⟩, h2⟩, h3⟩ := h
        have hst := mEs_stars h2
        simp only [noStars, Bool.and_eq_true] at hst
        have hl := mEs_len h2
        exact pi_rng1 (gl_of h1) (g.blt _ (by decide +kernel)) (hs.1 X W [v] g h2) (star_cons hst.1) fun ε S ds S1 e => (evEs_len e).trans hl
      | [v, w], [], h =>
        simp only [mI, Bool.and_eq_true, decide_eq_true_eq] at h
        obtain ⟨⟨⟨rfl, h1⟩, h2⟩, h3⟩ := h
        have hst := mEs_stars h2
        simp only [noStars, Bool.and_eq_true] at hst
        have hl := mEs_len h2
        have s2 : starEach [w] X.env = [(false, eval w X.env)] := star_cons hst.2.1
        exact pi_rng2 (gl_of h1) (g.blt _ (by decide +kernel)) (hs.1 X W [v, w] g h2) (by rw [star_cons hst.1, s2]) s2 fun ε S ds S1 e => (evEs_len e).trans hl
      | [], ks, h => cases ks <;> simp [mI] at h
      | _ :: _ :: _ :: _, [], h => simp [mI] at h
      | _ :: _, _ :: _, h => simp [mI] at h
    | _ => simp [mI] at h
  | _ => simp [mI] at h
theorem px_enum {a : Ex} (ha : PX cn cl k a) : PX cn cl k (.enum a) := by
  refine ⟨fun X W e g h => by simp [mE] at h, fun X W e t g h => ?_⟩
  cases e with
  | Call fe vs ks p =>
    cases fe with
    | Name x pp =>
      match vs, ks, h with
      | [v], [], h =>
        simp only [mI, Bool.and_eq_true, decide_eq_true_eq] at h
        obtain ⟨⟨⟨⟨rfl, h1⟩, h2⟩, h3⟩, h4⟩ := h
        exact pi_enumG h4 (gl_of h1) (g.blt _ (by decide +kernel)) (ha.1 X W v g h2).1 h3
      | [], ks, h => cases ks <;> simp [mI] at h
      | _ :: _ :: _, ks, h => cases ks <;> simp [mI] at h
      | [_], _ :: _, h => simp [mI] at h
    | _ => simp [mI] at h
  | _ => simp [mI] at h
theorem px_zip {a b : Ex} (ha : PX cn cl k a) (hb : PX cn cl k b) : PX cn cl k (.zip a b) := by
  refine ⟨fun X W e g h => by simp [mE] at h, fun X W e t g h => ?_⟩
  cases e with
  | Call fe vs ks p =>
    cases fe with
    | Name x pp =>
      match vs, ks, h with
      | [v, w], [], h =>
        simp only [mI, Bool.and_eq_true, decide_eq_true_eq] at h
        obtain ⟨⟨⟨⟨⟨⟨rfl, h1⟩, h2⟩, h3⟩, h4⟩, h5⟩, h6⟩ := h
        exact pi_zipG h6 (gl_of h1) (g.blt _ (by decide +kernel)) (ha.1 X W v g h2).1 (hb.1 X W w g h3).1 h4 h5
      | [], ks, h => cases ks <;> simp [mI] at h
      | [_], ks, h => cases ks <;> simp [mI] at h
      | _ :: _ :: _ :: _, ks, h => cases ks <;> simp [mI] at h
      | [_, _], _ :: _, h => simp [mI] at h
    | _ => simp [mI] at h
  | _ => simp [mI] at h
end
end GG
namespace GG
open PySem PySem.Spec PyProof.Rows L2
section
variable {K : PySem.W.Frag} {mg : Str → Option Value} {cn : Cn} {cl : Nat → List D → Sto → Out D} {k : Nat} {W : WX} {X : Cx}
/-- a method's rule serves a function -/
def VRm (K : PySem.W.Frag) (mg : Str → Option Value) (r : V → List V → Hp → VK → Prop) (h : D → List D → Sto → Out D) (ok : D → Sto → Bool) : Prop :=
  ∀ (E : XK) (ρ : List Addr) (S : Sto) (H : Hp) (x : D) (vx : V) (xs : List D) (vs : List V) (Q : VK), Rp K ρ S H → RV K ρ H x vx → RVs K ρ H xs vs → Post K mg (RV K) E ρ H (h x xs S) Q → r vx vs H Q
theorem tf_bm {T : String} {r : V → List V → Hp → VK → Prop} {m : Me} {fo : Env → Sto → Out D} {fa : Env → Sto → Out (List D)} (v : VRm K mg r (meF m) (meR m))
    (ty : ∀ ρ S H x vx, Rp K ρ S H → RV K ρ H x vx → meR m x S = true → tyV K T vx H) (σ : L2.St) (H : Hp) (Q : VK)
    (q : TF K mg W (fun ε S => (fo ε S).bind fun x S1 => if meR m x S1 = true then (fa ε S1).bind fun ds S2 => meF m x ds S2 else .bad) σ H Q) : tBM K T r (TF K mg W fo) (TFs K mg W fa) σ H Q := by
  obtain ⟨ρ, ε, S, hs, hp, q⟩ := q
  refine ⟨ρ, ε, S, hs, hp, q.seq fun ρ1 vx H1 x S1 s1 rp1 rx q1 => ?_⟩
  split at q1
  · rename_i ok
    exact ⟨ty ρ1 S1 H1 x vx rp1 rx ok, ρ1, ε, S1, hs.mono s1.pre s1.kp, rp1, q1.seq fun ρ2 vs H2 ds S2 s2 rp2 rv q2 => v _ _ _ _ _ _ _ _ _ rp2 (rx.mono s2.pre s2.kp) rv q2⟩
  · exact q1.elim
theorem tf_bm0 {T : String} {r : V → List V → Hp → VK → Prop} {m : Me} {fo : Env → Sto → Out D} (v : VRm K mg r (meF m) (meR m))
    (ty : ∀ ρ S H x vx, Rp K ρ S H → RV K ρ H x vx → meR m x S = true → tyV K T vx H) (σ : L2.St) (H : Hp) (Q : VK)
    (q : TF K mg W (fun ε S => (fo ε S).bind fun x S1 => if meR m x S1 = true then meF m x [] S1 else .bad) σ H Q) : tBM0 K T r (TF K mg W fo) σ H Q := by
  obtain ⟨ρ, ε, S, hs, hp, q⟩ := q
  refine ⟨ρ, ε, S, hs, hp, q.seq fun ρ1 vx H1 x S1 s1 rp1 rx q1 => ?_⟩
  split at q1
  · rename_i ok
    exact ⟨ty ρ1 S1 H1 x vx rp1 rx ok, v _ _ _ _ _ _ _ _ _ rp1 rx RVs.nil q1⟩
  · exact q1.elim
theorem ty_str {m : Me} (hm : ∀ x S, meR m x S = true → ∃ z, x = .str z) : ∀ ρ S H x vx, Rp K ρ S H → RV K ρ H x vx → meR m x S = true → tyV K "str" vx H := by
  intro ρ S H x vx rp rx ok
  obtain ⟨z, rfl⟩ := hm x S ok
  rw [rx.str]; rfl
theorem ty_lst {m : Me} (hm : ∀ x S, meR m x S = true → ∃ l ds, x = .loc l ∧ S[l]? = some (.lst ds)) : ∀ ρ S H x vx, Rp K ρ S H → RV K ρ H x vx → meR m x S = true → tyV K "list" vx H := by
  intro ρ S H x vx rp rx ok
  obtain ⟨l, ds, rfl, e⟩ := hm x S ok
  obtain ⟨a, ea, rfl⟩ := rx.loc
  obtain ⟨vs, q, t⟩ := rp.lst ea e
  exact .inl ⟨rfl, vs, SqL.of q⟩
theorem vr_join : VRm K mg (fun x xs H Q => ∃ a p ys, x = .str a ∧ xs = [.ref p] ∧ (SqL K H p (ys.map V.str) ∨ SqT K H p (ys.map V.str)) ∧ (ys.map (·.length)).sum + ys.length * a.length ≤ 16777216 ∧ Q (.str (Txt.join a ys)) H) (meF .join) (meR .join) := by
  intro E ρ S H x vx xs vs Q rp rx rv q
  unfold meF at q
  split at q <;> try exact q.elim
  all_goals first | (rename_i h; cases h) | skip
  obtain ⟨v, rfl, r⟩ := rv.one'
  split at q
  · rename_i ys e
    split at q
    · rename_i z
      obtain ⟨ds, e1, e2⟩ := Option.bind_eq_some_iff.mp e
      obtain ⟨a, ws, rfl, sq, t⟩ := seqOf_ok rp r e1
      have e3 := strs_V t e2
      subst e3
      exact ⟨_, a, ys, rx.str, rfl, sq, z, q.here rp (.mkStr _)⟩
    · exact q.elim
  · exact q.elim
theorem vr_upper : VRm K mg (fun x xs H Q => ∃ a, x = .str a ∧ xs = [] ∧ a.length ≤ 5592405 ∧ Q (.str (Txt.upper a)) H) (meF .upper) (meR .upper) := by
  intro E ρ S H x vx xs vs Q rp rx rv q
  unfold meF at q
  split at q <;> try exact q.elim
  all_goals first | (rename_i h; cases h) | skip
  simp only [RVs] at rv
  split at q
  · rename_i z
    exact ⟨_, rx.str, rv, z, q.here rp (.mkStr _)⟩
  · exact q.elim
theorem vr_append : VRm K mg rAppend (meF .append) (meR .append) := by
  intro E ρ S H x vx xs vs Q rp rx rv q
  unfold meF at q
  split at q <;> try exact q.elim
  all_goals first | (rename_i h; cases h) | skip
  obtain ⟨v, rfl, r⟩ := rv.one'
  obtain ⟨a, ea, rfl⟩ := rx.loc
  split at q
  · rename_i ds e
    split at q
    · rename_i z
      obtain ⟨ws, h1, t⟩ := rp.lst ea e
      have kp : Kp H (upd H a (.lst (ws ++ [v]))) := Kp.put h1 (fun _ z => nomatch z) (fun _ _ z => nomatch z) (fun _ z => nomatch z)
      obtain ⟨rp2, sx⟩ := rp.put (u' := .lst (ws ++ [v])) (o' := .lst (ds ++ [_])) ea ⟨ws ++ [v], upd_same, (t.append (.one r)).mono (pre_refl _) kp⟩ (lts_append (rp.ord _ _ e) (by simp only [D.lts, z.1, Bool.and_self]))
      exact ⟨a, ws, v, rfl, rfl, h1, by rw [← t.len]; exact z.2, q ρ .non _ sx rp2 .mkNon⟩
    · exact q.elim
  · exact q.elim
theorem px_me (m : Me) {o : Ex} {es : List Ex} (ho : PX cn cl k o) (hs : PXs cn cl k es) : PX cn cl k (.me m o es) := by
  refine ⟨fun X W e g h => ?_, noI fun _ _ _ => by simp [mI]⟩
  cases e with
  | Call fe vs ks p =>
    cases fe with
    | Attribute v nm ap =>
      cases ks with
      | cons kw ks => simp [mE] at h
      | nil =>
        simp only [mE, Bool.and_eq_true, decide_eq_true_eq] at h
        obtain ⟨⟨⟨⟨⟨rfl, h1⟩, h2⟩, h3⟩, h4⟩, h5⟩ := h
        have hv := (ho.1 X W v g h1).1
        have hl := (mEs_len h2).symm.trans h5
        have hst := mEs_stars h2
        have hb : attributeBase v m.name X.env (eval v X.env) = eval v X.env := noCall_base h3
        have ha := hs.1 X W vs g h2
        refine both ?_ rfl
        have few : ∀ {e : Expr} {es : List Expr}, noStars (e :: es) = true → (e :: es).length = 1 → ((backTo p (starEach (e :: es) X.env)).all (fun x => !x.1) && (backToKw p (keywordEach [] X.env)).all (fun x => x.1.isSome)
          && decide ((e :: es).length + ([] : List Keyword).length + (if ([] : List Keyword).isEmpty then 0 else 1) < 30)) = true := fun {e es} h hl => by
          rw [star_all h, hl]; rfl
        cases m with
        | join =>
          cases vs with
          | nil => simp [Me.ar] at hl
          | cons w ws =>
            have hst' := hst
            simp only [noStars, Bool.and_eq_true] at hst'
            exact PE.imp (pe_bm PySem.F.plainAttrs_str PySem.F.slot_str_join PySem.F.type_str_join mt_join hv ha hb (few hst hl) h4 (star_cons hst'.1) (star_any hst'.2)) fun σ H Q q =>
              tf_bm vr_join (ty_str fun x S h => by unfold meR at h; split at h <;> first | exact ⟨_, rfl⟩ | contradiction | cases h) σ H Q q
        | append =>
          cases vs with
          | nil => simp [Me.ar] at hl
          | cons w ws =>
            have hst' := hst
            simp only [noStars, Bool.and_eq_true] at hst'
            exact PE.imp (pe_bm PySem.F.plainAttrs_list PySem.F.slot_list_append PySem.F.type_list_append mt_append hv ha hb (few hst hl) h4 (star_cons hst'.1) (star_any hst'.2)) fun σ H Q q =>
              tf_bm vr_append (ty_lst fun x S h => by
                cases x with
                | loc l =>
                  simp only [meR] at h
                  split at h
                  · rename_i ds e2; exact ⟨l, ds, rfl, e2⟩
                  · cases h
                | _ => simp [meR] at h) σ H Q q
        | upper =>
          cases vs with
          | cons w ws => simp [Me.ar] at hl
          | nil =>
            have ez : es = [] := by
              cases es with
              | nil => rfl
              | cons a r => simp [mEs] at h2
            subst ez
            exact PE.imp (pe_bm0 PySem.F.plainAttrs_str PySem.F.slot_str_upper PySem.F.type_str_upper mt_upper hv hb h4) fun σ H Q q =>
              tf_bm0 vr_upper (ty_str fun x S h => by unfold meR at h; split at h <;> first | exact ⟨_, rfl⟩ | contradiction | cases h) σ H Q q
    | _ => simp [mE] at h
  | _ => simp [mE] at h
end
end GG
namespace GG
open PySem PySem.Spec PyProof.Rows L2
section
variable {cn : Cn} {cl : Nat → List D → Sto → Out D} {k : Nat} {W : WX} {X : Cx}
theorem pairs_ok (g : Good cn cl k W X) (pos : Pos) : ∀ (ks : List Key) (es : List Ex) (keys : List (Option Expr)) (vals : List Expr), (∀ a ∈ es, PX cn cl k a) → mK ks keys = true → mEs cn es X.env.scope vals = true → ks.length = es.length →
    ∃ trs, PPs X pos keys vals trs ∧ keys.all (·.isSome) = true ∧ keys.length = ks.length ∧ ∀ (σ : L2.St) (H : Hp) (ρ : List Addr) (ε : Env) (S : Sto) (R : List V → Hp → Prop) (Q : List (V × V) → Hp → Prop), Rs X.K ρ H ε σ → Rp X.K ρ S H → Post X.K X.mg (RVs X.K) (XW W σ) ρ H (evEs cl es ε S) R →
      (∀ vs H2, R vs H2 → Q ((ks.zip vs).map fun kv => (kV kv.1, kv.2)) H2) → tPairs trs σ H Q
  | [], es, keys, vals, hp, hk, he, hl => by
    cases es with
    | cons a r => simp at hl
    | nil =>
      cases keys with
      | cons _ _ => simp [mK] at hk
      | nil =>
        cases vals with
        | cons _ _ => simp [mEs] at he
        | nil => exact ⟨[], pps_nil, rfl, rfl, fun σ H ρ ε S R Q rs rp q hq => hq [] H (q.here rp RVs.nil)⟩
  | kk :: ks, es, keys, vals, hp, hk, he, hl => by
    cases es with
    | nil => simp at hl
    | cons a r =>
      cases keys with
      | nil => simp [mK] at hk
      | cons ko keys =>
        cases ko with
        | none => simp [mK] at hk
        | some ke =>
          cases vals with
          | nil => simp [mEs] at he
          | cons v vals =>
            simp only [mK, Bool.and_eq_true] at hk
            simp only [mEs, Bool.and_eq_true] at he
            obtain ⟨trs, t1, t2, t3, t4⟩ := pairs_ok g pos ks r keys vals (fun b hb => hp b (List.mem_cons_of_mem _ hb)) hk.2 he.2 (by simpa using hl)
            have hv := ((hp a List.mem_cons_self).1 X W v g he.1.1).1
            have hke : PE X ke (tC (kV kk)) := by
              unfold keyIsC at hk
              cases kk with
              | inl i =>
                cases ke with
                | Constant c j p => cases c <;> first | (have := of_decide_eq_true hk.1; subst this; exact pe_int) | (simp at hk)
                | _ => simp at hk
              | inr i =>
                cases ke with
                | Constant c j p => cases c <;> first | (have := of_decide_eq_true hk.1; subst this; exact pe_str) | (simp at hk)
                | _ => simp at hk
            refine ⟨_, pps_cons hke hv t1, by simpa using t2, by simp [t3], fun σ H ρ ε S R Q rs rp q hq => ?_⟩
            simp only [tPairs, evEs] at q ⊢
            refine ⟨ρ, ε, S, rs, rp, q.seq fun ρ1 vx H1 x S1 s1 rp1 rx q1 => ?_⟩
            exact t4 σ H1 ρ1 ε S1 (fun vs H2 => R (vx :: vs) H2) (fun ps H2 => Q ((kV kk, vx) :: ps) H2) (rs.mono s1.pre s1.kp) rp1
              (q1.seq fun ρ2 vs H2 xs S2 s2 rp2 rv q2 => q2.here rp2 (.cons (rx.mono s2.pre s2.kp) rv)) fun vs H2 h => hq (vx :: vs) H2 h
theorem RKV.zip {K : PySem.W.Frag} {ρ : List Addr} {H : Hp} : ∀ {ks : List Key} {ds : List D} {vs : List V}, RVs K ρ H ds vs → RKV K ρ H (ks.zip ds) (ks.zip vs)
  | [], ds, vs, r => by simp only [List.zip_nil_left, RKV]
  | kk :: ks, [], vs, r => by simp only [RVs] at r; subst r; simp only [List.zip_nil_right, RKV]
  | kk :: ks, d :: ds, vs, r => by
    obtain ⟨v, vr, rfl, rv, rr⟩ := r.uncons
    simp only [List.zip_cons_cons, RKV]
    exact ⟨v, _, rfl, rv, RKV.zip rr⟩
theorem px_dct (ks : List Key) {es : List Ex} (hs : PXs cn cl k es) : PX cn cl k (.dct ks es) := by
  refine ⟨fun X W e g h => ?_, noI fun _ _ _ => by simp [mI]⟩
  cases e with
  | Dict keys vals p =>
    simp only [mE, Bool.and_eq_true, decide_eq_true_eq] at h
    obtain ⟨⟨⟨h1, h2⟩, h3⟩, h4⟩ := h
    obtain ⟨trs, t1, t2, t3, t4⟩ := pairs_ok g p ks es keys vals hs.2.2.2.2.2 h1 h2 h3
    have hl := mEs_len h2
    refine both ?_ rfl
    cases keys with
    | nil =>
      cases ks with
      | cons _ _ => simp at t3
      | nil =>
        cases es with
        | cons _ _ => simp at h3
        | nil =>
          cases vals with
          | cons _ _ => simp at hl
          | nil =>
            refine PE.imp pe_dnewK fun σ H Q q => ?_
            obtain ⟨ρ, ε, S, rs, rp, q⟩ := q
            exact fun p hp => post_dict (ds := []) (vs := []) rp (by simp only [RKV]) q p hp
    | cons k0 keys =>
      refine PE.imp (pe_disp t1 t2 (by rw [t3, h3, hl]) (by simp) (by rw [t3]; exact h4)) fun σ H Q q => ?_
      obtain ⟨ρ, ε, S, rs, rp, q⟩ := q
      simp only [evE] at q
      intro pd hp
      have sxp : Sx ρ H ρ (upd H pd (.dK [])) := Sx.fresh hp
      have np : pd ∉ ρ := by
        intro z
        obtain ⟨i, hi⟩ := List.getElem?_of_mem z
        obtain ⟨u, e⟩ := rp.dom hi
        rw [hp] at e; cases e
      refine t4 σ _ ρ ε S (fun vs H2 => H2 pd = some (.dK []) ∧ vs.length ≤ 15 ∧ Q (.ref pd) (upd H2 pd (.dK (mergeK [] (ks.zip vs))))) _ (rs.mono sxp.pre sxp.kp) (rp.fresh hp) ?_ ?_
      · cases e0 : evEs cl es ε S with
        | bad => rw [e0] at q; exact q
        | exc c v S1 => rw [e0] at q; exact (Post.weak sxp q)
        | ok ds S1 =>
          rw [e0, Out.bind_ok] at q
          intro ρ1 vs H1 s1 rp1 rv
          have hd := s1.fm pd _ upd_same np
          split at q
          · rename_i z
            refine ⟨hd.1, by rw [← rv.len]; exact z, ?_⟩
            have kpD : Kp H1 (upd H1 pd (.dK (mergeK [] (ks.zip vs)))) := Kp.put hd.1 (fun _ z => nomatch z) (fun _ _ z => nomatch z) (fun _ z => nomatch z)
            have s2 := sxp.trans s1
            have rp2 := rp1.other (o := .dK (mergeK [] (ks.zip vs))) hd.2 hd.1 (fun _ z => nomatch z) (fun _ _ z => nomatch z) (fun _ z => nomatch z)
            have rk : RKV X.K ρ1 H1 (mergeD [] (ks.zip ds)) (mergeK [] (ks.zip vs)) := RKV.merge (ds := []) (vs := []) (by simp only [RKV]) (RKV.zip rv)
            refine q (ρ1 ++ [pd]) (.ref pd) _ ⟨s2.pre.trans ⟨[pd], rfl⟩, s2.kp.trans kpD, fun b u e n => ?_⟩ (rp2.adopt hd.2 ⟨_, upd_same, rk.mono (pre_refl _) kpD⟩) (.mkLoc ?_)
            · have hb : b ≠ pd := ne_of_none e hp
              obtain ⟨e1, n1⟩ := s2.fm b u e n
              exact ⟨by rw [upd_ne hb]; exact e1, by simp only [List.mem_append, List.mem_singleton, not_or]; exact ⟨n1, hb⟩⟩
            · rw [← rp1.len]; simp
          · exact q.elim
      · rintro vs H2 ⟨h1, h2, h3⟩
        refine ⟨h1, ks.zip vs, rfl, ?_, h3⟩
        rw [List.length_zip]; omega
  | _ => simp [mE] at h
mutual
theorem sX : ∀ ex : Ex, PX cn cl k ex
  | .v i => px_v i
  | .c d => px_c d
  | .g x d => px_g x d
  | .bop o a b => px_bop o (sX a) (sX b)
  | .neg a => px_neg (sX a)
  | .not a => px_not (sX a)
  | .cmp o a b => px_cmp o (sX a) (sX b)
  | .chain o o' a b c => px_chain o o' (sX a) (sX b) (sX c)
  | .and a es => px_and (sX a) (sXs es)
  | .or a es => px_or (sX a) (sXs es)
  | .ife t a b => px_ife (sX t) (sX a) (sX b)
  | .tup es => px_tup (sXs es)
  | .lst es => px_lst (sXs es)
  | .dct ks es => px_dct ks (sXs es)
  | .ix a i => px_ix (sX a) (sX i)
  | .sl a lo hi => px_sl (sX a) (sXs lo) (sXs hi)
  | .rev a => px_rev (sX a)
  | .call f es => px_call f (sXs es)
  | .bi b es => px_bi b (sXs es)
  | .isi a t => px_isi t (sX a)
  | .me m o es => px_me m (sX o) (sXs es)
  | .lc e own tg it ifs => px_lc (sX e) (sX it) (sXs ifs)
  | .rng es => px_rng (sXs es)
  | .enum e => px_enum (sX e)
  | .zip a b => px_zip (sX a) (sX b)
  | .itv e => px_itv (sX e)
theorem sXs : ∀ es : List Ex, PXs cn cl k es
  | [] => pxs_nil
  | a :: r => pxs_cons (sX a) (sXs r)
end
end
end GG
namespace GG
open PySem PySem.Spec PyProof.Rows L2
theorem blockK {env : PySem.Env} (h : env.scope.kind = .function) : env.blockKind = .function := by
  unfold Env.blockKind; rw [h]; rfl
theorem sw_two {x y : Str} {px py pt p2 : Pos} {kt k2 : Nat} {a b : Expr} {env : PySem.Env} (hk : env.scope.kind = .function) (hx : env.scope.names.lookup x = some .local) (hy : env.scope.names.lookup y = some .local) (hne : x ≠ y)
    (hl : (py.line == px.line) = true) (ha : noStar a = true) (hb : noStar b = true) (h1 : (foldedForSure 8 a && foldedForSure 8 b) = false) (h2 : (constantsAlone 8 a && constantsAlone 8 b) = false) :
    swappedStores [.Tuple [.Name x px, .Name y py] kt pt] (.Tuple [a, b] k2 p2) env = pure (some [x, y]) := by
  have kx : env.kindOf x = some .local := hx
  have ky : env.kindOf y = some .local := hy
  have hb' : env.blockKind = .function := blockK hk
  have sa : ∀ {e : Expr}, noStar e = true → (match e with | .Starred .. => true | _ => false) = false := fun {e} h => by
    cases e <;> first | rfl | (simp [noStar] at h)
  have st : ([a, b].any fun | .Starred .. => true | _ => false) = false := by
    simp only [List.any_cons, List.any_nil, Bool.or_false, Bool.or_eq_false_iff]
    exact ⟨sa ha, sa hb⟩
  have hl' : py.line = px.line := eq_of_beq hl
  have hd : ([x, y].eraseDups.length != [x, y].length) = false := by
    have : (y == x) = false := beq_eq_false_iff_ne.mpr (Ne.symm hne)
    simp [List.eraseDups_cons, this]
  unfold swappedStores
  simp only [hb']
  refine Eq.trans (if_neg fun q => ?_) ?_
  · have q' : (false : Bool) = true := q
    cases q'
  refine Eq.trans (if_neg fun q => ?_) ?_
  · exact Bool.noConfusion (st.symm.trans q)
  have hn : ([Expr.Name x px, Expr.Name y py].filterMap fun | .Name id pos => if (env.kindOf id == some .local && pos.line == px.line) = true then some id else none | _ => none) = [x, y] := by
    simp [List.filterMap_cons, kx, ky, hl']
  generalize hz : List.filterMap _ _ = z
  have hz' : z = [x, y] := hz.symm.trans hn
  subst hz'
  refine Eq.trans (if_neg fun q => ?_) ?_
  · rw [Bool.or_eq_true] at q
    rcases q with q | q
    · have q' : (false : Bool) = true := q
      cases q'
    · rw [hd] at q; cases q
  refine Eq.trans (if_neg fun q => ?_) ?_
  · simp only [List.all_cons, List.all_nil, Bool.and_true, h1] at q
    cases q
  refine Eq.trans (if_neg fun q => ?_) ?_
  · simp only [List.all_cons, List.all_nil, Bool.and_true, h2] at q
    cases q
  rfl
/-! ## statements -/
inductive Sm where
  | ret (e : Ex)
  | retN
  | set (tg : Tg) (e : Ex)
  | par (i j : Nat) (a b : Ex)
  | put (o i e : Ex)
  | ife (c : Ex) (t e : List Sm)
  | for_ (tg : Tg) (it : Ex) (b : List Sm)
  | while_ (c : Ex) (b : List Sm)
  | ex (e : Ex)
  | pass
  | brk
  | cont
  | never
inductive Fl where
  | nx (ε : Env)
  | rt (d : D)
  | bk (ε : Env)
  | ct (ε : Env)
inductive OutS where
  | ok (f : Fl) (S : Sto)
  | exc (c : Str) (v : Option (Str × D)) (ε : Env) (S : Sto)
  | bad
/-- an expression's outcome within a statement -/
def Out.on {α : Type} (r : Out α) (ε : Env) (g : α → Sto → OutS) : OutS :=
  match r with
  | .ok a S => g a S
  | .exc c v S => .exc c v ε S
  | .bad => .bad
def OutS.seq (r : OutS) (g : Env → Sto → OutS) : OutS :=
  match r with
  | .ok (.nx ε) S => g ε S
  | r => r
def forLoop (gs : List (Nat × O)) (tgt : D → Env → Option Env) (body : Env → Sto → OutS) : List D → Env → Sto → OutS
  | [], ε, S => if chk gs S = true then .ok (.nx ε) S else .bad
  | d :: r, ε, S => if chk gs S = true then (match tgt d ε with
    | none => .bad
    | some ε1 => match body ε1 S with
      | .ok (.nx ε2) S2 => forLoop gs tgt body r ε2 S2
      | .ok (.ct ε2) S2 => forLoop gs tgt body r ε2 S2
      | .ok (.bk ε2) S2 => .ok (.nx ε2) S2
      | .ok (.rt v) S2 => .ok (.rt v) S2
      | .exc c v ε2 S2 => .exc c v ε2 S2
      | .bad => .bad) else .bad
def whileLoop (cond : Env → Sto → Out Bool) (body : Env → Sto → OutS) : Nat → Env → Sto → OutS
  | 0, _, _ => .bad
  | n + 1, ε, S => (cond ε S).on ε fun b S1 => if b = true then (match body ε S1 with
      | .ok (.nx ε2) S2 => whileLoop cond body n ε2 S2
      | .ok (.ct ε2) S2 => whileLoop cond body n ε2 S2
      | .ok (.bk ε2) S2 => .ok (.nx ε2) S2
      | .ok (.rt v) S2 => .ok (.rt v) S2
      | .exc c v ε2 S2 => .exc c v ε2 S2
      | .bad => .bad) else .ok (.nx ε) S1
def putF (o i d : D) (S : Sto) : Out Unit :=
  match o, i with
  | .loc l, .int j => match S[l]? with
    | some (.lst ds) => match ixN ds.length j with
      | some n => if D.lt l d = true then .ok () (S.set l (.lst (ds.set n d))) else .bad
      | none => .bad
    | _ => .bad
  | _, _ => .bad
def wFuel : Nat := 1000000
section
variable (cl : Nat → List D → Sto → Out D)
mutual
def evS : Sm → Env → Sto → OutS
  | .ret e => fun ε S => (evE cl e ε S).on ε fun d S1 => .ok (.rt d) S1
  | .retN => fun ε S => .ok (.rt .non) S
  | .set tg e => fun ε S => (evE cl e ε S).on ε fun d S1 => match tgS tg d ε with
    | some ε1 => .ok (.nx ε1) S1
    | none => .bad
  | .par i j a b => fun ε S => (evE cl a ε S).on ε fun x S1 => (evE cl b ε S1).on ε fun y S2 => if i < ε.length ∧ j < ε.length then .ok (.nx ((ε.set i (some x)).set j (some y))) S2 else .bad
  | .put o i e => fun ε S => (evE cl e ε S).on ε fun d S1 => (evE cl o ε S1).on ε fun x S2 => (evE cl i ε S2).on ε fun y S3 => (putF x y d S3).on ε fun _ S4 => .ok (.nx ε) S4
  | .ife c t e => fun ε S => ((evE cl c ε S).bind truF).on ε fun b S1 => if b = true then evSs t ε S1 else evSs e ε S1
  | .for_ tg it b => fun ε S => (evI cl it ε S).on ε fun p S1 => forLoop p.2 (tgS tg) (evSs b) p.1 ε S1
  | .while_ c b => fun ε S => whileLoop (fun ε S => (evE cl c ε S).bind truF) (evSs b) wFuel ε S
  | .ex e => fun ε S => (evE cl e ε S).on ε fun _ S1 => .ok (.nx ε) S1
  | .pass => fun ε S => .ok (.nx ε) S
  | .brk => fun ε S => .ok (.bk ε) S
  | .cont => fun ε S => .ok (.ct ε) S
  | .never => fun _ _ => .bad
def evSs : List Sm → Env → Sto → OutS
  | [] => fun ε S => .ok (.nx ε) S
  | s :: r => fun ε S => (evS s ε S).seq (evSs r)
end
end
/-! ### which statements they stand for -/
def isTupE : Expr → Bool
  | .Tuple _ _ _ => true
  | _ => false
def noLT : Expr → Bool
  | .Tuple _ _ _ => false
  | .List _ _ => false
  | _ => true
/-- the store of a comprehension is made within its own frame -/
def swapB (sc : Scope) (y : Str) (py : Pos) : Expr → Bool
  | .ListComp _ _ scope pos => decide (sc.names.lookup y = some .local) && (py.line == pos.line) && !(scope.names.any fun (n, k) => n == y && (k == .local || k == .cell))
  | _ => false
def isLC : Expr → Bool
  | .ListComp _ _ _ _ => true
  | _ => false
section
variable (cn : Cn)
mutual
def mS : Sm → Scope → Stmt → Bool
  | .ret e => fun sc st => match st with
    | .Return (some x) _ => mE cn e sc x
    | _ => false
  | .retN => fun sc st => match st with
    | .Return none _ => true
    | _ => false
  | .set tg e => fun sc st => match st with
    | .Assign [t] x p => mG (locB sc) cn.N tg t && mE cn e sc x && (match t with
      | .Name y py => noComp x || swapB sc y py x
      | .Tuple _ _ _ => noComp x && noLT x
      | _ => false)
    | _ => false
  | .par i j a b => fun sc st => match st with
    | .Assign [.Tuple [.Name x px, .Name y py] kt pt] (.Tuple [l, r] k2 p2) _ => decide (cn.N[i]? = some x) && decide (cn.N[j]? = some y) && decide (i ≠ j) && decide (x ≠ y) && decide (sc.names.lookup x = some .local) && decide (sc.names.lookup y = some .local) &&
        (py.line == px.line) && mEs cn [a, b] sc [l, r] && !(foldedForSure 8 l && foldedForSure 8 r) && !(constantsAlone 8 l && constantsAlone 8 r)
    | _ => false
  | .put o i e => fun sc st => match st with
    | .Assign [.Subscript t s _] x _ => mE cn o sc t && mE cn i sc s && mE cn e sc x && noComp x && noSlice s
    | _ => false
  | .ife c t e => fun sc st => match st with
    | .If x a b _ => mE cn c sc x && mSs t sc a && mSs e sc b
    | _ => false
  | .for_ tg it b => fun sc st => match st with
    | .For t x a [] _ => mG (locB sc) cn.N tg t && mI cn it sc x t && noSet x && mSs b sc a
    | _ => false
  | .while_ c b => fun sc st => match st with
    | .While x a [] _ => mE cn c sc x && mSs b sc a
    | _ => false
  | .ex e => fun sc st => match st with
    | .Expr x _ => mE cn e sc x && noComp x
    | _ => false
  | .pass => fun sc st => match st with
    | .Pass _ => true
    | _ => false
  | .brk => fun sc st => match st with
    | .Break _ => true
    | _ => false
  | .cont => fun sc st => match st with
    | .Continue _ => true
    | _ => false
  | .never => fun sc st => true
def mSs : List Sm → Scope → List Stmt → Bool
  | [] => fun sc sts => match sts with
    | [] => true
    | _ => false
  | s :: r => fun sc sts => match sts with
    | st :: sts => mS s sc st && mSs r sc sts
    | _ => false
end
end
end GG
namespace GG
open PySem PySem.Spec PyProof.Rows L2
section
variable (K : PySem.W.Frag) (mg : Str → Option Value)
def PostS (W : WX) (ρ : List Addr) (H : Hp) (r : OutS) (Dn : Ends) : Prop :=
  match r with
  | .ok fl S => ∀ ρ' H', Sx ρ H ρ' H' → Rp K ρ' S H' → (match fl with
    | .nx ε => ∀ σ, Rs K ρ' H' ε σ → Dn.nx σ H'
    | .rt d => ∀ v, RV K ρ' H' d v → Dn.rt v H'
    | .bk ε => ∀ σ, Rs K ρ' H' ε σ → Dn.bk σ H'
    | .ct ε => ∀ σ, Rs K ρ' H' ε σ → Dn.ct σ H')
  | .exc c v ε S => ∀ ρ' H' σ cls dd, Sx ρ H ρ' H' → Rp K ρ' S H' → Rs K ρ' H' ε σ → RX K mg ρ' H' c v cls dd → W cls dd σ H'
  | .bad => False
def TFS (W : WX) (f : Env → Sto → OutS) : TS := fun Dn σ H => ∃ ρ ε S, Rs K ρ H ε σ ∧ Rp K ρ S H ∧ PostS K mg W ρ H (f ε S) Dn
end
section
variable {K : PySem.W.Frag} {mg : Str → Option Value} {α β : Type} {RA : List Addr → Hp → α → β → Prop} {ρ ρ1 : List Addr} {H H1 : Hp} {W : WX} {Dn : Ends}
theorem PostS.weak {r : OutS} (s : Sx ρ H ρ1 H1) (h : PostS K mg W ρ H r Dn) : PostS K mg W ρ1 H1 r Dn := by
  cases r with
  | ok f S => exact fun ρ' H' s' rp => h ρ' H' (s.trans s') rp
  | exc c v ε S => exact fun ρ' H' σ cls dd s' => h ρ' H' σ cls dd (s.trans s')
  | bad => exact h
theorem PostS.on {r : Out α} {ε : Env} {g : α → Sto → OutS} {σ : L2.St} {Q1 : β → Hp → Prop} (h : PostS K mg W ρ H (r.on ε g) Dn) (rs : Rs K ρ H ε σ)
    (step : ∀ ρ1 v H1 d S1, Sx ρ H ρ1 H1 → Rp K ρ1 S1 H1 → RA ρ1 H1 d v → PostS K mg W ρ1 H1 (g d S1) Dn → Q1 v H1) : Post K mg RA (XW W σ) ρ H r Q1 := by
  cases r with
  | ok d S => exact fun ρ' v H' s' rp ra => step ρ' v H' d S s' rp ra (PostS.weak s' h)
  | exc c x S => exact fun ρ' H' cls dd s' rp rx => h ρ' H' σ cls dd s' rp (rs.mono s'.pre s'.kp) rx
  | bad => exact h
theorem PostS.nxt {ε : Env} {S : Sto} {σ : L2.St} (h : PostS K mg W ρ H (.ok (.nx ε) S) Dn) (rp : Rp K ρ S H) (rs : Rs K ρ H ε σ) : Dn.nx σ H := h ρ H Sx.refl rp σ rs
end
structure GoodS (cn : Cn) (cl : Nat → List D → Sto → Out D) (k : Nat) (W : WX) (X : Cx) : Prop extends Good cn cl k W X where
  po : PassesOwn (model X.prog X.w) X.A X.env X.xe
  kind : X.env.scope.kind = .function
  fa : ∀ x, X.fn x = true
section
variable {cn : Cn} {cl : Nat → List D → Sto → Out D} {k : Nat}
theorem loc_of {X : Cx} {W : WX} (g : GoodS cn cl k W X) : ∀ x, locB X.env.scope x = true → Loc X.env.scope x ∧ (X.fn x = true ∨ X.env.scope.names.lookup x = some .local) := by
  intro x h
  unfold locB at h
  split at h
  · rename_i e; exact ⟨.inl e, .inl (g.fa x)⟩
  · rename_i e; exact ⟨.inr e, .inl (g.fa x)⟩
  · cases h
def PZ (cn : Cn) (cl : Nat → List D → Sto → Out D) (k : Nat) (s : Sm) : Prop := ∀ (X : Cx) (W : WX) (st : Stmt), GoodS cn cl k W X → mS cn s X.env.scope st = true → PS X st (TFS X.K X.mg W (evS cl s))
def PZs (cn : Cn) (cl : Nat → List D → Sto → Out D) (k : Nat) (ss : List Sm) : Prop := ∀ (X : Cx) (W : WX) (sts : List Stmt), GoodS cn cl k W X → mSs cn ss X.env.scope sts = true → PSs X sts (TFS X.K X.mg W (evSs cl ss))
theorem pzs_nil : PZs cn cl k [] := by
  intro X W sts g h
  cases sts with
  | nil =>
    refine PSs.imp pss_nil fun Dn σ H q => ?_
    obtain ⟨ρ, ε, S, rs, rp, q⟩ := q
    exact q.nxt rp rs
  | cons _ _ => simp [mSs] at h
theorem pzs_cons {s : Sm} {r : List Sm} (hs : PZ cn cl k s) (hr : PZs cn cl k r) : PZs cn cl k (s :: r) := by
  intro X W sts g h
  cases sts with
  | nil => simp [mSs] at h
  | cons st sts =>
    simp only [mSs, Bool.and_eq_true] at h
    refine PSs.imp (pss_cons (hs X W st g h.1) (hr X W sts g h.2)) fun Dn σ H q => ?_
    obtain ⟨ρ, ε, S, rs, rp, q⟩ := q
    simp only [evSs] at q
    refine ⟨ρ, ε, S, rs, rp, ?_⟩
    cases e : evS cl s ε S with
    | bad => rw [e] at q; exact q
    | exc c v ε1 S1 => rw [e] at q; exact q
    | ok f S1 =>
      rw [e] at q
      cases f with
      | nx ε1 =>
        simp only [OutS.seq] at q
        exact fun ρ1 H1 sx rp1 σ1 rs1 => ⟨ρ1, ε1, S1, rs1, rp1, q.weak sx⟩
      | rt d => exact q
      | bk ε1 => exact q
      | ct ε1 => exact q
theorem pz_ret (e : Ex) : PZ cn cl k (.ret e) := by
  intro X W st g h
  cases st with
  | Return v p =>
    cases v with
    | none => simp [mS] at h
    | some x =>
      simp only [mS] at h
      refine PS.imp (ps_ret ((sX e).1 X W x g.toGood h).1) fun Dn σ H q => ?_
      obtain ⟨ρ, ε, S, rs, rp, q⟩ := q
      simp only [evS] at q
      exact ⟨ρ, ε, S, rs, rp, q.on rs fun ρ1 v H1 d S1 sx rp1 rv q1 => q1 ρ1 H1 Sx.refl rp1 v rv⟩
  | _ => simp [mS] at h
theorem pz_retN : PZ cn cl k .retN := by
  intro X W st g h
  cases st with
  | Return v p =>
    cases v with
    | some x => simp [mS] at h
    | none =>
      refine PS.imp ps_retN fun Dn σ H q => ?_
      obtain ⟨ρ, ε, S, rs, rp, q⟩ := q
      exact q ρ H Sx.refl rp _ .mkNon
  | _ => simp [mS] at h
theorem pz_ex (e : Ex) : PZ cn cl k (.ex e) := by
  intro X W st g h
  cases st with
  | Expr x p =>
    simp only [mS, Bool.and_eq_true] at h
    have hs : swapsWith x none p.line X.env = pure false := by
      cases x <;> first | rfl | (simp [noComp] at h)
    refine PS.imp (ps_expr ((sX e).1 X W x g.toGood h.1).1 hs) fun Dn σ H q => ?_
    obtain ⟨ρ, ε, S, rs, rp, q⟩ := q
    simp only [evS] at q
    exact ⟨ρ, ε, S, rs, rp, q.on rs fun ρ1 v H1 d S1 sx rp1 rv q1 => q1.nxt rp1 (rs.mono sx.pre sx.kp)⟩
  | _ => simp [mS] at h
theorem pz_pass : PZ cn cl k .pass := by
  intro X W st g h
  cases st with
  | Pass p =>
    refine PS.imp ps_pass fun Dn σ H q => ?_
    obtain ⟨ρ, ε, S, rs, rp, q⟩ := q
    exact q.nxt rp rs
  | _ => simp [mS] at h
theorem pz_brk : PZ cn cl k .brk := by
  intro X W st g h
  cases st with
  | Break p =>
    refine PS.imp ps_break fun Dn σ H q => ?_
    obtain ⟨ρ, ε, S, rs, rp, q⟩ := q
    exact q ρ H Sx.refl rp σ rs
  | _ => simp [mS] at h
theorem pz_cont : PZ cn cl k .cont := by
  intro X W st g h
  cases st with
  | Continue p =>
    refine PS.imp ps_continue fun Dn σ H q => ?_
    obtain ⟨ρ, ε, S, rs, rp, q⟩ := q
    exact q ρ H Sx.refl rp σ rs
  | _ => simp [mS] at h
theorem pz_never : PZ cn cl k .never := by
  intro X W st g h
  refine PS.imp ps_never fun Dn σ H q => ?_
  obtain ⟨ρ, ε, S, rs, rp, q⟩ := q
  exact q
theorem noComp_sw {e : Expr} {t : Option Expr} {l : Nat} {env : PySem.Env} (h : noComp e = true) : swapsWith e t l env = pure false := by
  cases e <;> first | rfl | (simp [noComp] at h)
theorem noComp_sole {e t : Expr} {l : Nat} {env : PySem.Env} (h : noComp e = true) : swapsWithSole [t] e l env = pure false := noComp_sw (t := some t) (l := l) (env := env) h
theorem pz_set (tg : Tg) (e : Ex) : PZ cn cl k (.set tg e) := by
  intro X W st g h
  cases st with
  | Assign ts x p =>
    match ts, h with
    | [t], h =>
      simp only [mS, Bool.and_eq_true] at h
      obtain ⟨⟨h1, h2⟩, h3⟩ := h
      have hg := pg_of g.nN g.nd g.calm (loc_of g) tg t h1
      have he := ((sX e).1 X W x g.toGood h2).1
      have fin : ∀ Dn σ H, TFS X.K X.mg W (evS cl (.set tg e)) Dn σ H → tAsg (TF X.K X.mg W (evE cl e)) (gOf X.K tg) Dn σ H := fun Dn σ H q => by
        obtain ⟨ρ, ε, S, rs, rp, q⟩ := q
        simp only [evS] at q
        refine ⟨ρ, ε, S, rs, rp, q.on rs fun ρ1 v H1 d S1 sx rp1 rv q1 => ?_⟩
        split at q1
        · rename_i ε1 e1
          exact tg_ok tg d v ε ε1 σ _ e1 rv (rs.mono sx.pre sx.kp) fun σ1 rs1 _ => q1.nxt rp1 rs1
        · exact q1.elim
      cases t with
      | Name y py =>
        cases tg with
        | t ts => simp [mG] at h1
        | n i =>
          simp only [Bool.or_eq_true] at h3
          simp only [mG, Bool.and_eq_true, decide_eq_true_eq] at h1
          have hN : X.N[i]? = some y := by rw [g.nN]; exact h1.1
          obtain ⟨l1, l2⟩ := loc_of g y h1.2
          rcases h3 with h3 | h3
          · refine PS.imp (ps_set g.nd hN l1 he (noComp_sw h3) l2) fun Dn σ H q => ?_
            have := fin Dn σ H q
            simp only [gOf] at this
            exact this
          · cases x with
            | ListComp el gs scope pos =>
              simp only [swapB, Bool.and_eq_true, decide_eq_true_eq, Bool.not_eq_true'] at h3
              cases e with
              | lc a own tg2 it ifs =>
                obtain ⟨t, i', fs, rfl, q1, q2, q3, q4, q5, q6, q7⟩ := lc_parts (sX a) (sX it) (sXs ifs) g.toGood h2
                have base := ps_setLc (spos := p) (pos := pos) g.calm g.nd hN h3.1.1 (sw_true g.kind h3.1.1 h3.1.2 h3.2) q1 q2 q4 q5 q6 q7
                have eown : (ownOf X.N own).map (·.2) = own := by
                  unfold ownOf
                  rw [List.map_map]
                  exact List.map_id' _
                rw [eown] at base
                refine PS.imp base fun Dn σ H q => ?_
                have hh := fin Dn σ H q
                simp only [gOf] at hh
                exact lc_imp q3 σ H _ hh
              | _ => simp [mE] at h2
            | _ => simp [swapB] at h3
      | Tuple es kk tp =>
        simp only [Bool.and_eq_true] at h3
        have hw : swappedStores [.Tuple es kk tp] x X.env = pure none := by
          cases x <;> first | rfl | (simp [noLT] at h3)
        exact PS.imp (ps_asg he hg (noComp_sole h3.1) hw rfl) fin
      | _ => simp at h3
    | [], h => simp [mS] at h
    | _ :: _ :: _, h => simp [mS] at h
  | _ => simp [mS] at h
theorem pz_par (i j : Nat) (a b : Ex) : PZ cn cl k (.par i j a b) := by
  intro X W st g h
  simp only [mS] at h
  split at h
  · rename_i x px y py kt pt l r k2 p2 pos
    simp only [Bool.and_eq_true, decide_eq_true_eq, Bool.not_eq_true'] at h
    obtain ⟨⟨⟨⟨⟨⟨⟨⟨⟨h1, h2⟩, h3⟩, h4⟩, h5⟩, h6⟩, h7⟩, h8⟩, h9⟩, h10⟩ := h
    have hst := mEs_stars h8
    simp only [noStars, Bool.and_eq_true] at hst
    have ha := (sXs [a, b]).1 X W [l, r] g.toGood h8
    refine PS.imp (ps_par g.calm g.nd (by rw [g.nN]; exact h1) (by rw [g.nN]; exact h2) h3 h5 h6 ha (sw_two g.kind h5 h6 h4 h7 hst.1 hst.2.1 h9 h10) rfl) fun Dn σ H q => ?_
    obtain ⟨ρ, ε, S, rs, rp, q⟩ := q
    simp only [evS] at q
    refine ⟨ρ, ε, S, rs, rp, ?_⟩
    simp only [evEs]
    cases e1 : evE cl a ε S with
    | bad => rw [e1] at q; exact q
    | exc c v S1 => rw [e1] at q; exact fun ρ' H' cls dd s' rp rx => q ρ' H' σ cls dd s' rp (rs.mono s'.pre s'.kp) rx
    | ok u S1 =>
      rw [e1] at q
      simp only [Out.on, Out.bind_ok] at q ⊢
      cases e2 : evE cl b ε S1 with
      | bad => rw [e2] at q; exact q
      | exc c v S2 => rw [e2] at q; exact fun ρ' H' cls dd s' rp rx => q ρ' H' σ cls dd s' rp (rs.mono s'.pre s'.kp) rx
      | ok w S2 =>
        rw [e2] at q
        simp only [Out.bind_ok] at q ⊢
        intro ρ1 vs H1 sx rp1 rv
        obtain ⟨v1, v2, rfl, r1, r2⟩ := rv.two'
        split at q
        · rename_i z
          have rs1 := rs.mono sx.pre sx.kp
          exact ⟨v1, v2, rfl, q ρ1 H1 sx rp1 _ ((rs1.set z.1 r1).set (by rw [List.length_set]; exact z.2) r2)⟩
        · exact q.elim
  · cases h
theorem pz_put (o i e : Ex) : PZ cn cl k (.put o i e) := by
  intro X W st g h
  simp only [mS] at h
  split at h
  · rename_i t s sp x p
    simp only [Bool.and_eq_true] at h
    obtain ⟨⟨⟨⟨h1, h2⟩, h3⟩, h4⟩, h5⟩ := h
    have ho := ((sX o).1 X W t g.toGood h1).1
    have hi := ((sX i).1 X W s g.toGood h2).1
    have he := ((sX e).1 X W x g.toGood h3).1
    have hw : swappedStores [.Subscript t s sp] x X.env = pure none := by cases x <;> rfl
    have hpg : PG X (.Subscript t s sp) (gSub (TF X.K X.mg W (evE cl o)) (TF X.K X.mg W (evE cl i)) rSetL) := by
      refine pg_sub ho hi set_list ?_
      intro v
      cases s <;> first | rfl | (simp [noSlice] at h5)
    refine PS.imp (ps_asg he hpg (noComp_sole h4) hw rfl) fun Dn σ H q => ?_
    obtain ⟨ρ, ε, S, rs, rp, q⟩ := q
    simp only [evS] at q
    refine ⟨ρ, ε, S, rs, rp, q.on rs fun ρ1 v H1 d S1 s1 rp1 rv q1 => ?_⟩
    have rs1 := rs.mono s1.pre s1.kp
    refine ⟨ρ1, ε, S1, rs1, rp1, q1.on rs1 fun ρ2 vo H2 dO S2 s2 rp2 ro q2 => ?_⟩
    have rs2 := rs1.mono s2.pre s2.kp
    refine ⟨ρ2, ε, S2, rs2, rp2, q2.on rs2 fun ρ3 vi H3 dI S3 s3 rp3 ri q3 => ?_⟩
    have rs3 := rs2.mono s3.pre s3.kp
    have ro3 := ro.mono s3.pre s3.kp
    have rv3 := (rv.mono s2.pre s2.kp).mono s3.pre s3.kp
    cases ep : putF dO dI d S3 with
    | bad => rw [ep] at q3; exact q3.elim
    | exc c v S4 =>
      exfalso
      unfold putF at ep
      split at ep <;> (try split at ep) <;> (try split at ep) <;> (try split at ep) <;> cases ep
    | ok u S4 =>
      rw [ep] at q3
      simp only [Out.on] at q3
      unfold putF at ep
      split at ep
      · rename_i lo j
        split at ep
        · rename_i ds e1
          split at ep
          · rename_i n e2
            split at ep
            · rename_i z
              cases ep
              obtain ⟨a, ea, rfl⟩ := ro3.loc
              obtain ⟨ws, w1, t1⟩ := rp3.lst ea e1
              have kp : Kp H3 (upd H3 a (.lst (ws.set n v))) := Kp.put w1 (fun _ z => nomatch z) (fun _ _ z => nomatch z) (fun _ z => nomatch z)
              obtain ⟨rp4, sx4⟩ := rp3.put (u' := .lst (ws.set n v)) (o' := .lst (ds.set n d)) ea ⟨ws.set n v, upd_same, (RVs.set rv3 n t1).mono (pre_refl _) kp⟩ (lts_set z (rp3.ord _ _ e1))
              exact ⟨a, ws, j, n, rfl, ri.int, w1, by rw [← t1.len]; exact e2, q3 ρ3 _ sx4 rp4 σ (rs3.mono sx4.pre sx4.kp)⟩
            · cases ep
          · cases ep
        · cases ep
      · cases ep
  · cases h
theorem pz_ife (c : Ex) {t e : List Sm} (ht : PZs cn cl k t) (he : PZs cn cl k e) : PZ cn cl k (.ife c t e) := by
  intro X W st g h
  cases st with
  | If x a b p =>
    simp only [mS, Bool.and_eq_true] at h
    refine PS.imp (ps_if ((sX c).1 X W x g.toGood h.1.1).2 (ht X W a g h.1.2) (he X W b g h.2)) fun Dn σ H q => ?_
    obtain ⟨ρ, ε, S, rs, rp, q⟩ := q
    simp only [evS] at q
    refine ⟨ρ, ε, S, rs, rp, q.on rs fun ρ1 v H1 d S1 s1 rp1 rv q1 => ?_⟩
    have e1 : v = d := rv
    subst e1
    cases v with
    | true => rw [if_pos rfl] at q1 ⊢; exact ⟨ρ1, ε, S1, rs.mono s1.pre s1.kp, rp1, q1⟩
    | false => rw [if_neg Bool.false_ne_true] at q1 ⊢; exact ⟨ρ1, ε, S1, rs.mono s1.pre s1.kp, rp1, q1⟩
  | _ => simp [mS] at h
end
end GG
namespace GG
open PySem PySem.Spec PyProof.Rows L2
section
variable {cn : Cn} {cl : Nat → List D → Sto → Out D} {k : Nat}
theorem pz_for (tg : Tg) (it : Ex) {b : List Sm} (hb : PZs cn cl k b) : PZ cn cl k (.for_ tg it b) := by
  intro X W st g h
  simp only [mS] at h
  split at h
  · rename_i t x a p
    simp only [Bool.and_eq_true] at h
    obtain ⟨⟨⟨h1, h2⟩, h3⟩, h4⟩ := h
    have hg := pg_of g.nN g.nd g.calm (loc_of g) tg t h1
    refine PS.imp (ps_for g.po g.calm ((sX it).2 X W x t g.toGood h2) hg (hb X W a g h4) (noSet_fold h3)) fun Dn σ H q => ?_
    obtain ⟨ρ, ε, S, rs, rp, q⟩ := q
    simp only [evS] at q
    refine ⟨ρ, ε, S, rs, rp, q.on rs fun ρ1 J H1 p S1 sx1 rp1 wk q1 => ?_⟩
    refine ⟨fun i m σ H => m = p.1.length - i ∧ i ≤ p.1.length ∧ ∃ ρ2 ε2 S2, Sx ρ1 H1 ρ2 H ∧ Rs X.K ρ2 H ε2 σ ∧ Rp X.K ρ2 S2 H ∧ PostS X.K X.mg W ρ2 H (forLoop p.2 (tgS tg) (evSs cl b) (p.1.drop i) ε2 S2) Dn,
      ⟨p.1.length, by simp, Nat.zero_le _, ρ1, ε, S1, Sx.refl, rs.mono sx1.pre sx1.kp, rp1, q1⟩, ?_⟩
    rintro i m σ2 H2 ⟨rfl, hle, ρ2, ε2, S2, sx2, rs2, rp2, q2⟩
    by_cases hlt : i < p.1.length
    · have ed : p.1[i]? = some p.1[i] := List.getElem?_eq_getElem hlt
      rw [List.drop_eq_getElem_cons hlt] at q2
      simp only [forLoop] at q2
      split at q2
      · rename_i hck
        split at q2
        · exact q2.elim
        · rename_i ε3 et
          refine .inr ⟨wk.go ρ2 S2 H2 i _ sx2.pre sx2.kp rp2 hck ed, fun σ H => (fun i m σ H => m = p.1.length - i ∧ i ≤ p.1.length ∧ ∃ ρ2 ε2 S2, Sx ρ1 H1 ρ2 H ∧ Rs X.K ρ2 H ε2 σ ∧ Rp X.K ρ2 S2 H ∧
            PostS X.K X.mg W ρ2 H (forLoop p.2 (tgS tg) (evSs cl b) (p.1.drop i) ε2 S2) Dn) (i + 1) (p.1.length - (i + 1)) σ H, fun σ' H' h' => ⟨p.1.length - (i + 1), by omega, h'⟩, fun y H3 hy => ?_⟩
          obtain ⟨kp3, rp3, rv3, fr3⟩ := wk.yld ρ2 S2 H2 i _ y H3 sx2.pre sx2.kp rp2 hck ed hy
          have sx23 : Sx ρ2 H2 ρ2 H3 := ⟨pre_refl _, kp3, fun b u e n => ⟨fr3 b u e, n⟩⟩
          have sx3 : Sx ρ1 H1 ρ2 H3 := sx2.trans sx23
          refine tg_ok tg _ y ε2 ε3 σ2 _ et rv3 (rs2.mono sx23.pre sx23.kp) fun σ3 rs3 _ => ?_
          refine ⟨ρ2, ε3, S2, rs3, rp3, ?_⟩
          have q3 := q2.weak sx23
          cases eb : evSs cl b ε3 S2 with
          | bad => rw [eb] at q3; exact q3
          | exc c v ε4 S4 => rw [eb] at q3; exact q3
          | ok f S4 =>
            rw [eb] at q3
            cases f with
            | nx ε4 => exact fun ρ4 H4 sx4 rp4 σ4 rs4 => ⟨rfl, hlt, ρ4, ε4, S4, sx3.trans sx4, rs4, rp4, q3.weak sx4⟩
            | ct ε4 => exact fun ρ4 H4 sx4 rp4 σ4 rs4 => ⟨rfl, hlt, ρ4, ε4, S4, sx3.trans sx4, rs4, rp4, q3.weak sx4⟩
            | bk ε4 => exact q3
            | rt d => exact q3
      · exact q2.elim
    · have hii : i = p.1.length := by omega
      subst hii
      rw [List.drop_length] at q2
      simp only [forLoop] at q2
      split at q2
      · rename_i hck
        exact .inl ⟨wk.stop ρ2 S2 H2 sx2.pre sx2.kp rp2 hck, q2.nxt rp2 rs2⟩
      · exact q2.elim
  · cases h
theorem pz_while (c : Ex) {b : List Sm} (hb : PZs cn cl k b) : PZ cn cl k (.while_ c b) := by
  intro X W st g h
  simp only [mS] at h
  split at h
  · rename_i x a p
    simp only [Bool.and_eq_true] at h
    refine PS.imp (ps_while g.po ((sX c).1 X W x g.toGood h.1).2 (hb X W a g h.2)) fun Dn σ H q => ?_
    obtain ⟨ρ, ε, S, rs, rp, q⟩ := q
    simp only [evS] at q
    refine ⟨fun m σ H => ∃ ρ ε S, Rs X.K ρ H ε σ ∧ Rp X.K ρ S H ∧ PostS X.K X.mg W ρ H (whileLoop (fun ε S => (evE cl c ε S).bind truF) (evSs cl b) m ε S) Dn, ⟨wFuel, ρ, ε, S, rs, rp, q⟩, ?_⟩
    rintro m σ2 H2 ⟨ρ2, ε2, S2, rs2, rp2, q2⟩
    cases m with
    | zero => exact q2.elim
    | succ m =>
      simp only [whileLoop] at q2
      refine ⟨ρ2, ε2, S2, rs2, rp2, q2.on rs2 fun ρ3 v H3 d S3 sx3 rp3 rv q3 => ?_⟩
      have e1 : v = d := rv
      subst e1
      have rs3 := rs2.mono sx3.pre sx3.kp
      cases v with
      | false => rw [if_neg Bool.false_ne_true] at q3 ⊢; exact q3.nxt rp3 rs3
      | true =>
        rw [if_pos rfl] at q3 ⊢
        refine ⟨fun σ H => ∃ ρ ε S, Rs X.K ρ H ε σ ∧ Rp X.K ρ S H ∧ PostS X.K X.mg W ρ H (whileLoop (fun ε S => (evE cl c ε S).bind truF) (evSs cl b) m ε S) Dn, fun σ' H' h' => ⟨m, Nat.lt_succ_self m, h'⟩, ρ3, ε2, S3, rs3, rp3, ?_⟩
        cases eb : evSs cl b ε2 S3 with
        | bad => rw [eb] at q3; exact q3
        | exc c v ε4 S4 => rw [eb] at q3; exact q3
        | ok f S4 =>
          rw [eb] at q3
          cases f with
          | nx ε4 => exact fun ρ4 H4 sx4 rp4 σ4 rs4 => ⟨ρ4, ε4, S4, rs4, rp4, q3.weak sx4⟩
          | ct ε4 => exact fun ρ4 H4 sx4 rp4 σ4 rs4 => ⟨ρ4, ε4, S4, rs4, rp4, q3.weak sx4⟩
          | bk ε4 => exact q3
          | rt d => exact q3
  · cases h
mutual
theorem sZ : ∀ s : Sm, PZ cn cl k s
  | .ret e => pz_ret e
  | .retN => pz_retN
  | .set tg e => pz_set tg e
  | .par i j a b => pz_par i j a b
  | .put o i e => pz_put o i e
  | .ife c t e => pz_ife c (sZs t) (sZs e)
  | .for_ tg it b => pz_for tg it (sZs b)
  | .while_ c b => pz_while c (sZs b)
  | .ex e => pz_ex e
  | .pass => pz_pass
  | .brk => pz_brk
  | .cont => pz_cont
  | .never => pz_never
theorem sZs : ∀ ss : List Sm, PZs cn cl k ss
  | [] => pzs_nil
  | s :: r => pzs_cons (sZ s) (sZs r)
end
end
/-! ## a def -/
/-- what a def hands back: what it made and nobody holds is forgotten -/
def trunc (n : Nat) (d : D) (S : Sto) : Out D :=
  if D.lt n d = true then .ok d (S.take n) else match d with
    | .loc l => match S[l]? with
      | some o => if O.lt n o = true then .ok (.loc n) (S.take n ++ [o]) else .ok d S
      | none => .bad
    | _ => .ok d S
def ltX (n : Nat) : Option (Str × D) → Bool
  | none => true
  | some (_, d) => D.lt n d
structure Fd where
  name : Str
  ar : Nat
  N : List Str
  body : List Sm
def runF (cl : Nat → List D → Sto → Out D) (f : Fd) (ds : List D) (S : Sto) : Out D :=
  match evSs cl f.body (ds.map some ++ List.replicate (f.N.length - ds.length) none) S with
  | .ok (.rt d) S1 => trunc S.length d S1
  | .ok (.nx _) S1 => .ok .non (S1.take S.length)
  | .ok _ _ => .bad
  | .exc c v _ S1 => if ltX S.length v = true then .exc c v (S1.take S.length) else .exc c v S1
  | .bad => .bad
section
variable {K : PySem.W.Frag} {mg : Str → Option Value} {ρ ρ' : List Addr} {H H' : Hp} {S S' : Sto}
theorem take_pre {n : Nat} (p : ρ <+: ρ') (hn : n = ρ.length) : ρ'.take n = ρ := by
  obtain ⟨t, rfl⟩ := p
  subst hn
  simp
theorem Sx.back {n : Nat} (s : Sx ρ H ρ' H') (hn : n = ρ.length) : Sx ρ H (ρ'.take n) H' := by
  rw [take_pre s.pre hn]
  exact ⟨pre_refl _, s.kp, fun b u e m => ⟨(s.fm b u e m).1, m⟩⟩
theorem post_trunc {E : XK} {Q : VK} {d : D} {v : V} (rp : Rp K ρ S H) (sx : Sx ρ H ρ' H') (rp' : Rp K ρ' S' H') (rv : RV K ρ' H' d v) (q : Post K mg (RV K) E ρ H (trunc S.length d S') Q) : Q v H' := by
  have hn : S.length = ρ.length := rp.len.symm
  unfold trunc at q
  split at q
  · rename_i z
    exact q (ρ'.take S.length) v H' (sx.back hn) rp'.cut (RV.cut d v z rv)
  · rename_i z
    split at q
    · rename_i l
      split at q
      · rename_i o e
        split at q
        · rename_i zo
          obtain ⟨a, ea, rfl⟩ := rv.loc
          have hl : ¬ l < S.length := by simpa [D.lt] using z
          have na : a ∉ ρ'.take S.length := by
            intro hm
            obtain ⟨i, hi⟩ := List.getElem?_of_mem hm
            have hi2 : i < S.length := by
              have := (List.getElem?_eq_some_iff.mp hi).1
              rw [List.length_take] at this
              omega
            rw [List.getElem?_take_of_lt hi2] at hi
            have h1 := (List.getElem?_eq_some_iff.mp ea)
            have h2 := (List.getElem?_eq_some_iff.mp hi)
            have := (List.getElem_inj rp'.nd).mp (h1.2.trans h2.2.symm)
            omega
          have sb := sx.back hn
          refine q (ρ'.take S.length ++ [a]) (.ref a) H' ⟨sb.pre.trans ⟨[a], rfl⟩, sb.kp, fun b u e1 n1 => ⟨(sb.fm b u e1 n1).1, ?_⟩⟩ (rp'.cut.adopt na ((rp'.obj l a o ea e).cut zo)) (.mkLoc ?_)
          · simp only [List.mem_append, List.mem_singleton, not_or]
            refine ⟨(sb.fm b u e1 n1).2, fun w => ?_⟩
            subst w
            exact (sx.fm b u e1 n1).2 (List.mem_of_getElem? ea)
          · rw [take_pre sx.pre hn, hn]; simp
        · exact q ρ' v H' sx rp' rv
      · exact q.elim
    · exact q ρ' v H' sx rp' rv
end
end GG
namespace GG
open PySem PySem.Spec PyProof.Rows L2
section
variable {P : Program} {w : World} {K : PySem.W.Frag} {mg : Str → Option Value} {base : Heap} {cn : Cn} {cl : Nat → List D → Sto → Out D} {k : Nat}
theorem start_Rs {ρ : List Addr} {H : Hp} {N : List Str} {ds : List D} {vs : List V} (r : RVs K ρ H ds vs) : Rs K ρ H (ds.map some ++ List.replicate (N.length - ds.length) none) (L2.start N vs) := by
  unfold L2.start
  have e := r.len
  refine ⟨by simp [e], fun i d h => ?_⟩
  by_cases hi : i < ds.length
  · rw [List.getElem?_append_left (by simpa using hi), List.getElem?_map] at h
    cases q : ds[i]? with
    | none => rw [q] at h; cases h
    | some d' =>
      rw [q] at h; cases h
      obtain ⟨v, e1, rv⟩ := r.get q
      refine ⟨v, ?_, rv⟩
      rw [List.getElem?_append_left (by rw [List.length_map, ← e]; exact hi), List.getElem?_map, e1]; rfl
  · rw [List.getElem?_append_right (by simpa using hi), List.getElem?_replicate] at h
    split at h <;> cases h
theorem fn_g {f : Fd} {qual : Str} {st : Stmt} {fa : Addr} {fd : FuncData} {ps : List Str} (F : L2.Fun K f.name qual st fa fd) (SC : FnScope f.N ps (defScope st)) (hm : mg f.name = some (.ref fa)) (hbi : Binds K fd ps []) (har : ps.length = f.ar)
    (hN : cn.N = f.N) (hmt : mSs cn f.body (defScope st) (defBody st) = true) (sm : SmOk base) (blt : ∀ x ∈ bnames, mg x = none)
    (gl : ∀ x d, cn.gt.lookup x = some d → ∃ v u, mg x = some u ∧ RelV v u ∧ ∀ ρ H, RV K ρ H d v) (fns : ∀ (i : Nat) (x : Str) (n : Nat), cn.fns[i]? = some (x, n) → FnG P w K mg base k x n (cl i)) :
    FnG P w K mg base (k + 1) f.name f.ar (runF cl f) := by
  refine ⟨fa, fd, ps, hm, F.kp, hbi, har, fun A outer s H args us vs Q E hr hgd e0 hl hb r hsp => ?_⟩
  obtain ⟨oc, od, kV, doc, pm, an, cdv, ct, osl, rfl, lk, hcd⟩ := F.ex
  have KX : K.In s.heap := e0.mod.kin.keeps fun b o e => (e0.bs b o e).1
  have lim : s.heap.NoLimit := e0.mod.nolimit.keeps fun b o e => (e0.bs b o e).1
  have hkind : ∀ y ∈ ps.zip us, (defScope st).names.lookup y.1 = some .local ∨
      ((defScope st).names.lookup y.1 = some .cell ∧ ((cellsFrom (s.heap.objs.size + 1) (defScope st).names []).lookup y.1).isSome = true) := fun y hy => by
    obtain ⟨n, v⟩ := y
    rcases SC.par n (List.of_mem_zip hy).1 with q | q
    · exact .inl q
    · exact .inr ⟨q, PySem.W.cellsFrom_some _ _ _ (.inl q)⟩
  refine codeAny_call_function hr.depth (KX _ _ lk) rfl SC.co SC.gen rfl (PySem.W.codeRec_of KX hcd) (hb _ _ _ _ ?_)
  refine wpAny_newFunctionEnv_cells SC.kind hkind fun env he s1 x => ?_
  subst he
  refine ⟨lim.keeps x.toInCall.keep, codeAny_func ?_⟩
  have I : Inv (cxOf (L2.CX P w) P w K mg base f.N qual (defScope st) fa cdv A outer s H E) [] (L2.start f.N vs) H s1 := inv_start SC hr.hd e0 hl r x
  have tk : Takes (cxOf (L2.CX P w) P w K mg base f.N qual (defScope st) fa cdv A outer s H E) (fun cls d _ H' => E cls d H') := takes_of rfl rfl rfl rfl
  have po : PassesOwn (model P w) (cxOf (L2.CX P w) P w K mg base f.N qual (defScope st) fa cdv A outer s H E).A (cxOf (L2.CX P w) P w K mg base f.N qual (defScope st) fa cdv A outer s H E).env
    (cxOf (L2.CX P w) P w K mg base f.N qual (defScope st) fa cdv A outer s H E).xe := passes_of (X := cxOf (L2.CX P w) P w K mg base f.N qual (defScope st) fa cdv A outer s H E) rfl
  have GS : GoodS cn cl k (fun cls d _ H' => E cls d H') (cxOf (L2.CX P w) P w K mg base f.N qual (defScope st) fa cdv A outer s H E) :=
    { nN := hN.symm, calm := rfl, nd := SC.nd, room := hr.deeper _, gd := hgd, sm := sm, tk := tk, blt := blt, gl := gl, fn := fns, po := po, kind := SC.kind, fa := fun _ => rfl }
  have body := sZs f.body _ _ (defBody st) GS hmt
  obtain ⟨ρ, S, ds, rp, rv, q⟩ := hsp
  refine wpAny_mono (body.run [] s1 (L2.start f.N vs) H { nx := fun _ H' => Q .non H', rt := Q } I ⟨ρ, _, S, start_Rs rv, rp, ?_⟩) (fun fl s' hs => ?_) fun e s' hs => hs
  · unfold runF at q
    cases e : evSs cl f.body (ds.map some ++ List.replicate (f.N.length - ds.length) none) S with
    | bad => rw [e] at q; exact q
    | exc c v ε S1 =>
      rw [e] at q
      intro ρ1 H1 σ1 cls dd sx rp1 rs1 rx
      dsimp only at q
      have hn : S.length = ρ.length := rp.len.symm
      split at q
      · rename_i z
        refine q (ρ1.take S.length) H1 cls dd (sx.back hn) rp1.cut ?_
        obtain ⟨C, c1, c2, c3⟩ := rx
        refine ⟨C, c1, c2, ?_⟩
        cases v with
        | none => exact c3
        | some fx =>
          obtain ⟨fn, x⟩ := fx
          obtain ⟨dd', u, d1, d2, d3⟩ := c3
          exact ⟨dd', u, d1, d2, RV.cut x u z d3⟩
      · exact q ρ1 H1 cls dd sx rp1 rx
    | ok fl S1 =>
      rw [e] at q
      cases fl with
      | rt d => exact fun ρ1 H1 sx rp1 v rv1 => post_trunc rp sx rp1 rv1 q
      | nx ε1 => exact fun ρ1 H1 sx rp1 σ1 rs1 => q (ρ1.take S.length) .non H1 (sx.back rp.len.symm) rp1.cut .mkNon
      | bk ε1 => exact q.elim
      | ct ε1 => exact q.elim
  · have fin : ∀ {σ' : L2.St} {H' : Hp} {v : V} {u : Value}, Inv (cxOf (L2.CX P w) P w K mg base f.N qual (defScope st) fa cdv A outer s H E) [] σ' H' s' → RelV v u → Q v H' → CE outer P w H s Q u s' :=
      fun {σ' H' v u} J rv q => ⟨v, H', J.os, J.bare, J.base, J.hok, rv, q⟩
    cases fl with
    | ret u =>
      obtain ⟨v, σ', H', J, rv, q⟩ := hs
      exact fin J rv q
    | next =>
      obtain ⟨σ', H', J, q⟩ := hs
      exact fin (v := V.non) (u := Value.none) J rfl q
    | brk =>
      obtain ⟨_, _, _, q⟩ := hs
      exact False.elim q
    | cont =>
      obtain ⟨_, _, _, q⟩ := hs
      exact False.elim q
end
end GG
namespace GG
open PySem PySem.Spec PyProof.Rows L2
/-! ## the whole program -/
def evF (Pg : List Fd) : Nat → Nat → List D → Sto → Out D
  | 0, _, _, _ => .bad
  | n + 1, i, ds, S => match Pg[i]? with
    | some f => runF (evF Pg n) f ds S
    | none => .bad
/-- what is known of a def of the text -/
def FFact (K : PySem.W.Frag) (mg : Str → Option Value) (fns : List (Str × Nat)) (gt : List (Str × D)) (f : Fd) : Prop :=
  ∃ (qual : Str) (st : Stmt) (fa : Addr) (fd : FuncData) (ps : List Str), L2.Fun K f.name qual st fa fd ∧ FnScope f.N ps (defScope st) ∧ mg f.name = some (.ref fa) ∧ Binds K fd ps [] ∧ ps.length = f.ar ∧ mSs ⟨f.N, fns, gt⟩ f.body (defScope st) (defBody st) = true
def fnsOf (Pg : List Fd) : List (Str × Nat) := Pg.map fun f => (f.name, f.ar)
section
variable {P : Program} {w : World} {K : PySem.W.Frag} {mg : Str → Option Value} {base : Heap} {Pg : List Fd} {gt : List (Str × D)}
theorem fns_ok (sm : SmOk base) (blt : ∀ x ∈ bnames, mg x = none) (gl : ∀ x d, gt.lookup x = some d → ∃ v u, mg x = some u ∧ RelV v u ∧ ∀ ρ H, RV K ρ H d v)
    (facts : ∀ f ∈ Pg, FFact K mg (fnsOf Pg) gt f) : ∀ (n i : Nat) (f : Fd), Pg[i]? = some f → FnG P w K mg base n f.name f.ar (evF Pg n i)
  | 0, i, f, e => by
    obtain ⟨qual, st, fa, fd, ps, F, SC, hm, hb, hl, hmt⟩ := facts f (List.mem_of_getElem? e)
    refine ⟨fa, fd, ps, hm, F.kp, hb, hl, fun A outer s H args us vs Q E hr hg e0 hl hb r hsp => ?_⟩
    obtain ⟨ρ, S, ds, _, _, q⟩ := hsp
    exact q.elim
  | n + 1, i, f, e => by
    obtain ⟨qual, st, fa, fd, ps, F, SC, hm, hb, hl, hmt⟩ := facts f (List.mem_of_getElem? e)
    have h : evF Pg (n + 1) i = runF (evF Pg n) f := by
      funext ds S
      show (match Pg[i]? with | some f => runF (evF Pg n) f ds S | none => .bad) = _
      rw [e]
    rw [h]
    refine fn_g (cn := ⟨f.N, fnsOf Pg, gt⟩) F SC hm hb hl rfl hmt sm blt gl fun j x m ej => ?_
    unfold fnsOf at ej
    rw [List.getElem?_map] at ej
    cases ef : Pg[j]? with
    | none => rw [ef] at ej; cases ej
    | some f' =>
      rw [ef] at ej
      cases ej
      exact fns_ok sm blt gl facts n j f' ef
end
section
theorem law_g {P : Program} {w : World} {K : PySem.W.Frag} {mg mb : Str → Option Value} {k : Nat} {fa a : Addr} {x : Str} {h : List D → Sto → Out D} {s₁ : Shared} {vs : List Value} {ns : List Int}
    (KX : K.In s₁.heap) (hns : s₁.heap.Ns mainGlobals mg) (hb : s₁.heap.Ns builtinsNs mb) (hbb : ∀ x : Str, x ≠ "__name__" → mb x = bootBuiltins x) (hlim : s₁.heap.NoLimit) (hsm : ∃ mm, s₁.heap.Ns sysModules mm) (hg : s₁.gens = #[])
    (ha : s₁.heap.get? a = some { cls := .type "list", data := .seq vs.toArray }) (hi : IntsAre vs ns) (hl : ns.length ≤ sizeLine) (hr : Room k callerA) (hfa : mg x = some (.ref fa))
    (F : ∀ base : Heap, K.In base → base.Ns mainGlobals mg → SmOk base → FnG P w K mg base k x 1 h) (ok : ∃ S', h [.rol (ns.map D.int)] [] = .ok (.bl true) S') :
    codeAny (model P w) callerA (.call (.ref fa) ⟨[.ref a], []⟩) (fun r s' => r = .ok (.ret (.bool true)) ∧ OldK s₁.heap s'.heap ∧ s'.os = s₁.os ∧ AllBare s'.gens) s₁ := by
  have rv := vals_ints hi
  have lenV := hi.length
  have core : ∀ H : Hp, Only H → RoL K H a (ns.map V.int) → HOk P w H s₁.heap → (∀ b, H b ≠ none → b = a) → (H a ≠ none → K.lookup a = none) →
      codeAny (model P w) callerA (.call (.ref fa) ⟨[.ref a], []⟩) (fun r s' => r = .ok (.ret (.bool true)) ∧ OldK s₁.heap s'.heap ∧ s'.os = s₁.os ∧ AllBare s'.gens) s₁ := by
    intro H hO hS hok hA hK
    have base_of : ∀ {b : Addr} {o : Obj}, s₁.heap.get? b = some o → H b = none → (hidT s₁.heap H).get? b = some o := fun e n => hidT_get e n
    have noA : ∀ {b : Addr} {o : Obj} {es : Array DictEntry} {ep : Nat}, s₁.heap.get? b = some o → o.data = .dict es ep → H b = none := fun {b o es ep} e d => by
      cases q : H b with
      | none => rfl
      | some u =>
        have e' : b = a := hA b (by rw [q]; simp)
        subst e'
        rw [ha] at e; cases e
        have d' : Data.seq vs.toArray _ = Data.dict es ep := d
        cases d'
    have nsK : ∀ {b : Addr} {m : Str → Option Value}, s₁.heap.Ns b m → (hidT s₁.heap H).Ns b m := fun {b m} z => by
      obtain ⟨o, es, ep, e, d, r⟩ := z
      exact ⟨o, es, ep, base_of e (noA e d), d, r⟩
    have hKb : K.In (hidT s₁.heap H) := fun b o e => base_of (KX b o e) (by
      cases q : H b with
      | none => rfl
      | some u =>
        have e' : b = a := hA b (by rw [q]; simp)
        subst e'
        rw [hK (by rw [q]; simp)] at e; cases e)
    have hM : Mod K mg (hidT s₁.heap H) := ⟨hKb, nsK hns, ⟨mb, nsK hb, hbb⟩, let ⟨mc, h1, h2⟩ := hlim; ⟨mc, nsK h1, h2⟩⟩
    have hsm' : SmOk (hidT s₁.heap H) := by
      obtain ⟨mm, o, es, ep, e, d, _⟩ := hsm
      exact ⟨o, es, ep, base_of e (noA e d), d⟩
    have e0 : Env0 P w K mg (hidT s₁.heap H) callerA [] s₁ H :=
      ⟨rfl, hM, fun b o e => of_hidT e, Nat.le_of_eq (hidT_size _ _), trivial, fun b hb => absurd (show b ∈ ([] : List Addr) from hb) (by simp), hok, .of_eq hg⟩
    obtain ⟨f, fd, ps, hm, hk, hbi, hps, run⟩ := F _ hKb (nsK hns) hsm'
    rw [hfa] at hm
    cases hm
    obtain ⟨S', ok⟩ := ok
    have hbb2 := hbi s₁ [.ref a] KX (by rw [List.append_nil, hps]; rfl)
    rw [List.append_nil] at hbb2
    have sp : SpF K mg h [.ref a] H (fun v _ => v = .bl true) (fun _ _ _ => False) := by
      refine ⟨[], [], [.rol (ns.map D.int)], ⟨rfl, List.nodup_nil, fun i a o e => by simp at e, fun i o e => by simp at e⟩, .one ?_, ?_⟩
      · simp only [RV]
        refine ⟨a, ns.map V.int, rfl, hS, ?_⟩
        clear hS hi rv lenV ha hl hbb2 ok
        induction ns with
        | nil => exact RVs.nil
        | cons n r ih => exact .cons (.mkInt n) ih
      · rw [ok]
        exact fun ρ' v H' _ _ r => r.bl
    refine codeAny_mono (run callerA [] s₁ H ⟨[.ref a], []⟩ [.ref a] [.ref a] _ _ hr rfl e0 (by rw [hps]; rfl) hbb2 (.cons rfl .nil) sp) fun r s' h => ?_
    cases r with
    | error e =>
      exfalso
      obtain ⟨a, B, sI, H', cls, d, h⟩ := h
      simp only [and_false] at h
    | ok fl =>
      cases fl with
      | next => exact False.elim h
      | brk => exact False.elim h
      | cont => exact False.elim h
      | ret u =>
        obtain ⟨v, H', os, bare, un, hok', r', q⟩ := h
        have q' : v = .bl true := q
        subst q'
        obtain rfl : u = Value.bool true := r'
        refine ⟨rfl, OldK.of_keep fun b o e => ?_, os, bare⟩
        cases q : H b with
        | none => exact un.keep b o e q (by intro z; exact absurd (show b ∈ ([] : List Addr) from z) (by simp)) (by simp)
        | some u =>
          rcases hO b with z | ⟨ob, xs, z⟩
          · rw [q] at z; cases z
          · have z2 := un.frzs b ob _ z
            obtain ⟨e1, _⟩ := hok b _ z
            obtain ⟨e2, _⟩ := hok' b _ z2
            rw [e] at e1; cases e1
            exact e2
  cases hk : K.lookup a with
  | some o =>
    have e := KX a o hk
    rw [ha] at e
    cases e
    exact core (fun _ => none) (fun _ => .inl rfl) (.inr ⟨_, vs.toArray, _, hk, rfl, rfl, rfl, by rw [List.size_toArray, lenV]; exact hl, by simpa using rv⟩)
      (fun b u z => by have z' : (none : Option HO) = some u := z; cases z') (fun b z => absurd rfl z) fun z => absurd rfl z
  | none =>
    refine core (fun b => if b = a then some (.frz { cls := .type "list", data := .seq vs.toArray } (.lst (ns.map V.int))) else none) (fun b => ?_) (.inl ⟨{ cls := .type "list", data := .seq vs.toArray }, if_pos rfl⟩) (fun b u z => ?_) (fun b z => ?_) fun _ => hk
    · by_cases hb : b = a
      · exact .inr ⟨_, _, if_pos hb⟩
      · exact .inl (if_neg hb)
    · by_cases hb : b = a
      · have z' := (if_pos hb).symm.trans z
        cases z'
        subst hb
        exact ⟨ha, by rw [List.length_map]; exact hl, vs, _, rv, ha⟩
      · have z' := (if_neg hb).symm.trans z
        cases z'
    · by_cases hb : b = a
      · exact hb
      · exact absurd (if_neg hb) z
/-- the goal that the head leaves -/
theorem walk_g {l : PySem.W.OpenLaw} {n k : Nat} {q : Program} {loose : List Str} {XP : (Str → Option Value) → Heap → Prop} {YP : World → Heap → Prop} {d : DefRec} {K : Params → PySem.W.Frag} {Pg : List Fd} {gt : List (Str × D)} {i : Nat} {f : Fd}
    (hn : l.most = some n) (hn2 : n ≤ sizeLine) (hdf : d.params.defaults = []) (hr : Room k callerA) (himp : importsNone q = true) (hf : Pg[i]? = some f) (hd : f.name = d.name) (har : f.ar = 1)
    (hY : ∀ (w : World) (h : Heap), YP w h → (K w.params).In h)
    (F : ∀ (w : World) (mg : Str → Option Value) (h : Heap), (K w.params).In h → h.Ns mainGlobals mg →
      (∀ x ∈ bnames, mg x = none) ∧ (∀ x e, gt.lookup x = some e → ∃ v u, mg x = some u ∧ RelV v u ∧ ∀ ρ H, RV (K w.params) ρ H e v) ∧ ∀ f ∈ Pg, FFact (K w.params) mg (fnsOf Pg) gt f)
    (law : ∀ ns : List Int, ns.length ≤ n → (∀ z ∈ ns, Builtin.Int.intBits z ≤ 1048576) → ∃ S', evF Pg k i [.rol (ns.map D.int)] [] = .ok (.bl true) S') :
    PySem.W.WalkO q loose XP YP l.row.toRowW d [] (fun f vs => PySem.call f vs) := by
  refine Att.attach_callB hn hdf fun w s₀ s₁ mg mb fa o pm cd doc a vs ns G Y ho hdd hcd hmg hobj hints hlen hbits hg => ?_
  have KX := hY w _ Y
  obtain ⟨b1, b2, b3⟩ := F w mg _ KX G.T.g
  obtain ⟨mm, hsm, _⟩ := (G.T.seer himp).mods
  refine law_g (x := f.name) (h := evF Pg k i) KX G.T.g G.T.b G.T.builtins G.T.nolimit ⟨mm, hsm⟩ hg hobj hints (Nat.le_trans hlen hn2) hr (by rw [hd]; exact hmg) (fun base kb nb sb => ?_) (law ns hlen hbits)
  have := fns_ok (P := l.prog) (w := w) (base := base) sb b1 b2 b3 k i f hf
  rw [har] at this
  exact this
end
end GG
namespace GG
open PySem PySem.Spec PyProof.Rows L2
/-! ## laws about the interpreter -/
/-- keeps simp from taking an equation as one that holds by unfolding -/
theorem nrfl {α : Sort u} {a b : α} (h : a = b) : a = b := h
@[irreducible] def Out.wp {α : Type} (r : Out α) (Q : α → Sto → Prop) : Prop := match r with
  | .ok a S => Q a S
  | _ => False
@[irreducible] def OutS.wp (r : OutS) (Q : Fl → Sto → Prop) : Prop := match r with
  | .ok a S => Q a S
  | _ => False
section
variable {α β : Type}
theorem wp_ok {a : α} {S : Sto} {Q : α → Sto → Prop} : (Out.ok a S).wp Q = Q a S := by unfold Out.wp; rfl
theorem wp_bad {Q : α → Sto → Prop} : (Out.bad : Out α).wp Q = False := by unfold Out.wp; rfl
theorem wp_exc {c : Str} {v : Option (Str × D)} {S : Sto} {Q : α → Sto → Prop} : (Out.exc c v S : Out α).wp Q = False := by unfold Out.wp; rfl
theorem wp_bind {r : Out α} {f : α → Sto → Out β} {Q : β → Sto → Prop} : (r.bind f).wp Q = r.wp fun a S => (f a S).wp Q := by
  unfold Out.wp; cases r <;> rfl
theorem wps_ok {a : Fl} {S : Sto} {Q : Fl → Sto → Prop} : (OutS.ok a S).wp Q = Q a S := by unfold OutS.wp; rfl
theorem wps_bad {Q : Fl → Sto → Prop} : OutS.bad.wp Q = False := by unfold OutS.wp; rfl
theorem wps_exc {c : Str} {v : Option (Str × D)} {ε : Env} {S : Sto} {Q : Fl → Sto → Prop} : (OutS.exc c v ε S).wp Q = False := by unfold OutS.wp; rfl
theorem wp_on {r : Out α} {ε : Env} {g : α → Sto → OutS} {Q : Fl → Sto → Prop} : (r.on ε g).wp Q = r.wp fun a S => (g a S).wp Q := by
  unfold Out.wp OutS.wp; cases r <;> rfl
theorem wp_seq {r : OutS} {g : Env → Sto → OutS} {Q : Fl → Sto → Prop} : (r.seq g).wp Q = r.wp fun f S => match f with
    | .nx ε => (g ε S).wp Q
    | f => Q f S := by
  unfold OutS.wp
  cases r with
  | ok f S => cases f <;> rfl
  | exc c v ε S => rfl
  | bad => rfl
theorem Out.wp.mono {r : Out α} {Q Q' : α → Sto → Prop} (h : r.wp Q) (i : ∀ a S, Q a S → Q' a S) : r.wp Q' := by
  unfold Out.wp at h ⊢
  cases r with
  | ok a S => exact i a S h
  | exc c v S => exact h
  | bad => exact h
theorem OutS.wp.mono {r : OutS} {Q Q' : Fl → Sto → Prop} (h : r.wp Q) (i : ∀ a S, Q a S → Q' a S) : r.wp Q' := by
  unfold OutS.wp at h ⊢
  cases r with
  | ok a S => exact i a S h
  | exc c v ε S => exact h
  | bad => exact h
theorem Out.wp.get {r : Out α} {Q : α → Sto → Prop} (h : r.wp Q) : ∃ a S, r = .ok a S ∧ Q a S := by
  unfold Out.wp at h
  cases r with
  | ok a S => exact ⟨a, S, rfl, h⟩
  | exc c v S => exact h.elim
  | bad => exact h.elim
theorem Out.wp.of {r : Out α} {Q : α → Sto → Prop} {a : α} {S : Sto} (e : r = .ok a S) (h : Q a S) : r.wp Q := by rw [e, wp_ok]; exact h
theorem OutS.wp.get {r : OutS} {Q : Fl → Sto → Prop} (h : r.wp Q) : ∃ f S, r = .ok f S ∧ Q f S := by
  unfold OutS.wp at h
  cases r with
  | ok f S => exact ⟨f, S, rfl, h⟩
  | exc c v ε S => exact h.elim
  | bad => exact h.elim
theorem wp_runF {cl : Nat → List D → Sto → Out D} {f : Fd} {ds : List D} {S : Sto} {Q : D → Sto → Prop}
    (h : (evSs cl f.body (ds.map some ++ List.replicate (f.N.length - ds.length) none) S).wp fun fl S1 => match fl with
      | .rt d => (trunc S.length d S1).wp Q
      | .nx _ => Q .non (S1.take S.length)
      | _ => False) : (runF cl f ds S).wp Q := by
  unfold runF
  obtain ⟨fl, S1, e, h⟩ := h.get
  rw [e]
  cases fl with
  | rt d => exact h
  | nx ε => show (Out.ok D.non _).wp Q; rw [wp_ok]; exact h
  | bk ε => exact h.elim
  | ct ε => exact h.elim
end
/-! ### loops -/
/-- a loop whose turns all go on -/
theorem wp_for {gs : List (Nat × O)} {tgt : D → Env → Option Env} {body : Env → Sto → OutS} {Q : Fl → Sto → Prop} (J : Nat → Env → Sto → Prop) :
    ∀ (ds : List D) (i : Nat) (ε : Env) (S : Sto), J i ε S → (∀ k ε S, J k ε S → chk gs S = true) →
      (∀ k d ε S, ds[k]? = some d → J (i + k) ε S → ∃ ε1, tgt d ε = some ε1 ∧ (body ε1 S).wp fun f S2 => match f with
        | .nx ε2 => J (i + k + 1) ε2 S2
        | .ct ε2 => J (i + k + 1) ε2 S2
        | .bk ε2 => Q (.nx ε2) S2
        | .rt v => Q (.rt v) S2) →
      (∀ ε S, J (i + ds.length) ε S → Q (.nx ε) S) → (forLoop gs tgt body ds ε S).wp Q
  | [], i, ε, S, j, hg, hs, hd => by
    unfold forLoop
    rw [if_pos (hg _ _ _ j), wps_ok]
    exact hd ε S j
  | d :: r, i, ε, S, j, hg, hs, hd => by
    unfold forLoop
    rw [if_pos (hg _ _ _ j)]
    obtain ⟨ε1, e, h⟩ := hs 0 d ε S rfl j
    rw [e]
    have next : ∀ ε2 S2, J (i + 0 + 1) ε2 S2 → (forLoop gs tgt body r ε2 S2).wp Q := fun ε2 S2 j2 =>
      wp_for J r (i + 1) ε2 S2 j2 hg (fun k d ε S e j => by
        have := hs (k + 1) d ε S (by simpa using e) (by rw [show i + (k + 1) = i + 1 + k by omega]; exact j)
        rw [show i + (k + 1) = i + 1 + k by omega] at this
        exact this) fun ε S j => hd ε S (by rw [List.length_cons, show i + (r.length + 1) = i + 1 + r.length by omega]; exact j)
    dsimp only
    obtain ⟨f, S2, hb, h⟩ := h.get
    rw [hb]
    cases f with
    | nx ε2 => exact next ε2 S2 h
    | ct ε2 => exact next ε2 S2 h
    | bk ε2 => rw [wps_ok]; exact h
    | rt v => rw [wps_ok]; exact h
theorem wp_noX {α : Type} {r : Out α} {Q : α → Sto → Prop} : (noX r).wp Q = r.wp Q := by unfold Out.wp; cases r <;> rfl
/-- a comprehension: J i S at turn i, the results one by one in P -/
theorem wp_lc {gs : List (Nat × O)} {tgt : D → Option Env} {cond : Env → Sto → Out Bool} {elt : Env → Sto → Out D} {Q : List D → Sto → Prop} (J : Nat → List D → Sto → Prop) :
    ∀ (ds : List D) (i : Nat) (acc : List D) (S : Sto), J i acc S → (∀ k a S, J k a S → chk gs S = true) →
      (∀ k d a S, ds[k]? = some d → J (i + k) a S → ∃ ε, tgt d = some ε ∧ (cond ε S).wp fun b S1 => if b = true then (elt ε S1).wp fun y S2 => J (i + k + 1) (a ++ [y]) S2 else J (i + k + 1) a S1) →
      (∀ a S ys, J (i + ds.length) a S → a = acc ++ ys → Q ys S) → (lcLoop gs tgt cond elt ds S).wp Q
  | [], i, acc, S, j, hg, hs, hd => by
    unfold lcLoop
    rw [if_pos (hg _ _ _ j), wp_ok]
    exact hd acc S [] j (by simp)
  | d :: r, i, acc, S, j, hg, hs, hd => by
    unfold lcLoop
    rw [if_pos (hg _ _ _ j)]
    obtain ⟨ε, e, h⟩ := hs 0 d acc S rfl j
    rw [e]
    have next : ∀ (a2 : List D) (S2 : Sto) (Q2 : List D → Sto → Prop), J (i + 0 + 1) a2 S2 → (∀ a S ys, J (i + (d :: r).length) a S → a = a2 ++ ys → Q2 ys S) → (lcLoop gs tgt cond elt r S2).wp Q2 := fun a2 S2 Q2 j2 hq =>
      wp_lc J r (i + 1) a2 S2 j2 hg (fun k d a S e j => by
        have := hs (k + 1) d a S (by simpa using e) (by rw [show i + (k + 1) = i + 1 + k by omega]; exact j)
        rw [show i + (k + 1) = i + 1 + k by omega] at this
        exact this) fun a S ys j => hq a S ys (by rw [List.length_cons, show i + (r.length + 1) = i + 1 + r.length by omega]; exact j)
    dsimp only
    rw [wp_bind, wp_noX]
    refine h.mono fun b S1 h => ?_
    split
    · rename_i hb
      rw [if_pos hb] at h
      rw [wp_bind, wp_noX]
      refine h.mono fun y S2 h => ?_
      rw [wp_bind]
      refine next (acc ++ [y]) S2 _ h fun a S ys j e => ?_
      rw [wp_ok]
      exact hd a S (y :: ys) j (by rw [e]; simp)
    · rename_i hb
      rw [if_neg hb] at h
      exact next acc S1 _ h fun a S ys j e => hd a S ys j e
/-- a comprehension that leaves the store as it stands -/
theorem lc_pure {gs : List (Nat × O)} {tgt : D → Option Env} {cond : Env → Sto → Out Bool} {elt : Env → Sto → Out D} {S : Sto} (hg : chk gs S = true) (f : D → D) :
    ∀ ds : List D, (∀ d ∈ ds, ∃ ε, tgt d = some ε ∧ cond ε S = .ok true S ∧ elt ε S = .ok (f d) S) → lcLoop gs tgt cond elt ds S = .ok (ds.map f) S
  | [], _ => by unfold lcLoop; rw [if_pos hg]; rfl
  | d :: r, h => by
    obtain ⟨ε, e1, e2, e3⟩ := h d List.mem_cons_self
    unfold lcLoop
    rw [if_pos hg, e1]
    dsimp only
    rw [e2]
    show (noX (elt ε S)).bind _ = _
    rw [e3]
    show (lcLoop gs tgt cond elt r S).bind _ = _
    rw [lc_pure hg f r fun d m => h d (List.mem_cons_of_mem _ m)]
    rfl
/-- .. with a test -/
theorem lc_filter {gs : List (Nat × O)} {tgt : D → Option Env} {cond : Env → Sto → Out Bool} {elt : Env → Sto → Out D} {S : Sto} (hg : chk gs S = true) (c : D → Bool) (f : D → D) :
    ∀ ds : List D, (∀ d ∈ ds, ∃ ε, tgt d = some ε ∧ cond ε S = .ok (c d) S ∧ elt ε S = .ok (f d) S) → lcLoop gs tgt cond elt ds S = .ok ((ds.filter c).map f) S
  | [], _ => by unfold lcLoop; rw [if_pos hg]; rfl
  | d :: r, h => by
    obtain ⟨ε, e1, e2, e3⟩ := h d List.mem_cons_self
    unfold lcLoop
    rw [if_pos hg, e1]
    dsimp only
    rw [e2]
    have ih := lc_filter hg c f r fun d m => h d (List.mem_cons_of_mem _ m)
    show (if c d = true then (noX (elt ε S)).bind _ else _) = _
    cases hc : c d
    · rw [if_neg (by simp), ih, List.filter_cons, hc]; rfl
    · rw [if_pos rfl, e3]
      show (lcLoop gs tgt cond elt r S).bind _ = _
      rw [ih, List.filter_cons, hc]; rfl
end GG
namespace GG
open PySem PySem.Spec PyProof.Rows L2
section
variable {α β : Type}
theorem bind_ok {a : α} {S : Sto} {f : α → Sto → Out β} : (Out.ok a S).bind f = f a S := nrfl rfl
theorem bind_bad {f : α → Sto → Out β} : (Out.bad : Out α).bind f = .bad := nrfl rfl
theorem bind_ite {c : Prop} [Decidable c] {x y : Out α} {f : α → Sto → Out β} : (if c then x else y).bind f = if c then x.bind f else y.bind f := by split <;> rfl
theorem on_ok {a : α} {S : Sto} {ε : Env} {g : α → Sto → OutS} : (Out.ok a S).on ε g = g a S := nrfl rfl
theorem on_bad {ε : Env} {g : α → Sto → OutS} : (Out.bad : Out α).on ε g = .bad := nrfl rfl
theorem seq_nx {ε : Env} {S : Sto} {g : Env → Sto → OutS} : (OutS.ok (.nx ε) S).seq g = g ε S := nrfl rfl
theorem seq_rt {d : D} {S : Sto} {g : Env → Sto → OutS} : (OutS.ok (.rt d) S).seq g = .ok (.rt d) S := nrfl rfl
theorem seq_bk {ε : Env} {S : Sto} {g : Env → Sto → OutS} : (OutS.ok (.bk ε) S).seq g = .ok (.bk ε) S := nrfl rfl
theorem seq_ct {ε : Env} {S : Sto} {g : Env → Sto → OutS} : (OutS.ok (.ct ε) S).seq g = .ok (.ct ε) S := nrfl rfl
theorem seq_bad {g : Env → Sto → OutS} : OutS.bad.seq g = .bad := nrfl rfl
end
theorem bind_cg {α β : Type} {r r' : Out α} {f : α → Sto → Out β} (h : r = r') : r.bind f = r'.bind f := by rw [h]
theorem on_cg {α : Type} {r r' : Out α} {ε : Env} {f : α → Sto → OutS} (h : r = r') : r.on ε f = r'.on ε f := by rw [h]
theorem seq_cg {r r' : OutS} {f : Env → Sto → OutS} (h : r = r') : r.seq f = r'.seq f := by rw [h]
theorem wp_cg {α : Type} {r r' : Out α} {f : α → Sto → Prop} (h : r = r') : r.wp f = r'.wp f := by rw [h]
theorem wps_cg {r r' : OutS} {f : Fl → Sto → Prop} (h : r = r') : r.wp f = r'.wp f := by rw [h]
theorem ite_cg {α : Type} {c c' : Prop} [Decidable c] [Decidable c'] {x y : Out α} (h : c = c') : (if c then x else y) = if c' then x else y := by subst h; congr
theorem ites_cg {c c' : Prop} [Decidable c] [Decidable c'] {x y : OutS} (h : c = c') : (if c then x else y) = if c' then x else y := by subst h; congr
theorem for_cg {gs : List (Nat × O)} {tg : D → Env → Option Env} {b : Env → Sto → OutS} {ds ds' : List D} {ε ε' : Env} {S S' : Sto} (h : ds = ds') (h2 : ε = ε') (h3 : S = S') : forLoop gs tg b ds ε S = forLoop gs tg b ds' ε' S' := by rw [h, h2, h3]
theorem lc_cg {gs : List (Nat × O)} {tg : D → Option Env} {c : Env → Sto → Out Bool} {e : Env → Sto → Out D} {ds ds' : List D} {S S' : Sto} (h : ds = ds') (h3 : S = S') : lcLoop gs tg c e ds S = lcLoop gs tg c e ds' S' := by rw [h, h3]
theorem while_cg {c : Env → Sto → Out Bool} {b : Env → Sto → OutS} {n : Nat} {ε ε' : Env} {S S' : Sto} (h2 : ε = ε') (h3 : S = S') : whileLoop c b n ε S = whileLoop c b n ε' S' := by rw [h2, h3]
section
variable {cl : Nat → List D → Sto → Out D} {ε : Env} {S : Sto}
theorem ee_v {i : Nat} : evE cl (.v i) ε S = match ε[i]? with | some (some d) => .ok d S | _ => .bad := by simp only [evE] <;> rfl
theorem ee_c {d : D} : evE cl (.c d) ε S = .ok d S := by simp only [evE]
theorem ee_g {x : Str} {d : D} : evE cl (.g x d) ε S = .ok d S := by simp only [evE]
theorem ee_bop {o : Operator} {a b : Ex} : evE cl (.bop o a b) ε S = (evE cl a ε S).bind fun x S1 => (evE cl b ε S1).bind fun y S2 => binF o x y S2 := by simp only [evE]
theorem ee_neg {a : Ex} : evE cl (.neg a) ε S = (evE cl a ε S).bind fun x S1 => match x with | .int i => .ok (.int (-i)) S1 | _ => .bad := by simp only [evE] <;> rfl
theorem ee_not {a : Ex} : evE cl (.not a) ε S = (evE cl a ε S).bind fun x S1 => (truF x S1).bind fun b S2 => .ok (.bl (!b)) S2 := by simp only [evE]
theorem ee_cmp {o : CmpOp} {a b : Ex} : evE cl (.cmp o a b) ε S = (evE cl a ε S).bind fun x S1 => (evE cl b ε S1).bind fun y S2 => cmpF o x y S2 := by simp only [evE]
theorem ee_chain {o o' : CmpOp} {a b c : Ex} : evE cl (.chain o o' a b c) ε S = (evE cl a ε S).bind fun x S1 => (evE cl b ε S1).bind fun y S2 => (cmpF o x y S2).bind fun r S3 => match r with
    | .bl true => (evE cl c ε S3).bind fun z S4 => cmpF o' y z S4
    | .bl false => .ok (.bl false) S3
    | _ => .bad := by simp only [evE] <;> rfl
theorem ee_and {a : Ex} {es : List Ex} : evE cl (.and a es) ε S = (evE cl a ε S).bind fun x S1 => evAnd cl es x ε S1 := by simp only [evE]
theorem ee_or {a : Ex} {es : List Ex} : evE cl (.or a es) ε S = (evE cl a ε S).bind fun x S1 => evOr cl es x ε S1 := by simp only [evE]
theorem ee_ife {t a b : Ex} : evE cl (.ife t a b) ε S = (evE cl t ε S).bind fun x S1 => (truF x S1).bind fun k S2 => if k = true then evE cl a ε S2 else evE cl b ε S2 := by simp only [evE]
theorem ee_tup {es : List Ex} : evE cl (.tup es) ε S = (evEs cl es ε S).bind fun ds S1 => if ds.length ≤ sizeLine then .ok (.tup ds) S1 else .bad := by simp only [evE]
theorem ee_lst {es : List Ex} : evE cl (.lst es) ε S = (evEs cl es ε S).bind fun ds S1 => if ds.length ≤ sizeLine then .ok (.loc S1.length) (S1 ++ [.lst ds]) else .bad := by simp only [evE]
theorem ee_dct {ks : List Key} {es : List Ex} : evE cl (.dct ks es) ε S = (evEs cl es ε S).bind fun ds S1 => if ds.length ≤ 15 then .ok (.loc S1.length) (S1 ++ [.dK (mergeD [] (ks.zip ds))]) else .bad := by simp only [evE]
theorem ee_ix {a i : Ex} : evE cl (.ix a i) ε S = (evE cl a ε S).bind fun x S1 => (evE cl i ε S1).bind fun y S2 => opIx x y S2 := by simp only [evE]
theorem ee_sl {a : Ex} {lo hi : List Ex} : evE cl (.sl a lo hi) ε S = (evE cl a ε S).bind fun x S1 => (evO cl lo ε S1).bind fun l S2 => (evO cl hi ε S2).bind fun h S3 => opSl x l h S3 := by simp only [evE]
theorem ee_rev {a : Ex} : evE cl (.rev a) ε S = (evE cl a ε S).bind fun x S1 => opRev x S1 := by simp only [evE]
theorem ee_call {f : Nat} {es : List Ex} : evE cl (.call f es) ε S = (evEs cl es ε S).bind fun ds S1 => cl f ds S1 := by simp only [evE]
theorem ee_bi {b : Bi} {es : List Ex} : evE cl (.bi b es) ε S = (evEs cl es ε S).bind fun ds S1 => biF b ds S1 := by simp only [evE]
theorem ee_isi {a : Ex} {t : Ty} : evE cl (.isi a t) ε S = (evE cl a ε S).bind fun x S1 => isiF t x S1 := by simp only [evE]
theorem ee_me {m : Me} {o : Ex} {es : List Ex} : evE cl (.me m o es) ε S = (evE cl o ε S).bind fun x S1 => if meR m x S1 = true then (evEs cl es ε S1).bind fun ds S2 => meF m x ds S2 else .bad := by simp only [evE]
theorem ee_lc {e : Ex} {own : List Nat} {tg : Tg} {it : Ex} {ifs : List Ex} : evE cl (.lc e own tg it ifs) ε S = (evI cl it ε S).bind fun p S1 =>
    (lcLoop p.2 (fun d => tgS tg d (wipeE ε own)) (evTs cl ifs) (evE cl e) p.1 S1).bind fun ys S2 => if ys.length ≤ sizeLine then .ok (.loc S2.length) (S2 ++ [.lst ys]) else .bad := by simp only [evE]
theorem es_nil : evEs cl [] ε S = .ok [] S := by simp only [evEs]
theorem es_cons {e : Ex} {es : List Ex} : evEs cl (e :: es) ε S = (evE cl e ε S).bind fun x S1 => (evEs cl es ε S1).bind fun xs S2 => .ok (x :: xs) S2 := by simp only [evEs]
theorem ea_nil {x : D} : evAnd cl [] x ε S = .ok x S := by simp only [evAnd]
theorem ea_cons {x : D} {e : Ex} {es : List Ex} : evAnd cl (e :: es) x ε S = (truF x S).bind fun b S1 => if b = true then (evE cl e ε S1).bind fun y S2 => evAnd cl es y ε S2 else .ok x S1 := by simp only [evAnd]
theorem eo_nil {x : D} : evOr cl [] x ε S = .ok x S := by simp only [evOr]
theorem eo_cons {x : D} {e : Ex} {es : List Ex} : evOr cl (e :: es) x ε S = (truF x S).bind fun b S1 => if b = true then .ok x S1 else (evE cl e ε S1).bind fun y S2 => evOr cl es y ε S2 := by simp only [evOr]
theorem eO_nil : evO cl [] ε S = .ok none S := by simp only [evO]
theorem eO_cons {e : Ex} {es : List Ex} : evO cl (e :: es) ε S = (evE cl e ε S).bind asInt := by simp only [evO]
theorem et_nil : evTs cl [] ε S = .ok true S := by simp only [evTs]
theorem et_cons {e : Ex} {es : List Ex} : evTs cl (e :: es) ε S = (evE cl e ε S).bind truF := by simp only [evTs]
theorem ei_rng {es : List Ex} : evI cl (.rng es) ε S = (evEs cl es ε S).bind iterR := by simp only [evI]
theorem ei_enum {e : Ex} : evI cl (.enum e) ε S = (evE cl e ε S).bind iterN := by simp only [evI]
theorem ei_zip {a b : Ex} : evI cl (.zip a b) ε S = (evE cl a ε S).bind fun d S1 => (evE cl b ε S1).bind fun d' S2 => iterZ d d' S2 := by simp only [evI]
theorem ei_itv {e : Ex} : evI cl (.itv e) ε S = (evE cl e ε S).bind iterV := by simp only [evI]
theorem st_nil : evSs cl [] ε S = .ok (.nx ε) S := by simp only [evSs]
theorem st_cons {s : Sm} {r : List Sm} : evSs cl (s :: r) ε S = (evS cl s ε S).seq (evSs cl r) := by simp only [evSs]
theorem sm_ret {e : Ex} : evS cl (.ret e) ε S = (evE cl e ε S).on ε fun d S1 => .ok (.rt d) S1 := by simp only [evS]
theorem sm_retN : evS cl .retN ε S = .ok (.rt .non) S := by simp only [evS]
theorem sm_set {tg : Tg} {e : Ex} : evS cl (.set tg e) ε S = (evE cl e ε S).on ε fun d S1 => match tgS tg d ε with
    | some ε1 => .ok (.nx ε1) S1
    | none => .bad := by simp only [evS] <;> rfl
theorem sm_par {i j : Nat} {a b : Ex} : evS cl (.par i j a b) ε S = (evE cl a ε S).on ε fun x S1 => (evE cl b ε S1).on ε fun y S2 => if i < ε.length ∧ j < ε.length then .ok (.nx ((ε.set i (some x)).set j (some y))) S2 else .bad := by simp only [evS]
theorem sm_put {o i e : Ex} : evS cl (.put o i e) ε S = (evE cl e ε S).on ε fun d S1 => (evE cl o ε S1).on ε fun x S2 => (evE cl i ε S2).on ε fun y S3 => (putF x y d S3).on ε fun _ S4 => .ok (.nx ε) S4 := by simp only [evS]
theorem sm_ife {c : Ex} {t e : List Sm} : evS cl (.ife c t e) ε S = ((evE cl c ε S).bind truF).on ε fun b S1 => if b = true then evSs cl t ε S1 else evSs cl e ε S1 := by simp only [evS]
theorem sm_for {tg : Tg} {it : Ex} {b : List Sm} : evS cl (.for_ tg it b) ε S = (evI cl it ε S).on ε fun p S1 => forLoop p.2 (tgS tg) (evSs cl b) p.1 ε S1 := by simp only [evS]
theorem sm_while {c : Ex} {b : List Sm} : evS cl (.while_ c b) ε S = whileLoop (fun ε S => (evE cl c ε S).bind truF) (evSs cl b) wFuel ε S := by simp only [evS]
theorem sm_ex {e : Ex} : evS cl (.ex e) ε S = (evE cl e ε S).on ε fun _ S1 => .ok (.nx ε) S1 := by simp only [evS]
theorem sm_pass : evS cl .pass ε S = .ok (.nx ε) S := by simp only [evS]
theorem sm_brk : evS cl .brk ε S = .ok (.bk ε) S := by simp only [evS]
theorem sm_cont : evS cl .cont ε S = .ok (.ct ε) S := by simp only [evS]
theorem ev_lc_pure {e : Ex} {own : List Nat} {tg : Tg} {it : Ex} {ifs : List Ex} {p : Its} {S1 : Sto} (f : D → D) (hi : evI cl it ε S = .ok p S1) (hc : chk p.2 S1 = true) (hl : p.1.length ≤ sizeLine)
    (h : ∀ d ∈ p.1, ∃ ε', tgS tg d (wipeE ε own) = some ε' ∧ evTs cl ifs ε' S1 = .ok true S1 ∧ evE cl e ε' S1 = .ok (f d) S1) :
    evE cl (.lc e own tg it ifs) ε S = .ok (.loc S1.length) (S1 ++ [.lst (p.1.map f)]) := by
  rw [ee_lc, hi, bind_ok, lc_pure hc f p.1 h, bind_ok, if_pos (by simpa using hl)]
theorem ev_lc_filter {e : Ex} {own : List Nat} {tg : Tg} {it : Ex} {ifs : List Ex} {p : Its} {S1 : Sto} (c : D → Bool) (f : D → D) (hi : evI cl it ε S = .ok p S1) (hc : chk p.2 S1 = true) (hl : p.1.length ≤ sizeLine)
    (h : ∀ d ∈ p.1, ∃ ε', tgS tg d (wipeE ε own) = some ε' ∧ evTs cl ifs ε' S1 = .ok (c d) S1 ∧ evE cl e ε' S1 = .ok (f d) S1) :
    evE cl (.lc e own tg it ifs) ε S = .ok (.loc S1.length) (S1 ++ [.lst ((p.1.filter c).map f)]) := by
  rw [ee_lc, hi, bind_ok, lc_filter hc c f p.1 h, bind_ok, if_pos]
  rw [List.length_map]
  exact Nat.le_trans (List.length_filter_le _ _) hl
end
section
variable {S : Sto}
theorem bi_len_str {z : Str} : biF .len [.str z] S = if z.length ≤ sizeLine then .ok (.int z.length) S else .bad := nrfl rfl
theorem bi_len_tup {ds : List D} : biF .len [.tup ds] S = .ok (.int ds.length) S := nrfl rfl
theorem bi_len_rol {ds : List D} : biF .len [.rol ds] S = .ok (.int ds.length) S := nrfl rfl
theorem bi_len_lst {l : Nat} {ds : List D} (h : S[l]? = some (.lst ds)) : biF .len [.loc l] S = .ok (.int ds.length) S := by simp [biF, h]
theorem bi_abs {i : Int} : biF .abs [.int i] S = .ok (.int (if i < 0 then -i else i)) S := nrfl rfl
theorem bi_int {i : Int} : biF .int [.int i] S = .ok (.int i) S := nrfl rfl
theorem bi_int_bl {b : Bool} : biF .int [.bl b] S = .ok (.int (if b then 1 else 0)) S := nrfl rfl
theorem bi_max {i j : Int} : biF .max [.int i, .int j] S = .ok (.int (if j > i then j else i)) S := nrfl rfl
theorem bi_min {i j : Int} : biF .min [.int i, .int j] S = .ok (.int (if j < i then j else i)) S := nrfl rfl
theorem bi_str {i : Int} : biF .str [.int i] S = if i.natAbs.log2 < 1920 then .ok (.str (toString i)) S else .bad := nrfl rfl
theorem bi_str_str {x : Str} : biF .str [.str x] S = .ok (.str x) S := nrfl rfl
theorem bi_list {d : D} {ds : List D} (h : seqOf S d = some ds) : biF .list [d] S = .ok (.loc S.length) (S ++ [.lst ds]) := by simp [biF, h]
theorem bi_tuple {d : D} {ds : List D} (h : seqOf S d = some ds) : biF .tuple [d] S = .ok (.tup ds) S := by simp [biF, h]
theorem bi_all {l : Nat} {ds : List D} {bs : List Bool} (h : S[l]? = some (.lst ds)) (h' : boolsOf ds = some bs) : biF .all [.loc l] S = .ok (.bl (bs.all id)) S := by simp [biF, lstOf, h, h']
theorem boolsOf_map {α : Type} (g : α → Bool) : ∀ ds : List α, boolsOf (ds.map fun d => .bl (g d)) = some (ds.map g)
  | [] => rfl
  | d :: r => by simp [boolsOf, boolsOf_map g r]
theorem bi_all_map {α : Type} {g : α → Bool} {xs : List α} : biF .all [.loc S.length] (S ++ [.lst (xs.map fun x => .bl (g x))]) = .ok (.bl (xs.all g)) (S ++ [.lst (xs.map fun x => .bl (g x))]) := by
  rw [bi_all (by simp) (boolsOf_map g xs)]
  simp [List.all_map, Function.comp_def]
theorem bi_repr_bl {b : Bool} : biF .repr [.bl b] S = .ok (.str (PyData.shown (.bool b))) S := by cases b <;> rfl
theorem get_app {T : Sto} {k : Nat} : (S ++ T)[S.length + k]? = T[k]? := by rw [List.getElem?_append_right (by omega)]; congr 1; omega
theorem get_app0 {T : Sto} : (S ++ T)[S.length]? = T[0]? := by rw [List.getElem?_append_right (by omega)]; congr 1; omega
theorem eq_int {i j : Int} {neg : Bool} : opEq neg (.int i) (.int j) S = .ok (.bl (if neg then !decide (i = j) else decide (i = j))) S := nrfl rfl
theorem eq_str {i j : Str} {neg : Bool} : opEq neg (.str i) (.str j) S = .ok (.bl (if neg then !decide (i = j) else decide (i = j))) S := nrfl rfl
theorem take_set {l : Nat} {o : O} : (S.set l o).take S.length = S.set l o := List.take_of_length_le (by simp)
theorem trunc_bl {n : Nat} {b : Bool} : trunc n (.bl b) S = .ok (.bl b) (S.take n) := nrfl rfl
theorem trunc_int {n : Nat} {b : Int} : trunc n (.int b) S = .ok (.int b) (S.take n) := nrfl rfl
theorem trunc_str {n : Nat} {b : Str} : trunc n (.str b) S = .ok (.str b) (S.take n) := nrfl rfl
theorem trunc_non {n : Nat} : trunc n .non S = .ok .non (S.take n) := nrfl rfl
theorem it_rng {j : Int} {k : Nat} (e : j = k) (h : k ≤ 1000000000) : iterR [.int j] S = .ok ((List.range k).map fun i => .int (i : Nat), []) S := by
  subst e
  have c : -(2 ^ 62) ≤ (k : Int) ∧ (k : Int) < 2 ^ 62 := by
    have e1 : ((2 : Int) ^ 62) = 4611686018427387904 := by decide
    rw [e1]; omega
  simp only [iterR]
  rw [if_pos c]
  simp only [Int.toNat_natCast, Int.zero_add]
theorem add_int {i j : Int} : opAdd (.int i) (.int j) S = .ok (.int (i + j)) S := nrfl rfl
theorem add_str {i j : Str} : opAdd (.str i) (.str j) S = if i.length + j.length ≤ sizeLine then .ok (.str (i ++ j)) S else .bad := nrfl rfl
theorem add_tup {i j : List D} : opAdd (.tup i) (.tup j) S = if i.length + j.length ≤ sizeLine then .ok (.tup (i ++ j)) S else .bad := nrfl rfl
theorem add_lst {l m : Nat} {xs ys : List D} (h : S[l]? = some (.lst xs)) (h' : S[m]? = some (.lst ys)) : opAdd (.loc l) (.loc m) S = if xs.length + ys.length ≤ sizeLine then .ok (.loc S.length) (S ++ [.lst (xs ++ ys)]) else .bad := by simp only [opAdd, h, h']
theorem sub_int {i j : Int} : opSub (.int i) (.int j) S = .ok (.int (i - j)) S := nrfl rfl
theorem mul_int {i j : Int} : opMul (.int i) (.int j) S = if (-(2 ^ 64) < i ∧ i < 2 ^ 64) ∨ (-(2 ^ 64) < j ∧ j < 2 ^ 64) then .ok (.int (i * j)) S else .bad := by simp only [opMul]
theorem mul_tup {xs : List D} {k : Int} : opMul (.tup xs) (.int k) S = if k ≤ 1000 ∧ -(2 ^ 63) ≤ k ∧ xs.length ≤ 1000 then .ok (.tup (rep k xs)) S else .bad := by simp only [opMul]
theorem mul_lst {l : Nat} {xs : List D} {k : Int} (h : S[l]? = some (.lst xs)) : opMul (.loc l) (.int k) S = if -(2 ^ 63) ≤ k ∧ k < 2 ^ 63 ∧ xs.length * k.toNat ≤ sizeLine then .ok (.loc S.length) (S ++ [.lst (rep k xs)]) else .bad := by simp only [opMul, h]
theorem div_int {i j : Int} : opDiv (.int i) (.int j) S = if 0 < j ∧ j < 1073741824 then .ok (.int (i / j)) S else .bad := nrfl rfl
theorem mod_int {i j : Int} : opMod (.int i) (.int j) S = if 0 < j then .ok (.int (i % j)) S else .bad := nrfl rfl
theorem pow_int' {i j : Int} : opPow (.int i) (.int j) S = if 0 ≤ j ∧ (Builtin.Int.intBits i : Int) * j ≤ 2 ^ 27 then .ok (.int (i ^ j.toNat)) S else .bad := by simp only [opPow]
theorem tr_non : truF .non S = .ok false S := nrfl rfl
theorem tr_bl {b : Bool} : truF (.bl b) S = .ok b S := nrfl rfl
theorem tr_int {i : Int} : truF (.int i) S = .ok (i != 0) S := nrfl rfl
theorem tr_tup {ds : List D} : truF (.tup ds) S = .ok (!ds.isEmpty) S := nrfl rfl
theorem tr_str {x : Str} (h : x.length ≤ sizeLine) : truF (.str x) S = .ok ((x.length : Int) != 0) S := by simp [truF, tru, h]
theorem tr_lst {l : Nat} {xs : List D} (h : S[l]? = some (.lst xs)) : truF (.loc l) S = .ok (!xs.isEmpty) S := by simp only [truF, tru, h]
theorem isi_non {t : Ty} : isiF t .non S = .ok (.bl (decide ("NoneType" = t.name) || (decide ("NoneType" = "bool") && decide (t = .int)))) S := nrfl rfl
theorem isi_bl {t : Ty} {b : Bool} : isiF t (.bl b) S = .ok (.bl (decide ("bool" = t.name) || (decide ("bool" = "bool") && decide (t = .int)))) S := nrfl rfl
theorem isi_int {t : Ty} {b : Int} : isiF t (.int b) S = .ok (.bl (decide ("int" = t.name) || (decide ("int" = "bool") && decide (t = .int)))) S := nrfl rfl
theorem isi_str {t : Ty} {b : Str} : isiF t (.str b) S = .ok (.bl (decide ("str" = t.name) || (decide ("str" = "bool") && decide (t = .int)))) S := nrfl rfl
theorem isi_tup {t : Ty} {b : List D} : isiF t (.tup b) S = .ok (.bl (decide ("tuple" = t.name) || (decide ("tuple" = "bool") && decide (t = .int)))) S := nrfl rfl
theorem isi_rol {t : Ty} {b : List D} : isiF t (.rol b) S = .ok (.bl (decide ("list" = t.name) || (decide ("list" = "bool") && decide (t = .int)))) S := nrfl rfl
theorem isi_lst {t : Ty} {l : Nat} {b : List D} (h : S[l]? = some (.lst b)) : isiF t (.loc l) S = .ok (.bl (decide ("list" = t.name) || (decide ("list" = "bool") && decide (t = .int)))) S := by simp only [isiF, tyName, h]
theorem isi_dct {t : Ty} {l : Nat} {b : List (Key × D)} (h : S[l]? = some (.dK b)) : isiF t (.loc l) S = .ok (.bl (decide ("dict" = t.name) || (decide ("dict" = "bool") && decide (t = .int)))) S := by simp only [isiF, tyName, h]
theorem oi_int {f : Int → Int → Bool} {g : List Nat → List Nat → Bool} {i j : Int} : opInt f g (.int i) (.int j) S = .ok (.bl (f i j)) S := nrfl rfl
theorem is_non {neg : Bool} {x : D} : opIs neg x .non S = .ok (.bl (if neg then !decide (x = .non) else decide (x = .non))) S := nrfl rfl
theorem is_bl {neg a b : Bool} : opIs neg (.bl a) (.bl b) S = .ok (.bl (if neg then !decide (a = b) else decide (a = b))) S := nrfl rfl
theorem in_tup {neg : Bool} {x : D} {ds : List D} : opIn neg x (.tup ds) S = if flatD x = true ∧ ds.all flatD = true then .ok (.bl (if neg then !(ds.any fun z => eqFD z x) else ds.any fun z => eqFD z x)) S else .bad := by cases x <;> rfl
theorem in_one {neg : Bool} {c : Nat} {j : Str} : opIn neg (.str ⟨#[c]⟩) (.str j) S = .ok (.bl (if neg then !decide (c ∈ j.cps.toList) else decide (c ∈ j.cps.toList))) S := nrfl rfl
theorem as_int {i : Int} : asInt (.int i) S = .ok (some i) S := nrfl rfl
theorem iv_tup {ds : List D} : iterV (.tup ds) S = .ok (ds, []) S := nrfl rfl
theorem iv_rol {ds : List D} : iterV (.rol ds) S = .ok (ds, []) S := nrfl rfl
theorem iv_str {x : Str} : iterV (.str x) S = .ok (x.cps.toList.map fun c => .str ⟨#[c]⟩, []) S := nrfl rfl
theorem iv_lst {l : Nat} {ds : List D} (h : S[l]? = some (.lst ds)) : iterV (.loc l) S = .ok (ds, [(l, .lst ds)]) S := by simp only [iterV, h]
theorem ien_tup {ds : List D} : iterN (.tup ds) S = .ok (pairUp 0 ds, []) S := nrfl rfl
theorem ien_lst {l : Nat} {ds : List D} (h : S[l]? = some (.lst ds)) : iterN (.loc l) S = .ok (pairUp 0 ds, [(l, .lst ds)]) S := by simp only [iterN, h]
theorem iz_tup {xs ys : List D} : iterZ (.tup xs) (.tup ys) S = .ok (zipUp xs ys, []) S := nrfl rfl
theorem me_upper {a : Str} : meF .upper (.str a) [] S = if a.length ≤ 5592405 then .ok (.str (Txt.upper a)) S else .bad := nrfl rfl
theorem me_join {a : Str} {d : D} {ds : List D} {ys : List Str} (h : seqOf S d = some ds) (h' : strsOf ds = some ys) (h2 : (ys.map (·.length)).sum + ys.length * a.length ≤ 16777216) : meF .join (.str a) [d] S = .ok (.str (Txt.join a ys)) S := by
  simp only [meF, h, Option.bind_some, h']
  rw [if_pos h2]
theorem mr_join {a : Str} : meR .join (.str a) S = true := nrfl rfl
theorem mr_upper {a : Str} : meR .upper (.str a) S = true := nrfl rfl
theorem sl2 : (2 : Nat) ≤ sizeLine := by decide
theorem sl1 : (1 : Nat) ≤ sizeLine := by decide
theorem dec_beq {α : Type} [BEq α] [LawfulBEq α] [DecidableEq α] {a b : α} : (a == b) = decide (a = b) := by
  rw [Bool.eq_iff_iff]; simp
end
theorem tg_n {i : Nat} {d : D} {ε : Env} : tgS (.n i) d ε = if i < ε.length then some (ε.set i (some d)) else none := by simp only [tgS]
theorem tg_t {ts : List Tg} {ds : List D} {ε : Env} : tgS (.t ts) (.tup ds) ε = tgsS ts ds ε := by simp only [tgS]
theorem tgs_nil {ε : Env} : tgsS [] [] ε = some ε := by simp only [tgsS]
theorem tgs_cons {t : Tg} {ts : List Tg} {d : D} {ds : List D} {ε : Env} : tgsS (t :: ts) (d :: ds) ε = match tgS t d ε with
    | some ε1 => tgsS ts ds ε1
    | none => none := by simp only [tgsS] <;> rfl
theorem ei_rng1 {cl : Nat → List D → Sto → Out D} {ε : Env} {S S1 : Sto} {e : Ex} {j : Int} {k : Nat} (h : evE cl e ε S = .ok (.int j) S1) (hj : j = k) (hk : k ≤ 1000000000) : evI cl (.rng [e]) ε S = .ok ((List.range k).map fun i => .int (i : Nat), []) S1 := by
  have h2 : evEs cl [e] ε S = .ok [.int j] S1 := by rw [es_cons, h, bind_ok, es_nil, bind_ok]
  rw [ei_rng, h2, bind_ok]
  exact it_rng hj hk
theorem u_fn {Pg : List Fd} {f : Fd} {i : Nat} (n : Nat) (h : Pg[i]? = some f) : evF Pg (n + 1) i = runF (evF Pg n) f := by
  funext ds S
  show (match Pg[i]? with | some f => runF (evF Pg n) f ds S | none => .bad) = _
  rw [h]
end GG
open PySem PySem.Spec PyProof.Rows L2 GG
local macro_rules
  | `(tactic| simp! [$ls,*]) => `(tactic| simp [-GG.Out.bind_ok, -GG.Out.bind_exc, -GG.Out.bind_bad, GG.bind_ok, GG.bind_bad, GG.bind_ite, GG.on_ok, GG.on_bad, GG.seq_nx, GG.seq_rt, GG.seq_bk, GG.seq_ct, GG.seq_bad, GG.ee_v, GG.ee_c, GG.ee_g, GG.ee_bop, GG.ee_neg, GG.ee_not, GG.ee_cmp, GG.ee_chain, GG.ee_and, GG.ee_or, GG.ee_ife, GG.ee_tup, GG.ee_lst, GG.ee_dct, GG.ee_ix, GG.ee_sl, GG.ee_rev, GG.ee_call, GG.ee_bi, GG.ee_isi, GG.ee_me, GG.es_nil, GG.es_cons, GG.ea_nil, GG.ea_cons, GG.eo_nil, GG.eo_cons, GG.eO_nil, GG.eO_cons, GG.et_nil, GG.et_cons, GG.ei_rng, GG.ei_enum, GG.ei_zip, GG.ei_itv, GG.st_nil, GG.st_cons, GG.sm_ret, GG.sm_retN, GG.sm_set, GG.sm_par, GG.sm_put, GG.sm_ife, GG.sm_for, GG.sm_ex, GG.sm_pass, GG.sm_brk, GG.sm_cont, GG.wp_ok, GG.wp_bad, GG.wp_bind, GG.wps_ok, GG.wps_bad, GG.wp_on, GG.wp_seq, GG.tg_n, GG.tg_t, GG.tgs_nil, GG.tgs_cons, GG.wipeE, GG.tr_non, GG.tr_bl, GG.tr_int, GG.tr_tup, GG.isi_non, GG.isi_bl, GG.isi_int, GG.isi_str, GG.isi_tup, GG.isi_rol, GG.Ty.name, GG.trunc_bl, GG.trunc_int, GG.trunc_str, GG.trunc_non, GG.D.lt, GG.cmpF, GG.binF, GG.add_int, GG.add_str, GG.add_tup, GG.sub_int, GG.mul_int, GG.mul_tup, GG.div_int, GG.mod_int, GG.pow_int', GG.oi_int, GG.is_non, GG.is_bl, GG.bi_len_str, GG.bi_len_tup, GG.bi_len_rol, GG.bi_abs, GG.bi_int, GG.bi_int_bl, GG.bi_max, GG.bi_min, GG.bi_str, GG.bi_str_str, GG.bi_repr_bl, GG.bi_all_map, GG.sl1, GG.sl2, GG.take_set, GG.lstOf, GG.eq_int, GG.eq_str, GG.in_tup, GG.in_one, GG.me_upper, GG.mr_join, GG.mr_upper, GG.as_int, GG.iv_tup, GG.iv_rol, GG.iv_str, GG.ien_tup, GG.iz_tup, GG.chk, Nat.add_assoc, $ls,*])
  | `(tactic| simp! [$ls,*] at $h:ident) => `(tactic| simp [-GG.Out.bind_ok, -GG.Out.bind_exc, -GG.Out.bind_bad, GG.bind_ok, GG.bind_bad, GG.bind_ite, GG.on_ok, GG.on_bad, GG.seq_nx, GG.seq_rt, GG.seq_bk, GG.seq_ct, GG.seq_bad, GG.ee_v, GG.ee_c, GG.ee_g, GG.ee_bop, GG.ee_neg, GG.ee_not, GG.ee_cmp, GG.ee_chain, GG.ee_and, GG.ee_or, GG.ee_ife, GG.ee_tup, GG.ee_lst, GG.ee_dct, GG.ee_ix, GG.ee_sl, GG.ee_rev, GG.ee_call, GG.ee_bi, GG.ee_isi, GG.ee_me, GG.es_nil, GG.es_cons, GG.ea_nil, GG.ea_cons, GG.eo_nil, GG.eo_cons, GG.eO_nil, GG.eO_cons, GG.et_nil, GG.et_cons, GG.ei_rng, GG.ei_enum, GG.ei_zip, GG.ei_itv, GG.st_nil, GG.st_cons, GG.sm_ret, GG.sm_retN, GG.sm_set, GG.sm_par, GG.sm_put, GG.sm_ife, GG.sm_for, GG.sm_ex, GG.sm_pass, GG.sm_brk, GG.sm_cont, GG.wp_ok, GG.wp_bad, GG.wp_bind, GG.wps_ok, GG.wps_bad, GG.wp_on, GG.wp_seq, GG.tg_n, GG.tg_t, GG.tgs_nil, GG.tgs_cons, GG.wipeE, GG.tr_non, GG.tr_bl, GG.tr_int, GG.tr_tup, GG.isi_non, GG.isi_bl, GG.isi_int, GG.isi_str, GG.isi_tup, GG.isi_rol, GG.Ty.name, GG.trunc_bl, GG.trunc_int, GG.trunc_str, GG.trunc_non, GG.D.lt, GG.cmpF, GG.binF, GG.add_int, GG.add_str, GG.add_tup, GG.sub_int, GG.mul_int, GG.mul_tup, GG.div_int, GG.mod_int, GG.pow_int', GG.oi_int, GG.is_non, GG.is_bl, GG.bi_len_str, GG.bi_len_tup, GG.bi_len_rol, GG.bi_abs, GG.bi_int, GG.bi_int_bl, GG.bi_max, GG.bi_min, GG.bi_str, GG.bi_str_str, GG.bi_repr_bl, GG.bi_all_map, GG.sl1, GG.sl2, GG.take_set, GG.lstOf, GG.eq_int, GG.eq_str, GG.in_tup, GG.in_one, GG.me_upper, GG.mr_join, GG.mr_upper, GG.as_int, GG.iv_tup, GG.iv_rol, GG.iv_str, GG.ien_tup, GG.iz_tup, GG.chk, Nat.add_assoc, $ls,*] at $h:ident)
namespace GG
open PySem PySem.Spec PyProof.Rows L2
/-! ## what a thing reads as -/
inductive All2 {α β : Type} (R : α → β → Prop) : List α → List β → Prop
  | nil : All2 R [] []
  | cons {a b as bs} : R a b → All2 R as bs → All2 R (a :: as) (b :: bs)
theorem All2.length {α β : Type} {R : α → β → Prop} {as : List α} {bs : List β} (h : All2 R as bs) : as.length = bs.length := by
  induction h with
  | nil => rfl
  | cons _ _ ih => simp [ih]
theorem All2.imp {α β : Type} {R R' : α → β → Prop} {as : List α} {bs : List β} (h : All2 R as bs) (i : ∀ a b, R a b → R' a b) : All2 R' as bs := by
  induction h with
  | nil => exact .nil
  | cons r _ ih => exact .cons (i _ _ r) ih
theorem All2.append {α β : Type} {R : α → β → Prop} {as as' : List α} {bs bs' : List β} (h : All2 R as bs) (h' : All2 R as' bs') : All2 R (as ++ as') (bs ++ bs') := by
  induction h with
  | nil => exact h'
  | cons r _ ih => exact .cons r ih
theorem All2.get {α β : Type} {R : α → β → Prop} {as : List α} {bs : List β} (h : All2 R as bs) : ∀ {i : Nat} {a : α}, as[i]? = some a → ∃ b, bs[i]? = some b ∧ R a b := by
  induction h with
  | nil => intro i a e; simp at e
  | cons r _ ih =>
    intro i a e
    cases i with
    | zero => simp at e; subst e; exact ⟨_, rfl, r⟩
    | succ i => simp at e; simpa using ih e
theorem All2.get' {α β : Type} {R : α → β → Prop} {as : List α} {bs : List β} (h : All2 R as bs) : ∀ {i : Nat} {b : β}, bs[i]? = some b → ∃ a, as[i]? = some a ∧ R a b := by
  induction h with
  | nil => intro i a e; simp at e
  | cons r _ ih =>
    intro i a e
    cases i with
    | zero => simp at e; subst e; exact ⟨_, rfl, r⟩
    | succ i => simp at e; simpa using ih e
theorem All2.take {α β : Type} {R : α → β → Prop} {as : List α} {bs : List β} (h : All2 R as bs) : ∀ n, All2 R (as.take n) (bs.take n) := by
  induction h with
  | nil => intro n; simp; exact .nil
  | cons r _ ih =>
    intro n
    cases n with
    | zero => exact .nil
    | succ n => simpa using .cons r (ih n)
theorem All2.drop {α β : Type} {R : α → β → Prop} {as : List α} {bs : List β} (h : All2 R as bs) : ∀ n, All2 R (as.drop n) (bs.drop n) := by
  induction h with
  | nil => intro n; simp; exact .nil
  | cons r h ih =>
    intro n
    cases n with
    | zero => exact .cons r h
    | succ n => simpa using ih n
theorem All2.reverse {α β : Type} {R : α → β → Prop} {as : List α} {bs : List β} (h : All2 R as bs) : All2 R as.reverse bs.reverse := by
  induction h with
  | nil => exact .nil
  | cons r _ ih => rw [List.reverse_cons, List.reverse_cons]; exact ih.append (.cons r .nil)
theorem All2.mapL {α β γ : Type} {R : α → β → Prop} {f : γ → α} {g : γ → β} : ∀ xs : List γ, (∀ x ∈ xs, R (f x) (g x)) → All2 R (xs.map f) (xs.map g)
  | [], _ => .nil
  | x :: r, h => .cons (h x List.mem_cons_self) (All2.mapL r fun y m => h y (List.mem_cons_of_mem _ m))
theorem omap_iff {α β : Type} {f : α → Option β} : ∀ {as : List α} {bs : List β}, omap f as = some bs ↔ All2 (fun a b => f a = some b) as bs
  | [], bs => by
    simp only [omap]
    constructor
    · intro h; cases h; exact .nil
    · intro h; cases h; rfl
  | a :: r, bs => by
    simp only [omap]
    constructor
    · intro h
      split at h
      · rename_i y ys e1 e2
        cases h
        exact .cons e1 (omap_iff.mp e2)
      · cases h
    · intro h
      cases h with
      | cons r1 r2 => rw [r1, omap_iff.mpr r2]
theorem omap_imp {α β : Type} {f g : α → Option β} {as : List α} {bs : List β} (h : omap f as = some bs) (i : ∀ a b, a ∈ as → f a = some b → g a = some b) : omap g as = some bs := by
  induction as generalizing bs with
  | nil => exact h
  | cons a r ih =>
    simp only [omap] at h ⊢
    split at h
    · rename_i y ys e1 e2
      cases h
      rw [i a y List.mem_cons_self e1, ih e2 fun a b m => i a b (List.mem_cons_of_mem _ m)]
    · cases h
theorem pyF_succ : ∀ (n : Nat) {S : Sto} {d : D} {p : PyData}, pyF n S d = some p → pyF (n + 1) S d = some p
  | 0, S, d, p, h => by cases h
  | n + 1, S, d, p, h => by
    cases d with
    | tup ds =>
      simp only [pyF, Option.map_eq_some_iff] at h ⊢
      obtain ⟨ps, e, rfl⟩ := h
      exact ⟨ps, omap_imp e fun a b _ e => pyF_succ n e, rfl⟩
    | rol ds =>
      simp only [pyF, Option.map_eq_some_iff] at h ⊢
      obtain ⟨ps, e, rfl⟩ := h
      exact ⟨ps, omap_imp e fun a b _ e => pyF_succ n e, rfl⟩
    | loc l =>
      rw [pyF] at h ⊢
      cases e : S[l]? with
      | none => rw [e] at h; cases h
      | some o =>
        rw [e] at h
        cases o with
        | lst ds =>
          simp only [Option.map_eq_some_iff] at h ⊢
          obtain ⟨ps, e, rfl⟩ := h
          exact ⟨ps, omap_imp e fun a b _ e => pyF_succ n e, rfl⟩
        | dK kvs =>
          simp only [Option.map_eq_some_iff] at h ⊢
          obtain ⟨ps, e, rfl⟩ := h
          refine ⟨ps, omap_imp e fun a b _ e => ?_, rfl⟩
          simp only [Option.map_eq_some_iff] at e ⊢
          obtain ⟨q, e, rfl⟩ := e
          exact ⟨q, pyF_succ n e, rfl⟩
    | _ => exact h
theorem pyF_le {n m : Nat} {S : Sto} {d : D} {p : PyData} (h : pyF n S d = some p) (hm : n ≤ m) : pyF m S d = some p := by
  obtain ⟨k, rfl⟩ := Nat.le.dest hm
  clear hm
  induction k with
  | zero => exact h
  | succ k ih => exact pyF_succ _ ih
/-- d reads as p in S -/
def Py (S : Sto) (d : D) (p : PyData) : Prop := ∃ n, pyF n S d = some p
theorem All2.fuel {S : Sto} {ds : List D} {ps : List PyData} (h : All2 (Py S) ds ps) : ∃ n, omap (pyF n S) ds = some ps := by
  induction h with
  | nil => exact ⟨0, rfl⟩
  | cons r _ ih =>
    obtain ⟨n, e⟩ := r
    obtain ⟨m, e'⟩ := ih
    refine ⟨max n m, ?_⟩
    simp only [omap]
    rw [pyF_le e (Nat.le_max_left _ _), omap_imp e' fun a b _ e => pyF_le e (Nat.le_max_right _ _)]
theorem Py.non {S : Sto} : Py S .non .none := ⟨1, rfl⟩
theorem Py.bl {S : Sto} {b : Bool} : Py S (.bl b) (.bool b) := ⟨1, rfl⟩
theorem Py.int {S : Sto} {i : Int} : Py S (.int i) (.int i) := ⟨1, rfl⟩
theorem Py.str {S : Sto} {x : Str} : Py S (.str x) (.str x) := ⟨1, rfl⟩
theorem Py.tup {S : Sto} {ds : List D} {ps : List PyData} (h : All2 (Py S) ds ps) : Py S (.tup ds) (.tuple ps) := by
  obtain ⟨n, e⟩ := h.fuel
  exact ⟨n + 1, by simp only [pyF, e, Option.map_some]⟩
theorem Py.lst {S : Sto} {l : Nat} {ds : List D} {ps : List PyData} (hl : S[l]? = some (.lst ds)) (h : All2 (Py S) ds ps) : Py S (.loc l) (.list ps) := by
  obtain ⟨n, e⟩ := h.fuel
  exact ⟨n + 1, by simp only [pyF, hl, e, Option.map_some]⟩
theorem Py.tupI {S : Sto} {ds : List D} {p : PyData} (h : Py S (.tup ds) p) : ∃ ps, p = .tuple ps ∧ All2 (Py S) ds ps := by
  obtain ⟨n, e⟩ := h
  cases n with
  | zero => cases e
  | succ n =>
    simp only [pyF, Option.map_eq_some_iff] at e
    obtain ⟨ps, e, rfl⟩ := e
    exact ⟨ps, rfl, (omap_iff.mp e).imp fun a b h => ⟨n, h⟩⟩
theorem Py.locI {S : Sto} {l : Nat} {p : PyData} (h : Py S (.loc l) p) : (∃ ds ps, S[l]? = some (.lst ds) ∧ p = .list ps ∧ All2 (Py S) ds ps) ∨ ∃ kvs ps, S[l]? = some (.dK kvs) ∧ p = .dict ps := by
  obtain ⟨n, e⟩ := h
  cases n with
  | zero => cases e
  | succ n =>
    rw [pyF] at e
    cases q : S[l]? with
    | none => rw [q] at e; cases e
    | some o =>
      rw [q] at e
      cases o with
      | lst ds =>
        simp only [Option.map_eq_some_iff] at e
        obtain ⟨ps, e, rfl⟩ := e
        exact .inl ⟨ds, ps, rfl, rfl, (omap_iff.mp e).imp fun a b h => ⟨n, h⟩⟩
      | dK kvs =>
        simp only [Option.map_eq_some_iff] at e
        obtain ⟨ps, e, rfl⟩ := e
        exact .inr ⟨kvs, ps, rfl, rfl⟩
theorem Py.nonI {S : Sto} {p : PyData} (h : Py S .non p) : p = .none := by
  obtain ⟨n, e⟩ := h; cases n <;> cases e; rfl
theorem Py.blI {S : Sto} {b : Bool} {p : PyData} (h : Py S (.bl b) p) : p = .bool b := by
  obtain ⟨n, e⟩ := h; cases n <;> cases e; rfl
theorem Py.intI {S : Sto} {b : Int} {p : PyData} (h : Py S (.int b) p) : p = .int b := by
  obtain ⟨n, e⟩ := h; cases n <;> cases e; rfl
theorem Py.strI {S : Sto} {b : Str} {p : PyData} (h : Py S (.str b) p) : p = .str b := by
  obtain ⟨n, e⟩ := h; cases n <;> cases e; rfl
theorem Py.rolI {S : Sto} {ds : List D} {p : PyData} (h : Py S (.rol ds) p) : ∃ ps, p = .list ps := by
  obtain ⟨n, e⟩ := h
  cases n with
  | zero => cases e
  | succ n =>
    simp only [pyF, Option.map_eq_some_iff] at e
    obtain ⟨ps, e, rfl⟩ := e
    exact ⟨ps, rfl⟩
theorem depthAll_mem : ∀ {ps : List PyData} {p : PyData}, p ∈ ps → p.depth ≤ PyData.depthAll ps
  | q :: r, p, h => by
    simp only [PyData.depthAll]
    rcases List.mem_cons.mp h with rfl | h
    · exact Nat.le_max_left _ _
    · exact Nat.le_trans (depthAll_mem h) (Nat.le_max_right _ _)
theorem depthKv_mem : ∀ {ps : List (PyData × PyData)} {k p : PyData}, (k, p) ∈ ps → p.depth ≤ PyData.depthKv ps
  | (a, q) :: r, k, p, h => by
    simp only [PyData.depthKv]
    rcases List.mem_cons.mp h with h | h
    · cases h; exact Nat.le_trans (Nat.le_max_right _ _) (Nat.le_max_left _ _)
    · exact Nat.le_trans (depthKv_mem h) (Nat.le_max_right _ _)
theorem All2.mem {α β : Type} {R : α → β → Prop} {as : List α} {bs : List β} (h : All2 R as bs) : All2 (fun a b => R a b ∧ b ∈ bs) as bs := by
  induction h with
  | nil => exact .nil
  | cons r _ ih => exact .cons ⟨r, List.mem_cons_self⟩ (ih.imp fun a b h => ⟨h.1, List.mem_cons_of_mem _ h.2⟩)
theorem pyF_deep : ∀ (n : Nat) {S : Sto} {d : D} {p : PyData} {k : Nat}, pyF n S d = some p → p.depth ≤ k → pyF (k + 1) S d = some p
  | 0, S, d, p, k, h, hk => by cases h
  | n + 1, S, d, p, k, h, hk => by
    cases d with
    | tup ds =>
      simp only [pyF, Option.map_eq_some_iff] at h ⊢
      obtain ⟨ps, e, rfl⟩ := h
      simp only [PyData.depth] at hk
      obtain ⟨m, rfl⟩ : ∃ m, k = m + 1 := ⟨k - 1, by omega⟩
      exact ⟨ps, omap_iff.mpr ((omap_iff.mp e).mem.imp fun a b h => pyF_deep n h.1 (by have := depthAll_mem h.2; omega)), rfl⟩
    | rol ds =>
      simp only [pyF, Option.map_eq_some_iff] at h ⊢
      obtain ⟨ps, e, rfl⟩ := h
      simp only [PyData.depth] at hk
      obtain ⟨m, rfl⟩ : ∃ m, k = m + 1 := ⟨k - 1, by omega⟩
      exact ⟨ps, omap_iff.mpr ((omap_iff.mp e).mem.imp fun a b h => pyF_deep n h.1 (by have := depthAll_mem h.2; omega)), rfl⟩
    | loc l =>
      rw [pyF] at h ⊢
      cases e : S[l]? with
      | none => rw [e] at h; cases h
      | some o =>
        rw [e] at h
        cases o with
        | lst ds =>
          simp only [Option.map_eq_some_iff] at h ⊢
          obtain ⟨ps, e, rfl⟩ := h
          simp only [PyData.depth] at hk
          obtain ⟨m, rfl⟩ : ∃ m, k = m + 1 := ⟨k - 1, by omega⟩
          exact ⟨ps, omap_iff.mpr ((omap_iff.mp e).mem.imp fun a b h => pyF_deep n h.1 (by have := depthAll_mem h.2; omega)), rfl⟩
        | dK kvs =>
          simp only [Option.map_eq_some_iff] at h ⊢
          obtain ⟨ps, e, rfl⟩ := h
          simp only [PyData.depth] at hk
          obtain ⟨m, rfl⟩ : ∃ m, k = m + 1 := ⟨k - 1, by omega⟩
          refine ⟨ps, omap_iff.mpr ((omap_iff.mp e).mem.imp fun a b h => ?_), rfl⟩
          obtain ⟨h1, h2⟩ := h
          simp only [Option.map_eq_some_iff] at h1 ⊢
          obtain ⟨q, e, rfl⟩ := h1
          exact ⟨q, pyF_deep n e (by have := depthKv_mem h2; omega), rfl⟩
    | _ => exact h
theorem Py.py {S : Sto} {d : D} {p : PyData} (h : Py S d p) (hd : p.depth ≤ 19) : GG.py S d = some p := by
  obtain ⟨n, e⟩ := h
  exact pyF_deep n e hd
/-! ### the stream's place, and what else may have changed -/
structure Ext (l : Nat) (S S' : Sto) : Prop where
  le : S.length ≤ S'.length
  at_ : ∀ i, i < S.length → i ≠ l → S'[i]? = S[i]?
theorem Ext.refl (l : Nat) (S : Sto) : Ext l S S := ⟨Nat.le_refl _, fun _ _ _ => rfl⟩
theorem Ext.trans {l : Nat} {S S1 S2 : Sto} (h : Ext l S S1) (h' : Ext l S1 S2) : Ext l S S2 :=
  ⟨Nat.le_trans h.le h'.le, fun i a b => (h'.at_ i (Nat.lt_of_lt_of_le a h.le) b).trans (h.at_ i a b)⟩
theorem Ext.set (l : Nat) (S : Sto) (o : O) : Ext l S (S.set l o) := ⟨by simp, fun i a b => by rw [List.getElem?_set_ne (Ne.symm b)]⟩
theorem Ext.app (l : Nat) (S T : Sto) : Ext l S (S ++ T) := ⟨by simp, fun i a b => by rw [List.getElem?_append_left a]⟩
/-- the stream stands at l -/
def Sm3 (l : Nat) (S : Sto) : Prop := ∃ a b c : Int, S[l]? = some (.lst [.int a, .int b, .int c])
theorem Sm3.lt {l : Nat} {S : Sto} (h : Sm3 l S) : l < S.length := by
  obtain ⟨a, b, c, e⟩ := h
  exact (List.getElem?_eq_some_iff.mp e).1
theorem Sm3.app {l : Nat} {S : Sto} (h : Sm3 l S) (T : Sto) : Sm3 l (S ++ T) := by
  obtain ⟨a, b, c, e⟩ := id h
  exact ⟨a, b, c, by rw [List.getElem?_append_left h.lt]; exact e⟩
/-! ### reading below a line, the stream left out -/
def rdF : Nat → Nat → Sto → Nat → D → Option PyData
  | 0, _, _, _, _ => none
  | k + 1, l, S, n, d => match d with
    | .non => some .none
    | .bl b => some (.bool b)
    | .int i => some (.int i)
    | .str x => some (.str x)
    | .tup ds => (omap (rdF k l S n) ds).map .tuple
    | .rol _ => none
    | .loc m => if m < n ∧ m ≠ l then (match S[m]? with
      | some (.lst ds) => (omap (rdF k l S m) ds).map .list
      | some (.dK kvs) => (omap (fun kv => (rdF k l S m kv.2).map fun p => (kPy kv.1, p)) kvs).map .dict
      | none => none) else none
theorem rdF_loc {k l n m : Nat} {S : Sto} {p : PyData} : rdF (k + 1) l S n (.loc m) = some p ↔ m < n ∧ m ≠ l ∧ ((∃ ds ps, S[m]? = some (.lst ds) ∧ p = .list ps ∧ omap (rdF k l S m) ds = some ps) ∨
    ∃ kvs ps, S[m]? = some (.dK kvs) ∧ p = .dict ps ∧ omap (fun kv => (rdF k l S m kv.2).map fun p => (kPy kv.1, p)) kvs = some ps) := by
  simp only [rdF]
  constructor
  · intro h
    split at h
    · rename_i c
      refine ⟨c.1, c.2, ?_⟩
      split at h
      · rename_i ds e
        simp only [Option.map_eq_some_iff] at h
        obtain ⟨ps, e1, rfl⟩ := h
        exact .inl ⟨ds, ps, e, rfl, e1⟩
      · rename_i ds e
        simp only [Option.map_eq_some_iff] at h
        obtain ⟨ps, e1, rfl⟩ := h
        exact .inr ⟨ds, ps, e, rfl, e1⟩
      · cases h
    · cases h
  · rintro ⟨a, b, ⟨ds, ps, e, rfl, e1⟩ | ⟨ds, ps, e, rfl, e1⟩⟩
    · rw [if_pos ⟨a, b⟩, e]; simp [e1]
    · rw [if_pos ⟨a, b⟩, e]; simp [e1]
theorem rdF_tup {k l n : Nat} {S : Sto} {ds : List D} {p : PyData} : rdF (k + 1) l S n (.tup ds) = some p ↔ ∃ ps, p = .tuple ps ∧ omap (rdF k l S n) ds = some ps := by
  simp only [rdF, Option.map_eq_some_iff]
  constructor
  · rintro ⟨ps, e, rfl⟩; exact ⟨ps, rfl, e⟩
  · rintro ⟨ps, rfl, e⟩; exact ⟨ps, e, rfl⟩
/-- the reading moves along: more fuel, a store that agrees, a higher line -/
theorem rdF_mono : ∀ (k : Nat) {k' l n n' : Nat} {S S' : Sto} {d : D} {p : PyData}, rdF k l S n d = some p → k ≤ k' → n ≤ n' → (∀ i, i < n → i ≠ l → S'[i]? = S[i]?) → rdF k' l S' n' d = some p
  | 0, k', l, n, n', S, S', d, p, h, hk, hn, ha => by cases h
  | k + 1, k', l, n, n', S, S', d, p, h, hk, hn, ha => by
    obtain ⟨k', rfl⟩ : ∃ j, k' = j + 1 := ⟨k' - 1, by omega⟩
    cases d with
    | tup ds =>
      obtain ⟨ps, rfl, e⟩ := rdF_tup.mp h
      exact rdF_tup.mpr ⟨ps, rfl, omap_imp e fun a b _ q => rdF_mono k q (by omega) hn ha⟩
    | loc m =>
      obtain ⟨a, b, q⟩ := rdF_loc.mp h
      refine rdF_loc.mpr ⟨by omega, b, ?_⟩
      have ha' : ∀ i, i < m → i ≠ l → S'[i]? = S[i]? := fun i hi => ha i (by omega)
      rcases q with ⟨ds, ps, e, rfl, e1⟩ | ⟨ds, ps, e, rfl, e1⟩
      · exact .inl ⟨ds, ps, (ha m a b).trans e, rfl, omap_imp e1 fun x y _ q => rdF_mono k q (by omega) (Nat.le_refl _) ha'⟩
      · refine .inr ⟨ds, ps, (ha m a b).trans e, rfl, omap_imp e1 fun x y _ q => ?_⟩
        simp only [Option.map_eq_some_iff] at q ⊢
        obtain ⟨z, q, rfl⟩ := q
        exact ⟨z, rdF_mono k q (by omega) (Nat.le_refl _) ha', rfl⟩
    | rol ds => simp [rdF] at h
    | _ => exact h
theorem rdF_py : ∀ (k : Nat) {l n : Nat} {S : Sto} {d : D} {p : PyData}, rdF k l S n d = some p → pyF k S d = some p
  | 0, l, n, S, d, p, h => by cases h
  | k + 1, l, n, S, d, p, h => by
    cases d with
    | tup ds =>
      obtain ⟨ps, rfl, e⟩ := rdF_tup.mp h
      simp only [pyF, Option.map_eq_some_iff]
      exact ⟨ps, omap_imp e fun a b _ q => rdF_py k q, rfl⟩
    | loc m =>
      obtain ⟨a, b, q⟩ := rdF_loc.mp h
      rw [pyF]
      rcases q with ⟨ds, ps, e, rfl, e1⟩ | ⟨ds, ps, e, rfl, e1⟩
      · rw [e]
        simp only [Option.map_eq_some_iff]
        exact ⟨ps, omap_imp e1 fun x y _ q => rdF_py k q, rfl⟩
      · rw [e]
        simp only [Option.map_eq_some_iff]
        refine ⟨ps, omap_imp e1 fun x y _ q => ?_, rfl⟩
        simp only [Option.map_eq_some_iff] at q ⊢
        obtain ⟨z, q, rfl⟩ := q
        exact ⟨z, rdF_py k q, rfl⟩
    | rol ds => simp [rdF] at h
    | _ => exact h
theorem lts_mem : ∀ {ds : List D} {n : Nat} {d : D}, D.lts n ds = true → d ∈ ds → D.lt n d = true
  | x :: r, n, d, h, m => by
    simp only [D.lts, Bool.and_eq_true] at h
    rcases List.mem_cons.mp m with rfl | m
    · exact h.1
    · exact lts_mem h.2 m
theorem ltKV_mem : ∀ {kvs : List (Key × D)} {n : Nat} {x : Key × D}, ltKV n kvs = true → x ∈ kvs → D.lt n x.2 = true
  | (k, y) :: r, n, x, h, m => by
    simp only [ltKV, Bool.and_eq_true] at h
    rcases List.mem_cons.mp m with rfl | m
    · exact h.1
    · exact ltKV_mem h.2 m
theorem rdF_low : ∀ (k : Nat) {l n n' : Nat} {S : Sto} {d : D} {p : PyData}, rdF k l S n' d = some p → D.lt n d = true → rdF k l S n d = some p
  | 0, l, n, n', S, d, p, h, hd => by cases h
  | k + 1, l, n, n', S, d, p, h, hd => by
    cases d with
    | tup ds =>
      obtain ⟨ps, rfl, e⟩ := rdF_tup.mp h
      simp only [D.lt] at hd
      exact rdF_tup.mpr ⟨ps, rfl, omap_imp e fun a b m q => rdF_low k q (lts_mem hd m)⟩
    | loc m =>
      obtain ⟨a, b, q⟩ := rdF_loc.mp h
      simp only [D.lt, decide_eq_true_eq] at hd
      exact rdF_loc.mpr ⟨hd, b, q⟩
    | rol ds => simp [rdF] at h
    | _ => exact h
/-- d reads as p, whatever the stream does -/
def Th (l : Nat) (S : Sto) (d : D) (p : PyData) : Prop := ∃ k, rdF k l S S.length d = some p
theorem Th.mono {l : Nat} {S S' : Sto} {d : D} {p : PyData} (h : Th l S d p) (e : Ext l S S') : Th l S' d p := by
  obtain ⟨k, h⟩ := h
  exact ⟨k, rdF_mono k h (Nat.le_refl _) e.le e.at_⟩
theorem Th.here {l : Nat} {S : Sto} {d : D} {p : PyData} (h : Th l S d p) : Py S d p := let ⟨k, h⟩ := h; ⟨k, rdF_py k h⟩
theorem Th.non {l : Nat} {S : Sto} : Th l S .non .none := ⟨1, rfl⟩
theorem Th.bl {l : Nat} {S : Sto} {b : Bool} : Th l S (.bl b) (.bool b) := ⟨1, rfl⟩
theorem Th.int {l : Nat} {S : Sto} {i : Int} : Th l S (.int i) (.int i) := ⟨1, rfl⟩
theorem Th.str {l : Nat} {S : Sto} {x : Str} : Th l S (.str x) (.str x) := ⟨1, rfl⟩
theorem Th.fuel {l : Nat} {S : Sto} {ds : List D} {ps : List PyData} (h : All2 (Th l S) ds ps) : ∃ k, omap (rdF k l S S.length) ds = some ps := by
  induction h with
  | nil => exact ⟨0, rfl⟩
  | cons r _ ih =>
    obtain ⟨n, e⟩ := r
    obtain ⟨m, e'⟩ := ih
    refine ⟨max n m, ?_⟩
    simp only [omap]
    rw [rdF_mono n e (Nat.le_max_left _ _) (Nat.le_refl _) fun _ _ _ => rfl, omap_imp e' fun a b _ e => rdF_mono m e (Nat.le_max_right _ _) (Nat.le_refl _) fun _ _ _ => rfl]
theorem Th.tup {l : Nat} {S : Sto} {ds : List D} {ps : List PyData} (h : All2 (Th l S) ds ps) : Th l S (.tup ds) (.tuple ps) := by
  obtain ⟨k, e⟩ := Th.fuel h
  exact ⟨k + 1, rdF_tup.mpr ⟨ps, rfl, e⟩⟩
theorem Th.tupI {l : Nat} {S : Sto} {ds : List D} {p : PyData} (h : Th l S (.tup ds) p) : ∃ ps, p = .tuple ps ∧ All2 (Th l S) ds ps := by
  obtain ⟨k, h⟩ := h
  cases k with
  | zero => cases h
  | succ k =>
    obtain ⟨ps, rfl, e⟩ := rdF_tup.mp h
    exact ⟨ps, rfl, (omap_iff.mp e).imp fun a b h => ⟨k, h⟩⟩
/-- a new list of things -/
theorem Th.new {l : Nat} {S : Sto} {ds : List D} {ps : List PyData} (hl : l < S.length) (h : All2 (Th l S) ds ps) : Th l (S ++ [.lst ds]) (.loc S.length) (.list ps) := by
  obtain ⟨k, e⟩ := Th.fuel h
  refine ⟨k + 1, rdF_loc.mpr ⟨by simp, by omega, .inl ⟨ds, ps, by simp, rfl, omap_imp e fun a b _ q => rdF_mono k q (Nat.le_refl _) (Nat.le_refl _) fun i hi _ => ?_⟩⟩⟩
  rw [List.getElem?_append_left hi]
/-- the stream stands; all else is as it was -/
structure Ok3 (l : Nat) (S S' : Sto) : Prop where
  ext : Ext l S S'
  sm : Sm3 l S'
theorem Ok3.trans {l : Nat} {S S1 S2 : Sto} (h : Ok3 l S S1) (h' : Ok3 l S1 S2) : Ok3 l S S2 := ⟨h.ext.trans h'.ext, h'.sm⟩
theorem Ok3.refl {l : Nat} {S : Sto} (h : Sm3 l S) : Ok3 l S S := ⟨.refl l S, h⟩
theorem Ok3.app {l : Nat} {S : Sto} (h : Sm3 l S) (T : Sto) : Ok3 l S (S ++ T) := ⟨.app l S T, h.app T⟩
theorem Ok3.take {l : Nat} {S S' : Sto} (h : Sm3 l S) (o : Ok3 l S S') : Ok3 l S (S'.take S.length) := by
  have := o.ext.le
  refine ⟨⟨by rw [List.length_take]; omega, fun i a b => ?_⟩, ?_⟩
  · rw [List.getElem?_take_of_lt a]; exact o.ext.at_ i a b
  · obtain ⟨a, b, c, e⟩ := o.sm
    exact ⟨a, b, c, by rw [List.getElem?_take_of_lt h.lt]; exact e⟩
theorem take_len {l : Nat} {S S' : Sto} (o : Ok3 l S S') : (S'.take S.length).length = S.length := by
  have := o.ext.le
  rw [List.length_take]; omega
/-- a function gives back a thing -/
theorem trunc_th {l : Nat} {S S' : Sto} {d : D} {p : PyData} (h : Sm3 l S) (o : Ok3 l S S') (t : Th l S' d p) : ∃ d2 S2, trunc S.length d S' = .ok d2 S2 ∧ Ok3 l S S2 ∧ Th l S2 d2 p := by
  unfold trunc
  have agree : ∀ i, i < S.length → (S'.take S.length)[i]? = S'[i]? := fun i a => List.getElem?_take_of_lt a
  obtain ⟨k, t⟩ := id t
  by_cases c : D.lt S.length d = true
  · rw [if_pos c]
    refine ⟨d, _, rfl, o.take h, k, ?_⟩
    rw [take_len o]
    exact rdF_mono k (rdF_low k t c) (Nat.le_refl _) (Nat.le_refl _) fun i a _ => agree i a
  · rw [if_neg c]
    cases d with
    | loc m =>
      cases k with
      | zero => cases t
      | succ k =>
        obtain ⟨a, b, q⟩ := rdF_loc.mp t
        have key : ∀ ob, S'[m]? = some ob → (O.lt S.length ob = true → Th l (S'.take S.length ++ [ob]) (.loc S.length) p) → ∃ d2 S2, (match S'[m]? with
            | some o => if O.lt S.length o = true then Out.ok (D.loc S.length) (S'.take S.length ++ [o]) else .ok (.loc m) S'
            | none => .bad) = .ok d2 S2 ∧ Ok3 l S S2 ∧ Th l S2 d2 p := fun ob e f => by
          rw [e]
          dsimp only
          by_cases z : O.lt S.length ob = true
          · rw [if_pos z]
            exact ⟨_, _, rfl, (o.take h).trans (.app (o.take h).sm _), f z⟩
          · rw [if_neg z]
            exact ⟨_, _, rfl, o, k + 1, t⟩
        have hlt := h.lt
        have tl := take_len o
        rcases q with ⟨ds, ps, e, rfl, e1⟩ | ⟨ds, ps, e, rfl, e1⟩
        · refine key _ e fun z => ⟨k + 1, rdF_loc.mpr ⟨by rw [List.length_append, tl]; exact Nat.lt_succ_self _, by omega, .inl ⟨ds, ps, ?_, rfl, omap_imp e1 fun x y mm q => ?_⟩⟩⟩
          · rw [List.getElem?_append_right (by omega), tl]; simp
          · simp only [O.lt] at z
            refine rdF_mono k (rdF_low k q (lts_mem z mm)) (Nat.le_refl _) (Nat.le_refl _) fun i a _ => ?_
            rw [List.getElem?_append_left (by omega)]; exact agree i a
        · refine key _ e fun z => ⟨k + 1, rdF_loc.mpr ⟨by rw [List.length_append, tl]; exact Nat.lt_succ_self _, by omega, .inr ⟨ds, ps, ?_, rfl, omap_imp e1 fun x y mm q => ?_⟩⟩⟩
          · rw [List.getElem?_append_right (by omega), tl]; simp
          · simp only [Option.map_eq_some_iff] at q ⊢
            obtain ⟨w, q, rfl⟩ := q
            refine ⟨w, rdF_mono k (rdF_low k q ?_) (Nat.le_refl _) (Nat.le_refl _) fun i a _ => ?_, rfl⟩
            · exact ltKV_mem z mm
            · rw [List.getElem?_append_left (by omega)]; exact agree i a
    | _ => exact ⟨_, _, rfl, o, k, t⟩
end GG
namespace GG
open PySem PySem.Spec PyProof.Rows L2
theorem wp_evlc {cl : Nat → List D → Sto → Out D} {ε : Env} {S S1 : Sto} {e : Ex} {own : List Nat} {tg : Tg} {it : Ex} {ifs : List Ex} {ds : List D} {gs : List (Nat × O)} {Q : D → Sto → Prop} (J : Nat → List D → Sto → Prop) (hi : evI cl it ε S = .ok (ds, gs) S1) (h0 : J 0 [] S1)
    (hg : ∀ k a S, J k a S → chk gs S = true)
    (hs : ∀ k d a S, ds[k]? = some d → J k a S → ∃ ε', tgS tg d (wipeE ε own) = some ε' ∧ (evTs cl ifs ε' S).wp fun b S1 => if b = true then (evE cl e ε' S1).wp fun y S2 => J (k + 1) (a ++ [y]) S2 else J (k + 1) a S1)
    (hd : ∀ ys S, J ds.length ys S → ys.length ≤ sizeLine ∧ Q (.loc S.length) (S ++ [.lst ys])) : (evE cl (.lc e own tg it ifs) ε S).wp Q := by
  rw [ee_lc, hi, bind_ok, wp_bind]
  refine wp_lc J ds 0 [] S1 h0 hg (fun k d a S e j => ?_) fun a S ys j e => ?_
  · rw [Nat.zero_add] at j ⊢
    exact hs k d a S e j
  · rw [Nat.zero_add] at j
    have e' : a = ys := by simpa using e
    subst e'
    obtain ⟨h1, h2⟩ := hd a S j
    rw [if_pos h1, wp_ok]
    exact h2
end GG
theorem mem_lookup_of {x : PySem.Str} {e : GG.D} : ∀ {g : List (PySem.Str × GG.D)}, g.lookup x = some e → (x, e) ∈ g
  | [], h => by cases h
  | (y, d) :: g, h => by
    rw [List.lookup_cons] at h
    split at h
    · next hb => rw [show x = y from by simpa using hb]; cases h; exact List.mem_cons_self
    · exact List.mem_cons_of_mem _ (mem_lookup_of h)
namespace LW
open PySem PySem.Spec PyProof.Rows L2 GG
def b_is_integer : List Sm := [.ret (.and (.isi (.v 0) .int) [(.not (.isi (.v 0) .bool))])]
def d_is_integer : Fd := ⟨"is_integer", 1, ["value"], b_is_integer⟩
def b_is_between : List Sm := [.ret (.and (.call 0 [(.v 0)]) [(.cmp .GtE (.v 0) (.v 1)), (.or (.cmp .Is (.v 2) (.c .non)) [(.cmp .LtE (.v 0) (.v 2))])])]
def d_is_between : Fd := ⟨"is_between", 3, ["value", "low", "high"], b_is_between⟩
def b_is_name : List Sm := [.ife (.or (.not (.isi (.v 0) .str)) [(.not (.chain .LtE .LtE (.c (.int 1)) (.bi .len [(.v 0)]) (.g "MAX_LETTERS" (.int 8))))]) [.ret (.c (.bl false))] [],
  .ret (.bi .all [(.lc (.cmp .In (.v 1) (.g "LETTERS" (.str "abcdefghijklmnopqrstuvwxyz"))) [1] (.n 1) (.itv (.v 0)) [])])]
def d_is_name : Fd := ⟨"is_name", 1, ["value", "letter"], b_is_name⟩
def b_is_bit : List Sm := [.ret (.call 1 [(.v 0), (.c (.int 0)), (.c (.int 1))])]
def d_is_bit : Fd := ⟨"is_bit", 1, ["value"], b_is_bit⟩
def b_is_value : List Sm := [.ret (.call 1 [(.v 0), (.c (.int 0)), (.g "UNKNOWN" (.int 2))])]
def d_is_value : Fd := ⟨"is_value", 1, ["value"], b_is_value⟩
def b_is_row : List Sm := [.ret (.and (.isi (.v 0) .tuple) [(.bi .all [(.lc (.call 4 [(.v 1)]) [1] (.n 1) (.itv (.v 0)) [])])])]
def d_is_row : Fd := ⟨"is_row", 1, ["value", "one"], b_is_row⟩
def b_continues : List Sm := [.ife (.not (.call 5 [(.v 0)])) [.never] [],
  .ife (.or (.not (.call 5 [(.v 1)])) [(.cmp .NotEq (.bi .len [(.v 1)]) (.bi .len [(.v 0)]))]) [.ret (.c (.bl false))] [],
  .ret (.bi .all [(.lc (.cmp .In (.v 2) (.tup [(.g "UNKNOWN" (.int 2)), (.v 3)])) [2, 3] (.t [(.n 2), (.n 3)]) (.zip (.v 0) (.v 1)) [])])]
def d_continues : Fd := ⟨"continues", 2, ["row", "value", "one", "later"], b_continues⟩
def b__law_stream : List Sm := [.set (.n 2) (.ife (.cmp .Lt (.v 1) (.bi .len [(.v 0)])) (.ix (.v 0) (.v 1)) (.bop .Add (.bop .Mult (.c (.int 17)) (.v 1)) (.c (.int 8)))),
  .set (.n 3) (.bop .Mod (.bi .int [(.bi .abs [(.v 2)])]) (.bop .Pow (.bop .Pow (.c (.int 10)) (.c (.int 60))) (.c (.int 11)))),
  .set (.n 4) (.bop .Mod (.bi .int [(.v 3)]) (.c (.int 2147483549))),
  .set (.n 4) (.bop .Mod (.bi .int [(.bop .Add (.bop .Add (.bop .Add (.bop .Mult (.v 4) (.c (.int 39373))) (.bop .Mult (.c (.int 91813)) (.v 1))) (.bop .Mult (.c (.int 7)) (.bi .int [(.cmp .Lt (.v 2) (.c (.int 0)))]))) (.c (.int 31)))]) (.c (.int 2147483543))),
  .ret (.lst [(.bi .max [(.c (.int 0)), (.bop .Add (.bop .Sub (.v 3) (.bop .Pow (.c (.int 10)) (.c (.int 18)))) (.c (.int 1)))]), (.v 4), (.c (.int 0))])]
def d__law_stream : Fd := ⟨"_law_stream", 2, ["_law_script", "_law_at", "_law_cell", "_law_great", "_law_mixed"], b__law_stream⟩
def b__law_draw : List Sm := [.ife (.cmp .Gt (.ix (.v 0) (.c (.int 0))) (.c (.int 0))) [.set (.n 4) (.bop .Mod (.bi .int [(.ix (.v 0) (.c (.int 0)))]) (.v 1)), .put (.v 0) (.c (.int 0)) (.bop .FloorDiv (.ix (.v 0) (.c (.int 0))) (.v 1)), .ret (.v 4)] [],
  .put (.v 0) (.c (.int 2)) (.bop .Add (.ix (.v 0) (.c (.int 2))) (.c (.int 1))),
  .set (.n 2) (.bop .Mod (.bi .int [(.bop .Add (.ix (.v 0) (.c (.int 1))) (.bop .Mult (.c (.int 1000159)) (.ix (.v 0) (.c (.int 2)))))]) (.c (.int 2305843009213693951))),
  .set (.n 3) (.bop .Mod (.bi .int [(.bop .Mult (.v 2) (.v 2))]) (.c (.int 2305843009213693921))),
  .set (.n 3) (.bop .Mod (.bi .int [(.bop .Add (.bop .Mult (.v 3) (.v 2)) (.bop .Mult (.c (.int 6361)) (.ix (.v 0) (.c (.int 2)))))]) (.c (.int 2305843009213693907))),
  .ret (.bop .Mod (.bi .int [(.bop .FloorDiv (.v 3) (.c (.int 4096)))]) (.v 1))]
def d__law_draw : Fd := ⟨"_law_draw", 2, ["_law_stream_here", "_law_total", "_law_one", "_law_two", "_law_found"], b__law_draw⟩
def b__law_pick : List Sm := [.ret (.ix (.v 1) (.call 8 [(.v 0), (.bi .len [(.v 1)])]))]
def d__law_pick : Fd := ⟨"_law_pick", 2, ["_law_stream_here", "_law_items"], b__law_pick⟩
def b__law_is_bit : List Sm := [.ret (.and (.isi (.v 0) .int) [(.not (.isi (.v 0) .bool)), (.cmp .In (.v 0) (.tup [(.c (.int 0)), (.c (.int 1))]))])]
def d__law_is_bit : Fd := ⟨"_law_is_bit", 1, ["_law_thing"], b__law_is_bit⟩
def b__law_odd : List Sm := [.set (.n 1) (.lst [(.c .non), (.c (.bl true)), (.c (.bl false)), (.neg (.c (.int 1))), (.c (.int 0)), (.c (.int 1)), (.c (.int 2)), (.c (.int 3)), (.bop .Pow (.c (.int 10)) (.c (.int 39))), (.c (.str "")), (.c (.str "a")), (.c (.str "x")), (.c (.str "A")), (.tup []), (.lst []), (.dct [] []), (.tup [(.c (.int 0))]), (.tup [(.c (.str "a"))]), (.lst [(.c (.int 0))]), (.tup [(.tup [])]), (.c (.str "a b"))]),
  .set (.n 1) (.bop .Add (.v 1) (.lst [(.tup [(.tup []), (.tup [])]), (.tup [(.c (.str "x")), (.neg (.c (.int 1)))]), (.dct [.inr "a"] [(.c (.int 0))]), (.dct [.inr "x"] [(.c (.int 2))]), (.tup [(.tup [(.c (.str "a"))]), (.tup [])]), (.tup [(.c (.str "settles")), (.c (.int 1)), (.tup [])]), (.tup [(.c (.str "flips")), (.tup [(.tup []), (.tup [])])]), (.tup [(.c (.int 2))])])),
  .ret (.call 9 [(.v 0), (.v 1)])]
def d__law_odd : Fd := ⟨"_law_odd", 1, ["_law_stream_here", "_law_some"], b__law_odd⟩
def b__law_bent : List Sm := [.ife (.and (.isi (.v 1) .tuple) [(.cmp .Gt (.bi .len [(.v 1)]) (.c (.int 0))), (.cmp .Gt (.v 2) (.c (.int 0)))]) [.par 3 4 (.call 8 [(.v 0), (.bi .len [(.v 1)])]) (.call 8 [(.v 0), (.c (.int 7))]), .ife (.cmp .Eq (.v 4) (.c (.int 0))) [.ret (.bop .Add (.sl (.v 1) [] [(.v 3)]) (.sl (.v 1) [(.bop .Add (.v 3) (.c (.int 1)))] []))] [], .ife (.cmp .Eq (.v 4) (.c (.int 1))) [.ret (.bop .Add (.bop .Add (.sl (.v 1) [] [(.v 3)]) (.tup [(.ix (.v 1) (.v 3))])) (.sl (.v 1) [(.v 3)] []))] [], .ife (.cmp .Eq (.v 4) (.c (.int 2))) [.ret (.bop .Add (.sl (.v 1) [] [(.v 3)]) (.rev (.sl (.v 1) [(.v 3)] [])))] [], .ife (.cmp .Eq (.v 4) (.c (.int 3))) [.ret (.bi .list [(.v 1)])] [], .ret (.bop .Add (.bop .Add (.sl (.v 1) [] [(.v 3)]) (.tup [(.call 12 [(.v 0), (.ix (.v 1) (.v 3)), (.bop .Sub (.v 2) (.c (.int 1)))])])) (.sl (.v 1) [(.bop .Add (.v 3) (.c (.int 1)))] []))] [],
  .ife (.and (.isi (.v 1) .int) [(.not (.isi (.v 1) .bool))]) [.ret (.call 9 [(.v 0), (.lst [(.bop .Sub (.c (.int 1)) (.v 1)), (.bop .Add (.v 1) (.c (.int 1))), (.bop .Sub (.v 1) (.c (.int 1))), (.cmp .Eq (.v 1) (.c (.int 1))), (.bi .str [(.v 1)]), (.c .non), (.bop .Mult (.c (.int 2)) (.v 1))])])] [],
  .ife (.isi (.v 1) .str) [.ret (.call 9 [(.v 0), (.lst [(.bop .Add (.v 1) (.c (.str "x"))), (.sl (.v 1) [] [(.neg (.c (.int 1)))]), (.me .upper (.v 1) []), (.c (.str "zzz")), (.c (.str "zz top")), (.c .non), (.c (.int 0))])])] [],
  .ret (.call 11 [(.v 0)])]
def d__law_bent : Fd := ⟨"_law_bent", 3, ["_law_stream_here", "_law_thing", "_law_deep", "_law_at", "_law_way"], b__law_bent⟩
def b__law_text : List Sm := [.set (.n 1) (.c (.str "abcdefghijklmnopqrstuvwxyz")),
  .set (.n 2) (.me .join (.c (.str "")) [(.lc (.call 9 [(.v 0), (.v 1)]) [5] (.n 5) (.rng [(.call 8 [(.v 0), (.c (.int 11))])]) [])]),
  .par 3 4 (.call 8 [(.v 0), (.c (.int 5))]) (.call 8 [(.v 0), (.bop .Add (.bi .len [(.v 2)]) (.c (.int 1)))]),
  .ife (.cmp .Eq (.v 3) (.c (.int 0))) [.set (.n 2) (.bop .Add (.bop .Add (.sl (.v 2) [] [(.v 4)]) (.call 9 [(.v 0), (.lst [(.c (.str "A")), (.c (.str "Z")), (.c (.str " ")), (.c (.str "0")), (.c (.str "_")), (.c (.str "-")), (.c (.str "aB")), (.c (.str "\n")), (.c (.str "?"))])])) (.sl (.v 2) [(.v 4)] []))] [],
  .ret (.v 2)]
def d__law_text : Fd := ⟨"_law_text", 1, ["_law_stream_here", "_law_signs", "_law_found", "_law_way", "_law_at", "_law_turn"], b__law_text⟩
def b__law_any_row : List Sm := [.ret (.bi .tuple [(.lc (.ix (.lst [(.c (.int 0)), (.c (.int 1)), (.c (.int 2)), (.c (.int 2))]) (.call 8 [(.v 0), (.c (.int 4))])) [2] (.n 2) (.rng [(.v 1)]) [])])]
def d__law_any_row : Fd := ⟨"_law_any_row", 2, ["_law_stream_here", "_law_size", "_law_turn"], b__law_any_row⟩
def b__law_names_right : List Sm := [.par 3 4 (.call 13 [(.v 0)]) (.call 11 [(.v 0)]),
  .set (.n 1) (.c (.str "abcdefghijklmnopqrstuvwxyz")),
  .set (.n 2) (.and (.chain .Lt .Lt (.c (.int 0)) (.bi .len [(.v 3)]) (.c (.int 9))) [(.cmp .Eq (.lc (.c (.int 1)) [5] (.n 5) (.itv (.v 3)) [(.cmp .NotIn (.v 5) (.v 1))]) (.lst []))]),
  .ife (.cmp .NotEq (.bi .repr [(.call 2 [(.v 3)])]) (.bi .repr [(.v 2)])) [.ret (.c (.bl false))] [],
  .set (.n 2) (.and (.isi (.v 4) .str) [(.cmp .In (.v 4) (.tup [(.c (.str "a")), (.c (.str "x"))]))]),
  .ret (.and (.cmp .Eq (.bi .repr [(.call 2 [(.v 4)])]) (.bi .repr [(.v 2)])) [(.cmp .Eq (.bi .repr [(.call 3 [(.v 4)])]) (.bi .repr [(.call 10 [(.v 4)])]))])]
def d__law_names_right : Fd := ⟨"_law_names_right", 1, ["_law_stream_here", "_law_signs", "_law_due", "_law_text_here", "_law_odd_here", "_law_sign"], b__law_names_right⟩
def b__law_is_own_row : List Sm := [.ife (.not (.isi (.v 0) .tuple)) [.ret (.c (.bl false))] [],
  .for_ (.n 1) (.itv (.v 0)) [.ife (.or (.not (.isi (.v 1) .int)) [(.isi (.v 1) .bool), (.not (.chain .LtE .Lt (.c (.int 0)) (.v 1) (.c (.int 3))))]) [.ret (.c (.bl false))] []],
  .ret (.c (.bl true))]
def d__law_is_own_row : Fd := ⟨"_law_is_own_row", 1, ["_law_thing", "_law_one"], b__law_is_own_row⟩
def b__law_continued : List Sm := [.ife (.or (.not (.call 16 [(.v 1)])) [(.cmp .NotEq (.bi .len [(.v 1)]) (.bi .len [(.v 0)]))]) [.ret (.c (.bl false))] [],
  .ret (.cmp .Eq (.lc (.c (.int 1)) [2, 3] (.t [(.n 2), (.n 3)]) (.enum (.v 0)) [(.and (.cmp .Lt (.v 3) (.c (.int 2))) [(.cmp .NotEq (.ix (.v 1) (.v 2)) (.v 3))])]) (.lst []))]
def d__law_continued : Fd := ⟨"_law_continued", 2, ["_law_row", "_law_thing", "_law_at", "_law_one"], b__law_continued⟩
def b__law_rows_right : List Sm := [.set (.n 1) (.call 14 [(.v 0), (.call 8 [(.v 0), (.c (.int 9))])]),
  .set (.n 2) (.bi .tuple [(.lc (.ife (.cmp .Lt (.v 7) (.c (.int 2))) (.v 7) (.call 8 [(.v 0), (.c (.int 3))])) [7] (.n 7) (.itv (.v 1)) [])]),
  .set (.n 3) (.lst [(.v 1), (.v 2), (.bop .Add (.v 2) (.tup [(.c (.int 2))])), (.sl (.v 2) [(.c (.int 1))] []), (.call 14 [(.v 0), (.bi .len [(.v 1)])]), (.bi .list [(.v 1)]), (.call 11 [(.v 0)])]),
  .set (.n 3) (.bop .Add (.v 3) (.lst [(.call 12 [(.v 0), (.v 1), (.c (.int 2))]), (.call 12 [(.v 0), (.v 2), (.c (.int 2))]), (.call 14 [(.v 0), (.c (.int 3))]), (.tup [(.v 1)]), (.tup [])])),
  .for_ (.n 4) (.itv (.v 3)) [.par 5 6 (.bi .repr [(.tup [(.v 1), (.v 4)])]) (.lst [(.call 16 [(.v 4)]), (.call 17 [(.v 1), (.v 4)])]), .ife (.or (.cmp .NotEq (.bi .repr [(.lst [(.call 5 [(.v 4)]), (.call 6 [(.v 1), (.v 4)])])]) (.bi .repr [(.v 6)])) [(.cmp .NotEq (.bi .repr [(.tup [(.v 1), (.v 4)])]) (.v 5))]) [.ret (.c (.bl false))] []],
  .ret (.and (.cmp .Is (.call 6 [(.v 1), (.v 2)]) (.c (.bl true))) [(.cmp .Is (.call 6 [(.bop .Mult (.tup [(.c (.int 2))]) (.bi .len [(.v 1)])), (.v 1)]) (.c (.bl true)))])]
def d__law_rows_right : Fd := ⟨"_law_rows_right", 1, ["_law_stream_here", "_law_row", "_law_filled", "_law_some", "_law_thing", "_law_kept", "_law_due", "_law_one"], b__law_rows_right⟩
def b_law : List Sm := [.for_ (.n 1) (.rng [(.bi .max [(.c (.int 1)), (.bi .min [(.c (.int 8)), (.bi .len [(.v 0)])])])]) [.set (.n 5) (.call 7 [(.v 0), (.v 1)]), .for_ (.n 4) (.rng [(.c (.int 6))]) [.ife (.or (.not (.call 15 [(.v 5)])) [(.not (.call 18 [(.v 5)]))]) [.ret (.c (.bl false))] []]],
  .set (.n 2) (.lc (.call 2 [(.v 6)]) [6] (.n 6) (.itv (.tup [(.c (.str "a")), (.c (.str "zebrafin")), (.c (.str "abcdefghi")), (.c (.str "")), (.c (.str "aa a")), (.c (.str "or")), (.c (.str "None"))])) []),
  .ife (.or (.cmp .NotEq (.v 2) (.lst [(.c (.bl true)), (.c (.bl true)), (.c (.bl false)), (.c (.bl false)), (.c (.bl false)), (.c (.bl true)), (.c (.bl false))])) [(.cmp .NotEq (.g "UNKNOWN" (.int 2)) (.c (.int 2)))]) [.ret (.c (.bl false))] [],
  .set (.n 3) (.tup [(.c (.int 2))]),
  .for_ (.n 4) (.rng [(.c (.int 10))]) [.set (.n 3) (.tup [(.v 3)])],
  .ife (.or (.call 5 [(.v 3)]) [(.call 6 [(.tup [(.c (.int 2))]), (.v 3)]), (.call 2 [(.v 3)]), (.call 3 [(.v 3)])]) [.ret (.c (.bl false))] [],
  .set (.n 2) (.lst [(.call 5 [(.bop .Mult (.tup [(.c (.int 2))]) (.c (.int 300)))]), (.call 6 [(.bop .Mult (.tup [(.c (.int 2))]) (.c (.int 300))), (.bop .Mult (.tup [(.c (.int 1))]) (.c (.int 300)))]), (.call 6 [(.bop .Add (.bop .Mult (.tup [(.c (.int 2))]) (.c (.int 299))) (.tup [(.c (.int 0))])), (.bop .Mult (.tup [(.c (.int 1))]) (.c (.int 300)))])]),
  .ife (.or (.cmp .NotEq (.v 2) (.lst [(.c (.bl true)), (.c (.bl true)), (.c (.bl false))])) [(.call 6 [(.bop .Mult (.tup [(.c (.int 0))]) (.c (.int 300))), (.bop .Add (.bop .Mult (.tup [(.c (.int 0))]) (.c (.int 299))) (.tup [(.c (.int 2))]))])]) [.ret (.c (.bl false))] [],
  .set (.n 2) (.lc (.call 3 [(.v 7)]) [7] (.n 7) (.itv (.tup [(.c (.int 0)), (.c (.int 1)), (.c (.int 2)), (.neg (.c (.int 1))), (.c (.bl true)), (.c (.str "0")), (.c .non), (.tup [(.c (.int 0))])])) []),
  .ife (.or (.cmp .NotEq (.v 2) (.bop .Add (.lst [(.c (.bl true)), (.c (.bl true))]) (.bop .Mult (.lst [(.c (.bl false))]) (.c (.int 6))))) [(.cmp .IsNot (.call 5 [(.tup [])]) (.c (.bl true)))]) [.ret (.c (.bl false))] [],
  .set (.n 2) (.lc (.call 6 [(.tup [(.c (.int 2)), (.c (.int 0))]), (.v 8)]) [8] (.n 8) (.itv (.tup [(.tup [(.c (.int 1)), (.c (.int 0))]), (.tup [(.c (.int 2)), (.c (.int 0))]), (.tup [(.c (.int 0)), (.c (.int 2))]), (.tup [(.c (.int 2)), (.c (.int 2))]), (.tup [(.c (.int 1)), (.c (.int 0)), (.c (.int 2))]), (.tup [(.c (.bl true)), (.c (.int 0))])])) []),
  .ret (.and (.cmp .Eq (.v 2) (.lst [(.c (.bl true)), (.c (.bl true)), (.c (.bl false)), (.c (.bl false)), (.c (.bl false)), (.c (.bl false))])) [(.cmp .Is (.call 6 [(.tup []), (.tup [])]) (.c (.bl true)))])]
def d_law : Fd := ⟨"law", 1, ["_law_script", "_law_at", "_law_told", "_law_deep", "_law_turn", "_law_stream_here", "_law_text_here", "_law_one", "_law_row"], b_law⟩
def pg : List Fd := [d_is_integer, d_is_between, d_is_name, d_is_bit, d_is_value, d_is_row, d_continues, d__law_stream, d__law_draw, d__law_pick, d__law_is_bit, d__law_odd, d__law_bent, d__law_text, d__law_any_row, d__law_names_right, d__law_is_own_row, d__law_continued, d__law_rows_right, d_law]
def gt : List (Str × D) := [("UNKNOWN", (.int 2)), ("MAX_LETTERS", (.int 8)), ("LETTERS", (.str "abcdefghijklmnopqrstuvwxyz"))]
def topS (i : Nat) : Stmt := PySem.Challenge.pw_loopgates_k01_names_and_rows.main.body.getD i (.Pass ⟨0, 0, 0, 0⟩)
abbrev s_is_integer : Stmt := topS 7
theorem sc_is_integer : FnScope d_is_integer.N ["value"] (defScope s_is_integer) := ⟨rfl, rfl, rfl, by decide +kernel, rfl, by decide +kernel, by decide +kernel⟩
theorem mt_is_integer : mSs ⟨d_is_integer.N, fnsOf pg, gt⟩ d_is_integer.body (defScope s_is_integer) (defBody s_is_integer) = true := by decide +kernel
abbrev s_is_between : Stmt := topS 8
theorem sc_is_between : FnScope d_is_between.N ["value", "low", "high"] (defScope s_is_between) := ⟨rfl, rfl, rfl, by decide +kernel, rfl, by decide +kernel, by decide +kernel⟩
theorem mt_is_between : mSs ⟨d_is_between.N, fnsOf pg, gt⟩ d_is_between.body (defScope s_is_between) (defBody s_is_between) = true := by decide +kernel
abbrev s_is_name : Stmt := topS 9
theorem sc_is_name : FnScope d_is_name.N ["value"] (defScope s_is_name) := ⟨rfl, rfl, rfl, by decide +kernel, rfl, by decide +kernel, by decide +kernel⟩
theorem mt_is_name : mSs ⟨d_is_name.N, fnsOf pg, gt⟩ d_is_name.body (defScope s_is_name) (defBody s_is_name) = true := by decide +kernel
abbrev s_is_bit : Stmt := topS 10
theorem sc_is_bit : FnScope d_is_bit.N ["value"] (defScope s_is_bit) := ⟨rfl, rfl, rfl, by decide +kernel, rfl, by decide +kernel, by decide +kernel⟩
theorem mt_is_bit : mSs ⟨d_is_bit.N, fnsOf pg, gt⟩ d_is_bit.body (defScope s_is_bit) (defBody s_is_bit) = true := by decide +kernel
abbrev s_is_value : Stmt := topS 11
theorem sc_is_value : FnScope d_is_value.N ["value"] (defScope s_is_value) := ⟨rfl, rfl, rfl, by decide +kernel, rfl, by decide +kernel, by decide +kernel⟩
theorem mt_is_value : mSs ⟨d_is_value.N, fnsOf pg, gt⟩ d_is_value.body (defScope s_is_value) (defBody s_is_value) = true := by decide +kernel
abbrev s_is_row : Stmt := topS 12
theorem sc_is_row : FnScope d_is_row.N ["value"] (defScope s_is_row) := ⟨rfl, rfl, rfl, by decide +kernel, rfl, by decide +kernel, by decide +kernel⟩
theorem mt_is_row : mSs ⟨d_is_row.N, fnsOf pg, gt⟩ d_is_row.body (defScope s_is_row) (defBody s_is_row) = true := by decide +kernel
abbrev s_continues : Stmt := topS 13
theorem sc_continues : FnScope d_continues.N ["row", "value"] (defScope s_continues) := ⟨rfl, rfl, rfl, by decide +kernel, rfl, by decide +kernel, by decide +kernel⟩
theorem mt_continues : mSs ⟨d_continues.N, fnsOf pg, gt⟩ d_continues.body (defScope s_continues) (defBody s_continues) = true := by decide +kernel
abbrev s__law_stream : Stmt := topS 15
theorem sc__law_stream : FnScope d__law_stream.N ["_law_script", "_law_at"] (defScope s__law_stream) := ⟨rfl, rfl, rfl, by decide +kernel, rfl, by decide +kernel, by decide +kernel⟩
theorem mt__law_stream : mSs ⟨d__law_stream.N, fnsOf pg, gt⟩ d__law_stream.body (defScope s__law_stream) (defBody s__law_stream) = true := by decide +kernel
abbrev s__law_draw : Stmt := topS 16
theorem sc__law_draw : FnScope d__law_draw.N ["_law_stream_here", "_law_total"] (defScope s__law_draw) := ⟨rfl, rfl, rfl, by decide +kernel, rfl, by decide +kernel, by decide +kernel⟩
theorem mt__law_draw : mSs ⟨d__law_draw.N, fnsOf pg, gt⟩ d__law_draw.body (defScope s__law_draw) (defBody s__law_draw) = true := by decide +kernel
abbrev s__law_pick : Stmt := topS 17
theorem sc__law_pick : FnScope d__law_pick.N ["_law_stream_here", "_law_items"] (defScope s__law_pick) := ⟨rfl, rfl, rfl, by decide +kernel, rfl, by decide +kernel, by decide +kernel⟩
theorem mt__law_pick : mSs ⟨d__law_pick.N, fnsOf pg, gt⟩ d__law_pick.body (defScope s__law_pick) (defBody s__law_pick) = true := by decide +kernel
abbrev s__law_is_bit : Stmt := topS 18
theorem sc__law_is_bit : FnScope d__law_is_bit.N ["_law_thing"] (defScope s__law_is_bit) := ⟨rfl, rfl, rfl, by decide +kernel, rfl, by decide +kernel, by decide +kernel⟩
theorem mt__law_is_bit : mSs ⟨d__law_is_bit.N, fnsOf pg, gt⟩ d__law_is_bit.body (defScope s__law_is_bit) (defBody s__law_is_bit) = true := by decide +kernel
abbrev s__law_odd : Stmt := topS 19
theorem sc__law_odd : FnScope d__law_odd.N ["_law_stream_here"] (defScope s__law_odd) := ⟨rfl, rfl, rfl, by decide +kernel, rfl, by decide +kernel, by decide +kernel⟩
theorem mt__law_odd : mSs ⟨d__law_odd.N, fnsOf pg, gt⟩ d__law_odd.body (defScope s__law_odd) (defBody s__law_odd) = true := by decide +kernel
abbrev s__law_bent : Stmt := topS 20
theorem sc__law_bent : FnScope d__law_bent.N ["_law_stream_here", "_law_thing", "_law_deep"] (defScope s__law_bent) := ⟨rfl, rfl, rfl, by decide +kernel, rfl, by decide +kernel, by decide +kernel⟩
theorem mt__law_bent : mSs ⟨d__law_bent.N, fnsOf pg, gt⟩ d__law_bent.body (defScope s__law_bent) (defBody s__law_bent) = true := by decide +kernel
abbrev s__law_text : Stmt := topS 21
theorem sc__law_text : FnScope d__law_text.N ["_law_stream_here"] (defScope s__law_text) := ⟨rfl, rfl, rfl, by decide +kernel, rfl, by decide +kernel, by decide +kernel⟩
theorem mt__law_text : mSs ⟨d__law_text.N, fnsOf pg, gt⟩ d__law_text.body (defScope s__law_text) (defBody s__law_text) = true := by decide +kernel
abbrev s__law_any_row : Stmt := topS 22
theorem sc__law_any_row : FnScope d__law_any_row.N ["_law_stream_here", "_law_size"] (defScope s__law_any_row) := ⟨rfl, rfl, rfl, by decide +kernel, rfl, by decide +kernel, by decide +kernel⟩
theorem mt__law_any_row : mSs ⟨d__law_any_row.N, fnsOf pg, gt⟩ d__law_any_row.body (defScope s__law_any_row) (defBody s__law_any_row) = true := by decide +kernel
abbrev s__law_names_right : Stmt := topS 23
theorem sc__law_names_right : FnScope d__law_names_right.N ["_law_stream_here"] (defScope s__law_names_right) := ⟨rfl, rfl, rfl, by decide +kernel, rfl, by decide +kernel, by decide +kernel⟩
theorem mt__law_names_right : mSs ⟨d__law_names_right.N, fnsOf pg, gt⟩ d__law_names_right.body (defScope s__law_names_right) (defBody s__law_names_right) = true := by decide +kernel
abbrev s__law_is_own_row : Stmt := topS 24
theorem sc__law_is_own_row : FnScope d__law_is_own_row.N ["_law_thing"] (defScope s__law_is_own_row) := ⟨rfl, rfl, rfl, by decide +kernel, rfl, by decide +kernel, by decide +kernel⟩
theorem mt__law_is_own_row : mSs ⟨d__law_is_own_row.N, fnsOf pg, gt⟩ d__law_is_own_row.body (defScope s__law_is_own_row) (defBody s__law_is_own_row) = true := by decide +kernel
abbrev s__law_continued : Stmt := topS 25
theorem sc__law_continued : FnScope d__law_continued.N ["_law_row", "_law_thing"] (defScope s__law_continued) := ⟨rfl, rfl, rfl, by decide +kernel, rfl, by decide +kernel, by decide +kernel⟩
theorem mt__law_continued : mSs ⟨d__law_continued.N, fnsOf pg, gt⟩ d__law_continued.body (defScope s__law_continued) (defBody s__law_continued) = true := by decide +kernel
abbrev s__law_rows_right : Stmt := topS 26
theorem sc__law_rows_right : FnScope d__law_rows_right.N ["_law_stream_here"] (defScope s__law_rows_right) := ⟨rfl, rfl, rfl, by decide +kernel, rfl, by decide +kernel, by decide +kernel⟩
theorem mt__law_rows_right : mSs ⟨d__law_rows_right.N, fnsOf pg, gt⟩ d__law_rows_right.body (defScope s__law_rows_right) (defBody s__law_rows_right) = true := by decide +kernel
abbrev s_law : Stmt := topS 27
theorem sc_law : FnScope d_law.N ["_law_script"] (defScope s_law) := ⟨rfl, rfl, rfl, by decide +kernel, rfl, by decide +kernel, by decide +kernel⟩
theorem mt_law : mSs ⟨d_law.N, fnsOf pg, gt⟩ d_law.body (defScope s_law) (defBody s_law) = true := by decide +kernel
theorem ff_mk {K : PySem.W.Frag} {h : Heap} {mg : Str → Option Value} (X : K.In h) (G : h.Ns mainGlobals mg) (f : Fd) (st : Stmt) (ps : List Str) {f1 : Addr} {od an : Option Addr} {sl : Array (Option Value)} {oc kV dc pm cd ct : Value}
    (a : PySem.W.nsIn K mainGlobals f.name = some (some (.ref f1))) (l : K.lookup f1 = some ⟨oc, od, .func (PySem.W.fnOf f.name f.name (defArgs st) (defBody st) (defScope st) .none kV dc pm an cd ct), sl⟩)
    (c : PySem.W.codeIn K cd f.name = true) (k : PySem.W.keepIn K (.ref f1) = true) (sc : FnScope f.N ps (defScope st)) (mt : mSs ⟨f.N, fnsOf pg, gt⟩ f.body (defScope st) (defBody st) = true)
    (bi : ∀ fd, L2.Fun K f.name f.name st f1 fd → Binds K fd ps []) (hl : ps.length = f.ar) : FFact K mg (fnsOf pg) gt f :=
  ⟨f.name, st, f1, _, ps, fun_mk (st := st) l c k, sc, PySem.W.mg_of X G a, bi _ (fun_mk (st := st) l c k), hl, mt⟩
theorem all_mk {K : PySem.W.Frag} {h : Heap} {mg : Str → Option Value} (X : K.In h) (G : h.Ns mainGlobals mg)
    {f0 : Addr} {od0 an0 : Option Addr} {sl0 : Array (Option Value)} {oc0 kV0 dc0 pm0 cd0 ct0 : Value} (a0 : PySem.W.nsIn K mainGlobals d_is_integer.name = some (some (.ref f0))) (l0 : K.lookup f0 = some ⟨oc0, od0, .func (PySem.W.fnOf d_is_integer.name d_is_integer.name (defArgs s_is_integer) (defBody s_is_integer) (defScope s_is_integer) .none kV0 dc0 pm0 an0 cd0 ct0), sl0⟩) (c0 : PySem.W.codeIn K cd0 d_is_integer.name = true) (k0 : PySem.W.keepIn K (.ref f0) = true)
    {f1 : Addr} {od1 an1 : Option Addr} {sl1 : Array (Option Value)} {oc1 kV1 dc1 pm1 cd1 ct1 : Value} (a1 : PySem.W.nsIn K mainGlobals d_is_between.name = some (some (.ref f1))) (l1 : K.lookup f1 = some ⟨oc1, od1, .func (PySem.W.fnOf d_is_between.name d_is_between.name (defArgs s_is_between) (defBody s_is_between) (defScope s_is_between) .none kV1 dc1 pm1 an1 cd1 ct1), sl1⟩) (c1 : PySem.W.codeIn K cd1 d_is_between.name = true) (k1 : PySem.W.keepIn K (.ref f1) = true)
    {f2 : Addr} {od2 an2 : Option Addr} {sl2 : Array (Option Value)} {oc2 kV2 dc2 pm2 cd2 ct2 : Value} (a2 : PySem.W.nsIn K mainGlobals d_is_name.name = some (some (.ref f2))) (l2 : K.lookup f2 = some ⟨oc2, od2, .func (PySem.W.fnOf d_is_name.name d_is_name.name (defArgs s_is_name) (defBody s_is_name) (defScope s_is_name) .none kV2 dc2 pm2 an2 cd2 ct2), sl2⟩) (c2 : PySem.W.codeIn K cd2 d_is_name.name = true) (k2 : PySem.W.keepIn K (.ref f2) = true)
    {f3 : Addr} {od3 an3 : Option Addr} {sl3 : Array (Option Value)} {oc3 kV3 dc3 pm3 cd3 ct3 : Value} (a3 : PySem.W.nsIn K mainGlobals d_is_bit.name = some (some (.ref f3))) (l3 : K.lookup f3 = some ⟨oc3, od3, .func (PySem.W.fnOf d_is_bit.name d_is_bit.name (defArgs s_is_bit) (defBody s_is_bit) (defScope s_is_bit) .none kV3 dc3 pm3 an3 cd3 ct3), sl3⟩) (c3 : PySem.W.codeIn K cd3 d_is_bit.name = true) (k3 : PySem.W.keepIn K (.ref f3) = true)
    {f4 : Addr} {od4 an4 : Option Addr} {sl4 : Array (Option Value)} {oc4 kV4 dc4 pm4 cd4 ct4 : Value} (a4 : PySem.W.nsIn K mainGlobals d_is_value.name = some (some (.ref f4))) (l4 : K.lookup f4 = some ⟨oc4, od4, .func (PySem.W.fnOf d_is_value.name d_is_value.name (defArgs s_is_value) (defBody s_is_value) (defScope s_is_value) .none kV4 dc4 pm4 an4 cd4 ct4), sl4⟩) (c4 : PySem.W.codeIn K cd4 d_is_value.name = true) (k4 : PySem.W.keepIn K (.ref f4) = true)
    {f5 : Addr} {od5 an5 : Option Addr} {sl5 : Array (Option Value)} {oc5 kV5 dc5 pm5 cd5 ct5 : Value} (a5 : PySem.W.nsIn K mainGlobals d_is_row.name = some (some (.ref f5))) (l5 : K.lookup f5 = some ⟨oc5, od5, .func (PySem.W.fnOf d_is_row.name d_is_row.name (defArgs s_is_row) (defBody s_is_row) (defScope s_is_row) .none kV5 dc5 pm5 an5 cd5 ct5), sl5⟩) (c5 : PySem.W.codeIn K cd5 d_is_row.name = true) (k5 : PySem.W.keepIn K (.ref f5) = true)
    {f6 : Addr} {od6 an6 : Option Addr} {sl6 : Array (Option Value)} {oc6 kV6 dc6 pm6 cd6 ct6 : Value} (a6 : PySem.W.nsIn K mainGlobals d_continues.name = some (some (.ref f6))) (l6 : K.lookup f6 = some ⟨oc6, od6, .func (PySem.W.fnOf d_continues.name d_continues.name (defArgs s_continues) (defBody s_continues) (defScope s_continues) .none kV6 dc6 pm6 an6 cd6 ct6), sl6⟩) (c6 : PySem.W.codeIn K cd6 d_continues.name = true) (k6 : PySem.W.keepIn K (.ref f6) = true)
    {f7 : Addr} {od7 an7 : Option Addr} {sl7 : Array (Option Value)} {oc7 kV7 dc7 pm7 cd7 ct7 : Value} (a7 : PySem.W.nsIn K mainGlobals d__law_stream.name = some (some (.ref f7))) (l7 : K.lookup f7 = some ⟨oc7, od7, .func (PySem.W.fnOf d__law_stream.name d__law_stream.name (defArgs s__law_stream) (defBody s__law_stream) (defScope s__law_stream) .none kV7 dc7 pm7 an7 cd7 ct7), sl7⟩) (c7 : PySem.W.codeIn K cd7 d__law_stream.name = true) (k7 : PySem.W.keepIn K (.ref f7) = true)
    {f8 : Addr} {od8 an8 : Option Addr} {sl8 : Array (Option Value)} {oc8 kV8 dc8 pm8 cd8 ct8 : Value} (a8 : PySem.W.nsIn K mainGlobals d__law_draw.name = some (some (.ref f8))) (l8 : K.lookup f8 = some ⟨oc8, od8, .func (PySem.W.fnOf d__law_draw.name d__law_draw.name (defArgs s__law_draw) (defBody s__law_draw) (defScope s__law_draw) .none kV8 dc8 pm8 an8 cd8 ct8), sl8⟩) (c8 : PySem.W.codeIn K cd8 d__law_draw.name = true) (k8 : PySem.W.keepIn K (.ref f8) = true)
    {f9 : Addr} {od9 an9 : Option Addr} {sl9 : Array (Option Value)} {oc9 kV9 dc9 pm9 cd9 ct9 : Value} (a9 : PySem.W.nsIn K mainGlobals d__law_pick.name = some (some (.ref f9))) (l9 : K.lookup f9 = some ⟨oc9, od9, .func (PySem.W.fnOf d__law_pick.name d__law_pick.name (defArgs s__law_pick) (defBody s__law_pick) (defScope s__law_pick) .none kV9 dc9 pm9 an9 cd9 ct9), sl9⟩) (c9 : PySem.W.codeIn K cd9 d__law_pick.name = true) (k9 : PySem.W.keepIn K (.ref f9) = true)
    {f10 : Addr} {od10 an10 : Option Addr} {sl10 : Array (Option Value)} {oc10 kV10 dc10 pm10 cd10 ct10 : Value} (a10 : PySem.W.nsIn K mainGlobals d__law_is_bit.name = some (some (.ref f10))) (l10 : K.lookup f10 = some ⟨oc10, od10, .func (PySem.W.fnOf d__law_is_bit.name d__law_is_bit.name (defArgs s__law_is_bit) (defBody s__law_is_bit) (defScope s__law_is_bit) .none kV10 dc10 pm10 an10 cd10 ct10), sl10⟩) (c10 : PySem.W.codeIn K cd10 d__law_is_bit.name = true) (k10 : PySem.W.keepIn K (.ref f10) = true)
    {f11 : Addr} {od11 an11 : Option Addr} {sl11 : Array (Option Value)} {oc11 kV11 dc11 pm11 cd11 ct11 : Value} (a11 : PySem.W.nsIn K mainGlobals d__law_odd.name = some (some (.ref f11))) (l11 : K.lookup f11 = some ⟨oc11, od11, .func (PySem.W.fnOf d__law_odd.name d__law_odd.name (defArgs s__law_odd) (defBody s__law_odd) (defScope s__law_odd) .none kV11 dc11 pm11 an11 cd11 ct11), sl11⟩) (c11 : PySem.W.codeIn K cd11 d__law_odd.name = true) (k11 : PySem.W.keepIn K (.ref f11) = true)
    {f12 : Addr} {od12 an12 : Option Addr} {sl12 : Array (Option Value)} {oc12 kV12 dc12 pm12 cd12 ct12 : Value} (a12 : PySem.W.nsIn K mainGlobals d__law_bent.name = some (some (.ref f12))) (l12 : K.lookup f12 = some ⟨oc12, od12, .func (PySem.W.fnOf d__law_bent.name d__law_bent.name (defArgs s__law_bent) (defBody s__law_bent) (defScope s__law_bent) .none kV12 dc12 pm12 an12 cd12 ct12), sl12⟩) (c12 : PySem.W.codeIn K cd12 d__law_bent.name = true) (k12 : PySem.W.keepIn K (.ref f12) = true)
    {f13 : Addr} {od13 an13 : Option Addr} {sl13 : Array (Option Value)} {oc13 kV13 dc13 pm13 cd13 ct13 : Value} (a13 : PySem.W.nsIn K mainGlobals d__law_text.name = some (some (.ref f13))) (l13 : K.lookup f13 = some ⟨oc13, od13, .func (PySem.W.fnOf d__law_text.name d__law_text.name (defArgs s__law_text) (defBody s__law_text) (defScope s__law_text) .none kV13 dc13 pm13 an13 cd13 ct13), sl13⟩) (c13 : PySem.W.codeIn K cd13 d__law_text.name = true) (k13 : PySem.W.keepIn K (.ref f13) = true)
    {f14 : Addr} {od14 an14 : Option Addr} {sl14 : Array (Option Value)} {oc14 kV14 dc14 pm14 cd14 ct14 : Value} (a14 : PySem.W.nsIn K mainGlobals d__law_any_row.name = some (some (.ref f14))) (l14 : K.lookup f14 = some ⟨oc14, od14, .func (PySem.W.fnOf d__law_any_row.name d__law_any_row.name (defArgs s__law_any_row) (defBody s__law_any_row) (defScope s__law_any_row) .none kV14 dc14 pm14 an14 cd14 ct14), sl14⟩) (c14 : PySem.W.codeIn K cd14 d__law_any_row.name = true) (k14 : PySem.W.keepIn K (.ref f14) = true)
    {f15 : Addr} {od15 an15 : Option Addr} {sl15 : Array (Option Value)} {oc15 kV15 dc15 pm15 cd15 ct15 : Value} (a15 : PySem.W.nsIn K mainGlobals d__law_names_right.name = some (some (.ref f15))) (l15 : K.lookup f15 = some ⟨oc15, od15, .func (PySem.W.fnOf d__law_names_right.name d__law_names_right.name (defArgs s__law_names_right) (defBody s__law_names_right) (defScope s__law_names_right) .none kV15 dc15 pm15 an15 cd15 ct15), sl15⟩) (c15 : PySem.W.codeIn K cd15 d__law_names_right.name = true) (k15 : PySem.W.keepIn K (.ref f15) = true)
    {f16 : Addr} {od16 an16 : Option Addr} {sl16 : Array (Option Value)} {oc16 kV16 dc16 pm16 cd16 ct16 : Value} (a16 : PySem.W.nsIn K mainGlobals d__law_is_own_row.name = some (some (.ref f16))) (l16 : K.lookup f16 = some ⟨oc16, od16, .func (PySem.W.fnOf d__law_is_own_row.name d__law_is_own_row.name (defArgs s__law_is_own_row) (defBody s__law_is_own_row) (defScope s__law_is_own_row) .none kV16 dc16 pm16 an16 cd16 ct16), sl16⟩) (c16 : PySem.W.codeIn K cd16 d__law_is_own_row.name = true) (k16 : PySem.W.keepIn K (.ref f16) = true)
    {f17 : Addr} {od17 an17 : Option Addr} {sl17 : Array (Option Value)} {oc17 kV17 dc17 pm17 cd17 ct17 : Value} (a17 : PySem.W.nsIn K mainGlobals d__law_continued.name = some (some (.ref f17))) (l17 : K.lookup f17 = some ⟨oc17, od17, .func (PySem.W.fnOf d__law_continued.name d__law_continued.name (defArgs s__law_continued) (defBody s__law_continued) (defScope s__law_continued) .none kV17 dc17 pm17 an17 cd17 ct17), sl17⟩) (c17 : PySem.W.codeIn K cd17 d__law_continued.name = true) (k17 : PySem.W.keepIn K (.ref f17) = true)
    {f18 : Addr} {od18 an18 : Option Addr} {sl18 : Array (Option Value)} {oc18 kV18 dc18 pm18 cd18 ct18 : Value} (a18 : PySem.W.nsIn K mainGlobals d__law_rows_right.name = some (some (.ref f18))) (l18 : K.lookup f18 = some ⟨oc18, od18, .func (PySem.W.fnOf d__law_rows_right.name d__law_rows_right.name (defArgs s__law_rows_right) (defBody s__law_rows_right) (defScope s__law_rows_right) .none kV18 dc18 pm18 an18 cd18 ct18), sl18⟩) (c18 : PySem.W.codeIn K cd18 d__law_rows_right.name = true) (k18 : PySem.W.keepIn K (.ref f18) = true)
    {f19 : Addr} {od19 an19 : Option Addr} {sl19 : Array (Option Value)} {oc19 kV19 dc19 pm19 cd19 ct19 : Value} (a19 : PySem.W.nsIn K mainGlobals d_law.name = some (some (.ref f19))) (l19 : K.lookup f19 = some ⟨oc19, od19, .func (PySem.W.fnOf d_law.name d_law.name (defArgs s_law) (defBody s_law) (defScope s_law) .none kV19 dc19 pm19 an19 cd19 ct19), sl19⟩) (c19 : PySem.W.codeIn K cd19 d_law.name = true) (k19 : PySem.W.keepIn K (.ref f19) = true)
    {t0 : Tok} (g0 : PySem.W.nsIn K mainGlobals "UNKNOWN" = some (some (.int 2 t0)))
    {t1 : Tok} (g1 : PySem.W.nsIn K mainGlobals "MAX_LETTERS" = some (some (.int 8 t1)))
    {t2 : Tok} (g2 : PySem.W.nsIn K mainGlobals "LETTERS" = some (some (.str "abcdefghijklmnopqrstuvwxyz" t2)))
    (z0 : PySem.W.nsIn K mainGlobals "len" = some none)
    (z1 : PySem.W.nsIn K mainGlobals "abs" = some none)
    (z2 : PySem.W.nsIn K mainGlobals "int" = some none)
    (z3 : PySem.W.nsIn K mainGlobals "max" = some none)
    (z4 : PySem.W.nsIn K mainGlobals "min" = some none)
    (z5 : PySem.W.nsIn K mainGlobals "repr" = some none)
    (z6 : PySem.W.nsIn K mainGlobals "str" = some none)
    (z7 : PySem.W.nsIn K mainGlobals "list" = some none)
    (z8 : PySem.W.nsIn K mainGlobals "tuple" = some none)
    (z9 : PySem.W.nsIn K mainGlobals "all" = some none)
    (z10 : PySem.W.nsIn K mainGlobals "any" = some none)
    (z11 : PySem.W.nsIn K mainGlobals "sum" = some none)
    (z12 : PySem.W.nsIn K mainGlobals "bool" = some none)
    (z13 : PySem.W.nsIn K mainGlobals "range" = some none)
    (z14 : PySem.W.nsIn K mainGlobals "enumerate" = some none)
    (z15 : PySem.W.nsIn K mainGlobals "zip" = some none)
    (z16 : PySem.W.nsIn K mainGlobals "isinstance" = some none)
    (z17 : PySem.W.nsIn K mainGlobals "dict" = some none) :
    (∀ x ∈ bnames, mg x = none) ∧ (∀ x e, gt.lookup x = some e → ∃ v u, mg x = some u ∧ RelV v u ∧ ∀ ρ H, RV K ρ H e v) ∧ ∀ f ∈ pg, FFact K mg (fnsOf pg) gt f := by
  refine ⟨?_, ?_, ?_⟩
  · intro x hx
    simp only [bnames, List.mem_cons, List.not_mem_nil, or_false] at hx
    rcases hx with rfl | rfl | rfl | rfl | rfl | rfl | rfl | rfl | rfl | rfl | rfl | rfl | rfl | rfl | rfl | rfl | rfl | rfl
    · exact PySem.W.mg_none_of X G z0
    · exact PySem.W.mg_none_of X G z1
    · exact PySem.W.mg_none_of X G z2
    · exact PySem.W.mg_none_of X G z3
    · exact PySem.W.mg_none_of X G z4
    · exact PySem.W.mg_none_of X G z5
    · exact PySem.W.mg_none_of X G z6
    · exact PySem.W.mg_none_of X G z7
    · exact PySem.W.mg_none_of X G z8
    · exact PySem.W.mg_none_of X G z9
    · exact PySem.W.mg_none_of X G z10
    · exact PySem.W.mg_none_of X G z11
    · exact PySem.W.mg_none_of X G z12
    · exact PySem.W.mg_none_of X G z13
    · exact PySem.W.mg_none_of X G z14
    · exact PySem.W.mg_none_of X G z15
    · exact PySem.W.mg_none_of X G z16
    · exact PySem.W.mg_none_of X G z17
  · intro x e hx
    have hm : (x, e) ∈ gt := mem_lookup_of hx
    simp only [gt, List.mem_cons, List.not_mem_nil, or_false, Prod.mk.injEq] at hm
    rcases hm with ⟨rfl, rfl⟩ | ⟨rfl, rfl⟩ | ⟨rfl, rfl⟩
    · exact ⟨.int 2, _, PySem.W.mg_of X G g0, ⟨_, rfl⟩, fun _ _ => .mkInt _⟩
    · exact ⟨.int 8, _, PySem.W.mg_of X G g1, ⟨_, rfl⟩, fun _ _ => .mkInt _⟩
    · exact ⟨.str "abcdefghijklmnopqrstuvwxyz", _, PySem.W.mg_of X G g2, ⟨_, rfl⟩, fun _ _ => .mkStr _⟩
  · unfold pg
    exact List.forall_mem_cons.mpr ⟨ff_mk X G d_is_integer s_is_integer ["value"] a0 l0 c0 k0 sc_is_integer mt_is_integer (fun fd F => F.binds (ps := ["value"]) fun _ _ _ _ _ _ us hl => match us, hl with | [_], _ => rfl) rfl,
      List.forall_mem_cons.mpr ⟨ff_mk X G d_is_between s_is_between ["value", "low", "high"] a1 l1 c1 k1 sc_is_between mt_is_between (fun fd F => F.binds (ps := ["value", "low", "high"]) fun _ _ _ _ _ _ us hl => match us, hl with | [_, _, _], _ => rfl) rfl,
      List.forall_mem_cons.mpr ⟨ff_mk X G d_is_name s_is_name ["value"] a2 l2 c2 k2 sc_is_name mt_is_name (fun fd F => F.binds (ps := ["value"]) fun _ _ _ _ _ _ us hl => match us, hl with | [_], _ => rfl) rfl,
      List.forall_mem_cons.mpr ⟨ff_mk X G d_is_bit s_is_bit ["value"] a3 l3 c3 k3 sc_is_bit mt_is_bit (fun fd F => F.binds (ps := ["value"]) fun _ _ _ _ _ _ us hl => match us, hl with | [_], _ => rfl) rfl,
      List.forall_mem_cons.mpr ⟨ff_mk X G d_is_value s_is_value ["value"] a4 l4 c4 k4 sc_is_value mt_is_value (fun fd F => F.binds (ps := ["value"]) fun _ _ _ _ _ _ us hl => match us, hl with | [_], _ => rfl) rfl,
      List.forall_mem_cons.mpr ⟨ff_mk X G d_is_row s_is_row ["value"] a5 l5 c5 k5 sc_is_row mt_is_row (fun fd F => F.binds (ps := ["value"]) fun _ _ _ _ _ _ us hl => match us, hl with | [_], _ => rfl) rfl,
      List.forall_mem_cons.mpr ⟨ff_mk X G d_continues s_continues ["row", "value"] a6 l6 c6 k6 sc_continues mt_continues (fun fd F => F.binds (ps := ["row", "value"]) fun _ _ _ _ _ _ us hl => match us, hl with | [_, _], _ => rfl) rfl,
      List.forall_mem_cons.mpr ⟨ff_mk X G d__law_stream s__law_stream ["_law_script", "_law_at"] a7 l7 c7 k7 sc__law_stream mt__law_stream (fun fd F => F.binds (ps := ["_law_script", "_law_at"]) fun _ _ _ _ _ _ us hl => match us, hl with | [_, _], _ => rfl) rfl,
      List.forall_mem_cons.mpr ⟨ff_mk X G d__law_draw s__law_draw ["_law_stream_here", "_law_total"] a8 l8 c8 k8 sc__law_draw mt__law_draw (fun fd F => F.binds (ps := ["_law_stream_here", "_law_total"]) fun _ _ _ _ _ _ us hl => match us, hl with | [_, _], _ => rfl) rfl,
      List.forall_mem_cons.mpr ⟨ff_mk X G d__law_pick s__law_pick ["_law_stream_here", "_law_items"] a9 l9 c9 k9 sc__law_pick mt__law_pick (fun fd F => F.binds (ps := ["_law_stream_here", "_law_items"]) fun _ _ _ _ _ _ us hl => match us, hl with | [_, _], _ => rfl) rfl,
      List.forall_mem_cons.mpr ⟨ff_mk X G d__law_is_bit s__law_is_bit ["_law_thing"] a10 l10 c10 k10 sc__law_is_bit mt__law_is_bit (fun fd F => F.binds (ps := ["_law_thing"]) fun _ _ _ _ _ _ us hl => match us, hl with | [_], _ => rfl) rfl,
      List.forall_mem_cons.mpr ⟨ff_mk X G d__law_odd s__law_odd ["_law_stream_here"] a11 l11 c11 k11 sc__law_odd mt__law_odd (fun fd F => F.binds (ps := ["_law_stream_here"]) fun _ _ _ _ _ _ us hl => match us, hl with | [_], _ => rfl) rfl,
      List.forall_mem_cons.mpr ⟨ff_mk X G d__law_bent s__law_bent ["_law_stream_here", "_law_thing", "_law_deep"] a12 l12 c12 k12 sc__law_bent mt__law_bent (fun fd F => F.binds (ps := ["_law_stream_here", "_law_thing", "_law_deep"]) fun _ _ _ _ _ _ us hl => match us, hl with | [_, _, _], _ => rfl) rfl,
      List.forall_mem_cons.mpr ⟨ff_mk X G d__law_text s__law_text ["_law_stream_here"] a13 l13 c13 k13 sc__law_text mt__law_text (fun fd F => F.binds (ps := ["_law_stream_here"]) fun _ _ _ _ _ _ us hl => match us, hl with | [_], _ => rfl) rfl,
      List.forall_mem_cons.mpr ⟨ff_mk X G d__law_any_row s__law_any_row ["_law_stream_here", "_law_size"] a14 l14 c14 k14 sc__law_any_row mt__law_any_row (fun fd F => F.binds (ps := ["_law_stream_here", "_law_size"]) fun _ _ _ _ _ _ us hl => match us, hl with | [_, _], _ => rfl) rfl,
      List.forall_mem_cons.mpr ⟨ff_mk X G d__law_names_right s__law_names_right ["_law_stream_here"] a15 l15 c15 k15 sc__law_names_right mt__law_names_right (fun fd F => F.binds (ps := ["_law_stream_here"]) fun _ _ _ _ _ _ us hl => match us, hl with | [_], _ => rfl) rfl,
      List.forall_mem_cons.mpr ⟨ff_mk X G d__law_is_own_row s__law_is_own_row ["_law_thing"] a16 l16 c16 k16 sc__law_is_own_row mt__law_is_own_row (fun fd F => F.binds (ps := ["_law_thing"]) fun _ _ _ _ _ _ us hl => match us, hl with | [_], _ => rfl) rfl,
      List.forall_mem_cons.mpr ⟨ff_mk X G d__law_continued s__law_continued ["_law_row", "_law_thing"] a17 l17 c17 k17 sc__law_continued mt__law_continued (fun fd F => F.binds (ps := ["_law_row", "_law_thing"]) fun _ _ _ _ _ _ us hl => match us, hl with | [_, _], _ => rfl) rfl,
      List.forall_mem_cons.mpr ⟨ff_mk X G d__law_rows_right s__law_rows_right ["_law_stream_here"] a18 l18 c18 k18 sc__law_rows_right mt__law_rows_right (fun fd F => F.binds (ps := ["_law_stream_here"]) fun _ _ _ _ _ _ us hl => match us, hl with | [_], _ => rfl) rfl,
      List.forall_mem_cons.mpr ⟨ff_mk X G d_law s_law ["_law_script"] a19 l19 c19 k19 sc_law mt_law (fun fd F => F.binds (ps := ["_law_script"]) fun _ _ _ _ _ _ us hl => match us, hl with | [_], _ => rfl) rfl,
      fun _ h => by cases h⟩⟩⟩⟩⟩⟩⟩⟩⟩⟩⟩⟩⟩⟩⟩⟩⟩⟩⟩⟩
end LW
namespace LW
open PySem PySem.Spec PyProof.Rows L2 GG
def isInt : D → Bool
  | .int _ => true
  | _ => false
def isVal (lo hi : Int) : D → Bool
  | .int i => decide (lo ≤ i) && decide (i ≤ hi)
  | _ => false
theorem ty_py {S : Sto} {d : D} {p : PyData} (h : Py S d p) : (tyName S d).isSome = true := by
  cases d with
  | loc l =>
    rcases h.locI with ⟨ds, ps, e, _⟩ | ⟨ds, ps, e, _⟩ <;> simp [tyName, e]
  | _ => rfl
theorem e_is_integer (n : Nat) (d : D) (S : Sto) (h : (tyName S d).isSome = true) : evF pg (n + 1) 0 [d] S = .ok (.bl (isInt d)) S := by
  (rw [u_fn n (f := d_is_integer) rfl]; unfold runF)
  cases d with
  | loc l =>
    cases e : S[l]? with
    | none => simp [tyName, e] at h
    | some o => cases o <;> simp! [d_is_integer, b_is_integer, isInt, isiF, tyName, e]
  | _ => simp! [d_is_integer, b_is_integer, isInt]
theorem e_is_between (n : Nat) (d : D) (lo hi : Int) (S : Sto) (h : (tyName S d).isSome = true) : evF pg (n + 2) 1 [d, .int lo, .int hi] S = .ok (.bl (isVal lo hi d)) S := by
  (rw [u_fn (n + 1) (f := d_is_between) rfl]; unfold runF)
  cases d with
  | int i =>
    cases h1 : decide (lo ≤ i) <;> cases h2 : decide (i ≤ hi) <;> simp! [d_is_between, b_is_between, isVal, isInt, e_is_integer n _ S h, h1, h2]
  | _ => simp! [d_is_between, b_is_between, isVal, isInt, e_is_integer n _ S h]
theorem e_is_bit (n : Nat) (d : D) (S : Sto) (h : (tyName S d).isSome = true) : evF pg (n + 3) 3 [d] S = .ok (.bl (isVal 0 1 d)) S := by
  (rw [u_fn (n + 2) (f := d_is_bit) rfl]; unfold runF)
  simp! [d_is_bit, b_is_bit, e_is_between n d 0 1 S h]
theorem e_is_value (n : Nat) (d : D) (S : Sto) (h : (tyName S d).isSome = true) : evF pg (n + 3) 4 [d] S = .ok (.bl (isVal 0 2 d)) S := by
  (rw [u_fn (n + 2) (f := d_is_value) rfl]; unfold runF)
  simp! [d_is_value, b_is_value, e_is_between n d 0 2 S h]
def isRow : D → Bool
  | .tup ds => ds.all (isVal 0 2)
  | _ => false
def subs : D → List D
  | .tup ds => ds
  | _ => []
/-- a thing that is_row may be asked of -/
def Ask (S : Sto) (d : D) : Prop := (tyName S d).isSome = true ∧ (∀ x ∈ subs d, (tyName S x).isSome = true) ∧ (subs d).length ≤ sizeLine
theorem e_is_row (n : Nat) (d : D) (S : Sto) (h : Ask S d) : evF pg (n + 4) 5 [d] S = .ok (.bl (isRow d)) S := by
  obtain ⟨h, h2, h3⟩ := h
  (rw [u_fn (n + 3) (f := d_is_row) rfl]; unfold runF)
  cases d with
  | tup ds =>
    have e := ev_lc_pure (cl := evF pg (n + 3)) (ε := [some (D.tup ds), none]) (S := S) (e := .call 4 [.v 1]) (own := [1]) (tg := .n 1) (it := .itv (.v 0)) (ifs := []) (p := (ds, [])) (S1 := S) (fun x => .bl (isVal 0 2 x)) (by simp! []) rfl h3
      (fun x hx => ⟨[some (.tup ds), some x], by simp! [], by simp! [], by simp! [e_is_value n x S (h2 x hx)]⟩)
    simp! [d_is_row, b_is_row, isRow, e]
  | loc l =>
    cases e : S[l]? with
    | none => simp [tyName, e] at h
    | some o => cases o <;> simp! [d_is_row, b_is_row, isRow, isiF, tyName, e]
  | _ => simp! [d_is_row, b_is_row, isRow]
/-! a row of numbers -/
def row (rs : List Int) : D := .tup (rs.map .int)
def ok3 (rs : List Int) : Prop := ∀ r ∈ rs, 0 ≤ r ∧ r ≤ 2
theorem isRow_row {rs : List Int} (h : ok3 rs) : isRow (row rs) = true := by
  simp only [isRow, row, List.all_map, List.all_eq_true, Function.comp]
  intro r hr
  simp [isVal, h r hr]
theorem of_isRow {d : D} (h : isRow d = true) : ∃ es, d = row es ∧ ok3 es := by
  cases d with
  | tup ds =>
    simp only [isRow] at h
    have : ∃ es : List Int, ds = es.map .int ∧ ok3 es := by
      induction ds with
      | nil => exact ⟨[], rfl, fun r hr => by cases hr⟩
      | cons x r ih =>
        simp only [List.all_cons, Bool.and_eq_true] at h
        obtain ⟨es, rfl, he⟩ := ih h.2
        cases x with
        | int i =>
          simp only [isVal, Bool.and_eq_true, decide_eq_true_eq] at h
          exact ⟨i :: es, rfl, fun r hr => by
            rcases List.mem_cons.mp hr with rfl | hr
            · exact h.1
            · exact he r hr⟩
        | _ => simp [isVal] at h
    obtain ⟨es, rfl, he⟩ := this
    exact ⟨es, rfl, he⟩
  | _ => simp [isRow] at h
theorem ask_row {S : Sto} {rs : List Int} (h : rs.length ≤ sizeLine) : Ask S (row rs) :=
  ⟨rfl, fun x hx => by simp only [subs, row, List.mem_map] at hx; obtain ⟨i, _, rfl⟩ := hx; rfl, by simpa [subs, row] using h⟩
theorem zipUp_row : ∀ rs es : List Int, zipUp (rs.map D.int) (es.map D.int) = (rs.zip es).map fun t => .tup [.int t.1, .int t.2]
  | [], es => rfl
  | a :: r, [] => rfl
  | a :: r, b :: t => by simp [zipUp, zipUp_row r t]
/-- what continues(row, value) answers of two rows of one length -/
def cont2 (rs es : List Int) : Bool := (rs.zip es).all fun t => decide (t.1 = 2) || decide (t.2 = t.1)
theorem e_cont_no (n : Nat) (rs : List Int) (d : D) (S : Sto) (h : Ask S d) (hr : ok3 rs) (hl : rs.length ≤ sizeLine) (hd : isRow d = false) : evF pg (n + 5) 6 [row rs, d] S = .ok (.bl false) S := by
  (rw [u_fn (n + 4) (f := d_continues) rfl]; unfold runF)
  have e1 := e_is_row n (row rs) S (ask_row hl)
  rw [isRow_row hr] at e1
  have e2 := e_is_row n d S h
  rw [hd] at e2
  simp! [d_continues, b_continues, e1, e2]
theorem e_cont_row (n : Nat) (rs es : List Int) (S : Sto) (hr : ok3 rs) (hl : rs.length ≤ sizeLine) (he : ok3 es) (hl2 : es.length ≤ sizeLine) :
    evF pg (n + 5) 6 [row rs, row es] S = .ok (.bl (decide (es.length = rs.length) && cont2 rs es)) S := by
  (rw [u_fn (n + 4) (f := d_continues) rfl]; unfold runF)
  have e1 := e_is_row n (row rs) S (ask_row hl)
  rw [isRow_row hr] at e1
  have e2 := e_is_row n (row es) S (ask_row hl2)
  rw [isRow_row he] at e2
  have l1 : biF .len [row rs] S = .ok (.int rs.length) S := by simp! [row]
  have l2 : biF .len [row es] S = .ok (.int es.length) S := by simp! [row]
  by_cases hz : es.length = rs.length
  · have e := ev_lc_pure (cl := evF pg (n + 4)) (ε := [some (row rs), some (row es), none, none]) (S := S) (e := .cmp .In (.v 2) (.tup [(.g "UNKNOWN" (.int 2)), (.v 3)])) (own := [2, 3]) (tg := .t [.n 2, .n 3]) (it := .zip (.v 0) (.v 1)) (ifs := []) (p := ((rs.zip es).map fun t => .tup [.int t.1, .int t.2], [])) (S1 := S)
      (fun x => match x with | .tup [.int a, .int b] => .bl (decide (a = 2) || decide (b = a)) | _ => .non) (by simp! [row, zipUp_row]) rfl (by simp [List.length_zip]; omega)
      (fun x hx => by
        simp only [List.mem_map] at hx
        obtain ⟨t, _, rfl⟩ := hx
        exact ⟨[some (row rs), some (row es), some (.int t.1), some (.int t.2)], by simp! [], by simp! [], by
          have q : decide ((2 : Int) = t.1) = decide (t.1 = 2) := by rw [Bool.eq_iff_iff]; simp [eq_comm]
          simp! [flatD, eqFD, dec_beq, q]⟩)
    have e3 : (rs.zip es).map (fun t => D.bl (decide (t.1 = 2) || decide (t.2 = t.1))) = ((rs.zip es).map fun t => D.tup [.int t.1, .int t.2]).map (fun x => match x with | .tup [.int a, .int b] => .bl (decide (a = 2) || decide (b = a)) | _ => .non) := by rw [List.map_map]; rfl
    rw [← e3] at e
    simp! [d_continues, b_continues, e1, e2, l1, l2, hz, e, cont2, Function.comp_def]
  · have hz2 : ¬ ((es.length : Int) = rs.length) := by omega
    simp! [d_continues, b_continues, e1, e2, l1, l2, hz, hz2]
end LW
namespace LW
open PySem PySem.Spec PyProof.Rows L2 GG
abbrev abc : Str := "abcdefghijklmnopqrstuvwxyz"
def goodCp (c : Nat) : Bool := decide (c ∈ abc.cps.toList)
def isName : D → Bool
  | .str z => (decide (1 ≤ z.length) && decide (z.length ≤ 8)) && z.cps.toList.all goodCp
  | _ => false
theorem e_is_name_str (n : Nat) (z : Str) (S : Sto) (hz : z.length ≤ sizeLine) : evF pg (n + 1) 2 [.str z] S = .ok (.bl (isName (.str z))) S := by
  (rw [u_fn n (f := d_is_name) rfl]; unfold runF)
  have hl : z.cps.toList.length = z.length := by simp [Str.length]
  have e := ev_lc_pure (cl := evF pg n) (ε := [some (D.str z), none]) (S := S) (e := .cmp .In (.v 1) (.g "LETTERS" (.str "abcdefghijklmnopqrstuvwxyz"))) (own := [1]) (tg := .n 1) (it := .itv (.v 0)) (ifs := []) (p := (z.cps.toList.map fun c => .str ⟨#[c]⟩, [])) (S1 := S)
    (fun x => match x with | .str y => (match y.cps.toList with | [c] => .bl (goodCp c) | _ => .non) | _ => .non) (by simp! []) rfl (by simpa [hl] using hz)
    (fun x hx => by
      simp only [List.mem_map] at hx
      obtain ⟨c, _, rfl⟩ := hx
      exact ⟨[some (.str z), some (.str ⟨#[c]⟩)], by simp! [], by simp! [], by simp! [goodCp]⟩)
  have e3 : (z.cps.toList.map fun c => D.bl (goodCp c)) = (z.cps.toList.map fun c => D.str ⟨#[c]⟩).map (fun x => match x with | .str y => (match y.cps.toList with | [c] => .bl (goodCp c) | _ => .non) | _ => .non) := by rw [List.map_map]; rfl
  rw [← e3] at e
  by_cases h1 : 1 ≤ z.length
  · by_cases h2 : z.length ≤ 8
    · have h1' : (1 : Int) ≤ z.length := by omega
      have h2' : (z.length : Int) ≤ 8 := by omega
      simp! [d_is_name, b_is_name, hz, h1, h1', h2, h2', e, isName]
    · have h1' : (1 : Int) ≤ z.length := by omega
      have h2' : ¬ (z.length : Int) ≤ 8 := by omega
      simp! [d_is_name, b_is_name, hz, h1, h1', h2, h2', isName]
  · have h1' : ¬ (1 : Int) ≤ z.length := by omega
    simp! [d_is_name, b_is_name, hz, h1, h1', isName]
theorem e_is_name_no (n : Nat) (d : D) (S : Sto) (h : (tyName S d).isSome = true) (hd : ∀ z, d ≠ .str z) : evF pg (n + 1) 2 [d] S = .ok (.bl false) S := by
  (rw [u_fn n (f := d_is_name) rfl]; unfold runF)
  cases d with
  | str z => exact absurd rfl (hd z)
  | loc l =>
    cases e : S[l]? with
    | none => simp [tyName, e] at h
    | some o => cases o <;> simp! [d_is_name, b_is_name, isiF, tyName, e]
  | _ => simp! [d_is_name, b_is_name]
theorem e_own_bit (n : Nat) (d : D) (S : Sto) (h : (tyName S d).isSome = true) : evF pg (n + 1) 10 [d] S = .ok (.bl (isVal 0 1 d)) S := by
  (rw [u_fn n (f := d__law_is_bit) rfl]; unfold runF)
  cases d with
  | int i =>
    have q : ((0 == i) || (1 == i)) = (decide (0 ≤ i) && decide (i ≤ 1)) := by
      rw [Bool.eq_iff_iff]; simp; omega
    simp! [d__law_is_bit, b__law_is_bit, isVal, flatD, eqFD, q]
  | loc l =>
    cases e : S[l]? with
    | none => simp [tyName, e] at h
    | some o => cases o <;> simp! [d__law_is_bit, b__law_is_bit, isVal, isiF, tyName, e]
  | _ => simp! [d__law_is_bit, b__law_is_bit, isVal]
theorem own_loop (cl : Nat → List D → Sto → Out D) (S : Sto) (hd : D) : ∀ (ds : List D) (o : Option D), (∀ x ∈ ds, (tyName S x).isSome = true) → ∃ o',
    forLoop [] (tgS (.n 1)) (evSs cl [.ife (.or (.not (.isi (.v 1) .int)) [(.isi (.v 1) .bool), (.not (.chain .LtE .Lt (.c (.int 0)) (.v 1) (.c (.int 3))))]) [.ret (.c (.bl false))] []]) ds [some hd, o] S =
      if ds.all (isVal 0 2) = true then .ok (.nx [some hd, o']) S else .ok (.rt (.bl false)) S
  | [], o, _ => ⟨o, by simp! [forLoop]⟩
  | x :: r, o, h => by
    obtain ⟨o', ih⟩ := own_loop cl S hd r (some x) fun y m => h y (List.mem_cons_of_mem _ m)
    refine ⟨o', ?_⟩
    have hx := h x List.mem_cons_self
    unfold forLoop
    cases x with
    | int i =>
      by_cases h1 : 0 ≤ i
      · by_cases h2 : i < 3
        · have h3 : i ≤ 2 := by omega
          have e1 : isVal 0 2 (.int i) = true := by simp [isVal, h1, h3]
          simp! [h1, h2, h3, e1]
          simp! [] at ih
          rw [ih]
        · have h3 : ¬ i ≤ 2 := by omega
          simp! [h1, h2, h3, isVal]
      · simp! [h1, isVal]
    | loc l =>
      cases e : S[l]? with
      | none => simp [tyName, e] at hx
      | some o => cases o <;> simp! [isiF, tyName, e, isVal]
    | _ => simp! [isVal]
theorem e_own_row (n : Nat) (d : D) (S : Sto) (h : Ask S d) : evF pg (n + 1) 16 [d] S = .ok (.bl (isRow d)) S := by
  obtain ⟨h, h2, h3⟩ := h
  (rw [u_fn n (f := d__law_is_own_row) rfl]; unfold runF)
  cases d with
  | tup ds =>
    obtain ⟨o', e⟩ := own_loop (evF pg n) S (.tup ds) ds none h2
    cases ha : ds.all (isVal 0 2)
    · rw [ha] at e
      simp! [d__law_is_own_row, b__law_is_own_row, isRow, ha]
      simp! [] at e
      simp! [e]
    · rw [ha] at e
      simp! [d__law_is_own_row, b__law_is_own_row, isRow, ha]
      simp! [] at e
      simp! [e]
  | loc l =>
    cases e : S[l]? with
    | none => simp [tyName, e] at h
    | some o => cases o <;> simp! [d__law_is_own_row, b__law_is_own_row, isRow, isiF, tyName, e]
  | _ => simp! [d__law_is_own_row, b__law_is_own_row, isRow]
end LW
namespace LW
open PySem PySem.Spec PyProof.Rows L2 GG
theorem py_ones {α : Type} {S : Sto} {l : Nat} {xs : List α} (h : S[l]? = some (.lst (xs.map fun _ => .int 1))) : py S (.loc l) = some (.list (xs.map fun _ => .int 1)) :=
  (Py.lst h (All2.mapL xs fun _ _ => .int)).py (by
    have : ∀ xs : List α, PyData.depthAll (xs.map fun _ => PyData.int 1) = 0 := fun xs => by
      induction xs with
      | nil => rfl
      | cons x r ih => simp [PyData.depthAll, PyData.depth, ih]
    simp [PyData.depth, this])
theorem eq_ones {α : Type} {S : Sto} {l m : Nat} {xs : List α} (h1 : S[l]? = some (.lst (xs.map fun _ => .int 1))) (h2 : S[m]? = some (.lst [])) : opEq false (.loc l) (.loc m) S = .ok (.bl xs.isEmpty) S := by
  have e1 := py_ones h1
  have e2 : py S (.loc m) = some (.list []) := (Py.lst h2 .nil).py (by decide)
  have q1 : ∀ xs : List α, PyData.depthAll (xs.map fun _ => PyData.int 1) = 0 := fun xs => by
    induction xs with
    | nil => rfl
    | cons x r ih => simp [PyData.depthAll, PyData.depth, ih]
  have q2 : ∀ xs : List α, PyData.canLayAll0 (xs.map fun _ => PyData.int 1) = true := fun xs => by
    induction xs with
    | nil => rfl
    | cons x r ih => simp [PyData.canLayAll0, PyData.canLay0, ih]
  have s1 : SeqAt.shaped (.list (xs.map fun _ => PyData.int 1)) = true := by simp [SeqAt.shaped, PyData.canLay0, PyData.depth, q1, q2]
  have s2 : SeqAt.shaped (.list []) = true := by decide
  have e3 : PyData.eqv (.list (xs.map fun _ => PyData.int 1)) (.list []) = xs.isEmpty := by
    cases xs <;> simp [PyData.eqv, PyData.eqvAll]
  unfold opEq
  simp only [e1, e2, s1, s2, e3, and_self, if_true, Bool.false_eq_true, if_false]
theorem pairUp_row : ∀ (rs : List Int) (k : Nat), pairUp k (rs.map D.int) = (rs.zipIdx k).map fun t => .tup [.int (t.2 : Nat), .int t.1]
  | [], k => rfl
  | a :: r, k => by simp [pairUp, pairUp_row r (k + 1)]
theorem cont_filter : ∀ (rs es : List Int) (k : Nat), es.length = rs.length → ok3 rs →
    (((rs.zipIdx k).filter fun t => decide (t.1 < 2) && !decide (es[t.2 - k]? = some t.1)).isEmpty) = cont2 rs es
  | [], [], k, h, hr => rfl
  | a :: r, b :: t, k, h, hr => by
    have ih := cont_filter r t (k + 1) (by simpa using h) (fun x hx => hr x (List.mem_cons_of_mem _ hx))
    have ha := hr a List.mem_cons_self
    have e : ((r.zipIdx (k + 1)).filter fun t' => decide (t'.1 < 2) && !decide ((b :: t)[t'.2 - k]? = some t'.1)) = (r.zipIdx (k + 1)).filter fun t' => decide (t'.1 < 2) && !decide (t[t'.2 - (k + 1)]? = some t'.1) := by
      refine List.filter_congr fun x hx => ?_
      have := List.le_snd_of_mem_zipIdx hx
      obtain ⟨m, hm⟩ : ∃ m, x.2 = k + 1 + m := ⟨x.2 - (k + 1), by omega⟩
      rw [hm, show k + 1 + m - k = m + 1 by omega, show k + 1 + m - (k + 1) = m by omega]
      simp
    rw [List.zipIdx_cons, List.filter_cons]
    simp only [Nat.sub_self, List.getElem?_cons_zero, Option.some.injEq]
    rw [e]
    have e2 : cont2 (a :: r) (b :: t) = ((decide (a = 2) || decide (b = a)) && cont2 r t) := by simp [cont2]
    rw [e2, ← ih]
    by_cases h1 : a < 2
    · have h2 : ¬ a = 2 := by omega
      by_cases h3 : b = a <;> simp [h1, h2, h3]
    · have h2 : a = 2 := by omega
      simp [h1, h2]
theorem e_continued_no (n : Nat) (rs : List Int) (d : D) (S : Sto) (h : Ask S d) (hd : isRow d = false) : evF pg (n + 2) 17 [row rs, d] S = .ok (.bl false) S := by
  (rw [u_fn (n + 1) (f := d__law_continued) rfl]; unfold runF)
  have e2 := e_own_row n d S h
  rw [hd] at e2
  simp! [d__law_continued, b__law_continued, e2]
theorem e_continued_row (n : Nat) (rs es : List Int) (S : Sto) (hr : ok3 rs) (hl : rs.length ≤ sizeLine) (he : ok3 es) (hl2 : es.length ≤ sizeLine) :
    evF pg (n + 2) 17 [row rs, row es] S = .ok (.bl (decide (es.length = rs.length) && cont2 rs es)) S := by
  (rw [u_fn (n + 1) (f := d__law_continued) rfl]; unfold runF)
  have e2 := e_own_row n (row es) S (ask_row hl2)
  rw [isRow_row he] at e2
  have l1 : biF .len [row rs] S = .ok (.int rs.length) S := by simp! [row]
  have l2 : biF .len [row es] S = .ok (.int es.length) S := by simp! [row]
  by_cases hz : es.length = rs.length
  · have e := ev_lc_filter (cl := evF pg (n + 1)) (ε := [some (row rs), some (row es), none, none]) (S := S) (e := .c (.int 1)) (own := [2, 3]) (tg := .t [.n 2, .n 3]) (it := .enum (.v 0)) (ifs := [.and (.cmp .Lt (.v 3) (.c (.int 2))) [.cmp .NotEq (.ix (.v 1) (.v 2)) (.v 3)]]) (p := (rs.zipIdx.map fun t => .tup [.int (t.2 : Nat), .int t.1], [])) (S1 := S)
      (fun x => match x with | .tup [.int i, .int a] => decide (a < 2) && !decide (es[i.toNat]? = some a) | _ => true)
      (fun x => .int 1) (by simp! [row]; exact pairUp_row rs 0) rfl (by simpa using hl)
      (fun x hx => by
        simp only [List.mem_map] at hx
        obtain ⟨t, ht, rfl⟩ := hx
        refine ⟨[some (row rs), some (row es), some (.int (t.2 : Nat)), some (.int t.1)], by simp! [], ?_, by simp! []⟩
        have hlt : t.2 < es.length := by
          have := List.snd_lt_of_mem_zipIdx ht
          omega
        by_cases h1 : t.1 < 2
        · have q : opIx (row es) (.int (t.2 : Nat)) S = .ok (.int es[t.2]) S := by
            simp [opIx, row, seqOf, atI, ixN, hlt]
          have q3 : es[t.2]? = some es[t.2] := by simp [hlt]
          simp! [h1, q, q3]
        · simp! [h1])
    have e3 : ((rs.zipIdx.map fun t => D.tup [.int (t.2 : Nat), .int t.1]).filter (fun x => match x with | .tup [.int i, .int a] => decide (a < 2) && !decide (es[i.toNat]? = some a) | _ => true)).map (fun _ => D.int 1) = ((rs.zipIdx).filter fun t => decide (t.1 < 2) && !decide (es[t.2 - 0]? = some t.1)).map fun _ => D.int 1 := by
      rw [List.filter_map, List.map_map]; rfl
    simp only at e
    rw [e3] at e
    have e5 := cont_filter rs es 0 hz hr
    generalize hF : ((rs.zipIdx).filter fun t => decide (t.1 < 2) && !decide (es[t.2 - 0]? = some t.1)) = F at e e5
    have e4 := eq_ones (S := S ++ [O.lst (F.map fun _ => D.int 1)] ++ [.lst []]) (l := S.length) (m := S.length + 1) (xs := F) (by simp) (by simp)
    rw [e5] at e4
    simp only [List.append_assoc, List.cons_append, List.nil_append] at e4
    simp! [d__law_continued, b__law_continued, e2, l1, l2, hz, e, e4]
  · have hz2 : ¬ ((es.length : Int) = rs.length) := by omega
    simp! [d__law_continued, b__law_continued, e2, l1, l2, hz, hz2]
end LW
namespace LW
open PySem PySem.Spec PyProof.Rows L2 GG
theorem emod_rng (a : Int) {t : Int} (h : 0 < t) : 0 ≤ a % t ∧ a % t < t := ⟨Int.emod_nonneg _ (by omega), Int.emod_lt_of_pos _ h⟩
theorem ix3 {S : Sto} {l : Nat} {a b c : D} (h : S[l]? = some (.lst [a, b, c])) : opIx (.loc l) (.int 0) S = .ok a S ∧ opIx (.loc l) (.int 1) S = .ok b S ∧ opIx (.loc l) (.int 2) S = .ok c S := by
  simp [opIx, seqOf, h, atI, ixN]
theorem put0 {S : Sto} {l : Nat} {a b c : D} {x : Int} (h : S[l]? = some (.lst [a, b, c])) : GG.putF (.loc l) (.int 0) (.int x) S = .ok () (S.set l (.lst [.int x, b, c])) := by
  simp [GG.putF, h, ixN, D.lt]
theorem put2 {S : Sto} {l : Nat} {a b c : D} {x : Int} (h : S[l]? = some (.lst [a, b, c])) : GG.putF (.loc l) (.int 2) (.int x) S = .ok () (S.set l (.lst [a, b, .int x])) := by
  simp [GG.putF, h, ixN, D.lt]
/-- a draw: a number below t; the stream's place alone changes -/
theorem e_draw (n : Nat) (l : Nat) (t : Int) (S : Sto) (h : Sm3 l S) (h0 : 0 < t) (h1 : t < 1073741824) : ∃ (r : Int) (o : O), evF pg (n + 1) 8 [.loc l, .int t] S = .ok (.int r) (S.set l o) ∧ 0 ≤ r ∧ r < t ∧ Sm3 l (S.set l o) := by
  have hl := h.lt
  obtain ⟨a, b, c, e⟩ := h
  obtain ⟨i0, i1, i2⟩ := ix3 e
  (rw [u_fn n (f := d__law_draw) rfl]; unfold runF)
  by_cases ha : 0 < a
  · refine ⟨a % t, .lst [.int (a / t), .int b, .int c], ?_, (emod_rng a h0).1, (emod_rng a h0).2, ⟨a / t, b, c, by simp [hl]⟩⟩
    simp! [d__law_draw, b__law_draw, i0, i1, i2, ha, h0, h1, put0 e]
  · have e' : (S.set l (.lst [.int a, .int b, .int (c + 1)]))[l]? = some (.lst [.int a, .int b, .int (c + 1)]) := by simp [hl]
    obtain ⟨j0, j1, j2⟩ := ix3 e'
    have q1 := emod_rng (b + 1000159 * (c + 1)) (t := 2305843009213693951) (by decide)
    generalize hone : (b + 1000159 * (c + 1)) % 2305843009213693951 = one at q1
    have q2 := emod_rng (one * one) (t := 2305843009213693921) (by decide)
    generalize htwo : (one * one) % 2305843009213693921 = two at q2
    have q3 := emod_rng (two * one + 6361 * (c + 1)) (t := 2305843009213693907) (by decide)
    generalize hthr : (two * one + 6361 * (c + 1)) % 2305843009213693907 = thr at q3
    refine ⟨thr / 4096 % t, .lst [.int a, .int b, .int (c + 1)], ?_, (emod_rng _ h0).1, (emod_rng _ h0).2, ⟨a, b, c + 1, e'⟩⟩
    have b1 : -18446744073709551616 < one := by omega
    have b2 : one < 18446744073709551616 := by omega
    simp! [d__law_draw, b__law_draw, i0, i1, i2, ha, h0, h1, put2 e, j0, j1, j2, hone, htwo, hthr, b1, b2]
theorem e_draw' (n : Nat) (l : Nat) (t : Int) (S : Sto) (h : Sm3 l S) (h0 : 0 < t) (h1 : t < 1073741824) : ∃ (r : Nat) (S' : Sto), evF pg (n + 1) 8 [.loc l, .int t] S = .ok (.int r) S' ∧ (r : Int) < t ∧ Ok3 l S S' ∧ S'.length = S.length := by
  obtain ⟨r, o, e, a, b, c⟩ := e_draw n l t S h h0 h1
  obtain ⟨k, rfl⟩ : ∃ k : Nat, r = k := ⟨r.toNat, by omega⟩
  exact ⟨k, _, e, b, ⟨.set l S o, c⟩, by simp⟩
/-- a pick from a list -/
theorem e_pick (n : Nat) (l m : Nat) (ds : List D) (ps : List PyData) (S : Sto) (h : Sm3 l S) (hm : S[m]? = some (.lst ds)) (hn : m ≠ l) (h0 : 0 < ds.length) (h1 : ds.length < 1000000) (ht : All2 (Th l S) ds ps) :
    ∃ (d : D) (p : PyData) (S' : Sto), evF pg (n + 2) 9 [.loc l, .loc m] S = .ok d S' ∧ p ∈ ps ∧ Th l S' d p ∧ Ok3 l S S' := by
  (rw [u_fn (n + 1) (f := d__law_pick) rfl]; unfold runF)
  obtain ⟨r, S1, e, hr, o, le⟩ := e_draw' n l ds.length S h (by omega) (by omega)
  have lt : r < ds.length := by omega
  have hm1 : S1[m]? = some (.lst ds) := (o.ext.at_ m (List.getElem?_eq_some_iff.mp hm).1 hn).trans hm
  have q : opIx (.loc m) (.int (r : Nat)) S1 = .ok ds[r] S1 := by
    simp [opIx, seqOf, hm1, atI, ixN, lt]
  obtain ⟨p, ep, tp⟩ := ht.get (i := r) (a := ds[r]) (by simp [lt])
  obtain ⟨d2, S2, e2, o2, t2⟩ := trunc_th h o (tp.mono o.ext)
  refine ⟨d2, p, S2, ?_, List.mem_of_getElem? ep, t2, o2⟩
  simp! [d__law_pick, b__law_pick, bi_len_lst hm, e, q]
  exact e2
theorem e_pick_str (n : Nat) (l : Nat) (z : Str) (S : Sto) (h : Sm3 l S) (h0 : 0 < z.length) (h1 : z.length < 1000000) :
    ∃ (c : Nat) (S' : Sto), evF pg (n + 2) 9 [.loc l, .str z] S = .ok (.str ⟨#[c]⟩) S' ∧ c ∈ z.cps.toList ∧ Ok3 l S S' ∧ S'.length = S.length := by
  (rw [u_fn (n + 1) (f := d__law_pick) rfl]; unfold runF)
  have hs : (1000000 : Nat) ≤ sizeLine := by decide
  have hz : z.length ≤ sizeLine := by omega
  obtain ⟨r, S1, e, hr, o, le⟩ := e_draw' n l z.length S h (by omega) (by omega)
  have lt : r < z.cps.toList.length := by simp [Str.length] at hr ⊢; omega
  have q : opIx (.str z) (.int (r : Nat)) S1 = .ok (.str ⟨#[z.cps.toList[r]]⟩) S1 := by
    have lt2 : r < z.cps.size := by simpa using lt
    simp [opIx, hz, atI, ixN, lt2]
  refine ⟨z.cps.toList[r], S1, ?_, List.getElem_mem lt, o, le⟩
  simp! [d__law_pick, b__law_pick, hz, e, q]
  rw [← le]; exact List.take_length
end LW
namespace LW
open PySem PySem.Spec PyProof.Rows L2 GG
theorem sl_eq : sizeLine = 16777216 := rfl
theorem Th.cellL {l j m : Nat} {S T : Sto} {ds : List D} {ps : List PyData} (hl : l < S.length) (hm : m = S.length + j) (hj : T[j]? = some (.lst ds)) (hr : ∀ S' n, omap (rdF 5 l S' n) ds = some ps) : Th l (S ++ T) (.loc m) (.list ps) := by
  subst hm
  have := (List.getElem?_eq_some_iff.mp hj).1
  exact ⟨6, rdF_loc.mpr ⟨by rw [List.length_append]; omega, by omega, .inl ⟨ds, ps, get_app.trans hj, rfl, hr _ _⟩⟩⟩
theorem Th.cellD {l j m : Nat} {S T : Sto} {ds : List (Key × D)} {ps : List (PyData × PyData)} (hl : l < S.length) (hm : m = S.length + j) (hj : T[j]? = some (.dK ds)) (hr : ∀ S' n, omap (fun kv => (rdF 5 l S' n kv.2).map fun p => (kPy kv.1, p)) ds = some ps) : Th l (S ++ T) (.loc m) (.dict ps) := by
  subst hm
  have := (List.getElem?_eq_some_iff.mp hj).1
  exact ⟨6, rdF_loc.mpr ⟨by rw [List.length_append]; omega, by omega, .inr ⟨ds, ps, get_app.trans hj, rfl, hr _ _⟩⟩⟩
theorem Th.flatT {l : Nat} {S : Sto} {ds : List D} {ps : List PyData} (q : ∀ S' n, omap (rdF 5 l S' n) ds = some ps) : Th l S (.tup ds) (.tuple ps) := ⟨6, rdF_tup.mpr ⟨ps, rfl, q _ _⟩⟩
def odds : List PyData := [.none, .bool true, .bool false, .int (-1), .int 0, .int 1, .int 2, .int 3, .int (10 ^ 39), .str "", .str "a", .str "x", .str "A", .tuple [], .list [], .dict [], .tuple [.int 0], .tuple [.str "a"], .list [.int 0], .tuple [.tuple []], .str "a b",
  .tuple [.tuple [], .tuple []], .tuple [.str "x", .int (-1)], .dict [(.str "a", .int 0)], .dict [(.str "x", .int 2)], .tuple [.tuple [.str "a"], .tuple []], .tuple [.str "settles", .int 1, .tuple []], .tuple [.str "flips", .tuple [.tuple [], .tuple []]], .tuple [.int 2]]
set_option maxHeartbeats 4000000
theorem e_odd (n : Nat) (l : Nat) (S : Sto) (h : Sm3 l S) : ∃ (d : D) (p : PyData) (S' : Sto), evF pg (n + 3) 11 [.loc l] S = .ok d S' ∧ p ∈ odds ∧ Th l S' d p ∧ Ok3 l S S' := by
  (rw [u_fn (n + 2) (f := d__law_odd) rfl]; unfold runF)
  have hl := h.lt
  have b10 : ((Builtin.Int.intBits 10 : Nat) : Int) * 39 ≤ 134217728 := by decide
  generalize hT : ([O.lst [], O.dK [], O.lst [D.int 0],
                        O.lst
                          [D.non, D.bl true, D.bl false, D.int (-1), D.int 0, D.int 1, D.int 2, D.int 3,
                            D.int 1000000000000000000000000000000000000000, D.str (Str.ofString ""),
                            D.str (Str.ofString "a"), D.str (Str.ofString "x"), D.str (Str.ofString "A"), D.tup [],
                            D.loc (List.length S), D.loc (List.length S + 1), D.tup [D.int 0],
                            D.tup [D.str (Str.ofString "a")], D.loc (List.length S + 2), D.tup [D.tup []],
                            D.str (Str.ofString "a b")], .dK [(.inr "a", .int 0)], .dK [(.inr "x", .int 2)],
                        O.lst [.tup [.tup [], .tup []], .tup [.str "x", .int (-1)], .loc (S.length + 4), .loc (S.length + 5), .tup [.tup [.str "a"], .tup []], .tup [.str "settles", .int 1, .tup []], .tup [.str "flips", .tup [.tup [], .tup []]], .tup [.int 2]],
                        O.lst
                          [D.non, D.bl true, D.bl false, D.int (-1), D.int 0, D.int 1, D.int 2, D.int 3,
                            D.int 1000000000000000000000000000000000000000, D.str (Str.ofString ""),
                            D.str (Str.ofString "a"), D.str (Str.ofString "x"), D.str (Str.ofString "A"), D.tup [],
                            D.loc (List.length S), D.loc (List.length S + 1), D.tup [D.int 0],
                            D.tup [D.str (Str.ofString "a")], D.loc (List.length S + 2), D.tup [D.tup []],
                            D.str (Str.ofString "a b"), .tup [.tup [], .tup []], .tup [.str "x", .int (-1)], .loc (S.length + 4), .loc (S.length + 5), .tup [.tup [.str "a"], .tup []], .tup [.str "settles", .int 1, .tup []], .tup [.str "flips", .tup [.tup [], .tup []]], .tup [.int 2]]] : Sto) = T
  have ht : ∀ ds, T[7]? = some (.lst ds) → All2 (Th l (S ++ T)) ds odds := fun ds e => by
    subst hT
    simp only [List.getElem?_cons_succ, List.getElem?_cons_zero, Option.some.injEq, O.lst.injEq] at e
    subst e
    refine .cons .non (.cons .bl (.cons .bl (.cons .int (.cons .int (.cons .int (.cons .int (.cons .int (.cons .int (.cons .str (.cons .str (.cons .str (.cons .str (.cons (Th.flatT fun _ _ => rfl) (.cons ?_ (.cons ?_ (.cons (Th.flatT fun _ _ => rfl) (.cons (Th.flatT fun _ _ => rfl) (.cons ?_ (.cons (Th.flatT fun _ _ => rfl) (.cons .str (.cons (Th.flatT fun _ _ => rfl) (.cons (Th.flatT fun _ _ => rfl) (.cons ?_ (.cons ?_ (.cons (Th.flatT fun _ _ => rfl) (.cons (Th.flatT fun _ _ => rfl) (.cons (Th.flatT fun _ _ => rfl) (.cons (Th.flatT fun _ _ => rfl) .nil))))))))))))))))))))))))))))
    · exact Th.cellL (j := 0) hl rfl rfl fun _ _ => rfl
    · exact Th.cellD (j := 1) hl rfl rfl fun _ _ => rfl
    · exact Th.cellL (j := 2) hl rfl rfl fun _ _ => rfl
    · exact Th.cellD (j := 4) hl rfl rfl fun _ _ => rfl
    · exact Th.cellD (j := 5) hl rfl rfl fun _ _ => rfl
  have e7 : ∃ ds, T[7]? = some (.lst ds) ∧ ds.length = 29 := by subst hT; exact ⟨_, rfl, rfl⟩
  obtain ⟨ds, e7, l7⟩ := e7
  obtain ⟨d, p, S1, e, m, t, o⟩ := e_pick n l (S.length + 7) ds odds (S ++ T) (h.app T) (get_app.trans e7) (by omega) (by omega) (by omega) (ht ds e7)
  obtain ⟨d2, S2, e2, o2, t2⟩ := trunc_th h ((Ok3.app h T).trans o) t
  refine ⟨d2, p, S2, ?_, m, t2, o2⟩
  subst hT
  simp! [d__law_odd, b__law_odd, get_app, get_app0, b10, sl_eq, mergeD, putD, opAdd, e]
  exact e2
end LW
namespace LW
open PySem PySem.Spec PyProof.Rows L2 GG
theorem trunc_lt {l : Nat} {S S' : Sto} {d : D} {Q : D → Sto → Prop} (h : D.lt S.length d = true) (q : Q d (S'.take S.length)) : (trunc S.length d S').wp Q := by
  unfold trunc; rw [if_pos h, wp_ok]; exact q
theorem lt_row {n : Nat} {rs : List Int} : D.lt n (row rs) = true := by
  simp only [row, D.lt]
  induction rs with
  | nil => rfl
  | cons a r ih => simp [D.lts, D.lt, ih]
theorem e_any_row (n : Nat) (l : Nat) (k : Nat) (S : Sto) (h : Sm3 l S) (hk : k ≤ 1000) : ∃ (rs : List Int) (S' : Sto), evF pg (n + 2) 14 [.loc l, .int k] S = .ok (row rs) S' ∧ ok3 rs ∧ rs.length = k ∧ Ok3 l S S' ∧ S'.length = S.length := by
  have w : (evF pg (n + 2) 14 [.loc l, .int k] S).wp fun d S' => ∃ rs, d = row rs ∧ ok3 rs ∧ rs.length = k ∧ Ok3 l S S' ∧ S'.length = S.length := by
    (rw [u_fn (n + 1) (f := d__law_any_row) rfl]; refine wp_runF ?_)
    have f4 : (4 : Nat) ≤ sizeLine := by decide
    simp! [d__law_any_row, b__law_any_row]
    refine wp_evlc (ds := (List.range k).map fun i => .int (i : Nat)) (gs := []) (S1 := S) (fun i a S1 => Ok3 l S S1 ∧ ∃ rs : List Int, a = rs.map .int ∧ ok3 rs ∧ rs.length = i) (ei_rng1 (j := k) (k := k) (by simp! []) rfl (by omega)) ⟨.refl h, [], rfl, fun r hr => (by cases hr), rfl⟩ (fun _ _ _ _ => rfl)
      (fun i d a S1 hd j => ?_) fun ys S1 j => ?_
    · obtain ⟨o, rs, rfl, hr, hi⟩ := j
      refine ⟨[some (.loc l), some (.int k), some d], by simp! [], ?_⟩
      obtain ⟨r, S2, e, lt, o2, le⟩ := e_draw' n l 4 (S1 ++ [.lst [.int 0, .int 1, .int 2, .int 2]]) (o.sm.app _) (by decide) (by decide)
      have hl := o.sm.lt
      have hm : S2[S1.length]? = some (.lst [.int 0, .int 1, .int 2, .int 2]) := (o2.ext.at_ S1.length (by simp) (by omega)).trans (by simp)
      simp! [f4, e]
      have oo : Ok3 l S S2 := o.trans ((Ok3.app o.sm _).trans o2)
      have fin : ∀ z : Int, 0 ≤ z ∧ z ≤ 2 → opIx (.loc S1.length) (.int (r : Nat)) S2 = .ok (.int z) S2 → (opIx (.loc S1.length) (.int (r : Nat)) S2).wp fun y S2 => Ok3 l S S2 ∧ ∃ rs', rs.map D.int ++ [y] = rs'.map .int ∧ ok3 rs' ∧ rs'.length = i + 1 := fun z hz q => by
        rw [q, wp_ok]
        refine ⟨oo, rs ++ [z], by simp, fun x hx => ?_, by simp [hi]⟩
        rcases List.mem_append.mp hx with hx | hx
        · exact hr x hx
        · rw [List.mem_singleton.mp hx]; exact hz
      have hr4 : r = 0 ∨ r = 1 ∨ r = 2 ∨ r = 3 := by omega
      rcases hr4 with rfl | rfl | rfl | rfl
      · exact fin 0 (by decide) (by simp [opIx, seqOf, hm, atI, ixN])
      · exact fin 1 (by decide) (by simp [opIx, seqOf, hm, atI, ixN])
      · exact fin 2 (by decide) (by simp [opIx, seqOf, hm, atI, ixN])
      · exact fin 2 (by decide) (by simp [opIx, seqOf, hm, atI, ixN])
    · obtain ⟨o, rs, rfl, hr, hi⟩ := j
      have hs : (1000 : Nat) ≤ sizeLine := by decide
      simp only [List.length_map, List.length_range] at hi
      refine ⟨by rw [List.length_map]; omega, ?_⟩
      have q := bi_tuple (S := S1 ++ [.lst (rs.map .int)]) (d := .loc S1.length) (ds := rs.map .int) (by simp [seqOf])
      rw [q, wp_ok]
      have o2 : Ok3 l S (S1 ++ [.lst (rs.map .int)]) := o.trans (.app o.sm _)
      refine trunc_lt (l := l) (lt_row (rs := rs)) ?_
      exact ⟨rs, rfl, hr, hi, o2.take h, take_len o2⟩
  obtain ⟨d, S', e, rs, rfl, a, b, c, d⟩ := w.get
  exact ⟨rs, S', e, a, b, c, d⟩
end LW
namespace LW
open PySem PySem.Spec PyProof.Rows L2 GG
theorem strsOf_map : ∀ ys : List Str, strsOf (ys.map D.str) = some ys
  | [] => rfl
  | y :: r => by simp [strsOf, strsOf_map r]
theorem sum_ones : ∀ ys : List Str, (∀ y ∈ ys, y.length = 1) → (ys.map (·.length)).sum = ys.length
  | [], _ => rfl
  | y :: r, h => by simp [sum_ones r (fun z hz => h z (List.mem_cons_of_mem _ hz)), h y List.mem_cons_self]; omega
theorem Th.strI {l : Nat} {S : Sto} {d : D} {x : Str} (h : Th l S d (.str x)) : d = .str x := by
  have p := h.here
  cases d with
  | non => cases p.nonI
  | bl b => cases p.blI
  | int i => cases p.intI
  | str y => cases p.strI; rfl
  | tup ds => obtain ⟨ps, e, _⟩ := p.tupI; cases e
  | rol ds => obtain ⟨ps, e⟩ := p.rolI; cases e
  | loc m =>
    rcases p.locI with ⟨_, _, _, e, _⟩ | ⟨_, _, _, e⟩ <;> cases e
def signs : List Str := ["A", "Z", " ", "0", "_", "-", "aB", "\n", "?"]
theorem e_text (n : Nat) (l : Nat) (S : Sto) (h : Sm3 l S) : ∃ (z : Str) (S' : Sto), evF pg (n + 3) 13 [.loc l] S = .ok (.str z) S' ∧ z.length ≤ 100 ∧ Ok3 l S S' ∧ S'.length = S.length := by
  have w : (evF pg (n + 3) 13 [.loc l] S).wp fun d S' => ∃ z, d = .str z ∧ z.length ≤ 100 ∧ Ok3 l S S' ∧ S'.length = S.length := by
    (rw [u_fn (n + 2) (f := d__law_text) rfl]; refine wp_runF ?_)
    obtain ⟨k, S1, e1, lt1, o1, le1⟩ := e_draw' (n + 1) l 11 S h (by decide) (by decide)
    have hl := h.lt
    have ab : abc.length = 26 := by decide
    have big : (1000 : Nat) ≤ sizeLine := by decide
    simp! [d__law_text, b__law_text]
    refine wp_evlc (ds := (List.range k).map fun i => .int (i : Nat)) (gs := []) (S1 := S1) (fun i a S1 => Ok3 l S S1 ∧ ∃ ys : List Str, a = ys.map .str ∧ (∀ y ∈ ys, y.length = 1) ∧ ys.length = i) (ei_rng1 (j := k) (k := k) (by simp! [e1]) rfl (by omega)) ⟨o1, [], rfl, fun r hr => (by cases hr), rfl⟩ (fun _ _ _ _ => rfl)
      (fun i d a S2 hd j => ?_) fun ys S2 j => ?_
    · obtain ⟨o, ys, rfl, hy, hi⟩ := j
      refine ⟨[some (.loc l), some (.str abc), none, none, none, some d], by simp! [], ?_⟩
      obtain ⟨c, S3, e3, mc, o3, le3⟩ := e_pick_str n l abc S2 o.sm (by omega) (by omega)
      simp! [e3]
      refine ⟨o.trans o3, ys ++ [⟨#[c]⟩], by simp, fun y hy' => ?_, by simp [hi]⟩
      rcases List.mem_append.mp hy' with q | q
      · exact hy y q
      · rw [List.mem_singleton.mp q]; rfl
    · obtain ⟨o, ys, rfl, hy, hi⟩ := j
      simp only [List.length_map, List.length_range] at hi
      refine ⟨by rw [List.length_map]; omega, ?_⟩
      have jl := PySem.W.KT.join_ones ys hy
      have q1 : (ys.map (·.length)).sum + ys.length * (Str.ofString "").length ≤ 16777216 := by
        have z : (Str.ofString "").length = 0 := by decide
        rw [sum_ones ys hy, z]; omega
      have q2 := me_join (S := S2 ++ [.lst (ys.map .str)]) (a := "") (d := .loc S2.length) (by simp [seqOf]) (strsOf_map ys) q1
      generalize Txt.join (Str.ofString "") ys = z at jl q2
      have o2 : Ok3 l S (S2 ++ [.lst (ys.map .str)]) := o.trans (.app o.sm _)
      obtain ⟨w1, S3, e3, lt3, o3, le3⟩ := e_draw' (n + 1) l 5 (S2 ++ [.lst (ys.map .str)]) o2.sm (by decide) (by decide)
      obtain ⟨w2, S4, e4, lt4, o4, le4⟩ := e_draw' (n + 1) l ((z.length : Int) + 1) S3 o3.sm (by omega) (by omega)
      have zl : z.length ≤ sizeLine := by omega
      have o5 : Ok3 l S S4 := o2.trans (o3.trans o4)
      rw [q2]
      simp! [e3, e4, zl]
      by_cases hw : w1 = 0
      · subst hw
        have nine : (9 : Nat) ≤ sizeLine := by decide
        have qa : opSl (.str z) none (some (w2 : Int)) S4 = .ok (.str (cutS z none (some (w2 : Int)))) S4 := by simp [opSl, zl]
        have ca := cutS_length z none (some (w2 : Int))
        have cb := cutS_length z (some (w2 : Int)) none
        obtain ⟨d, p, S5, e5, m5, t5, o6⟩ := e_pick n l S4.length (signs.map .str) (signs.map .str) (S4 ++ [.lst (signs.map .str)]) (o4.sm.app _) (by simp) (by have := o4.sm.lt; omega) (by decide) (by decide) (All2.mapL signs fun _ _ => .str)
        obtain ⟨y, hy1, rfl⟩ := List.mem_map.mp m5
        have yl : y.length ≤ 2 := by
          have : ∀ y ∈ signs, y.length ≤ 2 := by decide
          exact this y hy1
        have := LW.Th.strI t5
        subst this
        have qb : opSl (.str z) (some (w2 : Int)) none S5 = .ok (.str (cutS z (some (w2 : Int)) none)) S5 := by simp [opSl, zl]
        generalize cutS z none (some (w2 : Int)) = za at qa ca
        generalize cutS z (some (w2 : Int)) none = zb at qb cb
        have s1 : za.length + y.length ≤ sizeLine := by omega
        have s2 : (za ++ y).length = za.length + y.length := Str.length_append _ _
        have s3 : (za ++ y).length + zb.length ≤ sizeLine := by omega
        simp only [signs, List.map_cons, List.map_nil] at e5
        simp! [qa, nine, e5, s1, qb, s3]
        have o7 : Ok3 l S S5 := o5.trans ((Ok3.app o4.sm _).trans o6)
        exact ⟨by rw [Str.length_append]; omega, o7.take h, by have := take_len o7; simpa using this⟩
      · simp! [hw]
        exact ⟨by omega, o5.take h, by have := take_len o5; simpa using this⟩
  obtain ⟨d, S', e, z, rfl, a, b, c⟩ := w.get
  exact ⟨z, S', e, a, b, c⟩
end LW
namespace LW
open PySem PySem.Spec PyProof.Rows L2 GG
def isAX : D → Bool
  | .str x => decide (x = "a") || decide (x = "x")
  | _ => false
theorem odd_str {x : Str} (h : PyData.str x ∈ odds) : x ∈ (["", "a", "x", "A", "a b"] : List Str) := by
  simp only [odds, List.mem_cons, List.not_mem_nil, or_false, PyData.str.injEq, reduceCtorEq, false_or] at h
  simp only [List.mem_cons, List.not_mem_nil, or_false]
  exact h
theorem due_name (z : Str) : (decide (0 < z.length) && decide (z.length < 9) && (z.cps.toList.filter fun c => !goodCp c).isEmpty) = isName (.str z) := by
  simp only [isName]
  congr 1
  · rw [Bool.eq_iff_iff]; simp; omega
  · rw [Bool.eq_iff_iff]; simp only [List.isEmpty_iff, List.filter_eq_nil_iff, List.all_eq_true, Bool.not_eq_true', Bool.not_eq_false]
theorem e_names_right (n : Nat) (l : Nat) (S : Sto) (h : Sm3 l S) : ∃ (S' : Sto), evF pg (n + 5) 15 [.loc l] S = .ok (.bl true) S' ∧ Ok3 l S S' ∧ S'.length = S.length := by
  (rw [u_fn (n + 4) (f := d__law_names_right) rfl]; unfold runF)
  obtain ⟨z, S1, e1, hz, o1, le1⟩ := e_text (n + 1) l S h
  obtain ⟨d, p, S2, e2, mp, td, o2⟩ := e_odd (n + 1) l S1 o1.sm
  have big : (1000 : Nat) ≤ sizeLine := by decide
  have zl : z.length ≤ sizeLine := by omega
  have o3 : Ok3 l S S2 := o1.trans o2
  have hl : z.cps.toList.length = z.length := by simp [Str.length]
  -- the comprehension
  have e3 := ev_lc_filter (cl := evF pg (n + 4)) (ε := [some (.loc l), some (.str abc), none, some (.str z), some d, none]) (S := S2) (e := .c (.int 1)) (own := [5]) (tg := .n 5) (it := .itv (.v 3)) (ifs := [.cmp .NotIn (.v 5) (.v 1)]) (p := (z.cps.toList.map fun c => .str ⟨#[c]⟩, [])) (S1 := S2)
    (fun x => match x with | .str y => (match y.cps.toList with | [c] => !goodCp c | _ => true) | _ => true) (fun _ => .int 1) (by simp! []) rfl (by simpa [hl] using zl)
    (fun x hx => by
      simp only [List.mem_map] at hx
      obtain ⟨c, _, rfl⟩ := hx
      exact ⟨[some (.loc l), some (.str abc), none, some (.str z), some d, some (.str ⟨#[c]⟩)], by simp! [], by simp! [goodCp], by simp! []⟩)
  have e4 : ((z.cps.toList.map fun c => D.str ⟨#[c]⟩).filter (fun x => match x with | .str y => (match y.cps.toList with | [c] => !goodCp c | _ => true) | _ => true)).map (fun _ => D.int 1) = ((z.cps.toList.filter fun c => !goodCp c).map fun _ => D.int 1) := by
    rw [List.filter_map, List.map_map]; rfl
  simp only at e3
  rw [e4] at e3
  have dn := due_name z
  have nm := e_is_name_str (n + 3) z
  generalize hF : (z.cps.toList.filter fun c => !goodCp c) = F at e3 dn
  have e5 := eq_ones (S := S2 ++ [O.lst (F.map fun _ => D.int 1)] ++ [.lst []]) (l := S2.length) (m := S2.length + 1) (xs := F) (by simp) (by simp)
  simp only [List.append_assoc, List.cons_append, List.nil_append] at e5
  -- the odd thing
  have key : ∀ S3, Ok3 l S2 S3 → ∃ b, isiF .str d S3 = .ok (.bl b) S3 ∧ evF pg (n + 4) 2 [d] S3 = .ok (.bl (if b = true then isAX d else false)) S3 ∧ (b = true → ∃ x, d = .str x) := fun S3 o => by
    have t3 := td.mono o.ext
    have ty := ty_py t3.here
    cases d with
    | str x =>
      have e := t3.here.strI
      rw [e] at mp
      have mx := odd_str mp
      have xl : x.length ≤ sizeLine := by
        have : ∀ x ∈ (["", "a", "x", "A", "a b"] : List Str), x.length ≤ 1000 := by decide
        have := this x mx
        omega
      refine ⟨true, by simp! [], ?_, fun _ => ⟨x, rfl⟩⟩
      rw [e_is_name_str (n + 3) x S3 xl]
      have : ∀ x ∈ (["", "a", "x", "A", "a b"] : List Str), isName (.str x) = (decide (x = "a") || decide (x = "x")) := by decide
      rw [this x mx]; rfl
    | loc m =>
      refine ⟨false, ?_, e_is_name_no (n + 3) _ S3 ty (fun z q => by cases q), fun q => by cases q⟩
      cases e : S3[m]? with
      | none => simp [tyName, e] at ty
      | some o => cases o <;> simp! [isiF, tyName, e]
    | _ => exact ⟨false, by simp! [], e_is_name_no (n + 3) _ S3 ty (fun z q => by cases q), fun q => by cases q⟩
  -- the end, from the place where the first test is passed
  have fin : ∀ S3 : Sto, Ok3 l S2 S3 → ∀ due : Bool, due = isName (.str z) →
      (match ((if (!decide (PyData.shown (.bool (isName (.str z))) = PyData.shown (.bool due))) = true then OutS.ok (.rt (.bl false)) S3 else .ok (.nx [some (.loc l), some (.str abc), some (.bl due), some (.str z), some d, none]) S3).seq (evSs (evF pg (n + 4)) (b__law_names_right.drop 4))) with
        | .ok (.rt d) S1 => trunc S.length d S1
        | .ok (.nx _) S1 => .ok .non (S1.take S.length)
        | .ok _ _ => .bad
        | .exc c v _ S1 => if ltX S.length v = true then .exc c v (S1.take S.length) else .exc c v S1
        | .bad => .bad) = .ok (.bl true) (S3.take S.length) := fun S3 o due hd => by
    obtain ⟨b, k1, k2, k3⟩ := key S3 o
    have ty := ty_py (td.mono o.ext).here
    have kb := e_is_bit (n + 1) d S3 ty
    have ko := e_own_bit (n + 3) d S3 ty
    subst hd
    cases b with
    | false =>
      rw [if_neg Bool.false_ne_true] at k2
      simp! [b__law_names_right, k1, k2, kb, ko]
    | true =>
      obtain ⟨x, rfl⟩ := k3 rfl
      rw [if_pos rfl] at k2
      have c1 : decide (Str.ofString "a" = x) = decide (x = Str.ofString "a") := by rw [Bool.eq_iff_iff]; simp [eq_comm]
      have c2 : decide (Str.ofString "x" = x) = decide (x = Str.ofString "x") := by rw [Bool.eq_iff_iff]; simp [eq_comm]
      simp! [b__law_names_right, k1, k2, kb, ko, flatD, eqFD, dec_beq, c1, c2, isAX]
  by_cases h1 : 0 < z.length
  · have h1' : (0 : Int) < z.length := by omega
    by_cases h2 : z.length < 9
    · have h2' : (z.length : Int) < 9 := by omega
      have o4 : Ok3 l S2 (S2 ++ [O.lst (F.map fun _ => D.int 1), .lst []]) := .app o2.sm _
      refine ⟨_, ?_, (o3.trans o4).take h, take_len (o3.trans o4)⟩
      have f := fin _ o4 F.isEmpty (by rw [← dn]; simp [h1, h2])
      rw [← f]
      simp! [d__law_names_right, b__law_names_right, e1, e2, zl, h1, h2, h1', h2', e3, e5, nm _ zl]
      try rfl
    · have h2' : ¬ (z.length : Int) < 9 := by omega
      refine ⟨_, ?_, o3.take h, take_len o3⟩
      have f := fin _ (.refl o2.sm) false (by rw [← dn]; simp [h1, h2])
      rw [← f]
      simp! [d__law_names_right, b__law_names_right, e1, e2, zl, h1, h2, h1', h2', nm _ zl]
      try rfl
  · have h1' : ¬ (0 : Int) < z.length := by omega
    refine ⟨_, ?_, o3.take h, take_len o3⟩
    have f := fin _ (.refl o2.sm) false (by rw [← dn]; simp [h1])
    rw [← f]
    simp! [d__law_names_right, b__law_names_right, e1, e2, zl, h1, h1', nm _ zl]
    try rfl
end LW
namespace LW
open PySem PySem.Spec PyProof.Rows L2 GG
def goodP (W k : Nat) (p : PyData) : Bool := p.showable && decide (p.depth ≤ k) && p.leavesShort 60 && decide (p.weight ≤ W)
theorem good_odds : ∀ p ∈ odds, goodP 200 3 p = true := by
  have : odds.all (goodP 200 3) = true := by decide +kernel
  exact List.all_eq_true.mp this
def bents (x : Int) : List PyData := [.int (1 - x), .int (x + 1), .int (x - 1), .bool (decide (x = 1)), .str (toString x), .none, .int (2 * x)]
theorem good_bents : ∀ x : Int, 0 ≤ x → x ≤ 2 → ∀ p ∈ bents x, goodP 200 0 p = true := fun x h1 h2 => by
  have : x = 0 ∨ x = 1 ∨ x = 2 := by omega
  have k0 : (bents 0).all (goodP 200 0) = true := by decide +kernel
  have k1 : (bents 1).all (goodP 200 0) = true := by decide +kernel
  have k2 : (bents 2).all (goodP 200 0) = true := by decide +kernel
  rcases this with rfl | rfl | rfl
  · exact List.all_eq_true.mp k0
  · exact List.all_eq_true.mp k1
  · exact List.all_eq_true.mp k2
theorem e_bent_int (n : Nat) (l : Nat) (x : Int) (S : Sto) (h : Sm3 l S) (h1 : 0 ≤ x) (h2 : x ≤ 2) : ∃ (d : D) (p : PyData) (S' : Sto), evF pg (n + 3) 12 [.loc l, .int x, .int 1] S = .ok d S' ∧ goodP 200 0 p = true ∧ Th l S' d p ∧ Ok3 l S S' := by
  (rw [u_fn (n + 2) (f := d__law_bent) rfl]; unfold runF)
  have hl := h.lt
  obtain ⟨d, p, S1, e, m, t, o⟩ := e_pick n l S.length [.int (1 - x), .int (x + 1), .int (x - 1), .bl (decide (x = 1)), .str (toString x), .non, .int (2 * x)] (bents x) (S ++ [.lst [.int (1 - x), .int (x + 1), .int (x - 1), .bl (decide (x = 1)), .str (toString x), .non, .int (2 * x)]]) (h.app _) (by simp) (by omega) (by simp) (by simp)
    (.cons .int (.cons .int (.cons .int (.cons .bl (.cons .str (.cons .non (.cons .int .nil)))))))
  obtain ⟨d2, S2, e2, o2, t2⟩ := trunc_th h ((Ok3.app h _).trans o) t
  refine ⟨d2, p, S2, ?_, good_bents x h1 h2 p m, t2, o2⟩
  have lg : x.natAbs.log2 < 1920 := by
    have : x = 0 ∨ x = 1 ∨ x = 2 := by omega
    rcases this with rfl | rfl | rfl <;> decide
  have seven : (7 : Nat) ≤ sizeLine := by decide
  have m1 : (-18446744073709551616 : Int) < x := by omega
  have m2 : x < (18446744073709551616 : Int) := by omega
  rw [show toString x = x.repr from rfl] at e
  simp! [d__law_bent, b__law_bent, lg, seven, m1, m2, e]
  exact e2
theorem cut_ints (rs : List Int) (lo hi : Option Int) : ∃ rs1 : List Int, GG.cutD (rs.map .int) lo hi = rs1.map .int ∧ (∀ r ∈ rs1, r ∈ rs) ∧ rs1.length ≤ rs.length := by
  refine ⟨(rs.drop (HT.sIx (rs.map D.int).length 0 lo)).take (HT.sIx (rs.map D.int).length (rs.map D.int).length hi - HT.sIx (rs.map D.int).length 0 lo), ?_, fun r hr => List.mem_of_mem_drop (List.mem_of_mem_take hr), ?_⟩
  · unfold GG.cutD; rw [List.map_take, List.map_drop]
  · rw [List.length_take, List.length_drop]; omega
/-- a short row of small numbers -/
structure Sml (k : Nat) (rs : List Int) : Prop where
  ok : ok3 rs
  le : rs.length ≤ k
theorem Sml.app {k m : Nat} {rs es : List Int} (h : Sml k rs) (h' : Sml m es) : Sml (k + m) (rs ++ es) :=
  ⟨fun r hr => (List.mem_append.mp hr).elim (h.ok r) (h'.ok r), by rw [List.length_append]; have := h.le; have := h'.le; omega⟩
theorem Sml.cut {k : Nat} {rs : List Int} (h : Sml k rs) (lo hi : Option Int) : ∃ rs1, GG.cutD (rs.map .int) lo hi = rs1.map .int ∧ Sml k rs1 := by
  obtain ⟨rs1, e, m, le⟩ := cut_ints rs lo hi
  exact ⟨rs1, e, fun r hr => h.ok r (m r hr), Nat.le_trans le h.le⟩
theorem Th.row {l : Nat} {S : Sto} (rs : List Int) : Th l S (row rs) (.tuple (rs.map .int)) := .tup (All2.mapL rs fun _ _ => .int)
theorem good_all (W k : Nat) : ∀ (m : Nat) (ps : List PyData), ps.length ≤ m → (∀ p ∈ ps, goodP W k p = true) → PyData.showableAll ps = true ∧ PyData.depthAll ps ≤ k ∧ PyData.leavesShortAll 60 ps = true ∧ PyData.weightAll ps ≤ m * (W + 1)
  | m, [], _, _ => ⟨rfl, Nat.zero_le _, rfl, Nat.zero_le _⟩
  | 0, p :: r, h, _ => by simp at h
  | m + 1, p :: r, h, a => by
    obtain ⟨a1, a2, a3, a4⟩ := good_all W k m r (by simpa using h) fun q hq => a q (List.mem_cons_of_mem _ hq)
    have g := a p List.mem_cons_self
    simp only [goodP, Bool.and_eq_true, decide_eq_true_eq] at g
    refine ⟨by simp [PyData.showableAll, g, a1], ?_, by simp [PyData.leavesShortAll, g, a3], ?_⟩
    · simp only [PyData.depthAll]; omega
    · simp only [PyData.weightAll]
      have := g.2
      rw [Nat.add_mul, Nat.one_mul]
      omega
theorem good_tup {W k m : Nat} {ps : List PyData} (h : ps.length ≤ m) (a : ∀ p ∈ ps, goodP W k p = true) : goodP (m * (W + 1)) (k + 1) (.tuple ps) = true := by
  obtain ⟨a1, a2, a3, a4⟩ := good_all W k m ps h a
  simp only [goodP, PyData.showable, PyData.leavesShort, Bool.and_eq_true]
  exact ⟨⟨⟨a1, decide_eq_true (by simp only [PyData.depth]; omega)⟩, a3⟩, decide_eq_true (by simp only [PyData.weight]; exact a4)⟩
theorem good_list {W k m : Nat} {ps : List PyData} (h : ps.length ≤ m) (a : ∀ p ∈ ps, goodP W k p = true) : goodP (m * (W + 1)) (k + 1) (.list ps) = true := by
  obtain ⟨a1, a2, a3, a4⟩ := good_all W k m ps h a
  simp only [goodP, PyData.showable, PyData.leavesShort, Bool.and_eq_true]
  exact ⟨⟨⟨a1, decide_eq_true (by simp only [PyData.depth]; omega)⟩, a3⟩, decide_eq_true (by simp only [PyData.weight]; exact a4)⟩
theorem good_le {W k W' k' : Nat} {p : PyData} (h : goodP W k p = true) (hw : W ≤ W') (hk : k ≤ k') : goodP W' k' p = true := by
  simp only [goodP, Bool.and_eq_true, decide_eq_true_eq] at h ⊢
  exact ⟨⟨⟨h.1.1.1, by omega⟩, h.1.2⟩, by omega⟩
theorem good_ints {rs : List Int} (h : ok3 rs) : ∀ p ∈ rs.map PyData.int, goodP 200 3 p = true := fun p hp => by
  obtain ⟨r, hr, rfl⟩ := List.mem_map.mp hp
  have := h r hr
  have q : r = 0 ∨ r = 1 ∨ r = 2 := by omega
  rcases q with rfl | rfl | rfl <;> decide +kernel
/-- a thing that the law may be asked of -/
def Tg5 (l : Nat) (S : Sto) (d : D) : Prop := ∃ p, Th l S d p ∧ goodP 4020 4 p = true
theorem tg_row {l : Nat} {S : Sto} {rs : List Int} (h : Sml 20 rs) : Tg5 l S (row rs) := ⟨_, Th.row rs, good_tup (m := 20) (by simpa using h.le) (good_ints h.ok)⟩
theorem tg_odd {l : Nat} {S : Sto} {d : D} {p : PyData} (t : Th l S d p) (m : p ∈ odds) : Tg5 l S d := ⟨p, t, good_le (good_odds p m) (by decide) (by decide)⟩
end LW
namespace LW
open PySem PySem.Spec PyProof.Rows L2 GG
theorem add_row {S : Sto} {rs es : List Int} {k m : Nat} (h : Sml k rs) (h' : Sml m es) (hk : k + m ≤ 1000) : opAdd (.tup (rs.map .int)) (.tup (es.map .int)) S = .ok (row (rs ++ es)) S := by
  have big : (1000 : Nat) ≤ sizeLine := by decide
  have := h.le
  have := h'.le
  rw [add_tup, if_pos (by simp only [List.length_map]; omega)]
  simp [row]
theorem e_bent (n : Nat) (l : Nat) (rs : List Int) (S : Sto) (h : Sm3 l S) (hs : Sml 8 rs) : ∃ (d : D) (S' : Sto), evF pg (n + 4) 12 [.loc l, row rs, .int 2] S = .ok d S' ∧ Tg5 l S' d ∧ Ok3 l S S' := by
  (rw [u_fn (n + 3) (f := d__law_bent) rfl]; unfold runF)
  have hl := h.lt
  have gv : ∀ {d : D} {S1 : Sto}, Tg5 l S1 d → Ok3 l S S1 → ∃ d2 S2, trunc S.length d S1 = .ok d2 S2 ∧ Tg5 l S2 d2 ∧ Ok3 l S S2 := fun {d S1} ⟨p, t, g⟩ o => by
    obtain ⟨d2, S2, e2, o2, t2⟩ := trunc_th h o t
    exact ⟨d2, S2, e2, ⟨p, t2, g⟩, o2⟩
  cases hz : rs with
  | nil =>
    obtain ⟨d, p, S1, e, m, t, o⟩ := e_odd n l S h
    obtain ⟨d2, S2, e2, t2, o2⟩ := gv (tg_odd t m) o
    refine ⟨d2, S2, ?_, t2, o2⟩
    simp! [d__law_bent, b__law_bent, row, e]
    exact e2
  | cons r0 r1 =>
    rw [← hz]
    have pos : 0 < rs.length := by rw [hz]; simp
    have pos' : (0 : Int) < rs.length := by omega
    have le8 := hs.le
    obtain ⟨a, S1, e1, lt1, o1, le1⟩ := e_draw' (n + 2) l rs.length S h (by omega) (by omega)
    obtain ⟨w, S2, e2, lt2, o2, le2⟩ := e_draw' (n + 2) l 7 S1 o1.sm (by decide) (by decide)
    have o3 : Ok3 l S S2 := o1.trans o2
    have alt : a < rs.length := by omega
    obtain ⟨xa, ca, sa⟩ := hs.cut none (some (a : Int))
    obtain ⟨xb, cb, sb⟩ := hs.cut (some (a : Int)) none
    obtain ⟨xc, cc, sc⟩ := hs.cut (some ((a : Int) + 1)) none
    have ia : ∀ S', opIx (.tup (rs.map .int)) (.int (a : Nat)) S' = .ok (.int rs[a]) S' := fun S' => by
      simp [opIx, seqOf, atI, ixN, alt]
    have sl : ∀ S' lo hi, opSl (.tup (rs.map .int)) lo hi S' = .ok (.tup (GG.cutD (rs.map .int) lo hi)) S' := fun S' lo hi => rfl
    have r1' : Sml 1 [rs[a]] := ⟨fun r hr => by rw [List.mem_singleton.mp hr]; exact hs.ok _ (List.getElem_mem alt), Nat.le_refl _⟩
    have slA : ∀ S', opSl (.tup (rs.map .int)) none (some (a : Int)) S' = .ok (.tup (xa.map .int)) S' := fun S' => by rw [sl, ca]
    have slB : ∀ S', opSl (.tup (rs.map .int)) (some (a : Int)) none S' = .ok (.tup (xb.map .int)) S' := fun S' => by rw [sl, cb]
    have slC : ∀ S', opSl (.tup (rs.map .int)) (some ((a : Int) + 1)) none S' = .ok (.tup (xc.map .int)) S' := fun S' => by rw [sl, cc]
    have one : (1 : Nat) ≤ sizeLine := by decide
    have la := sa.le
    have lb := sb.le
    have lc := sc.le
    have big : (1000 : Nat) ≤ sizeLine := by decide
    have hw : w = 0 ∨ w = 1 ∨ w = 2 ∨ w = 3 ∨ (w ≠ 0 ∧ w ≠ 1 ∧ w ≠ 2 ∧ w ≠ 3) := by omega
    rcases hw with rfl | rfl | rfl | rfl | ⟨n0, n1, n2, n3⟩
    · obtain ⟨d2, S3, e3, t3, o4⟩ := gv (tg_row (S := S2) (l := l) (rs := xa ++ xc) ⟨(sa.app sc).ok, by have := (sa.app sc).le; omega⟩) o3
      refine ⟨d2, S3, ?_, t3, o4⟩
      have q : xa.length + xc.length ≤ sizeLine := by omega
      simp! [d__law_bent, b__law_bent, row, pos, pos', e1, e2, slA, slC, q]
      simpa [row] using e3
    · obtain ⟨d2, S3, e3, t3, o4⟩ := gv (tg_row (S := S2) (l := l) (rs := (xa ++ [rs[a]]) ++ xb) ⟨((sa.app r1').app sb).ok, by have := ((sa.app r1').app sb).le; omega⟩) o3
      refine ⟨d2, S3, ?_, t3, o4⟩
      have q : xa.length + 1 ≤ sizeLine := by omega
      have q2 : xa.length + (1 + xb.length) ≤ sizeLine := by omega
      simp! [d__law_bent, b__law_bent, row, pos, pos', e1, e2, slA, slB, ia, q, q2]
      simpa [row] using e3
    · have sr : Sml 8 xb.reverse := ⟨fun r hr => sb.ok r (List.mem_reverse.mp hr), by simpa using lb⟩
      obtain ⟨d2, S3, e3, t3, o4⟩ := gv (tg_row (S := S2) (l := l) (rs := xa ++ xb.reverse) ⟨(sa.app sr).ok, by have := (sa.app sr).le; omega⟩) o3
      refine ⟨d2, S3, ?_, t3, o4⟩
      have q : xa.length + xb.length ≤ sizeLine := by omega
      have rv : ∀ S', opRev (.tup (xb.map .int)) S' = .ok (.tup (xb.map .int).reverse) S' := fun S' => rfl
      simp! [d__law_bent, b__law_bent, row, pos, pos', e1, e2, slA, slB, rv, q]
      simpa [row] using e3
    · have tl : Tg5 l (S2 ++ [.lst (rs.map .int)]) (.loc S2.length) := ⟨_, Th.new o2.sm.lt (All2.mapL rs fun _ _ => .int), good_list (m := 20) (by simp; omega) (good_ints hs.ok)⟩
      obtain ⟨d2, S3, e3, t3, o4⟩ := gv tl (o3.trans (.app o2.sm _))
      refine ⟨d2, S3, ?_, t3, o4⟩
      have bl : ∀ S', biF .list [.tup (rs.map .int)] S' = .ok (.loc S'.length) (S' ++ [.lst (rs.map .int)]) := fun S' => bi_list rfl
      simp! [d__law_bent, b__law_bent, row, pos, pos', e1, e2, bl]
      exact e3
    · have ha := hs.ok _ (List.getElem_mem alt)
      obtain ⟨d, p, S3, e3, g3, t3, o4⟩ := e_bent_int n l rs[a] S2 o2.sm ha.1 ha.2
      have o5 : Ok3 l S S3 := o3.trans o4
      have tt : Tg5 l S3 (.tup (xa.map .int ++ [d] ++ xc.map .int)) := by
        refine ⟨_, .tup (((All2.mapL xa fun _ _ => .int).append (.cons t3 .nil)).append (All2.mapL xc fun _ _ => .int)), good_tup (m := 20) (W := 200) (k := 3) ?_ fun q hq => ?_⟩
        · simp; omega
        · rcases List.mem_append.mp hq with hq | hq
          · rcases List.mem_append.mp hq with hq | hq
            · exact good_ints sa.ok q hq
            · rw [List.mem_singleton.mp hq]; exact good_le g3 (Nat.le_refl _) (by decide)
          · exact good_ints sc.ok q hq
      obtain ⟨d2, S4, e4, t4, o6⟩ := gv tt o5
      refine ⟨d2, S4, ?_, t4, o6⟩
      have q : xa.length + 1 ≤ sizeLine := by omega
      have q2 : xa.length + (1 + xc.length) ≤ sizeLine := by omega
      have m0 : ¬ (w : Int) = 0 := by omega
      have m1 : ¬ (w : Int) = 1 := by omega
      have m2 : ¬ (w : Int) = 2 := by omega
      have m3 : ¬ (w : Int) = 3 := by omega
      simp! [d__law_bent, b__law_bent, row, pos, pos', e1, e2, n0, m0, m1, m2, m3, slA, slC, ia, e3, q, q2]
      simpa using e4
end LW
namespace LW
open PySem PySem.Spec PyProof.Rows L2 GG
theorem ask_tg {l : Nat} {S : Sto} {d : D} (h : Tg5 l S d) : Ask S d := by
  obtain ⟨p, t, g⟩ := h
  refine ⟨ty_py t.here, fun x hx => ?_, ?_⟩
  · cases d with
    | tup ds =>
      obtain ⟨ps, e, a⟩ := t.tupI
      obtain ⟨i, hi⟩ := List.mem_iff_getElem?.mp hx
      obtain ⟨q, _, tq⟩ := a.get hi
      exact ty_py tq.here
    | _ => cases hx
  · have big : (5000 : Nat) ≤ sizeLine := by decide
    cases d with
    | tup ds =>
      obtain ⟨ps, e, a⟩ := t.tupI
      subst e
      simp only [goodP, Bool.and_eq_true] at g
      have : ∀ ps : List PyData, ps.length ≤ PyData.weightAll ps := fun ps => by
        induction ps with
        | nil => exact Nat.le_refl _
        | cons p r ih => simp only [PyData.weightAll, List.length_cons]; omega
      have q := this ps
      have q2 := a.length
      have q3 := of_decide_eq_true g.2
      simp only [PyData.weight] at q3
      simp only [subs]
      omega
    | _ => exact Nat.zero_le _
theorem both_cont (n : Nat) (rs : List Int) (d : D) (hr : ok3 rs) (hl : rs.length ≤ sizeLine) : ∃ b, ∀ S, Ask S d → evF pg (n + 5) 6 [row rs, d] S = .ok (.bl b) S ∧ evF pg (n + 5) 17 [row rs, d] S = .ok (.bl b) S := by
  cases hd : isRow d with
  | false => exact ⟨false, fun S h => ⟨e_cont_no n rs d S h hr hl hd, e_continued_no (n + 3) rs d S h hd⟩⟩
  | true =>
    obtain ⟨es, rfl, he⟩ := of_isRow hd
    refine ⟨decide (es.length = rs.length) && cont2 rs es, fun S h => ?_⟩
    have hl2 : es.length ≤ sizeLine := by have := h.2.2; simpa [subs, row] using this
    exact ⟨e_cont_row n rs es S hr hl he hl2, e_continued_row (n + 3) rs es S hr hl he hl2⟩
theorem repr_pair {l : Nat} {S : Sto} {d : D} {p : PyData} {rs : List Int} (t : Th l S d p) (g : goodP 4020 4 p = true) (hs : Sml 8 rs) : biF .repr [.tup [row rs, d]] S = .ok (.str (PyData.shown (.tuple [.tuple (rs.map .int), p]))) S := by
  have gr : goodP 4020 4 (.tuple (rs.map .int)) = true := good_tup (m := 20) (W := 200) (k := 3) (by simp; have := hs.le; omega) (good_ints hs.ok)
  have g2 : goodP 8042 5 (.tuple [.tuple (rs.map .int), p]) = true := good_tup (m := 2) (W := 4020) (k := 4) (by simp) fun q hq => by
    rcases List.mem_cons.mp hq with rfl | hq
    · exact gr
    · rw [List.mem_singleton.mp hq]; exact g
  have t2 : Th l S (.tup [row rs, d]) (.tuple [.tuple (rs.map .int), p]) := .tup (.cons (Th.row rs) (.cons t .nil))
  generalize PyData.tuple [.tuple (rs.map .int), p] = q at g2 t2
  simp only [goodP, Bool.and_eq_true, decide_eq_true_eq] at g2
  obtain ⟨⟨⟨g1, g2⟩, g3⟩, g4⟩ := g2
  have e := t2.here.py (by omega)
  have ln := PyData.shown_le 60 (by decide) q g3
  have big : (600000 : Nat) ≤ sizeLine := by decide
  have c : q.showable = true ∧ q.depth ≤ 60 ∧ q.shown.length ≤ sizeLine := ⟨g1, by omega, by omega⟩
  simp only [biF, e]
  rw [if_pos c]
theorem repr_two {S : Sto} {m : Nat} {a b : Bool} (h : S[m]? = some (.lst [.bl a, .bl b])) : biF .repr [.loc m] S = .ok (.str (PyData.shown (.list [.bool a, .bool b]))) S := by
  have e : py S (.loc m) = some (.list [.bool a, .bool b]) := (Py.lst h (.cons .bl (.cons .bl .nil))).py (by simp [PyData.depth, PyData.depthAll])
  have c : PyData.showable (.list [.bool a, .bool b]) = true ∧ PyData.depth (.list [.bool a, .bool b]) ≤ 60 ∧ (PyData.shown (.list [.bool a, .bool b])).length ≤ sizeLine := by cases a <;> cases b <;> decide +kernel
  simp only [biF, e]
  rw [if_pos c]
abbrev turnB : List Sm := [.par 5 6 (.bi .repr [(.tup [(.v 1), (.v 4)])]) (.lst [(.call 16 [(.v 4)]), (.call 17 [(.v 1), (.v 4)])]), .ife (.or (.cmp .NotEq (.bi .repr [(.lst [(.call 5 [(.v 4)]), (.call 6 [(.v 1), (.v 4)])])]) (.bi .repr [(.v 6)])) [(.cmp .NotEq (.bi .repr [(.tup [(.v 1), (.v 4)])]) (.v 5))]) [.ret (.c (.bl false))] []]
theorem turn_ok (n l : Nat) (rs : List Int) (d x2 x3 : D) (o5 o6 o7 : Option D) (S : Sto) (h : Sm3 l S) (hs : Sml 8 rs) (ht : Tg5 l S d) :
    ∃ (y5 y6 : D) (S' : Sto), evSs (evF pg (n + 5)) turnB [some (.loc l), some (row rs), some x2, some x3, some d, o5, o6, o7] S = .ok (.nx [some (.loc l), some (row rs), some x2, some x3, some d, some y5, some y6, o7]) S' ∧ Ok3 l S S' := by
  obtain ⟨p, t, g⟩ := id ht
  have hl8 := hs.le
  have big : (1000 : Nat) ≤ sizeLine := by decide
  obtain ⟨b, hb⟩ := both_cont n rs d hs.ok (by omega)
  have k1 := e_own_row (n + 4) d S (ask_tg ht)
  have k2 := (hb S (ask_tg ht)).2
  have r1 := repr_pair t g hs
  have x1 : Ok3 l S (S ++ [.lst [.bl (isRow d), .bl b]]) := .app h _
  have ht2 : Tg5 l (S ++ [.lst [.bl (isRow d), .bl b]]) d := ⟨p, t.mono x1.ext, g⟩
  have k3 := e_is_row (n + 1) d _ (ask_tg ht2)
  have k4 := (hb _ (ask_tg ht2)).1
  have x4 : Ok3 l S (S ++ [.lst [.bl (isRow d), .bl b], .lst [.bl (isRow d), .bl b]]) := .app h _
  have r2 := repr_pair (t.mono x4.ext) g hs
  have r3 := repr_two (S := S ++ [.lst [.bl (isRow d), .bl b], .lst [.bl (isRow d), .bl b]]) (m := S.length + 1) (a := isRow d) (b := b) (by simp)
  have r4 := repr_two (S := S ++ [.lst [.bl (isRow d), .bl b], .lst [.bl (isRow d), .bl b]]) (m := S.length) (a := isRow d) (b := b) (by simp)
  refine ⟨.str (PyData.shown (.tuple [.tuple (rs.map .int), p])), .loc S.length, _, ?_, x4⟩
  simp! [r1, r2, r3, r4, k1, k2, k3, k4]
end LW
namespace LW
open PySem PySem.Spec PyProof.Rows L2 GG
/-- the numbers filled in -/
theorem e_filled (n l : Nat) (rs : List Int) (o2 o3 o4 o5 o6 : Option D) (S : Sto) (h : Sm3 l S) (hs : Sml 8 rs) :
    (evE (evF pg (n + 1)) (.lc (.ife (.cmp .Lt (.v 7) (.c (.int 2))) (.v 7) (.call 8 [(.v 0), (.c (.int 3))])) [7] (.n 7) (.itv (.v 1)) []) [some (.loc l), some (row rs), o2, o3, o4, o5, o6, none] S).wp fun d S' =>
      ∃ fs : List Int, ∃ S1, d = .loc S1.length ∧ S' = S1 ++ [.lst (fs.map .int)] ∧ Ok3 l S S1 ∧ Sml 8 fs ∧ fs.length = rs.length ∧ cont2 rs fs = true := by
  have hz := hs.le
  refine wp_evlc (ds := rs.map .int) (gs := []) (S1 := S) (fun i a S1 => Ok3 l S S1 ∧ ∃ fs : List Int, a = fs.map .int ∧ ok3 fs ∧ fs.length = i ∧ cont2 (rs.take i) fs = true) (by simp! [row]) ⟨.refl h, [], rfl, fun r hr => (by cases hr), rfl, by simp [cont2]⟩ (fun _ _ _ _ => rfl)
    (fun i d a S1 hd j => ?_) fun ys S1 j => ?_
  · obtain ⟨o, fs, rfl, hf, hi, hc⟩ := j
    rw [List.getElem?_map, Option.map_eq_some_iff] at hd
    obtain ⟨r, er, rfl⟩ := hd
    have hr := hs.ok r (List.mem_of_getElem? er)
    refine ⟨[some (.loc l), some (row rs), o2, o3, o4, o5, o6, some (.int r)], by simp! [], ?_⟩
    have tk : rs.take (i + 1) = rs.take i ++ [r] := by rw [List.take_succ, er]; rfl
    have lt := (List.getElem?_eq_some_iff.mp er).1
    have ext : ∀ f : Int, 0 ≤ f ∧ f ≤ 2 → (r = 2 ∨ f = r) → ∃ fs' : List Int, fs.map D.int ++ [.int f] = fs'.map .int ∧ ok3 fs' ∧ fs'.length = i + 1 ∧ cont2 (rs.take (i + 1)) fs' = true := fun f hf1 hf2 => by
      refine ⟨fs ++ [f], by simp, fun x hx => ?_, by simp [hi], ?_⟩
      · rcases List.mem_append.mp hx with hx | hx
        · exact hf x hx
        · rw [List.mem_singleton.mp hx]; exact hf1
      · rw [tk]
        unfold cont2 at hc ⊢
        rw [List.zip_append (by rw [List.length_take, hi]; omega), List.all_append, hc]
        simpa using hf2
    by_cases h2 : r < 2
    · simp! [h2]
      exact ⟨o, ext r hr (.inr rfl)⟩
    · obtain ⟨f, S2, e, lf, o', le⟩ := e_draw' n l 3 S1 o.sm (by decide) (by decide)
      simp! [h2, e]
      exact ⟨o.trans o', ext f (by omega) (.inl (by omega))⟩
  · obtain ⟨o, fs, rfl, hf, hi, hc⟩ := j
    rw [List.length_map] at hi
    have big : (1000 : Nat) ≤ sizeLine := by decide
    refine ⟨by rw [List.length_map]; omega, fs, S1, rfl, rfl, o, ⟨hf, by omega⟩, hi, ?_⟩
    rw [List.length_map, List.take_length] at hc
    exact hc
theorem wp_turns (n l : Nat) (rs : List Int) (x2 : D) (m : Nat) (ds : List D) (S0 : Sto) (h : Sm3 l S0) (hs : Sml 8 rs) (hm : S0[m]? = some (.lst ds)) (hn : m ≠ l) (ht : ∀ d ∈ ds, Tg5 l S0 d) :
    (forLoop [(m, .lst ds)] (tgS (.n 4)) (evSs (evF pg (n + 5)) turnB) ds [some (.loc l), some (row rs), some x2, some (.loc m), none, none, none, none] S0).wp fun f S' => ∃ o4 o5 o6 o7, f = .nx [some (.loc l), some (row rs), some x2, some (.loc m), o4, o5, o6, o7] ∧ Ok3 l S0 S' := by
  have keep : ∀ S', Ok3 l S0 S' → S'[m]? = some (.lst ds) := fun S' o => (o.ext.at_ m (List.getElem?_eq_some_iff.mp hm).1 hn).trans hm
  refine wp_for (fun _ ε S' => Ok3 l S0 S' ∧ ∃ o4 o5 o6 o7, ε = [some (.loc l), some (row rs), some x2, some (.loc m), o4, o5, o6, o7]) ds 0 _ S0 ⟨.refl h, _, _, _, _, rfl⟩ (fun k ε S' j => ?_) (fun k d ε S' e j => ?_) fun ε S' j => ?_
  · simp [chk, keep S' j.1]
  · obtain ⟨o, o4, o5, o6, o7, rfl⟩ := j
    refine ⟨[some (.loc l), some (row rs), some x2, some (.loc m), some d, o5, o6, o7], by simp! [], ?_⟩
    obtain ⟨p, t, g⟩ := ht d (List.mem_of_getElem? e)
    obtain ⟨y5, y6, S2, e2, o'⟩ := turn_ok n l rs d x2 (.loc m) o5 o6 o7 S' o.sm hs ⟨p, t.mono o.ext, g⟩
    rw [e2, wps_ok]
    exact ⟨o.trans o', _, _, _, _, rfl⟩
  · obtain ⟨o, o4, o5, o6, o7, rfl⟩ := j
    exact ⟨o4, o5, o6, o7, rfl, o⟩
end LW
namespace LW
open PySem PySem.Spec PyProof.Rows L2 GG
theorem wps_get {r : OutS} {Q : Fl → Sto → Prop} (h : r.wp Q) : ∃ f S, r = .ok f S ∧ Q f S := by
  unfold OutS.wp at h
  cases r with
  | ok f S => exact ⟨f, S, rfl, h⟩
  | exc c v ε S => exact h.elim
  | bad => exact h.elim
theorem cont_twos (rs : List Int) : cont2 (List.replicate rs.length 2) rs = true := by
  unfold cont2
  rw [List.all_eq_true]
  intro t ht
  have := (List.of_mem_zip (a := t.1) (b := t.2) ht).1
  rw [List.eq_of_mem_replicate this]; rfl
theorem rep_two (k : Nat) : rep (k : Int) [D.int 2] = (List.replicate k (2 : Int)).map .int := by
  unfold rep
  rw [Int.toNat_natCast]
  induction k with
  | zero => rfl
  | succ k ih => rw [List.replicate_succ, List.flatten_cons, ih, List.replicate_succ]; rfl
theorem rep_two' (k : Nat) : rep (k : Int) [D.int 2] = List.replicate k (.int 2) := by rw [rep_two, List.map_replicate]
theorem good_ints0 {rs : List Int} (h : ok3 rs) : ∀ p ∈ rs.map PyData.int, goodP 2 0 p = true := fun p hp => by
  obtain ⟨r, hr, rfl⟩ := List.mem_map.mp hp
  have := h r hr
  have q : r = 0 ∨ r = 1 ∨ r = 2 := by omega
  rcases q with rfl | rfl | rfl <;> decide +kernel
set_option maxHeartbeats 2000000
theorem e_rows_right (n : Nat) (l : Nat) (S : Sto) (h : Sm3 l S) : ∃ (S' : Sto), evF pg (n + 6) 18 [.loc l] S = .ok (.bl true) S' ∧ Ok3 l S S' ∧ S'.length = S.length := by
  (rw [u_fn (n + 5) (f := d__law_rows_right) rfl]; unfold runF)
  have big : (1000 : Nat) ≤ sizeLine := by decide
  obtain ⟨k, S1, e1, lt1, o1, le1⟩ := e_draw' (n + 4) l 9 S h (by decide) (by decide)
  obtain ⟨rs, S2, e2, hr, hk, o2, le2⟩ := e_any_row (n + 3) l k S1 o1.sm (by omega)
  have hs : Sml 8 rs := ⟨hr, by omega⟩
  obtain ⟨_, _, e3, fs, S3, rfl, rfl, o3, hf, lf, cf⟩ := (e_filled (n + 4) l rs none none none none none S2 o2.sm hs).get
  have q3 : biF .tuple [.loc S3.length] (S3 ++ [.lst (fs.map .int)]) = .ok (row fs) (S3 ++ [.lst (fs.map .int)]) := bi_tuple (by simp [seqOf])
  have o3' : Ok3 l S2 (S3 ++ [.lst (fs.map .int)]) := o3.trans (.app o3.sm _)
  obtain ⟨as, S4, e4, ha, la, o4, le4⟩ := e_any_row (n + 3) l rs.length _ o3'.sm (by have := hs.le; omega)
  have o5 : Ok3 l S4 (S4 ++ [.lst (rs.map .int)]) := .app o4.sm _
  have q5 : biF .list [row rs] S4 = .ok (.loc S4.length) (S4 ++ [.lst (rs.map .int)]) := bi_list rfl
  obtain ⟨d6, p6, S6, e6, m6, t6, o6⟩ := e_odd (n + 2) l _ o5.sm
  obtain ⟨cs, cc, sc⟩ := hf.cut (some 1) none
  have q4 : ∀ S', opSl (row fs) (some 1) none S' = .ok (row cs) S' := fun S' => by show Out.ok (D.tup (GG.cutD (fs.map .int) (some 1) none)) S' = _; rw [cc]; rfl
  have two : Sml 1 [2] := ⟨fun r hr => by rw [List.mem_singleton.mp hr]; decide, Nat.le_refl _⟩
  have q2 : ∀ S', opAdd (row fs) (.tup [.int 2]) S' = .ok (row (fs ++ [2])) S' := fun S' => add_row (es := [2]) hf two (by decide)
  have lr : ∀ S', biF .len [row rs] S' = .ok (.int rs.length) S' := fun S' => by simp [row, bi_len_tup]
  -- the first list of things
  have o7 : Ok3 l S6 (S6 ++ [.lst [row rs, row fs, row (fs ++ [2]), row cs, row as, .loc S4.length, d6]]) := .app o6.sm _
  obtain ⟨d8, S8, e8, t8, o8⟩ := e_bent (n + 1) l rs _ o7.sm hs
  obtain ⟨d9, S9, e9, t9, o9⟩ := e_bent (n + 1) l fs S8 o8.sm hf
  obtain ⟨bs, S10, e10, hb, lb, o10, le10⟩ := e_any_row (n + 3) l 3 S9 o9.sm (by decide)
  have e10' : evF pg (n + 5) 14 [.loc l, .int 3] S9 = .ok (row bs) S10 := e10
  generalize hT1 : [row rs, row fs, row (fs ++ [2]), row cs, row as, .loc S4.length, d6] = T1 at *
  have g7 : (S6 ++ [.lst T1])[S6.length]? = some (.lst T1) := by simp
  have n6 : S6.length ≠ l := by have := o6.sm.lt; omega
  have g10 : S10[S6.length]? = some (.lst T1) := (((o8.trans o9).trans o10).ext.at_ S6.length (by simp) n6).trans g7
  have g11 : (S10 ++ [.lst [d8, d9, row bs, .tup [row rs], .tup []]])[S6.length]? = some (.lst T1) := by
    rw [List.getElem?_append_left (List.getElem?_eq_some_iff.mp g10).1]; exact g10
  have lT1 : T1.length = 7 := by subst hT1; rfl
  have q11 := add_lst (S := S10 ++ [.lst [d8, d9, row bs, .tup [row rs], .tup []]]) (l := S6.length) (m := S10.length) (ys := [d8, d9, row bs, .tup [row rs], .tup []]) g11 (by simp)
  rw [if_pos (by rw [lT1]; show 7 + 5 ≤ _; omega)] at q11
  have oA : Ok3 l S S10 := (((((((o1.trans o2).trans o3').trans o4).trans o5).trans o6).trans o7).trans o8).trans (o9.trans o10)
  generalize hSB : S10 ++ [.lst [d8, d9, row bs, .tup [row rs], .tup []]] ++ [O.lst (T1 ++ [d8, d9, row bs, .tup [row rs], .tup []])] = SB at q11
  have lSB : SB[S10.length + 1]? = some (.lst (T1 ++ [d8, d9, row bs, .tup [row rs], .tup []])) := by rw [← hSB]; simp
  have oB : Ok3 l S10 SB := by rw [← hSB, List.append_assoc]; exact .app o10.sm _
  have nB : S10.length + 1 ≠ l := by have := o10.sm.lt; omega
  have things : ∀ d ∈ T1 ++ [d8, d9, row bs, .tup [row rs], .tup []], Tg5 l SB d := fun d hd => by
    have up : ∀ {d' : D} {S' : Sto}, Tg5 l S' d' → Ok3 l S' SB → Tg5 l SB d' := fun {d' S'} ⟨p, t, g⟩ o => ⟨p, t.mono o.ext, g⟩
    have rowT : ∀ {xs : List Int} {k : Nat}, Sml k xs → k ≤ 20 → Tg5 l SB (row xs) := fun {xs k} q hk => tg_row ⟨q.ok, by have := q.le; omega⟩
    subst hT1
    simp only [List.cons_append, List.nil_append, List.mem_cons, List.not_mem_nil, or_false] at hd
    rcases hd with rfl | rfl | rfl | rfl | rfl | rfl | rfl | rfl | rfl | rfl | rfl | rfl
    · exact rowT hs (by decide)
    · exact rowT hf (by decide)
    · exact rowT (hf.app two) (by decide)
    · exact rowT sc (by decide)
    · exact rowT (k := 8) ⟨ha, by have := hs.le; omega⟩ (by decide)
    · exact up ⟨_, Th.new o4.sm.lt (All2.mapL rs fun _ _ => .int), good_list (m := 20) (W := 200) (k := 3) (by simp; have := hs.le; omega) (good_ints hs.ok)⟩ (((o6.trans o7).trans (o8.trans (o9.trans o10))).trans oB)
    · exact up (tg_odd t6 m6) ((o7.trans (o8.trans (o9.trans o10))).trans oB)
    · exact up t8 ((o9.trans o10).trans oB)
    · exact up t9 (o10.trans oB)
    · exact rowT (k := 3) ⟨hb, by omega⟩ (by decide)
    · exact ⟨_, .tup (.cons (Th.row rs) .nil), good_le (good_tup (m := 1) (W := 24) (k := 1) (by simp) fun q hq => by
        rw [List.mem_singleton.mp hq]; exact good_tup (m := 8) (W := 2) (k := 0) (by simp; exact hs.le) (good_ints0 hs.ok)) (by decide) (by decide)⟩
    · exact tg_row (rs := []) ⟨fun r hr => (by cases hr), Nat.zero_le _⟩
  obtain ⟨_, S12, eL, x4, x5, x6, x7, rfl, oL⟩ := wps_get (wp_turns n l rs (row fs) (S10.length + 1) _ SB oB.sm hs lSB nB things)
  have oE : Ok3 l S S12 := (oA.trans oB).trans oL
  have big2 : (300 : Nat) ≤ sizeLine := by decide
  have z1 := hs.le
  have z2 := hf.le
  have k6 : evF pg (n + 5) 6 [row rs, row fs] S12 = .ok (.bl true) S12 := by
    rw [e_cont_row n rs fs S12 hs.ok (by omega) hf.ok (by omega), cf, lf]; simp
  have k7 : evF pg (n + 5) 6 [.tup (List.replicate rs.length (.int 2)), row rs] S12 = .ok (.bl true) S12 := by
    have e := e_cont_row n (List.replicate rs.length 2) rs S12 (fun r hr => by rw [List.eq_of_mem_replicate hr]; decide) (by simp; omega) hs.ok (by omega)
    rw [cont_twos] at e
    simpa [row, List.map_replicate] using e
  refine ⟨S12.take S.length, ?_, oE.take h, take_len oE⟩
  have a1 : (rs.length : Int) ≤ 1000 := by omega
  have a2 : (-9223372036854775808 : Int) ≤ rs.length := by omega
  have f7 : (7 : Nat) ≤ sizeLine := by omega
  have f5 : (5 : Nat) ≤ sizeLine := by omega
  have iv : iterV (.loc (S10.length + 1)) SB = .ok (T1 ++ [d8, d9, row bs, .tup [row rs], .tup []], [(S10.length + 1, .lst (T1 ++ [d8, d9, row bs, .tup [row rs], .tup []]))]) SB := iv_lst lSB
  subst hT1
  simp! [d__law_rows_right, b__law_rows_right, e1, e2, e3, q3, q2, q4, lr, e4, q5, e6, f7, f5, e8, e9, e10', q11]
  rw [iv, on_ok]
  unfold turnB at eL
  rw [eL, seq_nx]
  simp! [k6, k7, lr, a1, a2, rep_two']
end LW
namespace LW
open PySem PySem.Spec PyProof.Rows L2 GG
theorem ix_rol {ds : List D} {k : Nat} {d : D} {S : Sto} (h : ds[k]? = some d) : opIx (.rol ds) (.int k) S = .ok d S := by
  have : atI ds (k : Int) = some d := by
    have lt := (List.getElem?_eq_some_iff.mp h).1
    simp [atI, ixN, h, lt]; exact (List.getElem?_eq_some_iff.mp h).2
  simp only [opIx, seqOf, this]
theorem e_cell (cl : Nat → List D → Sto → Out D) (ns : List Int) (k : Nat) (S : Sto) : ∃ c : Int, evE cl (.ife (.cmp .Lt (.v 1) (.bi .len [(.v 0)])) (.ix (.v 0) (.v 1)) (.bop .Add (.bop .Mult (.c (.int 17)) (.v 1)) (.c (.int 8)))) [some (.rol (ns.map .int)), some (.int k), none, none, none] S = .ok (.int c) S := by
  by_cases h : k < ns.length
  · refine ⟨ns[k], ?_⟩
    have e : (ns.map D.int)[k]? = some (.int ns[k]) := by simp [h]
    simp! [h, ix_rol e]
  · exact ⟨17 * k + 8, by simp! [h]⟩
theorem e_stream (n : Nat) (ns : List Int) (k : Nat) (S : Sto) : ∃ a b : Int, evF pg (n + 1) 7 [.rol (ns.map .int), .int k] S = .ok (.loc S.length) (S ++ [.lst [.int a, .int b, .int 0]]) := by
  obtain ⟨c, ec⟩ := e_cell (evF pg n) ns k S
  have f3 : (3 : Nat) ≤ sizeLine := by decide
  have tr : ∀ a b : Int, trunc S.length (.loc S.length) (S ++ [.lst [.int a, .int b, .int 0]]) = .ok (.loc S.length) (S ++ [.lst [.int a, .int b, .int 0]]) := fun a b => by
    unfold trunc
    rw [if_neg (by simp [D.lt])]
    simp [O.lt, D.lts, D.lt]
  have key : (evF pg (n + 1) 7 [.rol (ns.map .int), .int k] S).wp fun d S' => ∃ a b : Int, d = .loc S.length ∧ S' = S ++ [.lst [.int a, .int b, .int 0]] := by
    (rw [u_fn n (f := d__law_stream) rfl]; refine wp_runF ?_)
    have b60 : ((Builtin.Int.intBits 10 : Nat) : Int) * 60 ≤ 134217728 := by decide
    have b660 : ((Builtin.Int.intBits 1000000000000000000000000000000000000000000000000000000000000 : Nat) : Int) * 11 ≤ 134217728 := by decide +kernel
    have b18 : ((Builtin.Int.intBits 10 : Nat) : Int) * 18 ≤ 134217728 := by decide
    simp! [d__law_stream, b__law_stream, ec, b60, b660, b18, f3, tr]
  obtain ⟨d, S', e, a, b, rfl, rfl⟩ := key.get
  exact ⟨a, b, e⟩
end LW
namespace LW
open PySem PySem.Spec PyProof.Rows L2 GG
theorem depth_bls (bs : List Bool) : PyData.depthAll (bs.map PyData.bool) = 0 := by
  induction bs with
  | nil => rfl
  | cons x r ih => simp [PyData.depthAll, PyData.depth, ih]
theorem lay_bls (bs : List Bool) : PyData.canLayAll0 (bs.map PyData.bool) = true := by
  induction bs with
  | nil => rfl
  | cons x r ih => simp [PyData.canLayAll0, PyData.canLay0, ih]
theorem eqv_bls : ∀ bs cs : List Bool, PyData.eqvAll (bs.map PyData.bool) (cs.map PyData.bool) = decide (bs = cs)
  | [], [] => rfl
  | [], c :: cs => rfl
  | b :: bs, [] => rfl
  | b :: bs, c :: cs => by
    simp only [List.map, PyData.eqvAll, eqv_bls bs cs]
    cases b <;> cases c <;> simp [PyData.eqv]
theorem eq_bls {S : Sto} {l m : Nat} {neg : Bool} (bs cs : List Bool) (h1 : S[l]? = some (.lst (bs.map .bl))) (h2 : S[m]? = some (.lst (cs.map .bl))) : opEq neg (.loc l) (.loc m) S = .ok (.bl (if neg then !decide (bs = cs) else decide (bs = cs))) S := by
  have p : ∀ {l : Nat} {bs : List Bool}, S[l]? = some (.lst (bs.map .bl)) → py S (.loc l) = some (.list (bs.map .bool)) := fun {l bs} h =>
    (Py.lst h (All2.mapL bs fun _ _ => .bl)).py (by simp [PyData.depth, depth_bls])
  have s : ∀ bs : List Bool, SeqAt.shaped (.list (bs.map PyData.bool)) = true := fun bs => by simp [SeqAt.shaped, PyData.canLay0, PyData.depth, depth_bls, lay_bls]
  unfold opEq
  simp only [p h1, p h2, s bs, s cs, and_self, if_true, PyData.eqv, eqv_bls]
/-- the loop of six turns -/
theorem six (n l : Nat) (d0 : D) (i1 : D) (S0 : Sto) (h : Sm3 l S0) :
    (forLoop [] (tgS (.n 4)) (evSs (evF pg (n + 6)) [.ife (.or (.not (.call 15 [(.v 5)])) [(.not (.call 18 [(.v 5)]))]) [.ret (.c (.bl false))] []]) ((List.range 6).map fun i => .int (i : Nat)) [some d0, some i1, none, none, o4, some (.loc l), none, none, none] S0).wp fun f S' => ∃ o4, f = .nx [some d0, some i1, none, none, o4, some (.loc l), none, none, none] := by
  refine wp_for (fun _ ε S' => Ok3 l S0 S' ∧ ∃ o4, ε = [some d0, some i1, none, none, o4, some (.loc l), none, none, none]) _ 0 _ S0 ⟨.refl h, _, rfl⟩ (fun k ε S' j => rfl) (fun k d ε S' e j => ?_) fun ε S' j => ?_
  · obtain ⟨o, o4, rfl⟩ := j
    refine ⟨[some d0, some i1, none, none, some d, some (.loc l), none, none, none], by simp! [], ?_⟩
    obtain ⟨S1, e1, o1, _⟩ := e_names_right (n + 1) l S' o.sm
    obtain ⟨S2, e2, o2, _⟩ := e_rows_right n l S1 o1.sm
    simp! [e1, e2]
    exact (o.trans o1).trans o2
  · obtain ⟨o, o4, rfl⟩ := j
    exact ⟨o4, rfl⟩
theorem cells (n : Nat) (ns : List Int) (K : Nat) (S0 : Sto) :
    (forLoop [] (tgS (.n 1)) (evSs (evF pg (n + 6)) [.set (.n 5) (.call 7 [(.v 0), (.v 1)]), .for_ (.n 4) (.rng [(.c (.int 6))]) [.ife (.or (.not (.call 15 [(.v 5)])) [(.not (.call 18 [(.v 5)]))]) [.ret (.c (.bl false))] []]]) ((List.range K).map fun i => .int (i : Nat)) [some (.rol (ns.map .int)), none, none, none, none, none, none, none, none] S0).wp fun f S' => ∃ o1 o4 o5, f = .nx [some (.rol (ns.map .int)), o1, none, none, o4, o5, none, none, none] := by
  refine wp_for (fun _ ε S' => ∃ o1 o4 o5, ε = [some (.rol (ns.map .int)), o1, none, none, o4, o5, none, none, none]) _ 0 _ S0 ⟨_, _, _, rfl⟩ (fun k ε S' j => rfl) (fun k d ε S' e j => ?_) fun ε S' ⟨o1, o4, o5, e⟩ => ⟨o1, o4, o5, by rw [e]⟩
  obtain ⟨o1, o4, o5, rfl⟩ := j
  rw [List.getElem?_map, Option.map_eq_some_iff] at e
  obtain ⟨i, _, rfl⟩ := e
  refine ⟨[some (.rol (ns.map .int)), some (.int (i : Nat)), none, none, o4, o5, none, none, none], by simp! [], ?_⟩
  obtain ⟨a, b, es⟩ := e_stream (n + 5) ns i S'
  rw [st_cons, sm_set, ee_call]
  have ea : evEs (evF pg (n + 6)) [(.v 0), (.v 1)] [some (.rol (ns.map .int)), some (.int (i : Nat)), none, none, o4, o5, none, none, none] S' = .ok [.rol (ns.map .int), .int (i : Nat)] S' := by simp! []
  rw [ea, bind_ok, es, on_ok]
  have et : tgS (.n 5) (.loc S'.length) [some (.rol (ns.map D.int)), some (.int (i : Nat)), none, none, o4, o5, none, none, none] = some [some (.rol (ns.map D.int)), some (.int (i : Nat)), none, none, o4, some (.loc S'.length), none, none, none] := by simp! []
  rw [et]
  dsimp only
  rw [seq_nx, st_cons, sm_for, ei_rng1 (j := 6) (k := 6) (S1 := S' ++ [.lst [.int a, .int b, .int 0]]) (by simp! []) rfl (by decide), on_ok, wp_seq]
  refine (six n S'.length _ _ _ ⟨a, b, 0, by simp⟩).mono fun f S2 h => ?_
  obtain ⟨o4', rfl⟩ := h
  dsimp only
  rw [st_nil, wps_ok]
  exact ⟨_, _, _, rfl⟩
end LW
namespace LW
open PySem PySem.Spec PyProof.Rows L2 GG
def deepT : Nat → D → D
  | 0, d => d
  | k + 1, d => deepT k (.tup [d])
theorem deep_loop (cl : Nat → List D → Sto → Out D) (d0 x2 : D) (o1 o5 : Option D) (S : Sto) : ∀ (ds : List D) (d : D) (o4 : Option D), ∃ o4', forLoop [] (tgS (.n 4)) (evSs cl [.set (.n 3) (.tup [(.v 3)])]) ds [some d0, o1, some x2, some d, o4, o5, none, none, none] S = .ok (.nx [some d0, o1, some x2, some (deepT ds.length d), o4', o5, none, none, none]) S
  | [], d, o4 => ⟨o4, by simp only [forLoop, chk]; rfl⟩
  | x :: r, d, o4 => by
    obtain ⟨o4', e⟩ := deep_loop cl d0 x2 o1 o5 S r (.tup [d]) (some x)
    refine ⟨o4', ?_⟩
    have e1 : tgS (.n 4) x [some d0, o1, some x2, some d, o4, o5, none, none, none] = some [some d0, o1, some x2, some d, some x, o5, none, none, none] := by simp! []
    have e2 : evSs cl [.set (.n 3) (.tup [(.v 3)])] [some d0, o1, some x2, some d, some x, o5, none, none, none] S = .ok (.nx [some d0, o1, some x2, some (.tup [d]), some x, o5, none, none, none]) S := by simp! []
    simp only [forLoop, chk, if_true, e1, e2]
    exact e
theorem rep_one (k : Nat) (c : Int) : rep (k : Int) [D.int c] = (List.replicate k c).map .int := by
  unfold rep
  rw [Int.toNat_natCast]
  induction k with
  | zero => rfl
  | succ k ih => rw [List.replicate_succ, List.flatten_cons, ih, List.replicate_succ]; rfl
theorem ok3_rep (k : Nat) (c : Int) (h : 0 ≤ c ∧ c ≤ 2) : ok3 (List.replicate k c) := fun r hr => by rw [List.eq_of_mem_replicate hr]; exact h
theorem tail1 (n : Nat) (ε : GG.Env) (S : Sto) (he : ε = [some d0, o1, none, none, o4, o5, none, none, none]) :
    evE (evF pg (n + 6)) (.lc (.call 2 [(.v 6)]) [6] (.n 6) (.itv (.tup [(.c (.str "a")), (.c (.str "zebrafin")), (.c (.str "abcdefghi")), (.c (.str "")), (.c (.str "aa a")), (.c (.str "or")), (.c (.str "None"))])) []) ε S = .ok (.loc S.length) (S ++ [.lst ([true, true, false, false, false, true, false].map .bl)]) := by
  subst he
  have f7 : (7 : Nat) ≤ sizeLine := by decide
  have e := ev_lc_pure (cl := evF pg (n + 6)) (ε := [some d0, o1, none, none, o4, o5, none, none, none]) (S := S) (e := .call 2 [(.v 6)]) (own := [6]) (tg := .n 6) (it := .itv (.tup [(.c (.str "a")), (.c (.str "zebrafin")), (.c (.str "abcdefghi")), (.c (.str "")), (.c (.str "aa a")), (.c (.str "or")), (.c (.str "None"))])) (ifs := [])
    (p := ((["a", "zebrafin", "abcdefghi", "", "aa a", "or", "None"] : List Str).map .str, [])) (S1 := S) (fun d => .bl (isName d)) (by simp! [f7]) rfl (by simpa using f7) (fun x hx => by
      rw [List.mem_map] at hx
      obtain ⟨z, hz, rfl⟩ := hx
      have zl : z.length ≤ sizeLine := by
        have : ∀ z ∈ (["a", "zebrafin", "abcdefghi", "", "aa a", "or", "None"] : List Str), z.length ≤ 10 := by decide +kernel
        have := this z hz
        have big : (1000 : Nat) ≤ sizeLine := by decide
        omega
      exact ⟨[some d0, o1, none, none, o4, o5, some (.str z), none, none], by simp! [], by simp! [], by simp! [e_is_name_str (n + 5) z S zl]⟩)
  rw [e]
  have v : ((["a", "zebrafin", "abcdefghi", "", "aa a", "or", "None"] : List Str).map D.str).map (fun d => D.bl (isName d)) = [true, true, false, false, false, true, false].map .bl := by
    have : (["a", "zebrafin", "abcdefghi", "", "aa a", "or", "None"] : List Str).map (fun z => isName (.str z)) = [true, true, false, false, false, true, false] := by decide +kernel
    rw [← this]; simp
  dsimp only
  rw [v]
theorem tail2 (n : Nat) (ε : GG.Env) (S : Sto) (x2 x3 : D) (he : ε = [some d0, o1, some x2, some x3, o4, o5, none, none, none]) :
    evE (evF pg (n + 6)) (.lc (.call 3 [(.v 7)]) [7] (.n 7) (.itv (.tup [(.c (.int 0)), (.c (.int 1)), (.c (.int 2)), (.neg (.c (.int 1))), (.c (.bl true)), (.c (.str "0")), (.c .non), (.tup [(.c (.int 0))])])) []) ε S = .ok (.loc S.length) (S ++ [.lst ([true, true, false, false, false, false, false, false].map .bl)]) := by
  subst he
  have f8 : (8 : Nat) ≤ sizeLine := by decide
  have e := ev_lc_pure (cl := evF pg (n + 6)) (ε := [some d0, o1, some x2, some x3, o4, o5, none, none, none]) (S := S) (e := .call 3 [(.v 7)]) (own := [7]) (tg := .n 7) (it := .itv (.tup [(.c (.int 0)), (.c (.int 1)), (.c (.int 2)), (.neg (.c (.int 1))), (.c (.bl true)), (.c (.str "0")), (.c .non), (.tup [(.c (.int 0))])])) (ifs := [])
    (p := ([.int 0, .int 1, .int 2, .int (-1), .bl true, .str "0", .non, .tup [.int 0]], [])) (S1 := S) (fun d => .bl (isVal 0 1 d)) (by simp! [f8]) rfl (by simpa using f8) (fun x hx => by
      have ty : (tyName S x).isSome = true := by
        simp only [List.mem_cons, List.not_mem_nil, or_false] at hx
        rcases hx with rfl | rfl | rfl | rfl | rfl | rfl | rfl | rfl <;> rfl
      exact ⟨[some d0, o1, some x2, some x3, o4, o5, none, some x, none], by simp! [], by simp! [], by simp! [e_is_bit (n + 3) x S ty]⟩)
  rw [e]
  rfl
theorem tail3 (n : Nat) (ε : GG.Env) (S : Sto) (x2 x3 : D) (he : ε = [some d0, o1, some x2, some x3, o4, o5, none, none, none]) :
    evE (evF pg (n + 6)) (.lc (.call 6 [(.tup [(.c (.int 2)), (.c (.int 0))]), (.v 8)]) [8] (.n 8) (.itv (.tup [(.tup [(.c (.int 1)), (.c (.int 0))]), (.tup [(.c (.int 2)), (.c (.int 0))]), (.tup [(.c (.int 0)), (.c (.int 2))]), (.tup [(.c (.int 2)), (.c (.int 2))]), (.tup [(.c (.int 1)), (.c (.int 0)), (.c (.int 2))]), (.tup [(.c (.bl true)), (.c (.int 0))])])) []) ε S
      = .ok (.loc S.length) (S ++ [.lst ([true, true, false, false, false, false].map .bl)]) := by
  subst he
  have f6 : (6 : Nat) ≤ sizeLine := by decide
  have f3 : (3 : Nat) ≤ sizeLine := by decide
  let ps : List (List D × Bool) := [([.int 1, .int 0], true), ([.int 2, .int 0], true), ([.int 0, .int 2], false), ([.int 2, .int 2], false), ([.int 1, .int 0, .int 2], false), ([.bl true, .int 0], false)]
  have ok20 : ok3 [2, 0] := by unfold ok3; decide
  have rowok : ∀ es : List Int, ok3 es → es.length ≤ 3 → evF pg (n + 6) 6 [.tup [.int 2, .int 0], row es] S = .ok (.bl (decide (es.length = 2) && cont2 [2, 0] es)) S := fun es h hl =>
    e_cont_row (n + 1) [2, 0] es S ok20 (by decide) h (Nat.le_trans hl f3)
  have tr : evF pg (n + 6) 6 [.tup [.int 2, .int 0], .tup [.bl true, .int 0]] S = .ok (.bl false) S := e_cont_no (n + 1) [2, 0] _ S ⟨rfl, fun x hx => by
      simp only [subs, List.mem_cons, List.not_mem_nil, or_false] at hx
      rcases hx with rfl | rfl <;> rfl, by decide⟩ ok20 (by decide) rfl
  let f : D → D := fun d => if d = .tup [.int 1, .int 0] ∨ d = .tup [.int 2, .int 0] then .bl true else .bl false
  have e := ev_lc_pure (cl := evF pg (n + 6)) (ε := [some d0, o1, some x2, some x3, o4, o5, none, none, none]) (S := S) (e := .call 6 [(.tup [(.c (.int 2)), (.c (.int 0))]), (.v 8)]) (own := [8]) (tg := .n 8) (it := .itv (.tup [(.tup [(.c (.int 1)), (.c (.int 0))]), (.tup [(.c (.int 2)), (.c (.int 0))]), (.tup [(.c (.int 0)), (.c (.int 2))]), (.tup [(.c (.int 2)), (.c (.int 2))]), (.tup [(.c (.int 1)), (.c (.int 0)), (.c (.int 2))]), (.tup [(.c (.bl true)), (.c (.int 0))])])) (ifs := [])
    (p := ([.tup [.int 1, .int 0], .tup [.int 2, .int 0], .tup [.int 0, .int 2], .tup [.int 2, .int 2], .tup [.int 1, .int 0, .int 2], .tup [.bl true, .int 0]], [])) (S1 := S) f (by simp! [f6, f3]) rfl (by simpa using f6) (fun x hx => by
      refine ⟨[some d0, o1, some x2, some x3, o4, o5, none, none, some x], by simp! [], by simp! [], ?_⟩
      have go : evF pg (n + 6) 6 [.tup [.int 2, .int 0], x] S = .ok (f x) S := by
        simp only [List.mem_cons, List.not_mem_nil, or_false] at hx
        rcases hx with rfl | rfl | rfl | rfl | rfl | rfl
        · exact rowok [1, 0] (by unfold ok3; decide) (by decide)
        · exact rowok [2, 0] (by unfold ok3; decide) (by decide)
        · exact rowok [0, 2] (by unfold ok3; decide) (by decide)
        · exact rowok [2, 2] (by unfold ok3; decide) (by decide)
        · exact rowok [1, 0, 2] (by unfold ok3; decide) (by decide)
        · exact tr
      simp! [go])
  rw [e]
  rfl
end LW
namespace LW
open PySem PySem.Spec PyProof.Rows L2 GG
set_option maxHeartbeats 2000000
theorem law_tail (n : Nat) (d0 : D) (o1 o4 o5 : Option D) (S : Sto) : ∃ S', evSs (evF pg (n + 6)) (b_law.drop 1) [some d0, o1, none, none, o4, o5, none, none, none] S = .ok (.rt (.bl true)) S' := by
  have f1 : (1 : Nat) ≤ sizeLine := by decide
  have f2 : (2 : Nat) ≤ sizeLine := by decide
  have f3 : (3 : Nat) ≤ sizeLine := by decide
  have f6 : (6 : Nat) ≤ sizeLine := by decide
  have f7 : (7 : Nat) ≤ sizeLine := by decide
  have f300 : (300 : Nat) ≤ sizeLine := by decide
  have t1 := tail1 (d0 := d0) (o1 := o1) (o4 := o4) (o5 := o5) n _ S rfl
  have c1 : opEq true (.loc S.length) (.loc (S.length + 1)) (S ++ [.lst ([true, true, false, false, false, true, false].map .bl), .lst ([true, true, false, false, false, true, false].map .bl)]) = .ok (.bl false) _ := eq_bls [true, true, false, false, false, true, false] [true, true, false, false, false, true, false] (by simp) (by simp)
  generalize hS1 : S ++ [.lst ([true, true, false, false, false, true, false].map .bl), .lst ([true, true, false, false, false, true, false].map .bl)] = S1 at c1
  obtain ⟨o4', eD⟩ := deep_loop (evF pg (n + 6)) d0 (.loc S.length) o1 o5 S1 ((List.range 10).map fun i => .int (i : Nat)) (.tup [.int 2]) o4
  simp only [List.map] at t1 c1 hS1
  simp only [b_law, List.drop]
  simp! [t1, f7]
  rw [hS1]
  have it10 : iterR [.int 10] S1 = .ok ((List.range 10).map fun i => .int (i : Nat), []) S1 := it_rng rfl (by decide)
  have lR : ((List.range 10).map fun i => D.int (i : Nat)).length = 10 := by simp
  generalize (List.range 10).map (fun i => D.int (i : Nat)) = R at eD it10 lR
  rw [lR] at eD
  have ask : Ask S1 (deepT 10 (.tup [.int 2])) := ⟨rfl, fun x hx => by
    simp only [deepT, subs, List.mem_singleton] at hx; subst hx; rfl, f1⟩
  have r1 := e_is_row (n + 2) (deepT 10 (.tup [.int 2])) S1 ask
  have r2 : evF pg (n + 6) 6 [.tup [.int 2], deepT 10 (.tup [.int 2])] S1 = .ok (.bl false) S1 := e_cont_no (n + 1) [2] _ S1 ask (by unfold ok3; decide) f1 rfl
  have r3 := e_is_name_no (n + 5) (deepT 10 (.tup [.int 2])) S1 rfl (fun z => by simp [deepT])
  have r4 := e_is_bit (n + 3) (deepT 10 (.tup [.int 2])) S1 rfl
  rw [show isRow (deepT 10 (.tup [.int 2])) = false from rfl] at r1
  rw [show isVal 0 1 (deepT 10 (.tup [.int 2])) = false from rfl] at r4
  generalize deepT 10 (.tup [.int 2]) = x3 at *
  simp! [c1, it10, eD, r1, r2, r3, r4]
  have p2 : (D.tup (rep 300 [.int 2])) = row (List.replicate 300 2) := congrArg D.tup (rep_one 300 2)
  have p1 : (D.tup (rep 300 [.int 1])) = row (List.replicate 300 1) := congrArg D.tup (rep_one 300 1)
  have p0 : (D.tup (rep 300 [.int 0])) = row (List.replicate 300 0) := congrArg D.tup (rep_one 300 0)
  have p29 : (D.tup (rep 299 [.int 2] ++ [.int 0])) = row (List.replicate 299 2 ++ [0]) := by
    rw [show rep 299 [D.int 2] = _ from rep_one 299 2]; simp only [row, List.map_append, List.map]
  have p09 : (D.tup (rep 299 [.int 0] ++ [.int 2])) = row (List.replicate 299 0 ++ [2]) := by
    rw [show rep 299 [D.int 0] = _ from rep_one 299 0]; simp only [row, List.map_append, List.map]
  have l29 : (rep 299 [D.int 2]).length + 1 ≤ sizeLine := by rw [show rep 299 [D.int 2] = _ from rep_one 299 2, List.length_map, List.length_replicate]; exact f300
  have l09 : (rep 299 [D.int 0]).length + 1 ≤ sizeLine := by rw [show rep 299 [D.int 0] = _ from rep_one 299 0, List.length_map, List.length_replicate]; exact f300
  have k2 : ok3 (List.replicate 300 2) := ok3_rep _ _ (by decide)
  have k1 : ok3 (List.replicate 300 1) := ok3_rep _ _ (by decide)
  have k0 : ok3 (List.replicate 300 0) := ok3_rep _ _ (by decide)
  have k29 : ok3 (List.replicate 299 2 ++ [0]) := fun r hr => by
    rcases List.mem_append.mp hr with h | h
    · exact ok3_rep 299 2 (by decide) r h
    · rw [List.mem_singleton.mp h]; decide
  have k09 : ok3 (List.replicate 299 0 ++ [2]) := fun r hr => by
    rcases List.mem_append.mp hr with h | h
    · exact ok3_rep 299 0 (by decide) r h
    · rw [List.mem_singleton.mp h]; decide
  have u1 : evF pg (n + 6) 5 [D.tup (rep 300 [.int 2])] S1 = .ok (.bl true) S1 := by
    rw [p2, e_is_row (n + 2) _ S1 (ask_row (by rw [List.length_replicate]; exact f300)), isRow_row k2]
  have u2 : evF pg (n + 6) 6 [D.tup (rep 300 [.int 2]), D.tup (rep 300 [.int 1])] S1 = .ok (.bl true) S1 := by
    rw [p2, p1, e_cont_row (n + 1) _ _ S1 k2 (by rw [List.length_replicate]; exact f300) k1 (by rw [List.length_replicate]; exact f300)]
    refine congrArg (fun b => Out.ok (D.bl b) S1) (?_ : _ = true)
    decide +kernel
  have u3 : evF pg (n + 6) 6 [D.tup (rep 299 [.int 2] ++ [.int 0]), D.tup (rep 300 [.int 1])] S1 = .ok (.bl false) S1 := by
    rw [p29, p1, e_cont_row (n + 1) _ _ S1 k29 (by rw [List.length_append, List.length_replicate]; exact f300) k1 (by rw [List.length_replicate]; exact f300)]
    refine congrArg (fun b => Out.ok (D.bl b) S1) (?_ : _ = false)
    decide +kernel
  have c2 : opEq true (.loc S1.length) (.loc (S1.length + 1)) (S1 ++ [.lst ([true, true, false].map .bl), .lst ([true, true, false].map .bl)]) = .ok (.bl false) _ := eq_bls [true, true, false] [true, true, false] (by simp) (by simp)
  have u4 : ∀ S2, evF pg (n + 6) 6 [D.tup (rep 300 [.int 0]), D.tup (rep 299 [.int 0] ++ [.int 2])] S2 = .ok (.bl false) S2 := fun S2 => by
    rw [p0, p09, e_cont_row (n + 1) _ _ S2 k0 (by rw [List.length_replicate]; exact f300) k09 (by rw [List.length_append, List.length_replicate]; exact f300)]
    refine congrArg (fun b => Out.ok (D.bl b) S2) (?_ : _ = false)
    decide +kernel
  clear p2 p1 p0 p29 p09
  generalize hS2 : S1 ++ [.lst ([true, true, false].map .bl), .lst ([true, true, false].map .bl)] = S2 at c2
  simp only [List.map] at c2 hS2
  simp! [u1, u2, u3, l29, f3]
  rw [hS2]
  have t2 := tail2 (d0 := d0) (o1 := o1) (o4 := o4') (o5 := o5) n _ S2 (.loc S1.length) x3 rfl
  simp only [List.map] at t2
  have mm : opMul (.loc (S2.length + 2)) (.int 6) (S2 ++ [.lst [.bl true, .bl true, .bl false, .bl false, .bl false, .bl false, .bl false, .bl false], .lst [.bl true, .bl true], .lst [.bl false]])
      = .ok (.loc (S2.length + 3)) (S2 ++ [.lst [.bl true, .bl true, .bl false, .bl false, .bl false, .bl false, .bl false, .bl false], .lst [.bl true, .bl true], .lst [.bl false], .lst [.bl false, .bl false, .bl false, .bl false, .bl false, .bl false]]) := by
    rw [mul_lst (xs := [.bl false]) (by simp), if_pos ⟨by decide, by decide, by simp; exact f6⟩]
    simp [rep]
  have aa : opAdd (.loc (S2.length + 1)) (.loc (S2.length + 3)) (S2 ++ [.lst [.bl true, .bl true, .bl false, .bl false, .bl false, .bl false, .bl false, .bl false], .lst [.bl true, .bl true], .lst [.bl false], .lst [.bl false, .bl false, .bl false, .bl false, .bl false, .bl false]])
      = .ok (.loc (S2.length + 4)) (S2 ++ [.lst [.bl true, .bl true, .bl false, .bl false, .bl false, .bl false, .bl false, .bl false], .lst [.bl true, .bl true], .lst [.bl false], .lst [.bl false, .bl false, .bl false, .bl false, .bl false, .bl false], .lst ([true, true, false, false, false, false, false, false].map .bl)]) := by
    rw [add_lst (xs := [.bl true, .bl true]) (ys := [.bl false, .bl false, .bl false, .bl false, .bl false, .bl false]) (by simp) (by simp), if_pos (by decide)]
    simp
  have c3 : opEq true (.loc S2.length) (.loc (S2.length + 4)) (S2 ++ [.lst ([true, true, false, false, false, false, false, false].map .bl), .lst [.bl true, .bl true], .lst [.bl false], .lst [.bl false, .bl false, .bl false, .bl false, .bl false, .bl false], .lst ([true, true, false, false, false, false, false, false].map .bl)]) = .ok (.bl false) _ := eq_bls [true, true, false, false, false, false, false, false] [true, true, false, false, false, false, false, false] (by simp) (by simp)
  generalize hS3 : S2 ++ [.lst ([true, true, false, false, false, false, false, false].map .bl), .lst [.bl true, .bl true], .lst [.bl false], .lst [.bl false, .bl false, .bl false, .bl false, .bl false, .bl false], .lst ([true, true, false, false, false, false, false, false].map .bl)] = S3 at c3
  simp only [List.map] at aa hS3
  rw [hS3] at aa
  have v5 : evF pg (n + 6) 5 [.tup []] S3 = .ok (.bl true) S3 := e_is_row (n + 2) (row []) S3 (ask_row (Nat.zero_le _))
  have t3 := tail3 (d0 := d0) (o1 := o1) (o4 := o4') (o5 := o5) n _ S3 (.loc S2.length) x3 rfl
  simp only [List.map] at t3
  have c4 : opEq false (.loc S3.length) (.loc (S3.length + 1)) (S3 ++ [.lst ([true, true, false, false, false, false].map .bl), .lst ([true, true, false, false, false, false].map .bl)]) = .ok (.bl true) _ := eq_bls [true, true, false, false, false, false] [true, true, false, false, false, false] (by simp) (by simp)
  simp only [List.map] at c4
  have v6 : ∀ S, evF pg (n + 6) 6 [.tup [], .tup []] S = .ok (.bl true) S := fun S => e_cont_row (n + 1) [] [] S (fun r hr => by cases hr) (Nat.zero_le _) (fun r hr => by cases hr) (Nat.zero_le _)
  simp! [c2, u4, l09, t2, mm, aa, c3, v5, t3, f6, c4, v6]
/-- the law's own function -/
theorem law_ok (ns : List Int) (hl : ns.length ≤ 63) (hb : ∀ z ∈ ns, Builtin.Int.intBits z ≤ 1048576) : ∃ S', evF pg 20 19 [.rol (ns.map D.int)] [] = .ok (.bl true) S' := by
  have key : (evF pg 20 19 [.rol (ns.map D.int)] []).wp fun d S' => d = .bl true := by
    (rw [u_fn 19 (f := d_law) rfl]; refine wp_runF ?_)
    have eb : d_law.body = (b_law[0]) :: b_law.drop 1 := rfl
    have ee : ([D.rol (ns.map D.int)].map some ++ List.replicate (d_law.N.length - [D.rol (ns.map D.int)].length) none) = [some (.rol (ns.map .int)), none, none, none, none, none, none, none, none] := rfl
    rw [eb, ee, st_cons]
    show ((evS (evF pg 19) (.for_ _ _ _) _ _).seq _).wp _
    rw [sm_for, ei_rng1 (j := max 1 (min 8 (ns.length : Int))) (k := max 1 (min 8 ns.length)) (S1 := []) (by
      simp! []
      omega) (by omega) (by omega), on_ok, wp_seq]
    refine (cells 13 ns _ []).mono fun f S2 h => ?_
    obtain ⟨o1, o4, o5, rfl⟩ := h
    dsimp only
    obtain ⟨S', e⟩ := law_tail 13 (.rol (ns.map .int)) o1 o4 o5 S2
    rw [e, wps_ok]
    dsimp only
    rw [trunc_bl, wp_ok]
  obtain ⟨d, S', e, rfl⟩ := key.get
  exact ⟨S', e⟩
end LW
open PySem PySem.W PyProof.Rows
set_option maxHeartbeats 0 in
theorem PySem.Challenge.cw_loopgates_k01_names_and_rows_holds : PySem.Challenge.rw_loopgates_k01_names_and_rows.Holds := by
  w_on; o_law; k_head; (case hw => w_witness2)
  k_fill
  refine GG.walk_g (l := PySem.Challenge.rw_loopgates_k01_names_and_rows) (n := 63) (k := 20) (Pg := LW.pg) (gt := LW.gt) (i := 19) (f := LW.d_law) rfl (by decide) rfl ⟨rfl, by decide, by decide⟩ (by decide +kernel) rfl rfl rfl (fun w h Y => PySem.W.kIn_of Y) ?F LW.law_ok
  case F =>
    intro w mg h KX G
    refine' LW.all_mk KX G ?a0 ?l0 ?c0 ?k0 ?a1 ?l1 ?c1 ?k1 ?a2 ?l2 ?c2 ?k2 ?a3 ?l3 ?c3 ?k3 ?a4 ?l4 ?c4 ?k4 ?a5 ?l5 ?c5 ?k5 ?a6 ?l6 ?c6 ?k6 ?a7 ?l7 ?c7 ?k7 ?a8 ?l8 ?c8 ?k8 ?a9 ?l9 ?c9 ?k9 ?a10 ?l10 ?c10 ?k10 ?a11 ?l11 ?c11 ?k11 ?a12 ?l12 ?c12 ?k12 ?a13 ?l13 ?c13 ?k13 ?a14 ?l14 ?c14 ?k14 ?a15 ?l15 ?c15 ?k15 ?a16 ?l16 ?c16 ?k16 ?a17 ?l17 ?c17 ?k17 ?a18 ?l18 ?c18 ?k18 ?a19 ?l19 ?c19 ?k19 ?qg0 ?qg1 ?qg2 ?z0 ?z1 ?z2 ?z3 ?z4 ?z5 ?z6 ?z7 ?z8 ?z9 ?z10 ?z11 ?z12 ?z13 ?z14 ?z15 ?z16 ?z17
    (case a0 => k_is); (case l0 => k_is); (case c0 => k_is); (case k0 => k_is); (case a1 => k_is); (case l1 => k_is); (case c1 => k_is); (case k1 => k_is); (case a2 => k_is); (case l2 => k_is); (case c2 => k_is); (case k2 => k_is); (case a3 => k_is); (case l3 => k_is); (case c3 => k_is); (case k3 => k_is); (case a4 => k_is); (case l4 => k_is); (case c4 => k_is); (case k4 => k_is); (case a5 => k_is); (case l5 => k_is); (case c5 => k_is); (case k5 => k_is); (case a6 => k_is); (case l6 => k_is); (case c6 => k_is); (case k6 => k_is); (case a7 => k_is); (case l7 => k_is); (case c7 => k_is); (case k7 => k_is); (case a8 => k_is); (case l8 => k_is); (case c8 => k_is); (case k8 => k_is); (case a9 => k_is); (case l9 => k_is); (case c9 => k_is); (case k9 => k_is); (case a10 => k_is); (case l10 => k_is); (case c10 => k_is); (case k10 => k_is); (case a11 => k_is); (case l11 => k_is); (case c11 => k_is); (case k11 => k_is); (case a12 => k_is); (case l12 => k_is); (case c12 => k_is); (case k12 => k_is); (case a13 => k_is); (case l13 => k_is); (case c13 => k_is); (case k13 => k_is); (case a14 => k_is); (case l14 => k_is); (case c14 => k_is); (case k14 => k_is); (case a15 => k_is); (case l15 => k_is); (case c15 => k_is); (case k15 => k_is); (case a16 => k_is); (case l16 => k_is); (case c16 => k_is); (case k16 => k_is); (case a17 => k_is); (case l17 => k_is); (case c17 => k_is); (case k17 => k_is); (case a18 => k_is); (case l18 => k_is); (case c18 => k_is); (case k18 => k_is); (case a19 => k_is); (case l19 => k_is); (case c19 => k_is); (case k19 => k_is); (case qg0 => k_is); (case qg1 => k_is); (case qg2 => k_is); (case z0 => k_is); (case z1 => k_is); (case z2 => k_is); (case z3 => k_is); (case z4 => k_is); (case z5 => k_is); (case z6 => k_is); (case z7 => k_is); (case z8 => k_is); (case z9 => k_is); (case z10 => k_is); (case z11 => k_is); (case z12 => k_is); (case z13 => k_is); (case z14 => k_is); (case z15 => k_is); (case z16 => k_is); (case z17 => k_is)
