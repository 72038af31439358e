import PyProof.Rows.All
import Wide.All
import OpenK.AllK
import Wide.FinOn
import HandS.ForMost
import HandS.ForExc
import HandS.IsInst
import HandS.TupAny
import HandS.Wide
import HandS.WrittenGet
import HandS.RaiseMore
import HandS.FStr
import HandS.CallSlots
import HandS.ExcInit
import HandS.Zip
import HandS.Style
import HandS.Text
import HandS.ExcIs
import HandS.ExcField
import HandS.ExcValue
import KE.KExcIs
import HandS.StrMore
import HandS.TryOnly
import PyProof.StrBlock2
import KE.IntTextLaws
import KE.IntTextText
import KE.RegKIsAll
import PySem.Challenge.RW_mirrorstair_k02_what_is_no_datum
set_option Elab.async false
set_option linter.all false
set_option maxRecDepth 100000
set_option maxHeartbeats 2000000
/-! The rich layer: values as trees, over the hand layer. -/
namespace Ri
open PySem L2

/-- a value as a tree: what never changes is told whole; ref: a thing that may change, a class, a def -/
inductive W where
  | non | bl (b : Bool) | int (i : Int) | str (x : Str) | tup (xs : List W) | fl (xs : List W) | sc (xs : List W)
  | obj (C : Addr) (ns : List Str) (xs : List W) | exc (C : Addr) (ns : List Str) (xs : List W) | ref (a : Addr) | ty (n : String)
  deriving Inhabited

/-- a caught exception as a thing that stands: its object, told by class and dict -/
def ExT (a : Addr) (cls : Value) (d : Option Addr) : HO := .ext fun h => ∃ ob, h.get? a = some ob ∧ Zc cls d ob ∧ ∃ fv, ob.data = .fields fv
section
variable (K : PySem.W.Frag)
mutual
/-- the tree w is the value v, by what stands for ever in F -/
def RelW (F : Hp) : W → V → Prop
  | .non, v => v = .non
  | .bl b, v => v = .bl b
  | .int i, v => v = .int i
  | .str x, v => v = .str x
  | .tup xs, v => ∃ a vs, v = .ref a ∧ SqT K F a vs ∧ RelWs F xs vs
  | .fl xs, v => ∃ a vs, v = .ref a ∧ F a = some (.lst vs) ∧ RelWs F xs vs
  | .sc xs, v => ∃ a vs, v = .ref a ∧ SqL K F a vs ∧ RelWs F xs vs
  | .obj C ns xs, v => ∃ a dx vs, v = .ref a ∧ F a = some (.ins C dx (ns.zip vs)) ∧ ns.length = vs.length ∧ RelWs F xs vs
  | .exc C ns xs, v => ∃ a d vs, v = .ref a ∧ F a = some (ExT a (.ref C) (some d)) ∧ F d = some (.xd (ns.zip vs)) ∧ ns.length = vs.length ∧ RelWs F xs vs
  | .ref a, v => v = .ref a
  | .ty n, v => v = .ty n
def RelWs (F : Hp) : List W → List V → Prop
  | [], [] => True
  | w :: ws, v :: vs => RelW F w v ∧ RelWs F ws vs
  | _, _ => False
end
end

theorem rd_sub {F G : Hp} (s : Same F G) {a : Addr} {u : HO} (h : Rd F a u) : Rd G a u := by
  rcases h with h | ⟨o, h⟩
  · exact .inl (s _ _ h)
  · exact .inr ⟨o, s _ _ h⟩
theorem sqT_sub {K : PySem.W.Frag} {F G : Hp} (s : Same F G) {a : Addr} {xs : List V} (h : SqT K F a xs) : SqT K G a xs := by
  rcases h with h | h
  · exact .inl (rd_sub s h)
  · exact .inr h
theorem sqL_sub {K : PySem.W.Frag} {F G : Hp} (s : Same F G) {a : Addr} {xs : List V} (h : SqL K F a xs) : SqL K G a xs := by
  rcases h with h | h
  · exact .inl (rd_sub s h)
  · exact .inr h

section
variable {K : PySem.W.Frag} {F G : Hp}
mutual
theorem RelW.mono (s : Same F G) : ∀ {w : W} {v : V}, RelW K F w v → RelW K G w v
  | .non, _, h => by simpa only [RelW] using h
  | .bl _, _, h => by simpa only [RelW] using h
  | .int _, _, h => by simpa only [RelW] using h
  | .str _, _, h => by simpa only [RelW] using h
  | .tup xs, _, h => by
    simp only [RelW] at h ⊢
    obtain ⟨a, vs, e, h1, h2⟩ := h
    exact ⟨a, vs, e, sqT_sub s h1, RelWs.mono s h2⟩
  | .fl xs, _, h => by
    simp only [RelW] at h ⊢
    obtain ⟨a, vs, e, h1, h2⟩ := h
    exact ⟨a, vs, e, s _ _ h1, RelWs.mono s h2⟩
  | .sc xs, _, h => by
    simp only [RelW] at h ⊢
    obtain ⟨a, vs, e, h1, h2⟩ := h
    exact ⟨a, vs, e, sqL_sub s h1, RelWs.mono s h2⟩
  | .obj C ns xs, _, h => by
    simp only [RelW] at h ⊢
    obtain ⟨a, dx, vs, e, h1, hl, h2⟩ := h
    exact ⟨a, dx, vs, e, s _ _ h1, hl, RelWs.mono s h2⟩
  | .exc C ns xs, _, h => by
    simp only [RelW] at h ⊢
    obtain ⟨a, d, vs, e, h1, h3, hl, h2⟩ := h
    exact ⟨a, d, vs, e, s _ _ h1, s _ _ h3, hl, RelWs.mono s h2⟩
  | .ref _, _, h => by simpa only [RelW] using h
  | .ty _, _, h => by simpa only [RelW] using h
theorem RelWs.mono (s : Same F G) : ∀ {ws : List W} {vs : List V}, RelWs K F ws vs → RelWs K G ws vs
  | [], [], _ => by simp only [RelWs]
  | w :: ws, v :: vs, h => by
    simp only [RelWs] at h ⊢
    exact ⟨RelW.mono s h.1, RelWs.mono s h.2⟩
  | [], _ :: _, h => by simp only [RelWs] at h
  | _ :: _, [], h => by simp only [RelWs] at h
end
theorem RelWs.nil : RelWs K F [] [] := by simp only [RelWs]
theorem RelWs.cons {w : W} {v : V} {ws : List W} {vs : List V} (h : RelW K F w v) (hs : RelWs K F ws vs) : RelWs K F (w :: ws) (v :: vs) := by
  simp only [RelWs]; exact ⟨h, hs⟩
theorem RelWs.cons_inv {w : W} {ws : List W} {vs : List V} (h : RelWs K F (w :: ws) vs) : ∃ v r, vs = v :: r ∧ RelW K F w v ∧ RelWs K F ws r := by
  cases vs with
  | nil => simp only [RelWs] at h
  | cons v r => simp only [RelWs] at h; exact ⟨v, r, rfl, h.1, h.2⟩
theorem RelWs.nil_inv {vs : List V} (h : RelWs K F [] vs) : vs = [] := by
  cases vs with
  | nil => rfl
  | cons v r => simp only [RelWs] at h
theorem RelWs.length : ∀ {ws : List W} {vs : List V}, RelWs K F ws vs → ws.length = vs.length
  | [], vs, h => by rw [RelWs.nil_inv h]; rfl
  | w :: ws, vs, h => by
    obtain ⟨v, r, rfl, _, h2⟩ := RelWs.cons_inv h
    simp [RelWs.length h2]
theorem RelWs.get : ∀ {ws : List W} {vs : List V} {i : Nat} {w : W}, RelWs K F ws vs → ws[i]? = some w → ∃ v, vs[i]? = some v ∧ RelW K F w v
  | [], _, _, _, _, e => by simp at e
  | w :: ws, vs, 0, x, h, e => by
    obtain ⟨v, r, rfl, h1, h2⟩ := RelWs.cons_inv h
    simp at e; subst e
    exact ⟨v, rfl, h1⟩
  | w :: ws, vs, i + 1, x, h, e => by
    obtain ⟨v, r, rfl, h1, h2⟩ := RelWs.cons_inv h
    obtain ⟨u, hu, ru⟩ := RelWs.get (i := i) h2 (by simpa using e)
    exact ⟨u, by simpa using hu, ru⟩
theorem RelWs.append : ∀ {ws : List W} {vs : List V} {ws' : List W} {vs' : List V}, RelWs K F ws vs → RelWs K F ws' vs' → RelWs K F (ws ++ ws') (vs ++ vs')
  | [], vs, _, _, h, h' => by rw [RelWs.nil_inv h]; exact h'
  | w :: ws, vs, _, _, h, h' => by
    obtain ⟨v, r, rfl, h1, h2⟩ := RelWs.cons_inv h
    exact .cons h1 (RelWs.append h2 h')
theorem RelWs.take : ∀ {ws : List W} {vs : List V} (n : Nat), RelWs K F ws vs → RelWs K F (ws.take n) (vs.take n)
  | _, _, 0, _ => by simp only [List.take_zero]; exact .nil
  | [], vs, n + 1, h => by rw [RelWs.nil_inv h]; exact .nil
  | w :: ws, vs, n + 1, h => by
    obtain ⟨v, r, rfl, h1, h2⟩ := RelWs.cons_inv h
    exact .cons h1 (RelWs.take n h2)
theorem RelWs.drop : ∀ {ws : List W} {vs : List V} (n : Nat), RelWs K F ws vs → RelWs K F (ws.drop n) (vs.drop n)
  | _, _, 0, h => h
  | [], vs, n + 1, h => by rw [RelWs.nil_inv h]; exact .nil
  | w :: ws, vs, n + 1, h => by
    obtain ⟨v, r, rfl, h1, h2⟩ := RelWs.cons_inv h
    exact RelWs.drop n h2
theorem RelWs.set {x : W} {y : V} (r : RelW K F x y) : ∀ {ws : List W} {vs : List V} (n : Nat), RelWs K F ws vs → RelWs K F (ws.set n x) (vs.set n y)
  | [], vs, _, h => by rw [RelWs.nil_inv h]; exact .nil
  | w :: ws, vs, 0, h => by
    obtain ⟨v, r', rfl, h1, h2⟩ := RelWs.cons_inv h
    exact .cons r h2
  | w :: ws, vs, n + 1, h => by
    obtain ⟨v, r', rfl, h1, h2⟩ := RelWs.cons_inv h
    exact .cons h1 (RelWs.set r n h2)
theorem RelWs.reverse : ∀ {ws : List W} {vs : List V}, RelWs K F ws vs → RelWs K F ws.reverse vs.reverse
  | [], vs, h => by rw [RelWs.nil_inv h]; exact .nil
  | w :: ws, vs, h => by
    obtain ⟨v, r, rfl, h1, h2⟩ := RelWs.cons_inv h
    rw [List.reverse_cons, List.reverse_cons]
    exact RelWs.append (RelWs.reverse h2) (.cons h1 .nil)
end

/-! ### things that change -/
inductive MO where
  | lst (xs : List W) | dK (kvs : List (Key × W)) | dT (kvs : List (List Key × W)) | ins (C : Addr) (fs : List (Str × W))
abbrev MH := Addr → Option MO
def mu (M : MH) (a : Addr) (o : MO) : MH := fun b => if b = a then some o else M b
theorem mu_same {M : MH} {a : Addr} {o : MO} : mu M a o a = some o := by unfold mu; rw [if_pos rfl]
theorem mu_ne {M : MH} {a b : Addr} {o : MO} (h : b ≠ a) : mu M a o b = M b := by unfold mu; rw [if_neg h]
theorem mu_mu {M : MH} {a : Addr} {o u : MO} : mu (mu M a o) a u = mu M a u := by
  funext b; unfold mu; split <;> rfl
theorem mu_id {M : MH} {a : Addr} {o : MO} (h : M a = some o) : mu M a o = M := by
  funext b; unfold mu; split
  · rename_i e; rw [e, h]
  · rfl
theorem mne {M : MH} {a b : Addr} {o : MO} (h : M a = some o) (h' : M b = none) : a ≠ b := by
  intro e; rw [e, h'] at h; cases h
def MSub (M N : MH) : Prop := ∀ a o, M a = some o → N a = some o
theorem MSub.refl (M : MH) : MSub M M := fun _ _ h => h
theorem MSub.trans {M N O : MH} (a : MSub M N) (b : MSub N O) : MSub M O := fun x o h => b x o (a x o h)
theorem MSub.mu {M : MH} {a : Addr} {o : MO} (h : M a = none) : MSub M (mu M a o) := fun b u e => by rw [mu_ne (mne e h)]; exact e

section
variable (K : PySem.W.Frag)
def RelFs (F : Hp) : List (Str × W) → List (Str × V) → Prop
  | [], [] => True
  | (n, w) :: r, (m, v) :: q => n = m ∧ RelW K F w v ∧ RelFs F r q
  | _, _ => False
def RelKs {κ : Type} (F : Hp) : List (κ × W) → List (κ × V) → Prop
  | [], [] => True
  | (n, w) :: r, (m, v) :: q => n = m ∧ RelW K F w v ∧ RelKs F r q
  | _, _ => False
def RelM (F : Hp) : MO → HO → Prop
  | .lst ws, o => ∃ vs, o = .lst vs ∧ RelWs K F ws vs
  | .dK kvs, o => ∃ vs, o = .dK vs ∧ RelKs K F kvs vs
  | .dT kvs, o => ∃ vs, o = .dT vs ∧ RelKs K F kvs vs
  | .ins C fs, o => ∃ dx vs, o = .ins C dx vs ∧ RelFs K F fs vs
/-- F: what stands for ever; M: what may change; H: the hand layer's heap -/
structure Ab (F : Hp) (M : MH) (H : Hp) : Prop where
  sub : Same F H
  mv : ∀ a m, M a = some m → ∃ o, H a = some o ∧ F a = none ∧ RelM K F m o
abbrev MSt := List (Option W)
def RelSt (F : Hp) : MSt → St → Prop
  | [], [] => True
  | none :: r, _ :: q => RelSt F r q
  | some w :: r, some v :: q => RelW K F w v ∧ RelSt F r q
  | _, _ => False
end
section
variable {K : PySem.W.Frag} {F G : Hp}
theorem RelFs.mono (s : Same F G) : ∀ {ws : List (Str × W)} {vs : List (Str × V)}, RelFs K F ws vs → RelFs K G ws vs
  | [], [], _ => by simp only [RelFs]
  | (n, w) :: r, (m, v) :: q, h => by
    simp only [RelFs] at h ⊢
    exact ⟨h.1, h.2.1.mono s, RelFs.mono s h.2.2⟩
  | [], _ :: _, h => by simp only [RelFs] at h
  | _ :: _, [], h => by simp only [RelFs] at h
theorem RelKs.mono {κ : Type} (s : Same F G) : ∀ {ws : List (κ × W)} {vs : List (κ × V)}, RelKs K F ws vs → RelKs K G ws vs
  | [], [], _ => by simp only [RelKs]
  | (n, w) :: r, (m, v) :: q, h => by
    simp only [RelKs] at h ⊢
    exact ⟨h.1, h.2.1.mono s, RelKs.mono s h.2.2⟩
  | [], _ :: _, h => by simp only [RelKs] at h
  | _ :: _, [], h => by simp only [RelKs] at h
theorem RelM.mono (s : Same F G) {m : MO} {o : HO} (h : RelM K F m o) : RelM K G m o := by
  cases m with
  | lst ws => obtain ⟨vs, e, r⟩ := h; exact ⟨vs, e, r.mono s⟩
  | dK ws => obtain ⟨vs, e, r⟩ := h; exact ⟨vs, e, r.mono s⟩
  | dT ws => obtain ⟨vs, e, r⟩ := h; exact ⟨vs, e, r.mono s⟩
  | ins C ws => obtain ⟨dx, vs, e, r⟩ := h; exact ⟨dx, vs, e, r.mono s⟩
theorem RelSt.mono (s : Same F G) : ∀ {ρ : MSt} {σ : St}, RelSt K F ρ σ → RelSt K G ρ σ
  | [], [], _ => by simp only [RelSt]
  | none :: r, _ :: q, h => by
    simp only [RelSt] at h ⊢
    exact RelSt.mono s h
  | some w :: r, some v :: q, h => by
    simp only [RelSt] at h ⊢
    exact ⟨h.1.mono s, RelSt.mono s h.2⟩
  | [], _ :: _, h => by simp only [RelSt] at h
  | none :: _, [], h => by simp only [RelSt] at h
  | some _ :: _, [], h => by simp only [RelSt] at h
  | some _ :: _, none :: _, h => by simp only [RelSt] at h
def gt : MSt → Nat → Option W
  | [], _ => none
  | x :: _, 0 => x
  | _ :: r, n + 1 => gt r n
theorem RelSt.get : ∀ {ρ : MSt} {σ : St} {i : Nat} {w : W}, RelSt K F ρ σ → gt ρ i = some w → ∃ v, σ[i]? = some (some v) ∧ RelW K F w v
  | [], _, _, _, _, e => by simp [gt] at e
  | none :: r, [], _, _, h, _ => by simp only [RelSt] at h
  | some w :: r, [], _, _, h, _ => by simp only [RelSt] at h
  | some w :: r, none :: q, _, _, h, _ => by simp only [RelSt] at h
  | none :: r, _ :: q, 0, _, h, e => by simp [gt] at e
  | none :: r, _ :: q, i + 1, w, h, e => by
    simp only [RelSt] at h
    obtain ⟨v, h1, h2⟩ := RelSt.get (i := i) h (by simpa [gt] using e)
    exact ⟨v, by simpa using h1, h2⟩
  | some w :: r, some v :: q, 0, x, h, e => by
    simp only [RelSt] at h
    simp [gt] at e; subst e
    exact ⟨v, rfl, h.1⟩
  | some w :: r, some v :: q, i + 1, x, h, e => by
    simp only [RelSt] at h
    obtain ⟨u, h1, h2⟩ := RelSt.get (i := i) h.2 (by simpa [gt] using e)
    exact ⟨u, by simpa using h1, h2⟩
/-- a name is stored -/
def st : MSt → Nat → W → MSt
  | [], _, _ => []
  | _ :: r, 0, w => some w :: r
  | x :: r, n + 1, w => x :: st r n w
theorem RelSt.set {w : W} {v : V} (rw' : RelW K F w v) : ∀ {ρ : MSt} {σ : St} (i : Nat), RelSt K F ρ σ → RelSt K F (st ρ i w) (σ.set i (some v))
  | [], [], _, h => by simp only [st, List.set_nil]; exact h
  | [], _ :: _, _, h => by simp only [RelSt] at h
  | none :: r, [], _, h => by simp only [RelSt] at h
  | some w :: r, [], _, h => by simp only [RelSt] at h
  | some w :: r, none :: q, _, h => by simp only [RelSt] at h
  | none :: r, x :: q, 0, h => by
    simp only [RelSt] at h
    simp only [st, List.set_cons_zero, RelSt]
    exact ⟨rw', h⟩
  | none :: r, x :: q, i + 1, h => by
    simp only [RelSt] at h
    simp only [st, List.set_cons_succ, RelSt]
    exact RelSt.set rw' i h
  | some w :: r, some v :: q, 0, h => by
    simp only [RelSt] at h
    simp only [st, List.set_cons_zero, RelSt]
    exact ⟨rw', h.2⟩
  | some w :: r, some v :: q, i + 1, h => by
    simp only [RelSt] at h
    simp only [st, List.set_cons_succ, RelSt]
    exact ⟨h.1, RelSt.set rw' i h.2⟩
/-- a name is forgotten (an except clause's) -/
def stN : MSt → Nat → MSt
  | [], _ => []
  | _ :: r, 0 => none :: r
  | x :: r, n + 1 => x :: stN r n
theorem RelSt.clear {o : Option V} : ∀ {ρ : MSt} {σ : St} (i : Nat), RelSt K F ρ σ → RelSt K F (stN ρ i) (σ.set i o)
  | [], [], _, h => by simp only [stN, List.set_nil]; exact h
  | [], _ :: _, _, h => by simp only [RelSt] at h
  | none :: r, [], _, h => by simp only [RelSt] at h
  | some w :: r, [], _, h => by simp only [RelSt] at h
  | some w :: r, none :: q, _, h => by simp only [RelSt] at h
  | none :: r, x :: q, 0, h => by
    simp only [RelSt] at h
    simp only [stN, List.set_cons_zero, RelSt]
    exact h
  | none :: r, x :: q, i + 1, h => by
    simp only [RelSt] at h
    simp only [stN, List.set_cons_succ, RelSt]
    exact RelSt.clear i h
  | some w :: r, some v :: q, 0, h => by
    simp only [RelSt] at h
    simp only [stN, List.set_cons_zero, RelSt]
    exact h.2
  | some w :: r, some v :: q, i + 1, h => by
    simp only [RelSt] at h
    simp only [stN, List.set_cons_succ, RelSt]
    exact ⟨h.1, RelSt.clear i h.2⟩
theorem Ab.shrink {M N : MH} {H : Hp} (a : Ab K F M H) (s : MSub N M) : Ab K F N H := ⟨a.sub, fun b m e => a.mv b m (s b m e)⟩
theorem Ab.fresh {M : MH} {H : Hp} {p : Addr} (a : Ab K F M H) (h : H p = none) : F p = none ∧ M p = none := by
  refine ⟨a.sub.free h, ?_⟩
  cases q : M p with
  | none => rfl
  | some m =>
    obtain ⟨o, e, _⟩ := a.mv p m q
    rw [h] at e; cases e
/-- what was tracked and is not of M may be taken for ever: a new thing -/
theorem Ab.frz {M : MH} {H : Hp} {p : Addr} {o : HO} (a : Ab K F M H) (h : H p = none) : Ab K (upd F p o) M (upd H p o) ∧ Same F (upd F p o) := by
  obtain ⟨f1, f2⟩ := a.fresh h
  have s : Same F (upd F p o) := fun b u e => by rw [upd_ne (ne_of_none e f1)]; exact e
  refine ⟨⟨fun b u e => ?_, fun b m e => ?_⟩, s⟩
  · by_cases hb : b = p
    · subst hb; rw [upd_same] at e ⊢; exact e
    · rw [upd_ne hb] at e ⊢; exact a.sub _ _ e
  · obtain ⟨u, h1, h2, h3⟩ := a.mv b m e
    have hb : b ≠ p := mne e f2
    exact ⟨u, by rw [upd_ne hb]; exact h1, by rw [upd_ne hb]; exact h2, h3.mono s⟩
/-- a new thing that may change -/
theorem Ab.laid {M : MH} {H : Hp} {p : Addr} {o : HO} {m : MO} (a : Ab K F M H) (h : H p = none) (r : RelM K F m o) : Ab K F (mu M p m) (upd H p o) := by
  obtain ⟨f1, f2⟩ := a.fresh h
  refine ⟨fun b u e => by rw [upd_ne (ne_of_none e f1)]; exact a.sub _ _ e, fun b m' e => ?_⟩
  by_cases hb : b = p
  · subst hb
    rw [mu_same] at e; cases e
    exact ⟨o, upd_same, f1, r⟩
  · rw [mu_ne hb] at e
    obtain ⟨u, h1, h2, h3⟩ := a.mv b m' e
    exact ⟨u, by rw [upd_ne hb]; exact h1, h2, h3⟩
/-- a thing that changes -/
theorem Ab.write {M : MH} {H : Hp} {p : Addr} {o : HO} {m m0 : MO} (a : Ab K F M H) (h : M p = some m0) (r : RelM K F m o) : Ab K F (mu M p m) (upd H p o) := by
  obtain ⟨u0, h1, f1, _⟩ := a.mv p m0 h
  refine ⟨fun b u e => ?_, fun b m' e => ?_⟩
  · have hb : b ≠ p := fun z => by rw [z, f1] at e; cases e
    rw [upd_ne hb]; exact a.sub _ _ e
  · by_cases hb : b = p
    · subst hb
      rw [mu_same] at e; cases e
      exact ⟨o, upd_same, f1, r⟩
    · rw [mu_ne hb] at e
      obtain ⟨u, h1, h2, h3⟩ := a.mv b m' e
      exact ⟨u, by rw [upd_ne hb]; exact h1, h2, h3⟩
/-- the hand layer's heap grew -/
theorem Ab.grow {M : MH} {H H' : Hp} (a : Ab K F M H) (s : Same H H') : Ab K F M H' :=
  ⟨a.sub.trans s, fun b m e => by obtain ⟨o, h1, h2, h3⟩ := a.mv b m e; exact ⟨o, s _ _ h1, h2, h3⟩⟩
/-- F may be told more of H, but for what M has -/
theorem Ab.more {M : MH} {H : Hp} (a : Ab K F M H) (s : Same F G) (g : Same G H) (d : ∀ b m, M b = some m → G b = none) : Ab K G M H :=
  ⟨g, fun b m e => by obtain ⟨o, h1, h2, h3⟩ := a.mv b m e; exact ⟨o, h1, d b m e, h3.mono s⟩⟩
end

/-! ### readings over trees -/
abbrev MQ := W → MH → Prop
abbrev ME := MSt → MH → MQ → Prop
abbrev MT := MSt → MH → (Bool → MH → Prop) → Prop
abbrev MA := MSt → MH → (List W → MH → Prop) → Prop
structure MEnds where
  nx : MSt → MH → Prop
  rt : MQ
  bk : MSt → MH → Prop := fun _ _ => False
  ct : MSt → MH → Prop := fun _ _ => False
abbrev MS := MEnds → MSt → MH → Prop

section
variable (K : PySem.W.Frag) (F0 : Hp)
def dnE (t : ME) : TE := fun σ H Q => ∃ F ρ M R, Same F0 F ∧ Ab K F M H ∧ RelSt K F ρ σ ∧ t ρ M R ∧
  ∀ F' w M' v H', Same F F' → Ab K F' M' H' → RelW K F' w v → R w M' → Q v H'
def dnT (t : MT) : TT := fun σ H Q => ∃ F ρ M R, Same F0 F ∧ Ab K F M H ∧ RelSt K F ρ σ ∧ t ρ M R ∧
  ∀ F' b M' H', Same F F' → Ab K F' M' H' → R b M' → Q b H'
def dnA (t : MA) : TA := fun σ H Q => ∃ F ρ M R, Same F0 F ∧ Ab K F M H ∧ RelSt K F ρ σ ∧ t ρ M R ∧
  ∀ F' ws M' vs H', Same F F' → Ab K F' M' H' → RelWs K F' ws vs → R ws M' → Q vs H'
/-- the ends below stand where those above do -/
structure EndsOk (F : Hp) (E : MEnds) (D : Ends) : Prop where
  nx : ∀ F' ρ M σ H, Same F F' → Ab K F' M H → RelSt K F' ρ σ → E.nx ρ M → D.nx σ H
  rt : ∀ F' w M v H, Same F F' → Ab K F' M H → RelW K F' w v → E.rt w M → D.rt v H
  bk : ∀ F' ρ M σ H, Same F F' → Ab K F' M H → RelSt K F' ρ σ → E.bk ρ M → D.bk σ H
  ct : ∀ F' ρ M σ H, Same F F' → Ab K F' M H → RelSt K F' ρ σ → E.ct ρ M → D.ct σ H
def dnS (t : MS) : TS := fun D σ H => ∃ F ρ M E, Same F0 F ∧ Ab K F M H ∧ RelSt K F ρ σ ∧ t E ρ M ∧ EndsOk K F E D
end
theorem EndsOk.mono {K : PySem.W.Frag} {F G : Hp} {E : MEnds} {D : Ends} (h : EndsOk K F E D) (s : Same F G) : EndsOk K G E D :=
  ⟨fun F' ρ M σ H s' => h.nx F' ρ M σ H (s.trans s'), fun F' w M v H s' => h.rt F' w M v H (s.trans s'), fun F' ρ M σ H s' => h.bk F' ρ M σ H (s.trans s'), fun F' ρ M σ H s' => h.ct F' ρ M σ H (s.trans s')⟩

/-! ### judgements -/
abbrev QE (X : Cx) (F0 : Hp) (e : Expr) (t : ME) : Prop := PE X e (dnE X.K F0 t)
abbrev QT (X : Cx) (F0 : Hp) (e : Expr) (t : MT) : Prop := PT X e (dnT X.K F0 t)
abbrev QW (X : Cx) (F0 : Hp) (e : Expr) (t : MT) : Prop := PW X e (dnT X.K F0 t)
abbrev QA (X : Cx) (F0 : Hp) (es : List Expr) (t : MA) : Prop := PA X es (dnA X.K F0 t)
abbrev QS (X : Cx) (F0 : Hp) (s : Stmt) (t : MS) : Prop := PS X s (dnS X.K F0 t)
abbrev QSs (X : Cx) (F0 : Hp) (s : List Stmt) (t : MS) : Prop := PSs X s (dnS X.K F0 t)
section
variable {X : Cx} {e : Expr} {es : List Expr} {s : Stmt} {ss : List Stmt}
theorem PE.wk {t t' : TE} (h : PE X e t) (i : ∀ σ H Q, t' σ H Q → t σ H Q) : PE X e t' := ⟨fun pins s σ H Q I q => h.run pins s σ H Q I (i _ _ _ q)⟩
theorem PT.wk {t t' : TT} (h : PT X e t) (i : ∀ σ H Q, t' σ H Q → t σ H Q) : PT X e t' := ⟨fun pins s σ H Q I q => h.run pins s σ H Q I (i _ _ _ q)⟩
theorem PW.wk {t t' : TT} (h : PW X e t) (i : ∀ σ H Q, t' σ H Q → t σ H Q) : PW X e t' := ⟨fun wh pins s σ H Q I q => h.run wh pins s σ H Q I (i _ _ _ q)⟩
theorem PA.wk {t t' : TA} (h : PA X es t) (i : ∀ σ H Q, t' σ H Q → t σ H Q) : PA X es t' := ⟨fun p pins s σ H Q I q => h.run p pins s σ H Q I (i _ _ _ q)⟩
theorem PS.wk {t t' : TS} (h : PS X s t) (i : ∀ D σ H, t' D σ H → t D σ H) : PS X s t' := ⟨fun pins s σ H D I q => h.run pins s σ H D I (i _ _ _ q)⟩
theorem PSs.wk {t t' : TS} (h : PSs X ss t) (i : ∀ D σ H, t' D σ H → t D σ H) : PSs X ss t' := ⟨fun pins s σ H D I q => h.run pins s σ H D I (i _ _ _ q)⟩
end

/-! ### names, constants -/
section
variable {X : Cx} {F0 : Hp} {pos : Pos}
def mVar (i : Nat) : ME := fun ρ M R => match gt ρ i with | some w => R w M | none => False
def mC (w : W) : ME := fun _ M R => R w M
theorem qe_of {e : Expr} {t : TE} {m : ME} (h : PE X e t)
    (l : ∀ F ρ M R σ H, Same F0 F → Ab X.K F M H → RelSt X.K F ρ σ → m ρ M R → t σ H (fun v H' => ∃ F' w M', Same F F' ∧ Ab X.K F' M' H' ∧ RelW X.K F' w v ∧ R w M'))
    (mono : ∀ σ H Q Q', (∀ v H', Q v H' → Q' v H') → t σ H Q → t σ H Q') : QE X F0 e m := by
  refine PE.wk h fun σ H Q ⟨F, ρ, M, R, s, a, r, q, k⟩ => ?_
  exact mono _ _ _ _ (fun v H' ⟨F', w, M', s', a', r', q'⟩ => k F' w M' v H' s' a' r' q') (l F ρ M R σ H s a r q)
theorem qv (i : Nat) {x : Str} (hN : X.N[i]? = some x := by rfl) (hv : Vis X.env.scope x := by first | exact Or.inl rfl | exact Or.inr (Or.inl rfl) | exact Or.inr (Or.inr rfl)) (hd : (x == ("__debug__" : Str)) = false := by decide)
    (hcd : (x == ("__classdict__" : Str)) = false := by decide) : QE X F0 (.Name x pos) (mVar i) := by
  refine PE.wk (pe_var hN hv hd hcd) fun σ H Q ⟨F, ρ, M, R, s, a, r, q, k⟩ => ?_
  unfold mVar at q
  cases e : gt ρ i with
  | none => rw [e] at q; exact q.elim
  | some w =>
    rw [e] at q
    obtain ⟨v, h1, h2⟩ := r.get e
    exact ⟨v, h1, k F w M v H (Same.refl _) a h2 q⟩
theorem qe_c {e : Expr} {v : V} {w : W} (h : PE X e (tC v)) (r : ∀ F, RelW X.K F w v) : QE X F0 e (mC w) := by
  refine PE.wk h fun σ H Q ⟨F, ρ, M, R, s, a, _, q, k⟩ => ?_
  exact k F w M v H (Same.refl _) a (r F) q
theorem qe_int {i j} : QE X F0 (.Constant (.int i) j pos) (mC (.int i)) := qe_c pe_int fun _ => by simp only [RelW]
theorem qe_bl {b j} : QE X F0 (.Constant (.bool b) j pos) (mC (.bl b)) := qe_c pe_bl fun _ => by simp only [RelW]
theorem qe_non {j} : QE X F0 (.Constant .none j pos) (mC .non) := qe_c pe_non fun _ => by simp only [RelW]
theorem qe_str {x j} : QE X F0 (.Constant (.str x) j pos) (mC (.str x)) := qe_c pe_str fun _ => by simp only [RelW]
/-- a module's name -/
theorem qe_glob {x : Str} {v : V} {u : Value} {w : W} (hg : Gl X x) (hm : X.mg x = some u) (r : RelV v u) (rw' : ∀ F, RelW X.K F w v) (hd : (x == ("__debug__" : Str)) = false := by decide) : QE X F0 (.Name x pos) (mC w) :=
  qe_c (pe_glob hg hm r hd) rw'
end
end Ri

set_option Elab.async false
set_option linter.all false
set_option maxRecDepth 100000
set_option maxHeartbeats 2000000
namespace Ri
open PySem L2

/-- what a rule hands on -/
def Fin (K : PySem.W.Frag) (F : Hp) (R : MQ) (Q : VK) : Prop := ∀ F' w M' v H', Same F F' → Ab K F' M' H' → RelW K F' w v → R w M' → Q v H'
theorem Fin.mono {K : PySem.W.Frag} {F G : Hp} {R : MQ} {Q : VK} (h : Fin K F R Q) (s : Same F G) : Fin K G R Q := fun F' w M' v H' s' => h F' w M' v H' (s.trans s')
theorem Fin.here {K : PySem.W.Frag} {F : Hp} {R : MQ} {Q : VK} {w : W} {M : MH} {v : V} {H : Hp} (h : Fin K F R Q) (a : Ab K F M H) (r : RelW K F w v) (q : R w M) : Q v H := h F w M v H (Same.refl _) a r q
theorem Fin.tup {K : PySem.W.Frag} {F : Hp} {R : MQ} {Q : VK} {ws : List W} {vs : List V} {M : MH} {H : Hp} {p : Addr} (h : Fin K F R Q) (a : Ab K F M H) (r : RelWs K F ws vs) (n : H p = none) (q : R (.tup ws) M) : Q (.ref p) (upd H p (.tup vs)) := by
  obtain ⟨a', s⟩ := a.frz (o := .tup vs) n
  refine h _ (.tup ws) M _ _ s a' ?_ q
  simp only [RelW]
  exact ⟨p, vs, rfl, SqT.of upd_same, r.mono s⟩
theorem Fin.fl {K : PySem.W.Frag} {F : Hp} {R : MQ} {Q : VK} {ws : List W} {vs : List V} {M : MH} {H : Hp} {p : Addr} (h : Fin K F R Q) (a : Ab K F M H) (r : RelWs K F ws vs) (n : H p = none) (q : R (.fl ws) M) : Q (.ref p) (upd H p (.lst vs)) := by
  obtain ⟨a', s⟩ := a.frz (o := .lst vs) n
  refine h _ (.fl ws) M _ _ s a' ?_ q
  simp only [RelW]
  exact ⟨p, vs, rfl, upd_same, r.mono s⟩
theorem Fin.lst {K : PySem.W.Frag} {F : Hp} {R : MQ} {Q : VK} {ws : List W} {vs : List V} {M : MH} {H : Hp} {p : Addr} (h : Fin K F R Q) (a : Ab K F M H) (r : RelWs K F ws vs) (n : H p = none) (q : ∀ p, M p = none → R (.ref p) (mu M p (.lst ws))) : Q (.ref p) (upd H p (.lst vs)) :=
  h F (.ref p) _ _ _ (Same.refl _) (a.laid (m := .lst ws) n ⟨vs, rfl, r⟩) (by simp only [RelW]) (q p (a.fresh n).2)

/-! ### inversions -/
section
variable {K : PySem.W.Frag} {F : Hp}
theorem rw_int {i : Int} {v : V} (h : RelW K F (.int i) v) : v = .int i := by simpa only [RelW] using h
theorem rw_str {i : Str} {v : V} (h : RelW K F (.str i) v) : v = .str i := by simpa only [RelW] using h
theorem rw_bl {i : Bool} {v : V} (h : RelW K F (.bl i) v) : v = .bl i := by simpa only [RelW] using h
theorem rw_non {v : V} (h : RelW K F .non v) : v = .non := by simpa only [RelW] using h
theorem rw_ref {a : Addr} {v : V} (h : RelW K F (.ref a) v) : v = .ref a := by simpa only [RelW] using h
theorem rw_ty {a : String} {v : V} (h : RelW K F (.ty a) v) : v = .ty a := by simpa only [RelW] using h
theorem rw_tup {xs : List W} {v : V} (h : RelW K F (.tup xs) v) : ∃ a vs, v = .ref a ∧ SqT K F a vs ∧ RelWs K F xs vs := by simpa only [RelW] using h
theorem rw_fl {xs : List W} {v : V} (h : RelW K F (.fl xs) v) : ∃ a vs, v = .ref a ∧ F a = some (.lst vs) ∧ RelWs K F xs vs := by simpa only [RelW] using h
theorem rw_sc {xs : List W} {v : V} (h : RelW K F (.sc xs) v) : ∃ a vs, v = .ref a ∧ SqL K F a vs ∧ RelWs K F xs vs := by simpa only [RelW] using h
theorem rw_obj {C : Addr} {ns : List Str} {xs : List W} {v : V} (h : RelW K F (.obj C ns xs) v) : ∃ a dx vs, v = .ref a ∧ F a = some (.ins C dx (ns.zip vs)) ∧ ns.length = vs.length ∧ RelWs K F xs vs := by simpa only [RelW] using h
theorem rw_exc {C : Addr} {ns : List Str} {xs : List W} {v : V} (h : RelW K F (.exc C ns xs) v) : ∃ a d vs, v = .ref a ∧ F a = some (ExT a (.ref C) (some d)) ∧ F d = some (.xd (ns.zip vs)) ∧ ns.length = vs.length ∧ RelWs K F xs vs := by simpa only [RelW] using h
theorem int_rw {i : Int} : RelW K F (.int i) (.int i) := by simp only [RelW]
theorem str_rw {i : Str} : RelW K F (.str i) (.str i) := by simp only [RelW]
theorem bl_rw {i : Bool} : RelW K F (.bl i) (.bl i) := by simp only [RelW]
theorem non_rw : RelW K F .non .non := by simp only [RelW]
theorem ref_rw {a : Addr} : RelW K F (.ref a) (.ref a) := by simp only [RelW]
theorem Ab.lst {M : MH} {H : Hp} {p : Addr} {ws : List W} (a : Ab K F M H) (h : M p = some (.lst ws)) : ∃ vs, H p = some (.lst vs) ∧ F p = none ∧ RelWs K F ws vs := by
  obtain ⟨o, h1, h2, vs, rfl, r⟩ := a.mv p _ h
  exact ⟨vs, h1, h2, r⟩
theorem Ab.ins {M : MH} {H : Hp} {p C : Addr} {fs : List (Str × W)} (a : Ab K F M H) (h : M p = some (.ins C fs)) : ∃ dx vs, H p = some (.ins C dx vs) ∧ F p = none ∧ RelFs K F fs vs := by
  obtain ⟨o, h1, h2, dx, vs, rfl, r⟩ := a.mv p _ h
  exact ⟨dx, vs, h1, h2, r⟩
/-- a list that may be read: its parts -/
def lw (M : MH) : W → Option (List W)
  | .fl xs => some xs
  | .sc xs => some xs
  | .ref p => match M p with | some (.lst xs) => some xs | _ => none
  | _ => none
theorem lw_sq {M : MH} {H : Hp} {w : W} {v : V} {xs : List W} (a : Ab K F M H) (r : RelW K F w v) (h : lw M w = some xs) : ∃ p vs, v = .ref p ∧ SqL K H p vs ∧ RelWs K F xs vs := by
  cases w with
  | fl ys =>
    simp only [lw, Option.some.injEq] at h; subst h
    obtain ⟨p, vs, e, h1, h2⟩ := rw_fl r
    exact ⟨p, vs, e, SqL.of (a.sub _ _ h1), h2⟩
  | sc ys =>
    simp only [lw, Option.some.injEq] at h; subst h
    obtain ⟨p, vs, e, h1, h2⟩ := rw_sc r
    exact ⟨p, vs, e, sqL_sub a.sub h1, h2⟩
  | ref p =>
    cases rw_ref r
    simp only [lw] at h
    split at h
    · rename_i ys e
      simp only [Option.some.injEq] at h; subst h
      obtain ⟨vs, h1, _, h2⟩ := a.lst e
      exact ⟨p, vs, rfl, SqL.of h1, h2⟩
    · cases h
  | _ => simp only [lw] at h; cases h
/-- .. that is no locked one -/
def lx (M : MH) : W → Option (List W)
  | .fl xs => some xs
  | .ref p => match M p with | some (.lst xs) => some xs | _ => none
  | _ => none
theorem lx_at {M : MH} {H : Hp} {w : W} {v : V} {xs : List W} (a : Ab K F M H) (r : RelW K F w v) (h : lx M w = some xs) : ∃ p vs, v = .ref p ∧ H p = some (.lst vs) ∧ RelWs K F xs vs := by
  cases w with
  | fl ys =>
    simp only [lx, Option.some.injEq] at h; subst h
    obtain ⟨p, vs, e, h1, h2⟩ := rw_fl r
    exact ⟨p, vs, e, a.sub _ _ h1, h2⟩
  | ref p =>
    cases rw_ref r
    simp only [lx] at h
    split at h
    · rename_i ys e
      simp only [Option.some.injEq] at h; subst h
      obtain ⟨vs, h1, _, h2⟩ := a.lst e
      exact ⟨p, vs, rfl, h1, h2⟩
    · cases h
  | _ => simp only [lx] at h; cases h
end

/-! ### operators -/
abbrev M2 := W → W → MH → MQ → Prop
abbrev M1 := W → MH → MQ → Prop
def Lnk (K : PySem.W.Frag) (rV : R2) (r : M2) : Prop := ∀ F M H x y x' y' R Q, Ab K F M H → RelW K F x x' → RelW K F y y' → r x y M R → Fin K F R Q → rV x' y' H Q
def QOp (X : Cx) (f : Value → Value → Sem Value) (r : M2) : Prop := ∃ rV, OpR X f rV ∧ Lnk X.K rV r
def QUn (X : Cx) (f : Value → Sem Value) (r : M1) : Prop := ∃ rV, UnR X f rV ∧ ∀ F M H x x' R Q, Ab X.K F M H → RelW X.K F x x' → r x M R → Fin X.K F R Q → rV x' H Q
def QIx (X : Cx) (r : M2) : Prop := ∃ rV, IxR X rV ∧ Lnk X.K rV r
def mOp (r : M2) (ta tb : ME) : ME := fun ρ M R => ta ρ M fun x M1 => tb ρ M1 fun y M2 => r x y M2 R
def mUn (r : M1) (ta : ME) : ME := fun ρ M R => ta ρ M fun x M1 => r x M1 R
section
variable {X : Cx} {F0 : Hp} {a b c e : Expr} {ta tb tc te : ME} {pos : Pos}
theorem lnk2 {K : PySem.W.Frag} {F0 : Hp} {rV : R2} {r : M2} (l : Lnk K rV r) {σ : St} {H : Hp} {Q : VK} (h : dnE K F0 (mOp r ta tb) σ H Q) : tOp rV (dnE K F0 ta) (dnE K F0 tb) σ H Q := by
  obtain ⟨F, ρ, M, R, s, a, rs, q, k⟩ := h
  exact ⟨F, ρ, M, _, s, a, rs, q, fun F1 x M1 x' H1 s1 a1 r1 q1 => ⟨F1, ρ, M1, _, s.trans s1, a1, rs.mono s1, q1, fun F2 y M2 y' H2 s2 a2 r2 q2 =>
    l F2 M2 H2 x y x' y' R Q a2 (r1.mono s2) r2 q2 fun F' w M' v H' s' => k F' w M' v H' (s1.trans (s2.trans s'))⟩⟩
theorem qe_op {op : Operator} {r : M2} (h : QOp X (binaryOp op) r) (ha : QE X F0 a ta) (hb : QE X F0 b tb) : QE X F0 (.BinOp a op b pos) (mOp r ta tb) :=
  let ⟨_, ho, l⟩ := h
  PE.wk (pe_op ho ha hb) fun _ _ _ q => lnk2 l q
theorem qe_cmp {op : CmpOp} {r : M2} (h : QOp X (compareOp op) r) (ha : QE X F0 a ta) (hb : QE X F0 b tb) (hm : behindInMarks op b = false) : QE X F0 (.Compare a [op] [b] pos) (mOp r ta tb) :=
  let ⟨_, ho, l⟩ := h
  PE.wk (pe_cmpR ho ha hb hm) fun _ _ _ q => lnk2 l q
theorem qe_ix {r : M2} (h : QIx X r) (ha : QE X F0 a ta) (hb : QE X F0 b tb) (hs : PlainIx b) : QE X F0 (.Subscript a b pos) (mOp r ta tb) :=
  let ⟨_, ho, l⟩ := h
  PE.wk (pe_ix ho ha hb hs) fun _ _ _ q => lnk2 l q
theorem qe_un {op : UnaryOp} {r : M1} (h : QUn X (unaryOp op) r) (ha : QE X F0 a ta) : QE X F0 (.UnaryOp op a pos) (mUn r ta) := by
  obtain ⟨rV, ho, l⟩ := h
  refine PE.wk (pe_un ho ha) fun σ H Q ⟨F, ρ, M, R, s, a, rs, q, k⟩ => ?_
  exact ⟨F, ρ, M, _, s, a, rs, q, fun F1 x M1 x' H1 s1 a1 r1 q1 => l F1 M1 H1 x x' R Q a1 r1 q1 fun F' w M' v H' s' => k F' w M' v H' (s1.trans s')⟩
/-- an expression whose value is a bool, as a test -/
def mTest (t : ME) : MT := fun ρ M R => t ρ M fun x M1 => match x with | .bl b => R b M1 | _ => False
theorem tst {K : PySem.W.Frag} {F0 : Hp} {t : ME} {σ : St} {H : Hp} {Q : Bool → Hp → Prop} (h : dnT K F0 (mTest t) σ H Q) : dnE K F0 t σ H (fun x H' => ∃ k, x = .bl k ∧ Q k H') := by
  obtain ⟨F, ρ, M, R, s, a, rs, q, k⟩ := h
  refine ⟨F, ρ, M, _, s, a, rs, q, fun F' w M' v H' s' a' r' q' => ?_⟩
  cases w with
  | bl b => exact ⟨b, rw_bl r', k F' b M' H' s' a' q'⟩
  | _ => exact q'.elim
theorem qt_cmp {op : CmpOp} {r : M2} (h : QOp X (compareOp op) r) (ha : QE X F0 a ta) (hb : QE X F0 b tb) (hm : behindInMarks op b = false) : QT X F0 (.Compare a [op] [b] pos) (mTest (mOp r ta tb)) := by
  obtain ⟨rV, ho, l⟩ := h
  exact PT.wk (pt_cmpR ho ha hb hm) fun σ H Q q => lnk2 l (tst q)
theorem qt_val (h : QE X F0 e te) (he : ∀ whole, isTrue e X.env whole = (do let v ← whole; standAt e.pos; holding [v] (truthy v)) := by intro _; rfl) : QT X F0 e (mTest te) :=
  PT.wk (pt_val h he) fun σ H Q q => tst q
/-- chains -/
def mChain (r r' : M2) (ta tb tc : ME) : ME := fun ρ M R => ta ρ M fun x M1 => tb ρ M1 fun y M2 => r x y M2 fun z M3 => match z with
  | .bl k => if k = true then tc ρ M3 fun w' M4 => r' y w' M4 R else R (.bl false) M3
  | _ => False
theorem chn {K : PySem.W.Frag} {F0 : Hp} {rV rV' : R2} {r r' : M2} (l : Lnk K rV r) (l' : Lnk K rV' r') {σ : St} {H : Hp} {Q : VK} (h : dnE K F0 (mChain r r' ta tb tc) σ H Q) : tChain rV rV' (dnE K F0 ta) (dnE K F0 tb) (dnE K F0 tc) σ H Q := by
  obtain ⟨F, ρ, M, R, s, a, rs, q, k⟩ := h
  refine ⟨F, ρ, M, _, s, a, rs, q, fun F1 x M1 x' H1 s1 a1 r1 q1 => ⟨F1, ρ, M1, _, s.trans s1, a1, rs.mono s1, q1, fun F2 y M2 y' H2 s2 a2 r2 q2 =>
    l F2 M2 H2 x y x' y' _ _ a2 (r1.mono s2) r2 q2 fun F3 z M3 z' H3 s3 a3 r3 q3 => ?_⟩⟩
  cases z with
  | bl kk =>
    refine ⟨kk, rw_bl r3, ?_⟩
    cases kk with
    | false =>
      rw [if_neg Bool.false_ne_true]
      have q3' : R (.bl false) M3 := by simpa using q3
      exact k F3 _ M3 _ H3 (s1.trans (s2.trans s3)) a3 bl_rw q3'
    | true =>
      rw [if_pos rfl]
      have q3' : tc ρ M3 fun w' M4 => r' y w' M4 R := by simpa using q3
      exact ⟨F3, ρ, M3, _, s.trans (s1.trans (s2.trans s3)), a3, rs.mono (s1.trans (s2.trans s3)), q3', fun F4 w M4 v H4 s4 a4 r4 q4 =>
        l' F4 M4 H4 y w y' v R Q a4 (r2.mono (s3.trans s4)) r4 q4 fun F' w M' v H' s' => k F' w M' v H' (s1.trans (s2.trans (s3.trans (s4.trans s'))))⟩
  | _ => exact q3.elim
theorem qe_chain {op op' : CmpOp} {r r' : M2} (h : QOp X (compareOp op) r) (h' : QOp X (compareOp op') r') (ha : QE X F0 a ta) (hb : QE X F0 b tb) (hc : QE X F0 c tc)
    (hm : lastMarks [op, op'] [b, c] = false := by with_unfolding_all rfl) : QE X F0 (.Compare a [op, op'] [b, c] pos) (mChain r r' ta tb tc) :=
  let ⟨_, ho, l⟩ := h
  let ⟨_, ho', l'⟩ := h'
  PE.wk (pe_chain ho ho' ha hb hc hm) fun _ _ _ q => chn l l' q
theorem qt_chain {op op' : CmpOp} {r r' : M2} (h : QOp X (compareOp op) r) (h' : QOp X (compareOp op') r') (ha : QE X F0 a ta) (hb : QE X F0 b tb) (hc : QE X F0 c tc)
    (hm : lastMarks [op, op'] [b, c] = false := by with_unfolding_all rfl) : QT X F0 (.Compare a [op, op'] [b, c] pos) (mTest (mChain r r' ta tb tc)) :=
  let ⟨_, ho, l⟩ := h
  let ⟨_, ho', l'⟩ := h'
  PT.wk (pt_chain ho ho' ha hb hc hm) fun _ _ _ q => chn l l' (tst q)
/-! ### and, or, not -/
def mAnd (t u : MT) : MT := fun ρ M R => t ρ M fun c M1 => if c = true then u ρ M1 R else R false M1
def mOr (t u : MT) : MT := fun ρ M R => t ρ M fun c M1 => if c = true then R true M1 else u ρ M1 R
def mNot (t : MT) : MT := fun ρ M R => t ρ M fun c M1 => R (!c) M1
variable {tA tB : MT} {rest : List Expr}
theorem qw_and1 (ha : QT X F0 a tA) : QW X F0 (.BoolOp .And [a] pos) tA := pw_and1 ha
theorem qw_or1 (ha : QT X F0 a tA) : QW X F0 (.BoolOp .Or [a] pos) tA := pw_or1 ha
theorem qw_and (ha : QT X F0 a tA) (hb : QW X F0 (.BoolOp .And (b :: rest) pos) tB) : QW X F0 (.BoolOp .And (a :: b :: rest) pos) (mAnd tA tB) := by
  refine PW.wk (pw_and ha hb) fun σ H Q ⟨F, ρ, M, R, s, a, rs, q, k⟩ => ?_
  refine ⟨F, ρ, M, _, s, a, rs, q, fun F1 c M1 H1 s1 a1 q1 => ?_⟩
  cases c with
  | true => exact ⟨F1, ρ, M1, _, s.trans s1, a1, rs.mono s1, by simpa using q1, fun F2 d M2 H2 s2 a2 q2 => k F2 d M2 H2 (s1.trans s2) a2 q2⟩
  | false =>
    rw [if_neg Bool.false_ne_true]
    exact k F1 false M1 H1 s1 a1 (by simpa using q1)
theorem qw_or (ha : QT X F0 a tA) (hb : QW X F0 (.BoolOp .Or (b :: rest) pos) tB) : QW X F0 (.BoolOp .Or (a :: b :: rest) pos) (mOr tA tB) := by
  refine PW.wk (pw_or ha hb) fun σ H Q ⟨F, ρ, M, R, s, a, rs, q, k⟩ => ?_
  refine ⟨F, ρ, M, _, s, a, rs, q, fun F1 c M1 H1 s1 a1 q1 => ?_⟩
  cases c with
  | false => exact ⟨F1, ρ, M1, _, s.trans s1, a1, rs.mono s1, by simpa using q1, fun F2 d M2 H2 s2 a2 q2 => k F2 d M2 H2 (s1.trans s2) a2 q2⟩
  | true =>
    rw [if_pos rfl]
    exact k F1 true M1 H1 s1 a1 (by simpa using q1)
theorem qt_not (ha : QT X F0 a tA) : QT X F0 (.UnaryOp .Not a pos) (mNot tA) := by
  refine PT.wk (pt_not ha) fun σ H Q ⟨F, ρ, M, R, s, a, rs, q, k⟩ => ?_
  exact ⟨F, ρ, M, _, s, a, rs, q, fun F1 c M1 H1 s1 a1 q1 => k F1 (!c) M1 H1 s1 a1 q1⟩
theorem QW.qt (h : QW X F0 e tA) : QT X F0 e tA := PW.pt h
/-- .. as values (bools) -/
def mAndV (ta tb : ME) : ME := fun ρ M R => ta ρ M fun x M1 => match x with | .bl c => if c = true then tb ρ M1 R else R (.bl false) M1 | _ => False
def mOrV (ta tb : ME) : ME := fun ρ M R => ta ρ M fun x M1 => match x with | .bl c => if c = true then R (.bl true) M1 else tb ρ M1 R | _ => False
def mNotV (ta : ME) : ME := fun ρ M R => ta ρ M fun x M1 => match x with | .bl c => R (.bl (!c)) M1 | _ => False
theorem qe_one {op} (h : QE X F0 a ta) : QE X F0 (.BoolOp op [a] pos) ta := pe_one h
theorem qe_and (ha : QE X F0 a ta) (hb : QE X F0 (.BoolOp .And (b :: rest) pos) tb) : QE X F0 (.BoolOp .And (a :: b :: rest) pos) (mAndV ta tb) := by
  refine PE.wk (pe_and ha hb) fun σ H Q ⟨F, ρ, M, R, s, a, rs, q, k⟩ => ?_
  refine ⟨F, ρ, M, _, s, a, rs, q, fun F1 x M1 x' H1 s1 a1 r1 q1 => ?_⟩
  cases x with
  | bl c =>
    refine ⟨c, rw_bl r1, ?_⟩
    cases c with
    | true =>
      rw [if_pos rfl]
      exact ⟨F1, ρ, M1, _, s.trans s1, a1, rs.mono s1, by simpa using q1, fun F' w M' v H' s' => k F' w M' v H' (s1.trans s')⟩
    | false =>
      rw [if_neg Bool.false_ne_true]
      exact k F1 _ M1 _ H1 s1 a1 bl_rw (by simpa using q1)
  | _ => exact q1.elim
theorem qe_or (ha : QE X F0 a ta) (hb : QE X F0 (.BoolOp .Or (b :: rest) pos) tb) : QE X F0 (.BoolOp .Or (a :: b :: rest) pos) (mOrV ta tb) := by
  refine PE.wk (pe_or ha hb) fun σ H Q ⟨F, ρ, M, R, s, a, rs, q, k⟩ => ?_
  refine ⟨F, ρ, M, _, s, a, rs, q, fun F1 x M1 x' H1 s1 a1 r1 q1 => ?_⟩
  cases x with
  | bl c =>
    refine ⟨c, rw_bl r1, ?_⟩
    cases c with
    | false =>
      rw [if_neg Bool.false_ne_true]
      exact ⟨F1, ρ, M1, _, s.trans s1, a1, rs.mono s1, by simpa using q1, fun F' w M' v H' s' => k F' w M' v H' (s1.trans s')⟩
    | true =>
      rw [if_pos rfl]
      exact k F1 _ M1 _ H1 s1 a1 bl_rw (by simpa using q1)
  | _ => exact q1.elim
theorem qe_not (ha : QE X F0 a ta) : QE X F0 (.UnaryOp .Not a pos) (mNotV ta) := by
  refine PE.wk (pe_not ha) fun σ H Q ⟨F, ρ, M, R, s, a, rs, q, k⟩ => ?_
  refine ⟨F, ρ, M, _, s, a, rs, q, fun F1 x M1 x' H1 s1 a1 r1 q1 => ?_⟩
  cases x with
  | bl c => exact ⟨c, rw_bl r1, k F1 _ M1 _ H1 s1 a1 bl_rw q1⟩
  | _ => exact q1.elim
def mIf (t : MT) (ta tb : ME) : ME := fun ρ M R => t ρ M fun c M1 => if c = true then ta ρ M1 R else tb ρ M1 R
theorem qe_if (hc : QT X F0 c tA) (ha : QE X F0 a ta) (hb : QE X F0 b tb) : QE X F0 (.IfExp c a b pos) (mIf tA ta tb) := by
  refine PE.wk (pe_ifExp hc ha hb) fun σ H Q ⟨F, ρ, M, R, s, a, rs, q, k⟩ => ?_
  refine ⟨F, ρ, M, _, s, a, rs, q, fun F1 c M1 H1 s1 a1 q1 => ?_⟩
  cases c with
  | true =>
    rw [if_pos rfl]
    exact ⟨F1, ρ, M1, _, s.trans s1, a1, rs.mono s1, by simpa using q1, fun F' w M' v H' s' => k F' w M' v H' (s1.trans s')⟩
  | false =>
    rw [if_neg Bool.false_ne_true]
    exact ⟨F1, ρ, M1, _, s.trans s1, a1, rs.mono s1, by simpa using q1, fun F' w M' v H' s' => k F' w M' v H' (s1.trans s')⟩

/-! ### arguments, displays -/
def mNil : MA := fun _ M R => R [] M
def mCons (ta : ME) (tr : MA) : MA := fun ρ M R => ta ρ M fun x M1 => tr ρ M1 fun xs M2 => R (x :: xs) M2
variable {es : List Expr} {t : MA}
theorem cns {K : PySem.W.Frag} {F0 : Hp} {σ : St} {H : Hp} {Q : List V → Hp → Prop} (h : dnA K F0 (mCons te t) σ H Q) : tCons (dnE K F0 te) (dnA K F0 t) σ H Q := by
  obtain ⟨F, ρ, M, R, s, a, rs, q, k⟩ := h
  exact ⟨F, ρ, M, _, s, a, rs, q, fun F1 x M1 x' H1 s1 a1 r1 q1 => ⟨F1, ρ, M1, _, s.trans s1, a1, rs.mono s1, q1, fun F2 xs M2 vs H2 s2 a2 r2 q2 =>
    k F2 (x :: xs) M2 (x' :: vs) H2 (s1.trans s2) a2 (.cons (r1.mono s2) r2) q2⟩⟩
theorem qa_nil : QA X F0 [] mNil := PA.wk pa_nil fun σ H Q ⟨F, ρ, M, R, s, a, rs, q, k⟩ => k F [] M [] H (Same.refl _) a .nil q
theorem qa_cons (ha : QE X F0 e te) (hr : QA X F0 es t) (hs : starEach (e :: es) X.env = (false, eval e X.env) :: starEach es X.env := by rfl) : QA X F0 (e :: es) (mCons te t) :=
  PA.wk (pa_cons ha hr hs) fun _ _ _ q => cns q
def mTup (t : MA) : ME := fun ρ M R => t ρ M fun xs M1 => xs.length ≤ sizeLine ∧ R (.tup xs) M1
def mFl (t : MA) : ME := fun ρ M R => t ρ M fun xs M1 => xs.length ≤ sizeLine ∧ R (.fl xs) M1
def mLst (t : MA) : ME := fun ρ M R => t ρ M fun xs M1 => xs.length ≤ sizeLine ∧ ∀ p, M1 p = none → R (.ref p) (mu M1 p (.lst xs))
theorem qe_tup {x1} (h : QA X F0 es t) : QE X F0 (.Tuple es x1 pos) (mTup t) := by
  refine PE.wk (pe_tup h) fun σ H Q ⟨F, ρ, M, R, s, a, rs, q, k⟩ => ?_
  refine ⟨F, ρ, M, _, s, a, rs, q, fun F1 ws M1 vs H1 s1 a1 r1 q1 => ⟨by rw [← r1.length]; exact q1.1, fun p n => ?_⟩⟩
  exact (Fin.mono k s1).tup a1 r1 n q1.2
/-- a list display that is never changed -/
theorem qe_fl (h : QA X F0 es t) : QE X F0 (.List es pos) (mFl t) := by
  refine PE.wk (pe_lst h) fun σ H Q ⟨F, ρ, M, R, s, a, rs, q, k⟩ => ?_
  refine ⟨F, ρ, M, _, s, a, rs, q, fun F1 ws M1 vs H1 s1 a1 r1 q1 => ⟨by rw [← r1.length]; exact q1.1, fun p n => ?_⟩⟩
  exact (Fin.mono k s1).fl a1 r1 n q1.2
theorem qe_lst (h : QA X F0 es t) : QE X F0 (.List es pos) (mLst t) := by
  refine PE.wk (pe_lst h) fun σ H Q ⟨F, ρ, M, R, s, a, rs, q, k⟩ => ?_
  refine ⟨F, ρ, M, _, s, a, rs, q, fun F1 ws M1 vs H1 s1 a1 r1 q1 => ⟨by rw [← r1.length]; exact q1.1, fun p n => ?_⟩⟩
  exact (Fin.mono k s1).lst a1 r1 n q1.2
end
end Ri

set_option Elab.async false
set_option linter.all false
set_option maxRecDepth 100000
set_option maxHeartbeats 2000000
namespace Ri
open PySem L2

/-! ### data -/
mutual
def dat : W → Option PyData
  | .non => some .none
  | .bl b => some (.bool b)
  | .int i => some (.int i)
  | .str x => some (.str x)
  | .tup xs => (dats xs).map .tuple
  | .fl xs => (dats xs).map .list
  | .sc xs => (dats xs).map .list
  | _ => none
def dats : List W → Option (List PyData)
  | [] => some []
  | w :: ws => (dat w).bind fun d => (dats ws).map (d :: ·)
end
/-- .. a list that may change, too -/
def datM (M : MH) : W → Option PyData
  | .ref p => match M p with | some (.lst xs) => (dats xs).map .list | _ => none
  | w => dat w
section
variable {K : PySem.W.Frag} {F : Hp}
mutual
theorem dp_of {M : MH} {H : Hp} (a : Ab K F M H) : ∀ {w : W} {v : V} {d : PyData}, RelW K F w v → dat w = some d → Dp K H v d
  | .non, v, d, r, h => by
    simp only [dat, Option.some.injEq] at h; subst h
    rw [rw_non r]; exact .non
  | .bl b, v, d, r, h => by
    simp only [dat, Option.some.injEq] at h; subst h
    rw [rw_bl r]; exact .bl b
  | .int b, v, d, r, h => by
    simp only [dat, Option.some.injEq] at h; subst h
    rw [rw_int r]; exact .int b
  | .str b, v, d, r, h => by
    simp only [dat, Option.some.injEq] at h; subst h
    rw [rw_str r]; exact .str b
  | .tup xs, v, d, r, h => by
    simp only [dat] at h
    obtain ⟨ds, e, h'⟩ := Option.map_eq_some_iff.mp h
    subst h'
    obtain ⟨p, vs, rfl, h1, h2⟩ := rw_tup r
    exact .tup (sqT_sub a.sub h1) (dps_of a h2 e)
  | .fl xs, v, d, r, h => by
    simp only [dat] at h
    obtain ⟨ds, e, h'⟩ := Option.map_eq_some_iff.mp h
    subst h'
    obtain ⟨p, vs, rfl, h1, h2⟩ := rw_fl r
    exact .lst (SqL.of (a.sub _ _ h1)) (dps_of a h2 e)
  | .sc xs, v, d, r, h => by
    simp only [dat] at h
    obtain ⟨ds, e, h'⟩ := Option.map_eq_some_iff.mp h
    subst h'
    obtain ⟨p, vs, rfl, h1, h2⟩ := rw_sc r
    exact .lst (sqL_sub a.sub h1) (dps_of a h2 e)
  | .obj _ _ _, _, _, _, h => by simp only [dat] at h; cases h
  | .exc _ _ _, _, _, _, h => by simp only [dat] at h; cases h
  | .ref _, _, _, _, h => by simp only [dat] at h; cases h
  | .ty _, _, _, _, h => by simp only [dat] at h; cases h
theorem dps_of {M : MH} {H : Hp} (a : Ab K F M H) : ∀ {ws : List W} {vs : List V} {ds : List PyData}, RelWs K F ws vs → dats ws = some ds → DpAll K H vs ds
  | [], vs, ds, r, h => by
    simp only [dats, Option.some.injEq] at h; subst h
    rw [RelWs.nil_inv r]; exact .nil
  | w :: ws, vs, ds, r, h => by
    obtain ⟨v, q, rfl, r1, r2⟩ := RelWs.cons_inv r
    simp only [dats] at h
    obtain ⟨d, e1, h⟩ := Option.bind_eq_some_iff.mp h
    obtain ⟨es, e2, h⟩ := Option.map_eq_some_iff.mp h
    subst h
    exact .cons (dp_of a r1 e1) (dps_of a r2 e2)
end
theorem dpM_of {M : MH} {H : Hp} (a : Ab K F M H) {w : W} {v : V} {d : PyData} (r : RelW K F w v) (h : datM M w = some d) : Dp K H v d := by
  cases w with
  | ref p =>
    simp only [datM] at h
    split at h
    · rename_i xs e
      obtain ⟨ds, e1, h⟩ := Option.map_eq_some_iff.mp h
      subst h
      cases rw_ref r
      obtain ⟨vs, h1, _, h2⟩ := a.lst e
      exact .lst (SqL.of h1) (dps_of a h2 e1)
    · cases h
  | _ => exact dp_of a r h
end
/-- two scalars: are they the same -/
def scq : W → W → Option Bool
  | .non, .non => some true | .non, .int _ => some false | .int _, .non => some false | .non, .bl _ => some false | .bl _, .non => some false | .non, .str _ => some false | .str _, .non => some false
  | .int i, .int j => some (decide (i = j)) | .bl i, .bl j => some (decide (i = j)) | .str i, .str j => some (decide (i = j))
  | .int _, .str _ => some false | .str _, .int _ => some false | .bl _, .str _ => some false | .str _, .bl _ => some false
  | _, _ => none
theorem scq_of {K : PySem.W.Frag} {F : Hp} {x y : W} {x' y' : V} {b : Bool} (r : RelW K F x x') (q : RelW K F y y') (h : scq x y = some b) : scal x' y' = true ∧ decide (x' = y') = b := by
  cases x with
  | non =>
    rw [rw_non r]
    cases y with
    | non => rw [rw_non q]; simp only [scq, Option.some.injEq] at h; subst h; exact ⟨rfl, by simp⟩
    | int j => rw [rw_int q]; simp only [scq, Option.some.injEq] at h; subst h; exact ⟨rfl, by simp⟩
    | bl j => rw [rw_bl q]; simp only [scq, Option.some.injEq] at h; subst h; exact ⟨rfl, by simp⟩
    | str j => rw [rw_str q]; simp only [scq, Option.some.injEq] at h; subst h; exact ⟨rfl, by simp⟩
    | _ => simp only [scq] at h; cases h
  | int i =>
    rw [rw_int r]
    cases y with
    | non => rw [rw_non q]; simp only [scq, Option.some.injEq] at h; subst h; exact ⟨rfl, by simp⟩
    | int j => rw [rw_int q]; simp only [scq, Option.some.injEq] at h; subst h; exact ⟨rfl, by simp⟩
    | str j => rw [rw_str q]; simp only [scq, Option.some.injEq] at h; subst h; exact ⟨rfl, by simp⟩
    | _ => simp only [scq] at h; cases h
  | bl i =>
    rw [rw_bl r]
    cases y with
    | non => rw [rw_non q]; simp only [scq, Option.some.injEq] at h; subst h; exact ⟨rfl, by simp⟩
    | bl j => rw [rw_bl q]; simp only [scq, Option.some.injEq] at h; subst h; exact ⟨rfl, by simp⟩
    | str j => rw [rw_str q]; simp only [scq, Option.some.injEq] at h; subst h; exact ⟨rfl, by simp⟩
    | _ => simp only [scq] at h; cases h
  | str i =>
    rw [rw_str r]
    cases y with
    | non => rw [rw_non q]; simp only [scq, Option.some.injEq] at h; subst h; exact ⟨rfl, by simp⟩
    | int j => rw [rw_int q]; simp only [scq, Option.some.injEq] at h; subst h; exact ⟨rfl, by simp⟩
    | bl j => rw [rw_bl q]; simp only [scq, Option.some.injEq] at h; subst h; exact ⟨rfl, by simp⟩
    | str j => rw [rw_str q]; simp only [scq, Option.some.injEq] at h; subst h; exact ⟨rfl, by simp⟩
    | _ => simp only [scq] at h; cases h
  | _ => simp only [scq] at h; cases h

/-- ==, != by data -/
def deq (M : MH) (x y : W) (k : Bool → Prop) : Prop :=
  match scq x y with
  | some b => k b
  | none => match datM M x, datM M y with
    | some d, some e => d.canLay0 = true ∧ e.canLay0 = true ∧ min d.depth e.depth ≤ 64 ∧ k (PyData.eqv d e)
    | _, _ => False
def mEq : M2 := fun x y M R => deq M x y fun b => R (.bl b) M
def mNe : M2 := fun x y M R => deq M x y fun b => R (.bl (!b)) M
section
variable {X : Cx}
theorem op_eqM (hu : X.A.units + 64 < cLine) : OpR X (compareOp .Eq) (fun x y H Q => ∃ d e, Dp X.K H x d ∧ Dp X.K H y e ∧ d.canLay0 = true ∧ e.canLay0 = true ∧ min d.depth e.depth ≤ 64 ∧ Q (.bl (PyData.eqv d e)) H) := by
  intro pins s σ H x y v u Q I rx ry h
  obtain ⟨d, e, hd, he, sd, se, z, q⟩ := h
  obtain ⟨as, r1⟩ := Dp.reads I d x v hd rx
  obtain ⟨bs, r2⟩ := Dp.reads I e y u he ry
  exact SeqAt.compareEq_reads r1 r2 sd se (by omega) ⟨.bl _, H, I, rfl, q⟩
theorem op_neM (hu : X.A.units + 64 < cLine) : OpR X (compareOp .NotEq) (fun x y H Q => ∃ d e, Dp X.K H x d ∧ Dp X.K H y e ∧ d.canLay0 = true ∧ e.canLay0 = true ∧ min d.depth e.depth ≤ 64 ∧ Q (.bl (!PyData.eqv d e)) H) := by
  intro pins s σ H x y v u Q I rx ry h
  obtain ⟨d, e, hd, he, sd, se, z, q⟩ := h
  obtain ⟨as, r1⟩ := Dp.reads I d x v hd rx
  obtain ⟨bs, r2⟩ := Dp.reads I e y u he ry
  exact SeqAt.compareNe_reads r1 r2 sd se (by omega) ⟨.bl _, H, I, rfl, q⟩
theorem q_eq (hu : X.A.units + 64 < cLine) : QOp X (compareOp .Eq) mEq := by
  refine ⟨_, op_eq.or (op_eqM hu), fun F M H x y x' y' R Q a rx ry h k => ?_⟩
  unfold mEq deq at h
  cases e : scq x y with
  | some b =>
    rw [e] at h
    obtain ⟨h1, h2⟩ := scq_of rx ry e
    exact .inl ⟨h1, by rw [h2]; exact k.here a bl_rw h⟩
  | none =>
    rw [e] at h
    dsimp only at h
    split at h
    · rename_i d e' h1 h2
      obtain ⟨h3, h4, h5, h6⟩ := h
      exact .inr ⟨d, e', dpM_of a rx h1, dpM_of a ry h2, h3, h4, h5, k.here a bl_rw h6⟩
    · exact h.elim
theorem q_ne (hu : X.A.units + 64 < cLine) : QOp X (compareOp .NotEq) mNe := by
  refine ⟨_, op_ne.or (op_neM hu), fun F M H x y x' y' R Q a rx ry h k => ?_⟩
  unfold mNe deq at h
  cases e : scq x y with
  | some b =>
    rw [e] at h
    obtain ⟨h1, h2⟩ := scq_of rx ry e
    exact .inl ⟨h1, by rw [h2]; exact k.here a bl_rw h⟩
  | none =>
    rw [e] at h
    dsimp only at h
    split at h
    · rename_i d e' h1 h2
      obtain ⟨h3, h4, h5, h6⟩ := h
      exact .inr ⟨d, e', dpM_of a rx h1, dpM_of a ry h2, h3, h4, h5, k.here a bl_rw h6⟩
    · exact h.elim

/-! ### + - * // % ** -/
def mAdd : M2
  | .int i, .int j, M, R => R (.int (i + j)) M
  | .str i, .str j, M, R => i.length + j.length ≤ sizeLine ∧ R (.str (i ++ j)) M
  | .tup i, .tup j, M, R => i.length + j.length ≤ sizeLine ∧ R (.tup (i ++ j)) M
  | x, y, M, R => match lx M x, lx M y with
    | some i, some j => i.length + j.length ≤ sizeLine ∧ R (.fl (i ++ j)) M
    | _, _ => False
theorem RelWs.nil_iff {K : PySem.W.Frag} {F : Hp} {ws : List W} {vs : List V} (r : RelWs K F ws vs) : vs = [] ↔ ws = [] := by
  cases ws with
  | nil => rw [RelWs.nil_inv r]; simp
  | cons w ws =>
    obtain ⟨v, q, rfl, _, _⟩ := RelWs.cons_inv r
    simp
theorem q_add : QOp X (binaryOp .Add) mAdd := by
  refine ⟨_, op_add.or (op_add_str.or (op_catA.or op_cat)), fun F M H x y x' y' R Q a rx ry h k => ?_⟩
  have lists : ∀ i j, lx M x = some i → lx M y = some j → i.length + j.length ≤ sizeLine → R (.fl (i ++ j)) M → rCat x' y' H Q := fun i j h1 h2 h3 h4 => by
    obtain ⟨p, vs, rfl, e1, r1⟩ := lx_at a rx h1
    obtain ⟨q, us, rfl, e2, r2⟩ := lx_at a ry h2
    refine ⟨p, q, vs, us, rfl, rfl, e1, e2, by rw [← r1.length, ← r2.length]; exact h3, fun p n => ?_⟩
    exact k.fl a (r1.append r2) n h4
  have gen : (match lx M x, lx M y with
    | some i, some j => i.length + j.length ≤ sizeLine ∧ R (.fl (i ++ j)) M
    | _, _ => False) → rCat x' y' H Q := fun h => by
    split at h
    · rename_i i j h1 h2
      exact lists i j h1 h2 h.1 h.2
    · exact h.elim
  cases x with
  | int i =>
    cases y with
    | int j => exact .inl ⟨i, j, rw_int rx, rw_int ry, k.here a int_rw h⟩
    | _ => exact .inr (.inr (.inr (gen h)))
  | str i =>
    cases y with
    | str j => exact .inr (.inl ⟨i, j, rw_str rx, rw_str ry, h.1, k.here a str_rw h.2⟩)
    | _ => exact .inr (.inr (.inr (gen h)))
  | tup i =>
    cases y with
    | tup j =>
      obtain ⟨p, vs, rfl, e1, r1⟩ := rw_tup rx
      obtain ⟨q, us, rfl, e2, r2⟩ := rw_tup ry
      refine .inr (.inr (.inl ⟨p, q, vs, us, rfl, rfl, sqT_sub a.sub e1, sqT_sub a.sub e2, by rw [← r1.length, ← r2.length]; exact h.1, fun z => ?_, fun _ z => ?_, fun _ _ p n => ?_⟩))
      · have z' := r1.nil_iff.mp z
        subst z'
        exact k.here a ry h.2
      · have z' := r2.nil_iff.mp z
        subst z'
        exact k.here a rx (by simpa using h.2)
      · exact k.tup a (r1.append r2) n h.2
    | _ => exact .inr (.inr (.inr (gen h)))
  | _ => exact .inr (.inr (.inr (gen h)))
def mSub : M2
  | .int i, .int j, M, R => R (.int (i - j)) M
  | _, _, _, _ => False
def ofI {rV : R2} {f : Value → Value → Sem Value} {C : Int → Int → Prop} {g : Int → Int → Int} (h : OpR X f (rI C fun i j => .int (g i j))) : QOp X f (fun x y M R => match x, y with | .int i, .int j => C i j ∧ R (.int (g i j)) M | _, _ => False) := by
  refine ⟨_, h, fun F M H x y x' y' R Q a rx ry h k => ?_⟩
  dsimp only at h
  split at h
  · exact ⟨_, _, rw_int rx, rw_int ry, h.1, k.here a int_rw h.2⟩
  · exact h.elim
theorem q_sub : QOp X (binaryOp .Sub) mSub := by
  refine ⟨_, op_sub, fun F M H x y x' y' R Q a rx ry h k => ?_⟩
  unfold mSub at h
  split at h
  · exact ⟨_, _, rw_int rx, rw_int ry, k.here a int_rw h⟩
  · exact h.elim
/-- * of ints, of a text and an int, of a list and an int -/
def mMul : M2
  | .int i, .int j, M, R => CMulW i j ∧ R (.int (i * j)) M
  | _, _, _, _ => False
theorem q_mul : QOp X (binaryOp .Mult) mMul := by
  refine ⟨_, op_mulW, fun F M H x y x' y' R Q a rx ry h k => ?_⟩
  unfold mMul at h
  split at h
  · exact ⟨_, _, rw_int rx, rw_int ry, h.1, k.here a int_rw h.2⟩
  · exact h.elim
def mDiv : M2
  | .int i, .int j, M, R => CDivW i j ∧ R (.int (i / j)) M
  | _, _, _, _ => False
theorem q_div : QOp X (binaryOp .FloorDiv) mDiv := by
  refine ⟨_, op_fdivW, fun F M H x y x' y' R Q a rx ry h k => ?_⟩
  unfold mDiv at h
  split at h
  · exact ⟨_, _, rw_int rx, rw_int ry, h.1, k.here a int_rw h.2⟩
  · exact h.elim
def mMod : M2
  | .int i, .int j, M, R => 0 < j ∧ R (.int (i % j)) M
  | _, _, _, _ => False
theorem q_mod : QOp X (binaryOp .Mod) mMod := by
  refine ⟨_, op_mod, fun F M H x y x' y' R Q a rx ry h k => ?_⟩
  unfold mMod at h
  split at h
  · exact ⟨_, _, rw_int rx, rw_int ry, h.1, k.here a int_rw h.2⟩
  · exact h.elim
def mPow : M2
  | .int i, .int j, M, R => 0 ≤ j ∧ (Builtin.Int.intBits i : Int) * j ≤ 2 ^ 27 ∧ R (.int (i ^ j.toNat)) M
  | _, _, _, _ => False
theorem q_pow : QOp X (binaryOp .Pow) mPow := by
  have h : OpR X (binaryOp .Pow) (rI (fun i j => 0 ≤ j ∧ (Builtin.Int.intBits i : Int) * j ≤ 2 ^ 27) fun i j => .int (i ^ j.toNat)) := opI fun _ _ _ _ _ _ _ hc q => PyProof.Rows.pow_int hc.1 hc.2 q
  refine ⟨_, h, fun F M H x y x' y' R Q a rx ry h k => ?_⟩
  unfold mPow at h
  split at h
  · exact ⟨_, _, rw_int rx, rw_int ry, ⟨h.1, h.2.1⟩, k.here a int_rw h.2.2⟩
  · exact h.elim
def mNeg : M1
  | .int i, M, R => R (.int (-i)) M
  | _, _, _ => False
theorem q_neg : QUn X (unaryOp .USub) mNeg := by
  refine ⟨_, un_neg, fun F M H x x' R Q a rx h k => ?_⟩
  unfold mNeg at h
  split at h
  · exact ⟨_, rw_int rx, k.here a int_rw h⟩
  · exact h.elim

/-! ### < <= > >= -/
def mLt : M2
  | .int i, .int j, M, R => R (.bl (decide (i < j))) M
  | _, _, _, _ => False
def mLe : M2
  | .int i, .int j, M, R => R (.bl (decide (i ≤ j))) M
  | _, _, _, _ => False
def mGt : M2
  | .int i, .int j, M, R => R (.bl (decide (j < i))) M
  | _, _, _, _ => False
def mGe : M2
  | .int i, .int j, M, R => R (.bl (decide (j ≤ i))) M
  | _, _, _, _ => False
theorem q_lt : QOp X (compareOp .Lt) mLt := by
  refine ⟨_, op_lt, fun F M H x y x' y' R Q a rx ry h k => ?_⟩
  unfold mLt at h
  split at h
  · exact ⟨_, _, rw_int rx, rw_int ry, k.here a bl_rw h⟩
  · exact h.elim
theorem q_le : QOp X (compareOp .LtE) mLe := by
  refine ⟨_, op_le, fun F M H x y x' y' R Q a rx ry h k => ?_⟩
  unfold mLe at h
  split at h
  · exact ⟨_, _, rw_int rx, rw_int ry, k.here a bl_rw h⟩
  · exact h.elim
theorem q_gt : QOp X (compareOp .Gt) mGt := by
  refine ⟨_, op_gt, fun F M H x y x' y' R Q a rx ry h k => ?_⟩
  unfold mGt at h
  split at h
  · exact ⟨_, _, rw_int rx, rw_int ry, k.here a bl_rw h⟩
  · exact h.elim
theorem q_ge : QOp X (compareOp .GtE) mGe := by
  refine ⟨_, op_ge, fun F M H x y x' y' R Q a rx ry h k => ?_⟩
  unfold mGe at h
  split at h
  · exact ⟨_, _, rw_int rx, rw_int ry, k.here a bl_rw h⟩
  · exact h.elim

/-! ### in, not in; is None -/
/-- == of flat values -/
def feq : W → W → Bool
  | .non, .non => true
  | .bl a, .bl b => a == b
  | .bl a, .int b => (if a then 1 else 0) == b
  | .int a, .bl b => a == (if b then 1 else 0)
  | .int a, .int b => a == b
  | .str a, .str b => a == b
  | _, _ => false
def flat : W → Bool
  | .non => true | .bl _ => true | .int _ => true | .str _ => true | _ => false
theorem flat_of {K : PySem.W.Frag} {F : Hp} {w : W} {v : V} (r : RelW K F w v) (h : flat w = true) : flatV v = true := by
  cases w with
  | non => rw [rw_non r]; rfl
  | bl b => rw [rw_bl r]; rfl
  | int b => rw [rw_int r]; rfl
  | str b => rw [rw_str r]; rfl
  | _ => exact absurd h (by simp [flat])
theorem feq_of {K : PySem.W.Frag} {F : Hp} {w x : W} {v y : V} (r : RelW K F w v) (q : RelW K F x y) (h : flat w = true) (h' : flat x = true) : eqV v y = feq w x := by
  cases w with
  | non => rw [rw_non r]; cases x with
    | non => rw [rw_non q]; rfl
    | bl b => rw [rw_bl q]; rfl
    | int b => rw [rw_int q]; rfl
    | str b => rw [rw_str q]; rfl
    | _ => exact absurd h' (by simp [flat])
  | bl b => rw [rw_bl r]; cases x with
    | non => rw [rw_non q]; rfl
    | bl b => rw [rw_bl q]; rfl
    | int b => rw [rw_int q]; rfl
    | str b => rw [rw_str q]; rfl
    | _ => exact absurd h' (by simp [flat])
  | int b => rw [rw_int r]; cases x with
    | non => rw [rw_non q]; rfl
    | bl b => rw [rw_bl q]; rfl
    | int b => rw [rw_int q]; rfl
    | str b => rw [rw_str q]; rfl
    | _ => exact absurd h' (by simp [flat])
  | str b => rw [rw_str r]; cases x with
    | non => rw [rw_non q]; rfl
    | bl b => rw [rw_bl q]; rfl
    | int b => rw [rw_int q]; rfl
    | str b => rw [rw_str q]; rfl
    | _ => exact absurd h' (by simp [flat])
  | _ => exact absurd h (by simp [flat])
theorem flats_of {K : PySem.W.Frag} {F : Hp} : ∀ {ws : List W} {vs : List V}, RelWs K F ws vs → ws.all flat = true → vs.all flatV = true
  | [], vs, r, _ => by rw [RelWs.nil_inv r]; rfl
  | w :: ws, vs, r, h => by
    obtain ⟨v, q, rfl, r1, r2⟩ := RelWs.cons_inv r
    rw [List.all_cons, Bool.and_eq_true] at h ⊢
    exact ⟨flat_of r1 h.1, flats_of r2 h.2⟩
theorem inV_of {K : PySem.W.Frag} {F : Hp} {x : W} {y : V} (rx : RelW K F x y) (hx : flat x = true) : ∀ {ws : List W} {vs : List V}, RelWs K F ws vs → ws.all flat = true → inV y vs = ws.any fun w => feq w x
  | [], vs, r, _ => by rw [RelWs.nil_inv r]; rfl
  | w :: ws, vs, r, h => by
    obtain ⟨v, q, rfl, r1, r2⟩ := RelWs.cons_inv r
    rw [List.all_cons, Bool.and_eq_true] at h
    have ih := inV_of rx hx r2 h.2
    unfold inV at ih ⊢
    rw [List.any_cons, List.any_cons, ih, feq_of r1 rx h.1 hx]
/-- a list or tuple: its parts -/
def pw (M : MH) : W → Option (List W)
  | .tup xs => some xs
  | w => lw M w
theorem pw_sq {K : PySem.W.Frag} {F : Hp} {M : MH} {H : Hp} {w : W} {v : V} {xs : List W} (a : Ab K F M H) (r : RelW K F w v) (h : pw M w = some xs) : ∃ p vs, v = .ref p ∧ (SqL K H p vs ∨ SqT K H p vs) ∧ RelWs K F xs vs := by
  have l : lw M w = some xs → ∃ p vs, v = .ref p ∧ (SqL K H p vs ∨ SqT K H p vs) ∧ RelWs K F xs vs := fun h => by
    obtain ⟨p, vs, e, h1, h2⟩ := lw_sq a r h
    exact ⟨p, vs, e, .inl h1, h2⟩
  cases w with
  | tup ys =>
    simp only [pw, Option.some.injEq] at h; subst h
    obtain ⟨p, vs, e, h1, h2⟩ := rw_tup r
    exact ⟨p, vs, e, .inr (sqT_sub a.sub h1), h2⟩
  | _ => exact l h
def inStr (i j : Str) : Bool := !(Builtin.Str.occurrences j i 0 j.length 1).isEmpty
def mIn (neg : Bool) : M2 := fun x y M R =>
  match x, y with
  | .str i, .str j => R (.bl (if neg then !(inStr i j) else inStr i j)) M
  | _, _ => match pw M y with
    | some ws => flat x = true ∧ ws.all flat = true ∧ R (.bl (if neg then !(ws.any fun w => feq w x) else ws.any fun w => feq w x)) M
    | none => False
theorem in_gen {K : PySem.W.Frag} {neg : Bool} {F : Hp} {M : MH} {H : Hp} {x y : W} {x' y' : V} {R : MQ} {Q : VK} (a : Ab K F M H) (rx : RelW K F x x') (ry : RelW K F y y') (k : Fin K F R Q)
    (h : (match pw M y with
    | some ws => flat x = true ∧ ws.all flat = true ∧ R (.bl (if neg then !(ws.any fun w => feq w x) else ws.any fun w => feq w x)) M
    | none => False)) : rIn K neg x' y' H Q := by
  split at h
  · rename_i ws e
    obtain ⟨p, vs, rfl, h1, h2⟩ := pw_sq a ry e
    refine ⟨p, vs, rfl, h1, flat_of rx h.1, flats_of h2 h.2.1, ?_⟩
    rw [inV_of rx h.1 h2 h.2.1]
    exact k.here a bl_rw h.2.2
  · exact h.elim
theorem q_in : QOp X (compareOp .In) (mIn false) := by
  refine ⟨_, op_in_str.or op_in_seq, fun F M H x y x' y' R Q a rx ry h k => ?_⟩
  unfold mIn at h
  split at h
  · exact .inl ⟨_, _, rw_str rx, rw_str ry, k.here a bl_rw (by simpa [inStr] using h)⟩
  · exact .inr (in_gen a rx ry k h)
theorem q_nin : QOp X (compareOp .NotIn) (mIn true) := by
  refine ⟨_, op_notIn_str.or op_notIn_seq, fun F M H x y x' y' R Q a rx ry h k => ?_⟩
  unfold mIn at h
  split at h
  · exact .inl ⟨_, _, rw_str rx, rw_str ry, k.here a bl_rw (by simpa [inStr] using h)⟩
  · exact .inr (in_gen a rx ry k h)
def isNon : W → Bool
  | .non => true
  | _ => false
theorem isNon_of {K : PySem.W.Frag} {F : Hp} {w : W} {v : V} (r : RelW K F w v) : decide (v = .non) = isNon w := by
  cases w with
  | non => rw [rw_non r]; rfl
  | bl b => rw [rw_bl r]; rfl
  | int b => rw [rw_int r]; rfl
  | str b => rw [rw_str r]; rfl
  | tup b => obtain ⟨_, _, rfl, _⟩ := rw_tup r; rfl
  | fl b => obtain ⟨_, _, rfl, _⟩ := rw_fl r; rfl
  | sc b => obtain ⟨_, _, rfl, _⟩ := rw_sc r; rfl
  | obj b _ _ => obtain ⟨_, _, _, rfl, _⟩ := rw_obj r; rfl
  | exc b _ _ => obtain ⟨_, _, _, rfl, _⟩ := rw_exc r; rfl
  | ref b => rw [rw_ref r]; rfl
  | ty b => rw [rw_ty r]; rfl
def mIs : M2
  | x, .non, M, R => R (.bl (isNon x)) M
  | _, _, _, _ => False
def mIsNot : M2
  | x, .non, M, R => R (.bl (!isNon x)) M
  | _, _, _, _ => False
theorem q_is : QOp X (compareOp .Is) mIs := by
  refine ⟨_, op_isN, fun F M H x y x' y' R Q a rx ry h k => ?_⟩
  unfold mIs at h
  split at h
  · exact ⟨rw_non ry, by rw [isNon_of rx]; exact k.here a bl_rw h⟩
  · exact h.elim
theorem q_isnot : QOp X (compareOp .IsNot) mIsNot := by
  refine ⟨_, op_notN, fun F M H x y x' y' R Q a rx ry h k => ?_⟩
  unfold mIsNot at h
  split at h
  · exact ⟨rw_non ry, by rw [isNon_of rx]; exact k.here a bl_rw h⟩
  · exact h.elim

/-! ### x[i] -/
theorem atI_of {K : PySem.W.Frag} {F : Hp} {ws : List W} {vs : List V} {i : Int} {w : W} (r : RelWs K F ws vs) (h : atI ws i = some w) : ∃ v, atI vs i = some v ∧ RelW K F w v := by
  unfold atI at h ⊢
  rw [← r.length]
  cases e : ixN ws.length i with
  | none => rw [e] at h; cases h
  | some j =>
    rw [e] at h
    exact r.get h
def mIx : M2
  | .str z, .int i, M, R => z.length ≤ sizeLine ∧ match atI z.cps.toList i with | some c => R (.str ⟨#[c]⟩) M | none => False
  | x, .int i, M, R => match pw M x with
    | some ws => match atI ws i with | some w => R w M | none => False
    | none => False
  | _, _, _, _ => False
theorem q_ix : QIx X mIx := by
  refine ⟨_, ix_seq, fun F M H x y x' y' R Q a rx ry h k => ?_⟩
  unfold mIx at h
  split at h
  · obtain ⟨hz, h⟩ := h
    split at h
    · rename_i c e
      exact .inr (.inr ⟨_, _, c, rw_str rx, rw_int ry, hz, e, k.here a str_rw h⟩)
    · exact h.elim
  · split at h
    · rename_i ws e
      split at h
      · rename_i w e2
        obtain ⟨p, vs, rfl, h1, h2⟩ := pw_sq a rx e
        obtain ⟨v, h3, h4⟩ := atI_of h2 e2
        rcases h1 with h1 | h1
        · exact .inl ⟨p, vs, _, v, rfl, rw_int ry, h1, h3, k.here a h4 h⟩
        · exact .inr (.inl ⟨p, vs, _, v, rfl, rw_int ry, h1, h3, k.here a h4 h⟩)
      · exact h.elim
    · exact h.elim
  · exact h.elim

/-! ### x[i:j] -/
abbrev MO' := MSt → MH → (Option Int → MH → Prop) → Prop
def dnO (K : PySem.W.Frag) (F0 : Hp) (t : MO') : TO := fun σ H Q => ∃ F ρ M R, Same F0 F ∧ Ab K F M H ∧ RelSt K F ρ σ ∧ t ρ M R ∧
  ∀ F' o M' H', Same F F' → Ab K F' M' H' → R o M' → Q o H'
abbrev QO (X : Cx) (F0 : Hp) (e : Option Expr) (t : MO') : Prop := PO X e (dnO X.K F0 t)
def mNoPart : MO' := fun _ M R => R none M
def mPart (t : ME) : MO' := fun ρ M R => t ρ M fun x M1 => match x with | .int i => R (some i) M1 | _ => False
theorem PO.wk {e : Option Expr} {t t' : TO} (h : PO X e t) (i : ∀ σ H Q, t' σ H Q → t σ H Q) : PO X e t' := ⟨fun pins s σ H Q I q => h.run pins s σ H Q I (i _ _ _ q)⟩
variable {F0 : Hp} {e : Expr} {te : ME} {lo hi : Option Expr} {tl th : MO'} {pos p2 : Pos}
theorem qo_none : QO X F0 none mNoPart := PO.wk po_none fun σ H Q ⟨F, ρ, M, R, s, a, rs, q, k⟩ => k F none M H (Same.refl _) a q
theorem qo_some (h : QE X F0 e te) : QO X F0 (some e) (mPart te) := by
  refine PO.wk (po_some h) fun σ H Q ⟨F, ρ, M, R, s, a, rs, q, k⟩ => ?_
  refine ⟨F, ρ, M, _, s, a, rs, q, fun F1 x M1 x' H1 s1 a1 r1 q1 => ?_⟩
  cases x with
  | int i => exact ⟨i, rw_int r1, k F1 _ M1 H1 s1 a1 q1⟩
  | _ => exact q1.elim
abbrev M3 := W → Option Int → Option Int → MH → MQ → Prop
def mSl (r : M3) (te : ME) (tl th : MO') : ME := fun ρ M R => te ρ M fun x M1 => tl ρ M1 fun l M2 => th ρ M2 fun u M3 => r x l u M3 R
def QSl (X : Cx) (r : M3) : Prop := ∃ rV, SlR X rV ∧ ∀ F M H x x' lo hi R Q, Ab X.K F M H → RelW X.K F x x' → r x lo hi M R → Fin X.K F R Q → rV x' lo hi H Q
theorem qe_slice {r : M3} (hr : QSl X r) (he : QE X F0 e te) (hl : QO X F0 lo tl) (hu : QO X F0 hi th) : QE X F0 (.Subscript e (.Slice lo hi none p2) pos) (mSl r te tl th) := by
  obtain ⟨rV, h, l⟩ := hr
  refine PE.wk (pe_slice h he hl hu) fun σ H Q ⟨F, ρ, M, R, s, a, rs, q, k⟩ => ?_
  exact ⟨F, ρ, M, _, s, a, rs, q, fun F1 x M1 x' H1 s1 a1 r1 q1 => ⟨F1, ρ, M1, _, s.trans s1, a1, rs.mono s1, q1, fun F2 o M2 H2 s2 a2 q2 =>
    ⟨F2, ρ, M2, _, s.trans (s1.trans s2), a2, rs.mono (s1.trans s2), q2, fun F3 u M3 H3 s3 a3 q3 =>
    l F3 M3 H3 x x' o u R Q a3 (r1.mono (s2.trans s3)) q3 fun F' w M' v H' s' => k F' w M' v H' (s1.trans (s2.trans (s3.trans s')))⟩⟩⟩
/-- the parts lo .. hi of a list -/
def cutW (xs : List W) (lo hi : Option Int) : List W := (xs.drop (HT.sIx xs.length 0 lo)).take (HT.sIx xs.length xs.length hi - HT.sIx xs.length 0 lo)
theorem cut_of {K : PySem.W.Frag} {F : Hp} {ws : List W} {vs : List V} (r : RelWs K F ws vs) (lo hi : Option Int) : RelWs K F (cutW ws lo hi) (cutV vs lo hi) := by
  unfold cutW cutV
  rw [r.length]
  exact (r.drop _).take _
def mCut : M3
  | .str z, lo, hi, M, R => z.length ≤ sizeLine ∧ R (.str (cutS z lo hi)) M
  | .tup xs, lo, hi, M, R => R (.tup (cutW xs lo hi)) M
  | x, lo, hi, M, R => match lw M x with
    | some xs => R (.fl (cutW xs lo hi)) M
    | none => False
theorem cut_whole {ws : List W} {lo hi : Option Int} (h : HT.sIx ws.length 0 lo = 0 ∧ HT.sIx ws.length ws.length hi = ws.length) : cutW ws lo hi = ws := by
  unfold cutW
  rw [h.1, h.2]
  simp
theorem q_cut : QSl X mCut := by
  refine ⟨_, sl_str.or (sl_tupA.or sl_list), fun F M H x x' lo hi R Q a rx h k => ?_⟩
  have gen : (match lw M x with
    | some xs => R (.fl (cutW xs lo hi)) M
    | none => False) → rSlL X.K x' lo hi H Q := fun h => by
    split at h
    · rename_i xs e
      obtain ⟨p, vs, rfl, h1, h2⟩ := lw_sq a rx e
      exact ⟨p, vs, rfl, h1, fun p n => k.fl a (cut_of h2 lo hi) n h⟩
    · exact h.elim
  cases x with
  | str z => exact .inl ⟨z, rw_str rx, h.1, k.here a str_rw h.2⟩
  | tup xs =>
    obtain ⟨p, vs, rfl, h1, h2⟩ := rw_tup rx
    refine .inr (.inl ⟨p, vs, rfl, sqT_sub a.sub h1, fun z => ?_, fun z p n => k.tup a (cut_of h2 lo hi) n h⟩)
    rw [← h2.length] at z
    have e := cut_whole z
    have h' : R (.tup (cutW xs lo hi)) M := h
    rw [e] at h'
    exact k.here a rx h'
  | _ => exact .inr (.inr (gen h))
end
end Ri

set_option Elab.async false
set_option linter.all false
set_option maxRecDepth 100000
set_option maxHeartbeats 2000000
namespace Ri
open PySem L2

/-! ### built-in functions and types, called -/
abbrev MC := List W → MH → MQ → Prop
def QC (X : Cx) (f : Value) (r : MC) : Prop := ∃ rV, CallR X f rV ∧ ∀ F M H ws vs R Q, Ab X.K F M H → RelWs X.K F ws vs → r ws M R → Fin X.K F R Q → rV vs H Q
def mCB (r : MC) (t : MA) : ME := fun ρ M R => t ρ M fun ws M1 => r ws M1 R
section
variable {X : Cx} {F0 : Hp} {x : Str} {p pos : Pos} {e : Expr} {es : List Expr} {te : ME} {t : MA} {id T : String} {r : MC}
theorem cb {K : PySem.W.Frag} {rV : List V → Hp → VK → Prop} (l : ∀ F M H ws vs R Q, Ab K F M H → RelWs K F ws vs → r ws M R → Fin K F R Q → rV vs H Q) {σ : St} {H : Hp} {Q : VK} (h : dnE K F0 (mCB r t) σ H Q) : tCB rV (dnA K F0 t) σ H Q := by
  obtain ⟨F, ρ, M, R, s, a, rs, q, k⟩ := h
  exact ⟨F, ρ, M, _, s, a, rs, q, fun F1 ws M1 vs H1 s1 a1 r1 q1 => l F1 M1 H1 ws vs R Q a1 r1 q1 fun F' w M' v H' s' => k F' w M' v H' (s1.trans s')⟩
theorem qe_callB (hc : QC X (.builtin id) r) (hg : Gl X x) (hm : X.mg x = none) (hv : bootBuiltins x = some (.builtin id)) (ha : QA X F0 (e :: es) t) (hn : x ≠ "__name__" := by decide) (hdb : (x == ("__debug__" : Str)) = false := by decide)
    (he : starEach (e :: es) X.env = (false, eval e X.env) :: starEach es X.env := by rfl) (hpl : (backTo pos (starEach es X.env)).any (·.1) = false := by rfl) : QE X F0 (.Call (.Name x p) (e :: es) [] pos) (mCB r t) :=
  let ⟨_, h, l⟩ := hc
  PE.wk (pe_callB h hg hm hv ha hn hdb he hpl) fun _ _ _ q => cb l q
theorem qe_callTy (hc : QC X (.type T) r) (hg : Gl X x) (hm : X.mg x = none) (hv : bootBuiltins x = some (.type T)) (ha : QA X F0 (e :: es) t) (hn : x ≠ "__name__" := by decide) (hdb : (x == ("__debug__" : Str)) = false := by decide)
    (he : starEach (e :: es) X.env = (false, eval e X.env) :: starEach es X.env := by rfl) (hpl : (backTo pos (starEach es X.env)).any (·.1) = false := by rfl) : QE X F0 (.Call (.Name x p) (e :: es) [] pos) (mCB r t) :=
  let ⟨_, h, l⟩ := hc
  PE.wk (pe_callTy h hg hm hv ha hn hdb he hpl) fun _ _ _ q => cb l q
/-- the value of a built-in type's name -/
theorem qe_tyname (hg : Gl X x) (hm : X.mg x = none) (hv : bootBuiltins x = some (.type T)) (hn : x ≠ "__name__" := by decide) (hd : (x == ("__debug__" : Str)) = false := by decide) : QE X F0 (.Name x pos) (mC (.ty T)) :=
  qe_c (pe_bltn (v := .ty T) hg hm hv rfl hn hd) fun _ => by simp only [RelW]

def mLen : MC
  | [.str z], M, R => z.length ≤ sizeLine ∧ R (.int z.length) M
  | [w], M, R => match pw M w with | some xs => R (.int xs.length) M | none => False
  | _, _, _ => False
theorem c_len : QC X (.builtin "len") mLen := by
  refine ⟨_, call_len_str.or call_len_seq, fun F M H ws vs R Q a r h k => ?_⟩
  unfold mLen at h
  split at h
  · obtain ⟨v, q, rfl, r1, r2⟩ := RelWs.cons_inv r
    rw [RelWs.nil_inv r2]
    exact .inl ⟨_, by rw [rw_str r1], h.1, k.here a int_rw h.2⟩
  · obtain ⟨v, q, rfl, r1, r2⟩ := RelWs.cons_inv r
    rw [RelWs.nil_inv r2]
    split at h
    · rename_i xs e
      obtain ⟨p, us, rfl, h1, h2⟩ := pw_sq a r1 e
      exact .inr ⟨p, us, rfl, h1, by rw [← h2.length]; exact k.here a int_rw h⟩
    · exact h.elim
  · exact h.elim
def mInt : MC
  | [.int i], M, R => R (.int i) M
  | [.bl b], M, R => R (.int (if b then 1 else 0)) M
  | [.str z], M, R => z.length ≤ 640 ∧ match PySem.intText? z with | some n => R (.int n) M | none => False
  | _, _, _ => False
theorem c_int : QC X (.type "int") mInt := by
  refine ⟨_, call_int1.or call_int_str, fun F M H ws vs R Q a r h k => ?_⟩
  unfold mInt at h
  split at h
  · obtain ⟨v, q, rfl, r1, r2⟩ := RelWs.cons_inv r
    rw [RelWs.nil_inv r2]
    exact .inl (.inl ⟨_, by rw [rw_int r1], k.here a int_rw h⟩)
  · obtain ⟨v, q, rfl, r1, r2⟩ := RelWs.cons_inv r
    rw [RelWs.nil_inv r2]
    exact .inl (.inr ⟨_, by rw [rw_bl r1], k.here a int_rw h⟩)
  · obtain ⟨v, q, rfl, r1, r2⟩ := RelWs.cons_inv r
    rw [RelWs.nil_inv r2]
    obtain ⟨h1, h⟩ := h
    split at h
    · rename_i n e
      exact .inr ⟨_, n, by rw [rw_str r1], e, h1, k.here a int_rw h⟩
    · exact h.elim
  · exact h.elim
def mStr : MC
  | [.int i], M, R => i.natAbs.log2 < 1920 ∧ R (.str (toString i)) M
  | [.str z], M, R => R (.str z) M
  | _, _, _ => False
theorem c_str : QC X (.type "str") mStr := by
  refine ⟨_, call_str_int.or SkE.call_str_str, fun F M H ws vs R Q a r h k => ?_⟩
  unfold mStr at h
  split at h
  · obtain ⟨v, q, rfl, r1, r2⟩ := RelWs.cons_inv r
    rw [RelWs.nil_inv r2]
    exact .inl ⟨_, by rw [rw_int r1], h.1, k.here a str_rw h.2⟩
  · obtain ⟨v, q, rfl, r1, r2⟩ := RelWs.cons_inv r
    rw [RelWs.nil_inv r2]
    exact .inr ⟨_, by rw [rw_str r1], k.here a str_rw h⟩
  · exact h.elim
/-- tuple(xs) -/
def mTupOf : MC
  | [.tup xs], M, R => R (.tup xs) M
  | [w], M, R => match lw M w with | some xs => R (.tup xs) M | none => False
  | _, _, _ => False
theorem c_tuple : QC X (.type "tuple") mTupOf := by
  refine ⟨_, call_tuple_of.or call_tupleT, fun F M H ws vs R Q a r h k => ?_⟩
  unfold mTupOf at h
  split at h
  · obtain ⟨v, q, rfl, r1, r2⟩ := RelWs.cons_inv r
    rw [RelWs.nil_inv r2]
    obtain ⟨p, us, rfl, h1, h2⟩ := rw_tup r1
    exact .inr ⟨p, us, rfl, sqT_sub a.sub h1, k.here a r1 h⟩
  · obtain ⟨v, q, rfl, r1, r2⟩ := RelWs.cons_inv r
    rw [RelWs.nil_inv r2]
    split at h
    · rename_i xs e
      obtain ⟨p, us, rfl, h1, h2⟩ := lw_sq a r1 e
      exact .inl ⟨p, us, rfl, .inl ⟨h1, fun l n => k.tup a h2 n h⟩⟩
    · exact h.elim
  · exact h.elim
/-- list(xs): one that may change; one that does not -/
def mListOf : MC
  | [w], M, R => match pw M w with | some xs => ∀ p, M p = none → R (.ref p) (mu M p (.lst xs)) | none => False
  | _, _, _ => False
def mListOfF : MC
  | [w], M, R => match pw M w with | some xs => R (.fl xs) M | none => False
  | _, _, _ => False
theorem c_list : QC X (.type "list") mListOf := by
  refine ⟨_, call_list_of, fun F M H ws vs R Q a r h k => ?_⟩
  unfold mListOf at h
  split at h
  · obtain ⟨v, q, rfl, r1, r2⟩ := RelWs.cons_inv r
    rw [RelWs.nil_inv r2]
    split at h
    · rename_i xs e
      obtain ⟨p, us, rfl, h1, h2⟩ := pw_sq a r1 e
      exact ⟨p, us, rfl, h1, fun l n => k.lst a h2 n h⟩
    · exact h.elim
  · exact h.elim
theorem c_listF : QC X (.type "list") mListOfF := by
  refine ⟨_, call_list_of, fun F M H ws vs R Q a r h k => ?_⟩
  unfold mListOfF at h
  split at h
  · obtain ⟨v, q, rfl, r1, r2⟩ := RelWs.cons_inv r
    rw [RelWs.nil_inv r2]
    split at h
    · rename_i xs e
      obtain ⟨p, us, rfl, h1, h2⟩ := pw_sq a r1 e
      exact ⟨p, us, rfl, h1, fun l n => k.fl a h2 n h⟩
    · exact h.elim
  · exact h.elim
def mAbs : MC
  | [.int i], M, R => R (.int (if i < 0 then -i else i)) M
  | _, _, _ => False
theorem c_abs : QC X (.builtin "abs") mAbs := by
  refine ⟨_, call_abs, fun F M H ws vs R Q a r h k => ?_⟩
  unfold mAbs at h
  split at h
  · obtain ⟨v, q, rfl, r1, r2⟩ := RelWs.cons_inv r
    rw [RelWs.nil_inv r2]
    exact ⟨_, by rw [rw_int r1], k.here a int_rw h⟩
  · exact h.elim
def mMax2 : MC
  | [.int i, .int j], M, R => R (.int (if j > i then j else i)) M
  | _, _, _ => False
def mMin2 : MC
  | [.int i, .int j], M, R => R (.int (if j < i then j else i)) M
  | _, _, _ => False
theorem c_max2 (hc : X.calm = true) : QC X (.builtin "max") mMax2 := by
  refine ⟨_, call_max2 hc, fun F M H ws vs R Q a r h k => ?_⟩
  unfold mMax2 at h
  split at h
  · obtain ⟨v, q, rfl, r1, r2⟩ := RelWs.cons_inv r
    obtain ⟨v', q', rfl, r3, r4⟩ := RelWs.cons_inv r2
    rw [RelWs.nil_inv r4]
    exact ⟨_, _, by rw [rw_int r1, rw_int r3], k.here a int_rw h⟩
  · exact h.elim
theorem c_min2 (hc : X.calm = true) : QC X (.builtin "min") mMin2 := by
  refine ⟨_, call_min2 hc, fun F M H ws vs R Q a r h k => ?_⟩
  unfold mMin2 at h
  split at h
  · obtain ⟨v, q, rfl, r1, r2⟩ := RelWs.cons_inv r
    obtain ⟨v', q', rfl, r3, r4⟩ := RelWs.cons_inv r2
    rw [RelWs.nil_inv r4]
    exact ⟨_, _, by rw [rw_int r1, rw_int r3], k.here a int_rw h⟩
  · exact h.elim

/-! ### isinstance -/
/-- the built-in type of a value -/
def tyW (M : MH) : W → Option String
  | .non => some "NoneType" | .bl _ => some "bool" | .int _ => some "int" | .str _ => some "str" | .tup _ => some "tuple" | .fl _ => some "list" | .sc _ => some "list"
  | .ref p => match M p with | some (.lst _) => some "list" | some (.dK _) => some "dict" | some (.dT _) => some "dict" | _ => none
  | _ => none
theorem ty_of {K : PySem.W.Frag} {F : Hp} {M : MH} {H : Hp} {w : W} {v : V} {t : String} (a : Ab K F M H) (r : RelW K F w v) (h : tyW M w = some t) : TyX K H v (.type t) := by
  cases w with
  | non => simp only [tyW, Option.some.injEq] at h; subst h; rw [rw_non r]; exact .base .non
  | bl b => simp only [tyW, Option.some.injEq] at h; subst h; rw [rw_bl r]; exact .base (.bl b)
  | int b => simp only [tyW, Option.some.injEq] at h; subst h; rw [rw_int r]; exact .base (.int b)
  | str b => simp only [tyW, Option.some.injEq] at h; subst h; rw [rw_str r]; exact .base (.str b)
  | tup b =>
    simp only [tyW, Option.some.injEq] at h; subst h
    obtain ⟨p, vs, rfl, h1, h2⟩ := rw_tup r
    rcases sqT_sub a.sub h1 with (h1 | ⟨o, h1⟩) | ⟨o, _, _, h1, h3, _⟩
    · exact .base (.tup h1)
    · exact .fTuple h1
    · exact .kTuple h1 h3
  | fl b =>
    simp only [tyW, Option.some.injEq] at h; subst h
    obtain ⟨p, vs, rfl, h1, h2⟩ := rw_fl r
    exact .base (.lst (a.sub _ _ h1))
  | sc b =>
    simp only [tyW, Option.some.injEq] at h; subst h
    obtain ⟨p, vs, rfl, h1, h2⟩ := rw_sc r
    rcases sqL_sub a.sub h1 with (h1 | ⟨o, h1⟩) | ⟨o, _, _, h1, h3, _⟩
    · exact .base (.lst h1)
    · exact .base (.frz h1)
    · exact .kList h1 h3
  | ref p =>
    rw [rw_ref r]
    simp only [tyW] at h
    split at h
    · rename_i xs e
      simp only [Option.some.injEq] at h; subst h
      obtain ⟨vs, h1, _⟩ := a.lst e
      exact .base (.lst h1)
    · rename_i xs e
      simp only [Option.some.injEq] at h; subst h
      obtain ⟨o, h1, _, vs, rfl, _⟩ := a.mv p _ e
      exact .base (.dK h1)
    · rename_i xs e
      simp only [Option.some.injEq] at h; subst h
      obtain ⟨o, h1, _, vs, rfl, _⟩ := a.mv p _ e
      exact .base (.dT h1)
    · cases h
  | _ => simp only [tyW] at h; cases h
/-- what the written part says of an own class: its instances, and what else is none of it -/
structure Icls (K : PySem.W.Frag) (C : Addr) : Prop where
  cl : Cls K C
  ha : PySem.W.findIn K (.ref C) "__class__" = some (some (.builtin "object.__class__"))
  hn : PySem.W.specialIn K (.builtin "object.__class__") "__get__" = some (some (.builtin "getset_descriptor.__get__"))
  ht : PySem.W.takesIn K (.builtin "object.__class__") = some true
  hm : PySem.W.mroIn K C (.type "object") = some true
/-- isinstance(x, T), T a built-in type -/
def isTy (a b : String) : Bool := a == b || (a == "bool" && b == "int")
def mIsTy (T : String) : MC
  | [w, .ty _], M, R => match tyW M w with | some t => kitB t T = some (isTy t T) ∧ R (.bl (isTy t T)) M | none => False
  | _, _, _ => False
def isT (M : MH) (w : W) (T : String) : Bool := match tyW M w with | some t => isTy t T | none => false
/-- the class of an instance -/
def clsW (M : MH) : W → Option Addr
  | .obj C _ _ => some C
  | .ref p => match M p with | some (.ins C _) => some C | _ => none
  | _ => none
theorem cls_of {K : PySem.W.Frag} {F : Hp} {M : MH} {H : Hp} {w : W} {v : V} {C : Addr} (a : Ab K F M H) (r : RelW K F w v) (h : clsW M w = some C) (i : Icls K C) : TyX K H v (.ref C) := by
  cases w with
  | obj D ns xs =>
    simp only [clsW, Option.some.injEq] at h; subst h
    obtain ⟨p, dx, vs, rfl, h1, _⟩ := rw_obj r
    exact .base (.ins (a.sub _ _ h1) i.cl i.ha i.hn i.ht i.hm)
  | ref p =>
    rw [rw_ref r]
    simp only [clsW] at h
    split at h
    · rename_i D fs e
      simp only [Option.some.injEq] at h; subst h
      obtain ⟨dx, vs, h1, _⟩ := a.ins e
      exact .base (.ins h1 i.cl i.ha i.hn i.ht i.hm)
    · cases h
  | _ => simp only [clsW] at h; cases h
/-- isinstance(x, c): c a built-in type, or a class at an address; the answers' table is the written part's -/
def mIsi (K : PySem.W.Frag) : MC
  | [w, .ty T], M, R => match tyW M w with
    | some t => kitB t T = some (isTy t T) ∧ R (.bl (isTy t T)) M
    | none => match clsW M w with
      | some D => Icls K D ∧ PySem.W.kitOne K (.ref D) (.type T) = some false ∧ R (.bl false) M
      | none => False
  | [w, .ref C], M, R => match tyW M w with
    | some t => PySem.W.kitOne K (.type t) (.ref C) = some false ∧ R (.bl false) M
    | none => match clsW M w with
      | some D => ∃ b, Icls K D ∧ PySem.W.kitOne K (.ref D) (.ref C) = some b ∧ R (.bl b) M
      | none => False
  | _, _, _ => False
theorem c_isi : QC X (.builtin "isinstance") (mIsi X.K) := by
  refine ⟨_, call_isi, fun F M H ws vs R Q a r h k => ?_⟩
  unfold mIsi at h
  split at h
  · obtain ⟨v, q, rfl, r1, r2⟩ := RelWs.cons_inv r
    obtain ⟨v', q', rfl, r3, r4⟩ := RelWs.cons_inv r2
    rw [RelWs.nil_inv r4, rw_ty r3]
    split at h
    · rename_i t e
      exact ⟨v, _, _, _, _, rfl, .ty _, ty_of a r1 e, kit_ty h.1, k.here a bl_rw h.2⟩
    · split at h
      · rename_i D e
        exact ⟨v, _, _, _, _, rfl, .ty _, cls_of a r1 e h.1, h.2.1, k.here a bl_rw h.2.2⟩
      · exact h.elim
  · obtain ⟨v, q, rfl, r1, r2⟩ := RelWs.cons_inv r
    obtain ⟨v', q', rfl, r3, r4⟩ := RelWs.cons_inv r2
    rw [RelWs.nil_inv r4, rw_ref r3]
    split at h
    · rename_i t e
      exact ⟨v, _, _, _, _, rfl, .own _, ty_of a r1 e, h.1, k.here a bl_rw h.2⟩
    · split at h
      · rename_i D e
        obtain ⟨b, h1, h2, h3⟩ := h
        exact ⟨v, _, _, _, _, rfl, .own _, cls_of a r1 e h1, h2, k.here a bl_rw h3⟩
      · exact h.elim
  · exact h.elim

/-! ### methods of built-in types -/
abbrev MM := W → List W → MH → MQ → Prop
def QM (X : Cx) (T id : String) (r : MM) : Prop := ∃ rV, MtR X id rV ∧ ∀ F M H w v R Q, Ab X.K F M H → RelW X.K F w v → (∀ ws vs F' M' H', Same F F' → Ab X.K F' M' H' → RelWs X.K F' ws vs → r w ws M' R → Fin X.K F R Q → rV v vs H' Q)
/-- the receiver is a text (a list that is read): T -/
def rcv (M : MH) (T : String) : W → Prop
  | .str _ => T = "str"
  | w => match lw M w with | some _ => T = "list" | none => match w with
    | .ref p => match M p with | some (.dK _) => T = "dict" | some (.dT _) => T = "dict" | _ => False
    | _ => False
theorem rcv_ok {K : PySem.W.Frag} {F : Hp} {M : MH} {H : Hp} {w : W} {v : V} {T : String} (a : Ab K F M H) (r : RelW K F w v) (h : rcv M T w) : tyV K T v H := by
  have lst : ∀ xs, lw M w = some xs → T = "list" → tyV K T v H := fun xs e t => by
    obtain ⟨p, vs, rfl, h1, _⟩ := lw_sq a r e
    exact .inl ⟨t, vs, h1⟩
  cases w with
  | str z => rw [rw_str r]; exact h
  | fl xs => exact lst xs rfl h
  | sc xs => exact lst xs rfl h
  | ref p =>
    unfold rcv at h
    split at h
    · rename_i e; cases e
    · cases e : lw M (.ref p) with
      | some xs => rw [e] at h; exact lst xs e h
      | none =>
        rw [e] at h
        dsimp only at h
        rw [rw_ref r]
        cases e2 : M p with
        | none => rw [e2] at h; exact h.elim
        | some m =>
          rw [e2] at h
          cases m with
          | dK kvs =>
            obtain ⟨o, h1, _, vs, rfl, _⟩ := a.mv p _ e2
            exact .inr (.inr (.inl ⟨h, .inl ⟨vs, h1⟩⟩))
          | dT kvs =>
            obtain ⟨o, h1, _, vs, rfl, _⟩ := a.mv p _ e2
            exact .inr (.inr (.inl ⟨h, .inr ⟨vs, h1⟩⟩))
          | _ => exact h.elim
  | _ => unfold rcv at h; simp [lw] at h
def mBM0 (T : String) (r : MM) (to : ME) : ME := fun ρ M R => to ρ M fun w M1 => rcv M1 T w ∧ r w [] M1 R
def mBM (T : String) (r : MM) (to : ME) (t : MA) : ME := fun ρ M R => to ρ M fun w M1 => rcv M1 T w ∧ t ρ M1 fun ws M2 => r w ws M2 R
variable {o : Expr} {to : ME} {name : Str} {apos cpos : Pos} {rm : MM}
theorem qe_bm0 (pa : PlainAttrs T) (slot : Slot T name id) (hty : typeOf (.builtin id) = pure (.type "method_descriptor")) (hm : QM X T id rm) (ho : QE X F0 o to)
    (hbase : attributeBase o name X.env (eval o X.env) = eval o X.env := by rfl) (hline : (apos.endLine == cpos.line) = true := by rfl) : QE X F0 (.Call (.Attribute o name apos) [] [] cpos) (mBM0 T rm to) := by
  obtain ⟨rV, h, l⟩ := hm
  refine PE.wk (pe_bm0 pa slot hty h ho hbase hline) fun σ H Q ⟨F, ρ, M, R, s, a, rs, q, k⟩ => ?_
  exact ⟨F, ρ, M, _, s, a, rs, q, fun F1 x M1 x' H1 s1 a1 r1 q1 => ⟨rcv_ok a1 r1 q1.1, l F1 M1 H1 x x' R Q a1 r1 [] [] F1 M1 H1 (Same.refl _) a1 .nil q1.2 (Fin.mono k s1)⟩⟩
theorem qe_bm (pa : PlainAttrs T) (slot : Slot T name id) (hty : typeOf (.builtin id) = pure (.type "method_descriptor")) (hm : QM X T id rm) (ho : QE X F0 o to) (ha : QA X F0 (e :: es) t)
    (hbase : attributeBase o name X.env (eval o X.env) = eval o X.env := by rfl)
    (hfew : ((backTo cpos (starEach (e :: es) X.env)).all (fun x => !x.1) && (backToKw cpos (keywordEach [] X.env)).all (fun x => x.1.isSome)
      && decide ((e :: es).length + ([] : List Keyword).length + (if ([] : List Keyword).isEmpty then 0 else 1) < 30)) = true := by rfl)
    (hline : (apos.endLine == cpos.line) = true := by rfl) (hs : starEach (e :: es) X.env = (false, eval e X.env) :: starEach es X.env := by rfl) (hplain : (backTo cpos (starEach es X.env)).any (·.1) = false := by rfl) :
    QE X F0 (.Call (.Attribute o name apos) (e :: es) [] cpos) (mBM T rm to t) := by
  obtain ⟨rV, h, l⟩ := hm
  refine PE.wk (pe_bm pa slot hty h ho ha hbase hfew hline hs hplain) fun σ H Q ⟨F, ρ, M, R, s, a, rs, q, k⟩ => ?_
  exact ⟨F, ρ, M, _, s, a, rs, q, fun F1 x M1 x' H1 s1 a1 r1 q1 => ⟨rcv_ok a1 r1 q1.1, ⟨F1, ρ, M1, _, s.trans s1, a1, rs.mono s1, q1.2, fun F2 ws M2 vs H2 s2 a2 r2 q2 =>
    l F1 M1 H1 x x' R Q a1 r1 ws vs F2 M2 H2 s2 a2 r2 q2 (Fin.mono k s1)⟩⟩⟩
def mAppend : MM
  | .ref p, [w], M, R => match M p with | some (.lst xs) => xs.length < sizeLine ∧ R .non (mu M p (.lst (xs ++ [w]))) | _ => False
  | _, _, _, _ => False
theorem m_append : QM X "list" "list.append" mAppend := by
  refine ⟨_, mt_append, fun F M H w v R Q a r ws vs F' M' H' s a' r' h k => ?_⟩
  unfold mAppend at h
  split at h
  · obtain ⟨u, q, rfl, r1, r2⟩ := RelWs.cons_inv r'
    rw [RelWs.nil_inv r2]
    split at h
    · rename_i xs e
      obtain ⟨us, h1, h2, h3⟩ := a'.lst e
      refine ⟨_, us, u, rw_ref r, rfl, h1, by rw [← h3.length]; exact h.1, ?_⟩
      exact k F' .non _ .non _ s (a'.write (m := .lst (xs ++ [_])) e ⟨_, rfl, h3.append (.cons r1 .nil)⟩) non_rw h.2
    · exact h.elim
  · exact h.elim
def mExtend : MM
  | .ref p, [w], M, R => match M p, lx M w with | some (.lst xs), some ys => xs.length + ys.length ≤ sizeLine ∧ R .non (mu M p (.lst (xs ++ ys))) | _, _ => False
  | _, _, _, _ => False
theorem m_extend : QM X "list" "list.extend" mExtend := by
  refine ⟨_, mt_extend, fun F M H w v R Q a r ws vs F' M' H' s a' r' h k => ?_⟩
  unfold mExtend at h
  split at h
  · obtain ⟨u, q, rfl, r1, r2⟩ := RelWs.cons_inv r'
    rw [RelWs.nil_inv r2]
    split at h
    · rename_i xs ys e e2
      obtain ⟨us, h1, h2, h3⟩ := a'.lst e
      obtain ⟨b, ts, rfl, h4, h5⟩ := lx_at a' r1 e2
      refine ⟨_, b, us, ts, rw_ref r, rfl, h1, h4, by rw [← h3.length, ← h5.length]; exact h.1, ?_⟩
      exact k F' .non _ .non _ s (a'.write (m := .lst (xs ++ ys)) e ⟨_, rfl, h3.append h5⟩) non_rw h.2
    · exact h.elim
  · exact h.elim
def mPop : MM
  | .ref p, [], M, R => match M p with | some (.lst xs) => (match xs[xs.length - 1]? with | some w => R w (mu M p (.lst xs.dropLast)) | none => False) | _ => False
  | _, _, _, _ => False
theorem RelWs.dropLast {K : PySem.W.Frag} {F : Hp} {ws : List W} {vs : List V} (r : RelWs K F ws vs) : RelWs K F ws.dropLast vs.dropLast := by
  rw [List.dropLast_eq_take, List.dropLast_eq_take, r.length]
  exact r.take _
theorem m_pop : QM X "list" "list.pop" mPop := by
  refine ⟨_, mt_pop, fun F M H w v R Q a r ws vs F' M' H' s a' r' h k => ?_⟩
  unfold mPop at h
  split at h
  · rw [RelWs.nil_inv r']
    split at h
    · rename_i xs e
      split at h
      · rename_i y e2
        obtain ⟨us, h1, h2, h3⟩ := a'.lst e
        obtain ⟨z, h4, h5⟩ := h3.get e2
        refine ⟨_, us, z, rw_ref r, rfl, h1, by rw [← h3.length]; exact h4, ?_⟩
        exact k F' _ _ _ _ s (a'.write (m := .lst xs.dropLast) e ⟨_, rfl, h3.dropLast⟩) h5 h
      · exact h.elim
    · exact h.elim
  · exact h.elim
/-- texts alone -/
def allStr : List W → Option (List Str)
  | [] => some []
  | .str x :: r => (allStr r).map (x :: ·)
  | _ => none
theorem allStr_of {K : PySem.W.Frag} {F : Hp} : ∀ {ws : List W} {vs : List V} {xs : List Str}, RelWs K F ws vs → allStr ws = some xs → vs = xs.map V.str
  | [], vs, xs, r, h => by
    simp only [allStr, Option.some.injEq] at h; subst h
    rw [RelWs.nil_inv r]; rfl
  | w :: ws, vs, xs, r, h => by
    obtain ⟨v, q, rfl, r1, r2⟩ := RelWs.cons_inv r
    cases w with
    | str z =>
      simp only [allStr] at h
      obtain ⟨ys, e, rfl⟩ := Option.map_eq_some_iff.mp h
      rw [rw_str r1, allStr_of r2 e, List.map_cons]
    | _ => simp only [allStr] at h; cases h
end
end Ri

set_option Elab.async false
set_option linter.all false
set_option maxRecDepth 100000
set_option maxHeartbeats 2000000
namespace Ri
open PySem L2

section
variable {X : Cx} {F0 : Hp}
def mJoin : MM
  | .str a, [w], M, R => match pw M w with
    | some ws => match allStr ws with
      | some ys => (ys.map (·.length)).sum + ys.length * a.length ≤ 16777216 ∧ R (.str (Txt.join a ys)) M
      | none => False
    | none => False
  | _, _, _, _ => False
theorem m_join : QM X "str" "str.join" mJoin := by
  refine ⟨_, mt_join, fun F M H w v R Q a r ws vs F' M' H' s a' r' h k => ?_⟩
  unfold mJoin at h
  split at h
  · obtain ⟨u, q, rfl, r1, r2⟩ := RelWs.cons_inv r'
    rw [RelWs.nil_inv r2]
    split at h
    · rename_i ws e
      split at h
      · rename_i ys e2
        obtain ⟨p, us, rfl, h1, h2⟩ := pw_sq a' r1 e
        have e3 := allStr_of h2 e2
        subst e3
        exact ⟨_, p, ys, rw_str r, rfl, h1, h.1, k F' _ M' _ H' s a' str_rw h.2⟩
      · exact h.elim
    · exact h.elim
  · exact h.elim

/-! ### fields -/
/-- the field f of a thing -/
def fldW (M : MH) (f : Str) : W → Option W
  | .obj _ ns xs => (ns.zip xs).lookup f
  | .ref p => match M p with | some (.ins _ fs) => fs.lookup f | _ => none
  | _ => none
theorem lookup_fs {K : PySem.W.Frag} {F : Hp} {f : Str} : ∀ {fs : List (Str × W)} {vs : List (Str × V)} {w : W}, RelFs K F fs vs → fs.lookup f = some w → ∃ v, vs.lookup f = some v ∧ RelW K F w v
  | [], _, w, _, h => by cases h
  | (n, x) :: r, [], w, h, _ => by simp only [RelFs] at h
  | (n, x) :: r, (m, v) :: q, w, h, e => by
    simp only [RelFs] at h
    obtain ⟨rfl, h1, h2⟩ := h
    rw [List.lookup_cons] at e ⊢
    cases c : (f == n) with
    | true =>
      rw [c] at e
      simp only [if_true, Option.some.injEq] at e
      subst e
      exact ⟨v, by simp, h1⟩
    | false =>
      rw [c] at e
      simp only at e
      obtain ⟨u, e1, e2⟩ := lookup_fs h2 (by simpa using e)
      exact ⟨u, by simpa using e1, e2⟩
theorem lookup_none {K : PySem.W.Frag} {F : Hp} {f : Str} : ∀ {fs : List (Str × W)} {vs : List (Str × V)}, RelFs K F fs vs → fs.lookup f = none → vs.lookup f = none
  | [], [], _, _ => rfl
  | [], _ :: _, h, _ => by simp only [RelFs] at h
  | (n, x) :: r, [], h, _ => by simp only [RelFs] at h
  | (n, x) :: r, (m, v) :: q, h, e => by
    simp only [RelFs] at h
    obtain ⟨rfl, h1, h2⟩ := h
    rw [List.lookup_cons] at e ⊢
    cases c : (f == n) with
    | true => rw [c] at e; simp at e
    | false =>
      rw [c] at e
      simp only at e ⊢
      exact lookup_none h2 (by simpa using e)
theorem zip_fs {K : PySem.W.Frag} {F : Hp} : ∀ {ns : List Str} {ws : List W} {vs : List V}, RelWs K F ws vs → RelFs K F (ns.zip ws) (ns.zip vs)
  | [], _, _, _ => by simp only [List.zip_nil_left, RelFs]
  | n :: ns, [], vs, h => by rw [RelWs.nil_inv h]; simp only [List.zip_nil_right, RelFs]
  | n :: ns, w :: ws, vs, h => by
    obtain ⟨v, r, rfl, h1, h2⟩ := RelWs.cons_inv h
    simp only [List.zip_cons_cons, RelFs]
    exact ⟨trivial, h1, zip_fs h2⟩
theorem fld_of {K : PySem.W.Frag} {F : Hp} {M : MH} {H : Hp} {w x : W} {v : V} {f : Str} (a : Ab K F M H) (r : RelW K F w v) (h : fldW M f w = some x) :
    ∃ p C dx fs y, v = .ref p ∧ H p = some (.ins C dx fs) ∧ clsW M w = some C ∧ fs.lookup f = some y ∧ RelW K F x y := by
  cases w with
  | obj D ns xs =>
    obtain ⟨p, dx, vs, rfl, h1, hl, h2⟩ := rw_obj r
    simp only [fldW] at h
    obtain ⟨y, e, ry⟩ := lookup_fs (zip_fs h2) h
    exact ⟨p, D, dx, _, y, rfl, a.sub _ _ h1, rfl, e, ry⟩
  | ref p =>
    rw [rw_ref r]
    simp only [fldW] at h
    split at h
    · rename_i D fs e
      obtain ⟨dx, vs, h1, _, h2⟩ := a.ins e
      obtain ⟨y, e', ry⟩ := lookup_fs h2 h
      exact ⟨p, D, dx, vs, y, rfl, h1, by simp only [clsW, e], e', ry⟩
    · cases h
  | _ => simp only [fldW] at h; cases h
/-- what the written part says of a class and its instances' field f -/
structure Fld (K : PySem.W.Frag) (C : Addr) (f : Str) : Prop where
  cl : Cls K C
  no : NoAttr K C f
variable {e o value : Expr} {f : Str} {pos pos' tpos : Pos} {te tv : ME}
/-- e.f, e of one of the classes Cs -/
def mFld (Cs : Addr → Prop) (f : Str) (te : ME) : ME := fun ρ M R => te ρ M fun w M1 => match clsW M1 w, fldW M1 f w with
  | some C, some x => Cs C ∧ R x M1
  | _, _ => False
theorem qe_fld {Cs : Addr → Prop} (he : QE X F0 e te) (hC : ∀ C, Cs C → Fld X.K C f) (hb : attributeBase e f X.env (eval e X.env) = eval e X.env := by rfl) : QE X F0 (.Attribute e f pos) (mFld Cs f te) := by
  refine PE.wk (pe_fld he hb) fun σ H Q ⟨F, ρ, M, R, s, a, rs, q, k⟩ => ?_
  refine ⟨F, ρ, M, _, s, a, rs, q, fun F1 w M1 v H1 s1 a1 r1 q1 => ?_⟩
  split at q1
  · rename_i C x e1 e2
    obtain ⟨p, D, dx, fs, y, rfl, h1, h2, h3, h4⟩ := fld_of a1 r1 e2
    rw [e1] at h2; cases h2
    have hF := hC _ q1.1
    exact ⟨p, C, dx, fs, y, rfl, h1, hF.cl, hF.no, h3, k F1 x M1 y H1 s1 a1 h4 q1.2⟩
  · exact q1.elim
/-- a field is stored -/
def putW (f : Str) (w : W) : List (Str × W) → List (Str × W)
  | [] => [(f, w)]
  | (g, x) :: r => if g = f then (g, w) :: r else (g, x) :: putW f w r
theorem put_fs {K : PySem.W.Frag} {F : Hp} {f : Str} {w : W} {v : V} (rw' : RelW K F w v) : ∀ {fs : List (Str × W)} {vs : List (Str × V)}, RelFs K F fs vs → RelFs K F (putW f w fs) (putF f v vs)
  | [], [], _ => by simp only [putW, putF, RelFs]; exact ⟨trivial, rw', trivial⟩
  | [], _ :: _, h => by simp only [RelFs] at h
  | (n, x) :: r, [], h => by simp only [RelFs] at h
  | (n, x) :: r, (m, u) :: q, h => by
    simp only [RelFs] at h
    obtain ⟨rfl, h1, h2⟩ := h
    simp only [putW, putF]
    by_cases c : n = f
    · simp only [c, if_true, RelFs]; exact ⟨trivial, rw', h2⟩
    · simp only [c, if_false, RelFs]; exact ⟨trivial, h1, put_fs rw' h2⟩
theorem fs_len {K : PySem.W.Frag} {F : Hp} : ∀ {fs : List (Str × W)} {vs : List (Str × V)}, RelFs K F fs vs → fs.length = vs.length
  | [], [], _ => rfl
  | [], _ :: _, h => by simp only [RelFs] at h
  | (n, x) :: r, [], h => by simp only [RelFs] at h
  | (n, x) :: r, (m, u) :: q, h => by
    simp only [RelFs] at h
    simp [fs_len h.2.2]
/-- e.f = value, of one of the classes Cs -/
def mSetFld (Cs : Addr → Prop) (f : Str) (to tv : ME) : MS := fun D ρ M => tv ρ M fun y M1 => to ρ M1 fun x M2 => match x with
  | .ref p => match M2 p with
    | some (.ins C fs) => Cs C ∧ fs.length < 1000 ∧ D.nx ρ (mu M2 p (.ins C (putW f y fs)))
    | _ => False
  | _ => False
theorem qs_fld {Cs : Addr → Prop} (ho : QE X F0 o te) (hv : QE X F0 value tv) (hC : ∀ C, Cs C → Fld X.K C f) (hs : swapsWith value (some (.Attribute o f pos')) pos.line X.env = pure false := by rfl) : QS X F0 (.Assign [.Attribute o f pos'] value pos) (mSetFld Cs f te tv) := by
  refine PS.wk (ps_fld ho hv hs) fun D σ H ⟨F, ρ, M, E, s, a, rs, q, k⟩ => ?_
  refine ⟨F, ρ, M, _, s, a, rs, q, fun F1 y M1 y' H1 s1 a1 r1 q1 => ⟨F1, ρ, M1, _, s.trans s1, a1, rs.mono s1, q1, fun F2 x M2 x' H2 s2 a2 r2 q2 => ?_⟩⟩
  split at q2
  · rename_i p
    split at q2
    · rename_i C fs e1
      obtain ⟨dx, vs, h1, _, h2⟩ := a2.ins e1
      have hF := hC _ q2.1
      refine ⟨p, C, dx, vs, rw_ref r2, h1, hF.cl, hF.no, by rw [← fs_len h2]; exact q2.2.1, ?_⟩
      exact k.nx F2 ρ _ σ _ (s1.trans s2) (a2.write (m := .ins C (putW f y fs)) e1 ⟨dx, _, rfl, put_fs (r1.mono s2) h2⟩) (rs.mono (s1.trans s2)) q2.2.2
    · exact q2.elim
  · exact q2.elim
/-- e.f += value (ints) -/
def mAugFld (Cs : Addr → Prop) (f : Str) (op : Int → Int → Int) (to tv : ME) : MS := fun D ρ M => to ρ M fun x M1 => match x with
  | .ref p => match M1 p with
    | some (.ins C fs) => Cs C ∧ match fs.lookup f with
      | some (.int i) => tv ρ M1 fun y M2 => match y with
        | .int j => match M2 p with
          | some (.ins C' fs') => C' = C ∧ fs'.length < 1000 ∧ D.nx ρ (mu M2 p (.ins C (putW f (.int (op i j)) fs')))
          | _ => False
        | _ => False
      | _ => False
    | _ => False
  | _ => False
theorem aug_gen {rd : V → V → Hp → VK → Prop} {g : Int → Int → Int} {op : Operator} {Cs : Addr → Prop} (hop : InOp X op rd) (hrd : ∀ i j H Q, Q (.int (g i j)) H → rd (.int i) (.int j) H Q) (ho : QE X F0 o te) (hv : QE X F0 value tv) (hC : ∀ C, Cs C → Fld X.K C f) :
    QS X F0 (.AugAssign (.Attribute o f tpos) op value pos) (mAugFld Cs f g te tv) := by
  refine PS.wk (ps_fldaug ho hv hop) fun D σ H ⟨F, ρ, M, E, s, a, rs, q, k⟩ => ?_
  refine ⟨F, ρ, M, _, s, a, rs, q, fun F1 x M1 x' H1 s1 a1 r1 q1 => ?_⟩
  split at q1
  · rename_i p
    split at q1
    · rename_i C fs e1
      obtain ⟨hCs, q1⟩ := q1
      split at q1
      · rename_i i e2
        obtain ⟨dx, vs, h1, _, h2⟩ := a1.ins e1
        have hF := hC _ hCs
        obtain ⟨y', e3, ry⟩ := lookup_fs h2 e2
        refine ⟨p, C, dx, vs, y', rw_ref r1, h1, hF.cl, hF.no, e3, ⟨F1, ρ, M1, _, s.trans s1, a1, rs.mono s1, q1, fun F2 y M2 v2 H2 s2 a2 r2 q2 => ?_⟩⟩
        split at q2
        · rename_i j
          split at q2
          · rename_i C' fs' e4
            obtain ⟨rfl, hl, q2⟩ := q2
            obtain ⟨dx', vs', h3, _, h4⟩ := a2.ins e4
            rw [rw_int ry, rw_int r2]
            refine hrd _ _ _ _ ⟨dx', vs', h3, by rw [← fs_len h4]; exact hl, ?_⟩
            exact k.nx F2 ρ _ σ _ (s1.trans s2) (a2.write (m := .ins C' (putW f (.int (g i j)) fs')) e4 ⟨dx', _, rfl, put_fs int_rw h4⟩) (rs.mono (s1.trans s2)) q2
          · exact q2.elim
        · exact q2.elim
      · exact q1.elim
    · exact q1.elim
  · exact q1.elim
theorem qs_fldadd {Cs : Addr → Prop} (ho : QE X F0 o te) (hv : QE X F0 value tv) (hC : ∀ C, Cs C → Fld X.K C f) : QS X F0 (.AugAssign (.Attribute o f tpos) .Add value pos) (mAugFld Cs f (fun i j => i + j) te tv) :=
  aug_gen in_add (fun i j H Q q => ⟨i, j, rfl, rfl, q⟩) ho hv hC
end

/-! ### blocks, statements -/
section
variable {X : Cx} {F0 : Hp} {sm : Stmt} {rest : List Stmt} {t u : MS} {e : Expr} {te : ME} {pos : Pos}
def mNext : MS := fun D ρ M => D.nx ρ M
def mSeq (t u : MS) : MS := fun D ρ M => t { D with nx := u D } ρ M
theorem qss_nil : QSs X F0 [] mNext := PSs.wk pss_nil fun D σ H ⟨F, ρ, M, E, s, a, rs, q, k⟩ => k.nx F ρ M σ H (Same.refl _) a rs q
theorem qss_cons (h1 : QS X F0 sm t) (h2 : QSs X F0 rest u) : QSs X F0 (sm :: rest) (mSeq t u) := by
  refine PSs.wk (pss_cons h1 h2) fun D σ H ⟨F, ρ, M, E, s, a, rs, q, k⟩ => ?_
  exact ⟨F, ρ, M, _, s, a, rs, q, ⟨fun F' ρ' M' σ' H' s' a' rs' q' => ⟨F', ρ', M', E, s.trans s', a', rs', q', k.mono s'⟩, k.rt, k.bk, k.ct⟩⟩
theorem qss_one (h1 : QS X F0 sm t) : QSs X F0 [sm] t := pss_one h1
def mBreak : MS := fun D ρ M => D.bk ρ M
def mCont : MS := fun D ρ M => D.ct ρ M
theorem qs_pass : QS X F0 (.Pass pos) mNext := PS.wk ps_pass fun D σ H ⟨F, ρ, M, E, s, a, rs, q, k⟩ => k.nx F ρ M σ H (Same.refl _) a rs q
theorem qs_break : QS X F0 (.Break pos) mBreak := PS.wk ps_break fun D σ H ⟨F, ρ, M, E, s, a, rs, q, k⟩ => k.bk F ρ M σ H (Same.refl _) a rs q
theorem qs_continue : QS X F0 (.Continue pos) mCont := PS.wk ps_continue fun D σ H ⟨F, ρ, M, E, s, a, rs, q, k⟩ => k.ct F ρ M σ H (Same.refl _) a rs q
def mDrop (te : ME) : MS := fun D ρ M => te ρ M fun _ M1 => D.nx ρ M1
theorem qs_expr (he : QE X F0 e te) (hs : swapsWith e none pos.line X.env = pure false := by rfl) : QS X F0 (.Expr e pos) (mDrop te) := by
  refine PS.wk (ps_expr he hs) fun D σ H ⟨F, ρ, M, E, s, a, rs, q, k⟩ => ?_
  exact ⟨F, ρ, M, _, s, a, rs, q, fun F1 w M1 v H1 s1 a1 r1 q1 => k.nx F1 ρ M1 σ H1 s1 a1 (rs.mono s1) q1⟩
def mRet (te : ME) : MS := fun D ρ M => te ρ M D.rt
theorem qs_ret (he : QE X F0 e te) : QS X F0 (.Return (some e) pos) (mRet te) := by
  refine PS.wk (ps_ret he) fun D σ H ⟨F, ρ, M, E, s, a, rs, q, k⟩ => ?_
  exact ⟨F, ρ, M, _, s, a, rs, q, fun F1 w M1 v H1 s1 a1 r1 q1 => k.rt F1 w M1 v H1 s1 a1 r1 q1⟩
def mIfS (t : MT) (u v : MS) : MS := fun D ρ M => t ρ M fun c M1 => if c = true then u D ρ M1 else v D ρ M1
theorem qs_if {c : Expr} {b1 b2 : List Stmt} {tc : MT} {u v : MS} (hc : QT X F0 c tc) (h1 : QSs X F0 b1 u) (h2 : QSs X F0 b2 v) : QS X F0 (.If c b1 b2 pos) (mIfS tc u v) := by
  refine PS.wk (ps_if hc h1 h2) fun D σ H ⟨F, ρ, M, E, s, a, rs, q, k⟩ => ?_
  refine ⟨F, ρ, M, _, s, a, rs, q, fun F1 c M1 H1 s1 a1 q1 => ?_⟩
  cases c with
  | true =>
    rw [if_pos rfl]
    exact ⟨F1, ρ, M1, E, s.trans s1, a1, rs.mono s1, by simpa using q1, k.mono s1⟩
  | false =>
    rw [if_neg Bool.false_ne_true]
    exact ⟨F1, ρ, M1, E, s.trans s1, a1, rs.mono s1, by simpa using q1, k.mono s1⟩
/-! ### targets -/
abbrev MG := W → MSt → MH → (MSt → MH → Prop) → Prop
abbrev MGs := List W → MSt → MH → (MSt → MH → Prop) → Prop
def dnG (K : PySem.W.Frag) (F0 : Hp) (g : MG) : TG := fun v σ H Q => ∃ F ρ M w R, Same F0 F ∧ Ab K F M H ∧ RelSt K F ρ σ ∧ RelW K F w v ∧ g w ρ M R ∧
  ∀ F' ρ' M' σ' H', Same F F' → Ab K F' M' H' → RelSt K F' ρ' σ' → R ρ' M' → Q σ' H'
def dnGs (K : PySem.W.Frag) (F0 : Hp) (g : MGs) : TGs := fun vs σ H Q => ∃ F ρ M ws R, Same F0 F ∧ Ab K F M H ∧ RelSt K F ρ σ ∧ RelWs K F ws vs ∧ g ws ρ M R ∧
  ∀ F' ρ' M' σ' H', Same F F' → Ab K F' M' H' → RelSt K F' ρ' σ' → R ρ' M' → Q σ' H'
abbrev QG (X : Cx) (F0 : Hp) (e : Expr) (g : MG) : Prop := PG X e (dnG X.K F0 g)
abbrev QGs (X : Cx) (F0 : Hp) (es : List Expr) (g : MGs) : Prop := PGs X es (dnGs X.K F0 g)
theorem PG.wk {e : Expr} {t t' : TG} (h : PG X e t) (i : ∀ v σ H Q, t' v σ H Q → t v σ H Q) : PG X e t' := ⟨fun pins s σ H v u Q I r q => h.run pins s σ H v u Q I r (i _ _ _ _ q)⟩
theorem PGs.wk {es : List Expr} {t t' : TGs} (h : PGs X es t) (i : ∀ v σ H Q, t' v σ H Q → t v σ H Q) : PGs X es t' := ⟨fun pins s σ H vs us Q I r q => h.run pins s σ H vs us Q I r (i _ _ _ _ q)⟩
def nName (i : Nat) : MG := fun w ρ M R => R (st ρ i w) M
theorem qg_name {i : Nat} {x : Str} (hN : X.N.Nodup) (hi : X.N[i]? = some x) (hx : Loc X.env.scope x) (hf : X.fn x = true ∨ X.env.scope.names.lookup x = some .local := by first | exact .inl rfl | exact .inr rfl | assumption) : QG X F0 (.Name x pos) (nName i) :=
  PG.wk (pg_name hN hi hx hf) fun v σ H Q ⟨F, ρ, M, w, R, s, a, rs, r, q, k⟩ => k F _ M _ H (Same.refl _) a (rs.set r i) q
def nNil : MGs := fun ws ρ M R => match ws with | [] => R ρ M | _ => False
def nCons (t : MG) (u : MGs) : MGs := fun ws ρ M R => match ws with | w :: r => t w ρ M fun ρ' M' => u r ρ' M' R | [] => False
theorem qgs_nil : QGs X F0 [] nNil := PGs.wk pgs_nil fun vs σ H Q ⟨F, ρ, M, ws, R, s, a, rs, r, q, k⟩ => by
  cases ws with
  | nil => exact ⟨RelWs.nil_inv r, k F ρ M σ H (Same.refl _) a rs q⟩
  | cons w ws => exact q.elim
theorem qgs_cons {e : Expr} {es : List Expr} {t : MG} {u : MGs} (h1 : QG X F0 e t) (h2 : QGs X F0 es u)
    (hs : (assignEach (e :: es) X.env).map (·.2) = assign e X.env :: (assignEach es X.env).map (·.2) := by rfl) : QGs X F0 (e :: es) (nCons t u) := PGs.wk (pgs_cons h1 h2 hs) fun vs σ H Q ⟨F, ρ, M, ws, R, s, a, rs, r, q, k⟩ => by
  cases ws with
  | nil => exact q.elim
  | cons w ws =>
    obtain ⟨v, us, rfl, r1, r2⟩ := RelWs.cons_inv r
    exact ⟨v, us, rfl, F, ρ, M, w, _, s, a, rs, r1, q, fun F' ρ' M' σ' H' s' a' rs' q' => ⟨F', ρ', M', ws, R, s.trans s', a', rs', r2.mono s', q', fun F2 ρ2 M2 σ2 H2 s2 => k F2 ρ2 M2 σ2 H2 (s'.trans s2)⟩⟩
/-- (a, b, ..) = a tuple -/
def nTup (n : Nat) (t : MGs) : MG := fun w ρ M R => match w with | .tup xs => xs.length = n ∧ t xs ρ M R | _ => False
theorem qg_tup {es : List Expr} {k : Nat} {t : MGs} {n : Nat} (hc : X.calm = true) (h : QGs X F0 es t)
    (hn : (assignEach es X.env).length = n := by rfl) (hst : (assignEach es X.env).findIdx? (·.1) = none := by rfl) : QG X F0 (.Tuple es k pos) (nTup n t) := PG.wk (pg_tup hc h hn hst) fun v σ H Q ⟨F, ρ, M, w, R, s, a, rs, r, q, k⟩ => by
  cases w with
  | tup xs =>
    obtain ⟨p, vs, rfl, h1, h2⟩ := rw_tup r
    exact ⟨p, vs, rfl, sqT_sub a.sub h1, by rw [← h2.length]; exact q.1, F, ρ, M, xs, R, s, a, rs, h2, q.2, k⟩
  | _ => exact q.elim
/-- target = value -/
def mAsg (te : ME) (g : MG) : MS := fun D ρ M => te ρ M fun w M1 => g w ρ M1 D.nx
theorem qs_asg {tg : Expr} {g : MG} (he : QE X F0 e te) (hg : QG X F0 tg g) (hs : swapsWithSole [tg] e pos.line X.env = pure false := by rfl) (hw : swappedStores [tg] e X.env = pure none := by rfl)
    (h1 : (assignEach [tg] X.env).map (·.2) = [assign tg X.env] := by rfl) : QS X F0 (.Assign [tg] e pos) (mAsg te g) := by
  refine PS.wk (ps_asg he hg hs hw h1) fun D σ H ⟨F, ρ, M, E, s, a, rs, q, k⟩ => ?_
  exact ⟨F, ρ, M, _, s, a, rs, q, fun F1 w M1 v H1 s1 a1 r1 q1 => ⟨F1, ρ, M1, w, _, s.trans s1, a1, rs.mono s1, r1, q1, fun F2 ρ2 M2 σ2 H2 s2 => k.nx F2 ρ2 M2 σ2 H2 (s1.trans s2)⟩⟩
theorem qs_set {i : Nat} {x : Str} {pos' : Pos} (hN : X.N.Nodup) (hi : X.N[i]? = some x) (hx : Loc X.env.scope x) (he : QE X F0 e te) (hs : swapsWith e (some (.Name x pos')) pos.line X.env = pure false := by rfl) (hf : X.fn x = true ∨ X.env.scope.names.lookup x = some .local := by first | exact .inl rfl | exact .inr rfl | assumption) :
    QS X F0 (.Assign [.Name x pos'] e pos) (mAsg te (nName i)) := by
  refine PS.wk (ps_set hN hi hx he hs hf) fun D σ H ⟨F, ρ, M, E, s, a, rs, q, k⟩ => ?_
  exact ⟨F, ρ, M, _, s, a, rs, q, fun F1 w M1 v H1 s1 a1 r1 q1 => k.nx F1 _ M1 _ H1 s1 a1 ((rs.mono s1).set r1 i) q1⟩
/-- xs[i] = value, a list that may change -/
def nSub (to ti : ME) : MG := fun w ρ M R => to ρ M fun o M1 => ti ρ M1 fun i M2 => match o, i with
  | .ref p, .int z => match M2 p with
    | some (.lst xs) => match ixN xs.length z with | some j => R ρ (mu M2 p (.lst (xs.set j w))) | none => False
    | _ => False
  | _, _ => False
theorem qg_sub {o i : Expr} {to ti : ME} (ho : QE X F0 o to) (hi : QE X F0 i ti)
    (ha : ∀ v, assign (.Subscript o i pos) X.env v = (do
      let ov ← holding [v] (eval o X.env)
      let iv ← holding [v, ov] (eval i X.env)
      standAt pos
      holding [v, ov, iv] (setItem ov iv v)
      release [v, ov, iv] []) := by intro _; rfl) : QG X F0 (.Subscript o i pos) (nSub to ti) := PG.wk (pg_sub ho hi set_list ha) fun v σ H Q ⟨F, ρ, M, w, R, s, a, rs, r, q, k⟩ => by
  refine ⟨F, ρ, M, _, s, a, rs, q, fun F1 x M1 x' H1 s1 a1 r1 q1 => ⟨F1, ρ, M1, _, s.trans s1, a1, rs.mono s1, q1, fun F2 y M2 y' H2 s2 a2 r2 q2 => ?_⟩⟩
  split at q2
  · rename_i p z
    split at q2
    · rename_i xs e1
      split at q2
      · rename_i j e2
        obtain ⟨vs, h1, _, h2⟩ := a2.lst e1
        rw [rw_ref r1, rw_int r2]
        refine ⟨p, vs, z, j, rfl, rfl, h1, by rw [← h2.length]; exact e2, ?_⟩
        exact k F2 ρ _ σ _ (s1.trans s2) (a2.write (m := .lst (xs.set j w)) e1 ⟨_, rfl, h2.set (r.mono (s1.trans s2)) j⟩) (rs.mono (s1.trans s2)) q2
      · exact q2.elim
    · exact q2.elim
  · exact q2.elim
/-! ### while, for -/
/-- an invariant with a measure -/
def mWhile (c : MT) (tb : MS) : MS := fun D ρ M => ∃ W : Nat → MSt → MH → Prop, (∃ m, W m ρ M) ∧ ∀ m ρ M, W m ρ M →
  c ρ M fun b M1 => if b = true then tb { D with nx := fun ρ' M' => ∃ m', m' < m ∧ W m' ρ' M', ct := fun ρ' M' => ∃ m', m' < m ∧ W m' ρ' M', bk := D.nx } ρ M1 else D.nx ρ M1
theorem qs_while {c : Expr} {body : List Stmt} {tc : MT} {tb : MS} (hp : PassesOwn (model X.prog X.w) X.A X.env X.xe) (hc : QT X F0 c tc) (hb : QSs X F0 body tb) : QS X F0 (.While c body [] pos) (mWhile tc tb) := by
  refine PS.wk (ps_while hp hc hb) fun D σ H ⟨F, ρ, M, E, s, a, rs, ⟨W, ⟨m0, w0⟩, turn⟩, k⟩ => ?_
  refine ⟨fun m σ H => ∃ F' ρ M, Same F F' ∧ Ab X.K F' M H ∧ RelSt X.K F' ρ σ ∧ W m ρ M, ⟨m0, F, ρ, M, Same.refl _, a, rs, w0⟩, ?_⟩
  rintro m σ H ⟨F1, ρ1, M1, s1, a1, r1, w1⟩
  refine ⟨F1, ρ1, M1, _, s.trans s1, a1, r1, turn m ρ1 M1 w1, fun F2 b M2 H2 s2 a2 q2 => ?_⟩
  cases b with
  | true =>
    rw [if_pos rfl]
    refine ⟨fun σ' H' => ∃ m', m' < m ∧ ∃ F' ρ M, Same F F' ∧ Ab X.K F' M H' ∧ RelSt X.K F' ρ σ' ∧ W m' ρ M, fun σ' H' h => h, F2, ρ1, M2, _, s.trans (s1.trans s2), a2, r1.mono s2, by simpa using q2, ?_⟩
    have go : ∀ F' ρ' M' σ' H', Same F2 F' → Ab X.K F' M' H' → RelSt X.K F' ρ' σ' → (∃ m', m' < m ∧ W m' ρ' M') → ∃ m', m' < m ∧ ∃ F' ρ M, Same F F' ∧ Ab X.K F' M H' ∧ RelSt X.K F' ρ σ' ∧ W m' ρ M := fun F' ρ' M' σ' H' s' a' r' ⟨m', hm, w'⟩ =>
      ⟨m', hm, F', ρ', M', s1.trans (s2.trans s'), a', r', w'⟩
    exact ⟨go, (k.mono (s1.trans s2)).rt, (k.mono (s1.trans s2)).nx, go⟩
  | false =>
    rw [if_neg Bool.false_ne_true]
    exact k.nx F2 ρ1 M2 σ H2 (s1.trans s2) a2 (r1.mono s2) (by simpa using q2)
/-- a for over parts that are known: one turn a part -/
def turns (g : MG) (tb : MS) (D : MEnds) : List W → MSt → MH → Prop
  | [], ρ, M => D.nx ρ M
  | w :: ws, ρ, M => g w ρ M fun ρ1 M1 => tb { D with nx := fun ρ2 M2 => turns g tb D ws ρ2 M2, ct := fun ρ2 M2 => turns g tb D ws ρ2 M2, bk := D.nx } ρ1 M1
/-- what a for walks, by its parts -/
abbrev MI := MSt → MH → (List W → MH → Prop) → Prop
/-- J yields just the parts ws, whatever the heap -/
structure Yl (K : PySem.W.Frag) (F : Hp) (J : It) (ws : List W) : Prop where
  go : ∀ i w F' M H, Same F F' → Ab K F' M H → ws[i]? = some w → J.go i H
  yl : ∀ i w F' M H x H', Same F F' → Ab K F' M H → ws[i]? = some w → J.yld i H x H' → ∃ F2, Same F' F2 ∧ Ab K F2 M H' ∧ RelW K F2 w x
  stop : ∀ F' M H, Same F F' → Ab K F' M H → J.stop ws.length H
def dnI (K : PySem.W.Frag) (F0 : Hp) (t : MI) : TI := fun σ H Q => ∃ F ρ M R, Same F0 F ∧ Ab K F M H ∧ RelSt K F ρ σ ∧ t ρ M R ∧
  ∀ F' ws M' J H', Same F F' → Ab K F' M' H' → Yl K F' J ws → R ws M' → Q J H'
abbrev QI (X : Cx) (F0 : Hp) (tg it : Expr) (t : MI) : Prop := PI X tg it (dnI X.K F0 t)
theorem PI.wk {tg it : Expr} {t t' : TI} (h : PI X tg it t) (i : ∀ σ H Q, t' σ H Q → t σ H Q) : PI X tg it t' := ⟨fun pins s σ H R I q => h.run pins s σ H R I (i _ _ _ q)⟩
def mFor (ti : MI) (g : MG) (tb : MS) : MS := fun D ρ M => ti ρ M fun ws M1 => turns g tb D ws ρ M1
theorem qs_for {tg it : Expr} {body : List Stmt} {ti : MI} {g : MG} {tb : MS} (hp : PassesOwn (model X.prog X.w) X.A X.env X.xe) (hc : X.calm = true) (hi : QI X F0 tg it ti) (hg : QG X F0 tg g) (hb : QSs X F0 body tb) (hs : ∀ v, foldedSetIterable it X.env v = pure v := by intro _; rfl) : QS X F0 (.For tg it body [] pos) (mFor ti g tb) := by
  refine PS.wk (ps_for hp hc hi hg hb hs) fun D σ H ⟨F, ρ, M, E, s, a, rs, q, k⟩ => ?_
  refine ⟨F, ρ, M, _, s, a, rs, q, fun F1 ws M1 J H1 s1 a1 y1 q1 => ?_⟩
  let Wv : Nat → Nat → St → Hp → Prop := fun i m σ H => m + i = ws.length ∧ ∃ F' ρ M, Same F1 F' ∧ Ab X.K F' M H ∧ RelSt X.K F' ρ σ ∧ turns g tb E (ws.drop i) ρ M
  refine ⟨Wv, ⟨ws.length, rfl, F1, ρ, M1, Same.refl _, a1, rs.mono s1, q1⟩, ?_⟩
  rintro i m σ2 H2 ⟨hm, F2, ρ2, M2, s2, a2, r2, q2⟩
  cases e : ws[i]? with
  | none =>
    have hi : ws.length ≤ i := List.getElem?_eq_none_iff.mp e
    have hi2 : i = ws.length := by omega
    subst hi2
    rw [List.drop_eq_nil_of_le (Nat.le_refl _)] at q2
    exact .inl ⟨y1.stop F2 M2 H2 s2 a2, k.nx F2 ρ2 M2 σ2 H2 (s1.trans s2) a2 r2 q2⟩
  | some w =>
    have hi : i < ws.length := (List.getElem?_eq_some_iff.mp e).1
    have ed : ws.drop i = w :: ws.drop (i + 1) := by
      rw [List.drop_eq_getElem_cons hi]
      rw [List.getElem?_eq_getElem hi] at e
      cases e; rfl
    rw [ed] at q2
    refine .inr ⟨y1.go i w F2 M2 H2 s2 a2 e, fun σ' H' => ∃ F' ρ M, Same F1 F' ∧ Ab X.K F' M H' ∧ RelSt X.K F' ρ σ' ∧ turns g tb E (ws.drop (i + 1)) ρ M, fun σ' H' h => ⟨m - 1, by omega, by omega, h⟩, fun x H3 hy => ?_⟩
    obtain ⟨F3, s3, a3, rx⟩ := y1.yl i w F2 M2 H2 x H3 s2 a2 e hy
    refine ⟨F3, ρ2, M2, w, _, s.trans (s1.trans (s2.trans s3)), a3, r2.mono s3, rx, q2, fun F4 ρ4 M4 σ4 H4 s4 a4 r4 q4 => ?_⟩
    refine ⟨F4, ρ4, M4, _, s.trans (s1.trans (s2.trans (s3.trans s4))), a4, r4, q4, ?_⟩
    have go : ∀ F' ρ' M' σ' H', Same F4 F' → Ab X.K F' M' H' → RelSt X.K F' ρ' σ' → turns g tb E (ws.drop (i + 1)) ρ' M' → ∃ F' ρ M, Same F1 F' ∧ Ab X.K F' M H' ∧ RelSt X.K F' ρ σ' ∧ turns g tb E (ws.drop (i + 1)) ρ M := fun F' ρ' M' σ' H' s' a' r' q' =>
      ⟨F', ρ', M', s2.trans (s3.trans (s4.trans s')), a', r', q'⟩
    have kk := k.mono (s1.trans (s2.trans (s3.trans s4)))
    exact ⟨go, kk.rt, kk.nx, go⟩
/-! ### walked: a tuple, a list that stands, a range -/
def iT (te : ME) : MI := fun ρ M R => te ρ M fun w M1 => match w with | .tup xs => R xs M1 | _ => False
/-- a list that never changes -/
def iL (te : ME) : MI := fun ρ M R => te ρ M fun w M1 => match w with | .fl xs => R xs M1 | .sc xs => R xs M1 | _ => False
variable {tg : Expr}
theorem yl_tup {K : PySem.W.Frag} {F : Hp} {p : Addr} {vs : List V} {ws : List W} (h : SqT K F p vs) (r : RelWs K F ws vs) (inj : ∀ H xs, SqT K H p vs → SqT K H p xs → True) : Yl K F (Itt K p) ws where
  go := fun i w F' M H s a e => by
    obtain ⟨v, h1, _⟩ := r.get e
    exact ⟨vs, v, sqT_sub (s.trans a.sub) h, h1⟩
  yl := fun i w F' M H x H' s a e y => by
    obtain ⟨rfl, y⟩ := y
    obtain ⟨v, h1, h2⟩ := r.get e
    have := y vs (sqT_sub (s.trans a.sub) h)
    rw [h1] at this; cases this
    exact ⟨F', Same.refl _, a, h2.mono s⟩
  stop := fun F' M H s a => ⟨vs, sqT_sub (s.trans a.sub) h, by rw [r.length]; exact Nat.le_refl _⟩
theorem yl_lst {K : PySem.W.Frag} {F : Hp} {p : Addr} {vs : List V} {ws : List W} (h : SqL K F p vs) (r : RelWs K F ws vs) : Yl K F (Itl K p) ws where
  go := fun i w F' M H s a e => by
    obtain ⟨v, h1, _⟩ := r.get e
    exact ⟨vs, v, sqL_sub (s.trans a.sub) h, h1⟩
  yl := fun i w F' M H x H' s a e y => by
    obtain ⟨rfl, y⟩ := y
    obtain ⟨v, h1, h2⟩ := r.get e
    have := y vs (sqL_sub (s.trans a.sub) h)
    rw [h1] at this; cases this
    exact ⟨F', Same.refl _, a, h2.mono s⟩
  stop := fun F' M H s a => ⟨vs, sqL_sub (s.trans a.sub) h, by rw [r.length]; exact Nat.le_refl _⟩
theorem qi_tup (he : QE X F0 e te) : QI X F0 tg e (iT te) := by
  refine PI.wk (pi_tup he) fun σ H Q ⟨F, ρ, M, R, s, a, rs, q, k⟩ => ?_
  refine ⟨F, ρ, M, _, s, a, rs, q, fun F1 w M1 v H1 s1 a1 r1 q1 => ?_⟩
  cases w with
  | tup xs =>
    obtain ⟨p, vs, rfl, h1, h2⟩ := rw_tup r1
    exact ⟨p, rfl, ⟨vs, sqT_sub a1.sub h1⟩, k F1 xs M1 _ H1 s1 a1 (yl_tup h1 h2 fun _ _ _ _ => trivial) q1⟩
  | _ => exact q1.elim
theorem qi_lst (he : QE X F0 e te) : QI X F0 tg e (iL te) := by
  refine PI.wk (pi_list he) fun σ H Q ⟨F, ρ, M, R, s, a, rs, q, k⟩ => ?_
  refine ⟨F, ρ, M, _, s, a, rs, q, fun F1 w M1 v H1 s1 a1 r1 q1 => ?_⟩
  cases w with
  | fl xs =>
    obtain ⟨p, vs, rfl, h1, h2⟩ := rw_fl r1
    exact ⟨p, rfl, ⟨vs, SqL.of (a1.sub _ _ h1)⟩, k F1 xs M1 _ H1 s1 a1 (yl_lst (SqL.of h1) h2) q1⟩
  | sc xs =>
    obtain ⟨p, vs, rfl, h1, h2⟩ := rw_sc r1
    exact ⟨p, rfl, ⟨vs, sqL_sub a1.sub h1⟩, k F1 xs M1 _ H1 s1 a1 (yl_lst h1 h2) q1⟩
  | _ => exact q1.elim
def intsFrom (lo : Int) (n : Nat) : List W := (List.range n).map fun (i : Nat) => .int (lo + (i : Int))
theorem yl_rng {K : PySem.W.Frag} {F : Hp} {lo : Int} {n : Nat} : Yl K F (Itr lo n) (intsFrom lo n) where
  go := fun i w F' M H s a e => by
    have h := (List.getElem?_eq_some_iff.mp e).1
    show i < n
    simpa [intsFrom] using h
  yl := fun i w F' M H x H' s a e y => by
    obtain ⟨rfl, y⟩ := y
    obtain ⟨h, e'⟩ := List.getElem?_eq_some_iff.mp e
    refine ⟨F', Same.refl _, a, ?_⟩
    rw [y, ← e']
    simp only [intsFrom, List.getElem_map, List.getElem_range, RelW]
  stop := fun F' M H s a => by show n ≤ _; simp [intsFrom]
def iR1 (t : MA) : MI := fun ρ M R => t ρ M fun ws M1 => match ws with | [.int j] => -(2 ^ 62) ≤ j ∧ j < 2 ^ 62 ∧ R (intsFrom 0 j.toNat) M1 | _ => False
def iR2 (t : MA) : MI := fun ρ M R => t ρ M fun ws M1 => match ws with | [.int i, .int j] => (-(2 ^ 62) ≤ i ∧ i < 2 ^ 62 ∧ -(2 ^ 62) ≤ j ∧ j < 2 ^ 62) ∧ R (intsFrom i (j - i).toNat) M1 | _ => False
theorem qi_range1 {a : Expr} {ta : MA} {p pos : Pos} (hg : Gl X "range") (hm : X.mg "range" = none) (ha : QA X F0 [a] ta) (hs : starEach [a] X.env = [(false, eval a X.env)] := by rfl) : QI X F0 tg (.Call (.Name "range" p) [a] [] pos) (iR1 ta) := by
  refine PI.wk (pi_range1 hg hm ha hs) fun σ H Q ⟨F, ρ, M, R, s, a, rs, q, k⟩ => ?_
  refine ⟨F, ρ, M, _, s, a, rs, q, fun F1 ws M1 vs H1 s1 a1 r1 q1 => ?_⟩
  split at q1
  · rename_i j
    obtain ⟨v, r, rfl, h1, h2⟩ := RelWs.cons_inv r1
    rw [RelWs.nil_inv h2, rw_int h1]
    exact ⟨j, rfl, q1.1, q1.2.1, k F1 _ M1 _ H1 s1 a1 yl_rng q1.2.2⟩
  · exact q1.elim
theorem qi_range2 {a b : Expr} {ta : MA} {p pos : Pos} (hg : Gl X "range") (hm : X.mg "range" = none) (ha : QA X F0 [a, b] ta) (hs : starEach [a, b] X.env = [(false, eval a X.env), (false, eval b X.env)] := by rfl) (hs2 : starEach [b] X.env = [(false, eval b X.env)] := by rfl) : QI X F0 tg (.Call (.Name "range" p) [a, b] [] pos) (iR2 ta) := by
  refine PI.wk (pi_range2 hg hm ha hs hs2) fun σ H Q ⟨F, ρ, M, R, s, a, rs, q, k⟩ => ?_
  refine ⟨F, ρ, M, _, s, a, rs, q, fun F1 ws M1 vs H1 s1 a1 r1 q1 => ?_⟩
  split at q1
  · rename_i i j
    obtain ⟨v, r, rfl, h1, h2⟩ := RelWs.cons_inv r1
    obtain ⟨v', r', rfl, h3, h4⟩ := RelWs.cons_inv h2
    rw [RelWs.nil_inv h4, rw_int h1, rw_int h3]
    exact ⟨i, j, rfl, q1.1, k F1 _ M1 _ H1 s1 a1 yl_rng q1.2⟩
  · exact q1.elim
end
end Ri

set_option Elab.async false
set_option linter.all false
set_option maxRecDepth 100000
set_option maxHeartbeats 2000000
namespace Ri
open PySem L2 PySem.Calls PyProof.Rows

/-! ### what a def promises -/
abbrev MXQ := Addr → List (Str × W) → MH → Prop
/-- arguments, things, the wish of a value, the wish of an exception -/
abbrev MSp := List W → MH → MQ → MXQ → Prop
section
variable (K : PySem.W.Frag)
/-- an exception's own dict -/
def XD (F : Hp) (od : Option Addr) (fs : List (Str × W)) : Prop := (od = none ∧ fs = []) ∨ ∃ d vs, od = some d ∧ F d = some (.xd vs) ∧ RelFs K F fs vs
def FinX (F : Hp) (RX : MXQ) (E : XK) : Prop := ∀ F' C fs M' H' od, Same F F' → Ab K F' M' H' → XD K F' od fs → RX C fs M' → E (.ref C) od H'
def upS (sp : MSp) : Sp := fun vs H Q E => ∃ F ws M R RX, Ab K F M H ∧ RelWs K F ws vs ∧ sp ws M R RX ∧ Fin K F R Q ∧ FinX K F RX E
/-- a wish of exceptions, with the slots -/
def dnX (F0 : Hp) (RX : MSt → MXQ) : WX := fun cls od σ H => ∃ F ρ M C fs, Same F0 F ∧ Ab K F M H ∧ RelSt K F ρ σ ∧ cls = .ref C ∧ XD K F od fs ∧ RX ρ C fs M
end
theorem XD.mono {K : PySem.W.Frag} {F G : Hp} (s : Same F G) {od : Option Addr} {fs : List (Str × W)} (h : XD K F od fs) : XD K G od fs := by
  rcases h with h | ⟨d, vs, e, h1, h2⟩
  · exact .inl h
  · exact .inr ⟨d, vs, e, s _ _ h1, h2.mono s⟩
/-- where exceptions go -/
def QX (X : Cx) (F0 : Hp) (RX : MSt → MXQ) : Prop := Takes X (dnX X.K F0 RX)
theorem QX.none {X : Cx} {F0 : Hp} : QX X F0 (fun _ _ _ _ => False) := fun u s' ⟨_, _, _, _, _, _, _, _, _, _, _, _, _, _, _, _, w⟩ => by
  obtain ⟨_, _, _, _, _, _, _, _, _, _, z⟩ := w
  exact z.elim
/-- a def at f keeps sp, by at most k calls one in another -/
structure FF (P : Program) (w : World) (K : PySem.W.Frag) (mg : Str → Option Value) (base : Heap) (k : Nat) (f : Addr) (ps : List Str) (sp : MSp) : Prop where
  ex : ∃ fd, FnOk P w K mg base (L2.CX P w) k f fd ps (upS K sp) ∧ Binds K fd ps []
  kp : PySem.W.keepIn K (.ref f) = true
theorem FF.mono {P : Program} {w : World} {K : PySem.W.Frag} {mg : Str → Option Value} {base : Heap} {j k : Nat} {f : Addr} {ps : List Str} {sp : MSp} (h : FF P w K mg base j f ps sp) (l : j ≤ k) : FF P w K mg base k f ps sp := by
  obtain ⟨⟨fd, F, b⟩, kp⟩ := h
  exact ⟨⟨fd, F.mono l, b⟩, kp⟩
theorem FF.imp {P : Program} {w : World} {K : PySem.W.Frag} {mg : Str → Option Value} {base : Heap} {k : Nat} {f : Addr} {ps : List Str} {sp sp' : MSp} (h : FF P w K mg base k f ps sp) (i : ∀ ws M R RX, sp' ws M R RX → sp ws M R RX) : FF P w K mg base k f ps sp' := by
  obtain ⟨⟨fd, F, b⟩, kp⟩ := h
  refine ⟨⟨fd, F.imp fun vs H Q E ⟨F, ws, M, R, RX, a, r, q, k1, k2⟩ => ⟨F, ws, M, R, RX, a, r, i _ _ _ _ q, k1, k2⟩, b⟩, kp⟩

section
variable {X : Cx} {F0 : Hp} {RX : MSt → MXQ} {k : Nat} {f : Addr} {ps : List Str} {sp : MSp} {x : Str} {p pos : Pos} {e : Expr} {es : List Expr} {t : MA}
def mCall (sp : MSp) (RX : MSt → MXQ) (t : MA) : ME := fun ρ M R => t ρ M fun ws M1 => sp ws M1 R (RX ρ)
theorem up_call {K : PySem.W.Frag} {F : Hp} {ρ : MSt} {σ : L2.St} {M : MH} {H : Hp} {R : MQ} {Q : VK} {ws : List W} {vs : List V} (s : Same F0 F) (a : Ab K F M H) (rs : RelSt K F ρ σ) (r : RelWs K F ws vs) (q : sp ws M R (RX ρ)) (k : Fin K F R Q) : upS K sp vs H Q (WE (dnX K F0 RX) σ) :=
  ⟨F, ws, M, R, RX ρ, a, r, q, k, fun F' C fs M' H' od s' a' x' q' => ⟨F', ρ, M', C, fs, s.trans s', a', rs.mono s', rfl, x', q'⟩⟩
theorem qe_call (G : FF X.prog X.w X.K X.mg X.base k f ps sp) (hr : Room k X.A) (hg : Gl X x) (hm : X.mg x = some (.ref f)) (hx : QX X F0 RX) (ha : QA X F0 (e :: es) t)
    (hdb : (x == ("__debug__" : Str)) = false := by decide) (he : starEach (e :: es) X.env = (false, eval e X.env) :: starEach es X.env := by rfl) (hpl : (backTo pos (starEach es X.env)).any (·.1) = false := by rfl) :
    QE X F0 (.Call (.Name x p) (e :: es) [] pos) (mCall sp RX t) := by
  obtain ⟨⟨fd, Fo, hb⟩, hk⟩ := G
  refine PE.wk (pe_callSD Fo hr hg hm hk hb .nil (fun σ => passAt hx σ) ha hdb he hpl) fun σ H Q ⟨F, ρ, M, R, s, a, rs, q, kk⟩ => ?_
  refine ⟨F, ρ, M, _, s, a, rs, q, fun F1 ws M1 vs H1 s1 a1 r1 q1 => ?_⟩
  show upS X.K sp (vs ++ []) H1 Q _
  rw [List.append_nil]
  exact up_call (s.trans s1) a1 (rs.mono s1) r1 q1 (Fin.mono kk s1)
theorem qe_call0 (G : FF X.prog X.w X.K X.mg X.base k f ps sp) (hr : Room k X.A) (hg : Gl X x) (hm : X.mg x = some (.ref f)) (hx : QX X F0 RX) (hdb : (x == ("__debug__" : Str)) = false := by decide) :
    QE X F0 (.Call (.Name x p) [] [] pos) (mCall sp RX mNil) := by
  obtain ⟨⟨fd, Fo, hb⟩, hk⟩ := G
  refine ⟨fun pins s σ H Q I ⟨F, ρ, M, R, s0, a, rs, q, kk⟩ => ?_⟩
  refine wpAny_Call_Name_kw (ld_glob I hg hm ?_ hdb)
  exact PySem.W.callWith_K0 I.kIn hk (run_fnSD (us := []) (vs := []) (E := WE (dnX X.K F0 RX)) Fo hr hb .nil (passAt hx σ) I .nil (up_call s0 a rs .nil q kk))
/-! ### methods -/
structure Mth (P : Program) (w : World) (K : PySem.W.Frag) (mg : Str → Option Value) (base : Heap) (k : Nat) (C : Addr) (m : Str) (ps : List Str) (sp : MSp) : Prop where
  ex : ∃ g, Meth K C m g ∧ FF P w K mg base k g ps sp
  cl : Cls K C
theorem Mth.mono {P : Program} {w : World} {K : PySem.W.Frag} {mg : Str → Option Value} {base : Heap} {j k : Nat} {C : Addr} {m : Str} {ps : List Str} {sp : MSp} (h : Mth P w K mg base j C m ps sp) (l : j ≤ k) : Mth P w K mg base k C m ps sp := by
  obtain ⟨⟨g, h1, h2⟩, h3⟩ := h
  exact ⟨⟨g, h1, h2.mono l⟩, h3⟩
variable {o : Expr} {m : Str} {apos : Pos} {to : ME} {Cs : Addr → Prop} {sps : Addr → MSp} {pss : Addr → List Str}
/-- o.m(..), o an instance of one of the classes Cs -/
def mMeth (Cs : Addr → Prop) (m : Str) (sps : Addr → MSp) (RX : MSt → MXQ) (to : ME) (t : MA) : ME := fun ρ M R => to ρ M fun w M1 => match w with
  | .ref a => match M1 a with
    | some (.ins C fs) => Cs C ∧ fs.lookup m = none ∧ t ρ M1 fun ws M2 => sps C (.ref a :: ws) M2 R (RX ρ)
    | _ => False
  | _ => False
theorem qe_meth {pl : Sem Bool} (ho : QE X F0 o to) (G : ∀ C, Cs C → Mth X.prog X.w X.K X.mg X.base k C m (pss C) (sps C)) (hr : Room k X.A) (hx : QX X F0 RX) (ha : QA X F0 (e :: es) t)
    (hst : starEach (e :: es) X.env = (false, eval e X.env) :: starEach es X.env := by rfl) (hpl : (backTo pos (starEach es X.env)).any (·.1) = false := by rfl)
    (ht : eval (.Call (.Attribute o m apos) (e :: es) [] pos) X.env = (do
      let ov ← eval o X.env
      standAt apos.atName
      let (f, first) ← holding [ov] (getMethod ov m pl)
      callWith pos f first (backTo pos (starEach (e :: es) X.env)) (backToKw pos (keywordEach [] X.env))) := by rfl) :
    QE X F0 (.Call (.Attribute o m apos) (e :: es) [] pos) (mMeth Cs m sps RX to t) := by
  refine ⟨fun pins s σ H Q I ⟨F, ρ, M, R, s0, a, rs, q, kk⟩ => ?_⟩
  refine PySem.W.methodCall_KW (pl := pl) (thn (ho.run pins s σ H (fun x H1 => ∃ p C fs F1 M1, x = .ref p ∧ M1 p = some (.ins C fs) ∧ Cs C ∧ fs.lookup m = none ∧ Same F F1 ∧ Ab X.K F1 M1 H1 ∧ t ρ M1 fun ws M2 => sps C (.ref p :: ws) M2 R (RX ρ)) I
    ⟨F, ρ, M, _, s0, a, rs, q, fun F1 w M1 v H1 s1 a1 r1 q1 => ?_⟩) fun u s1 ⟨x, H1, I1, rx, q1⟩ => ?_) ht
  · split at q1
    · rename_i p
      split at q1
      · rename_i C fs e1
        exact ⟨p, C, fs, F1, M1, rw_ref r1, e1, q1.1, q1.2.1, s1, a1, q1.2.2⟩
      · exact q1.elim
    · exact q1.elim
  · obtain ⟨p, C, fs, F1, M1, rfl, e1, hC, hl, s1', a1, q1⟩ := q1
    obtain rfl : u = Value.ref p := rx
    obtain ⟨⟨g, hm, ⟨⟨fd, Fo, hb⟩, hk⟩⟩, hcl⟩ := G C hC
    obtain ⟨dx, vs, h1, _, h2⟩ := a1.ins e1
    refine getmeth_ok I1 h1 hcl hm (lookup_none h2 hl) ?_
    refine PySem.W.callWith_K (first := [.ref p]) (h₀ := X.base) I1.ok.mod.kin hm.kp (thn (ha.run pos pins s1 σ H1 (fun vs H2 => ∃ ws F2 M2, Same F F2 ∧ Ab X.K F2 M2 H2 ∧ RelWs X.K F2 ws vs ∧ sps C (.ref p :: ws) M2 R (RX ρ)) I1
      ⟨F1, ρ, M1, _, s0.trans s1', a1, rs.mono s1', q1, fun F2 ws M2 vs H2 s2 a2 r2 q2 => ⟨ws, F2, M2, s1'.trans s2, a2, r2, q2⟩⟩) fun us s2 ⟨vs, H2, I2, r2, ws, F2, M2, s3, a2, rw2, q2⟩ => ⟨I2.kIn, ?_⟩) hst hpl
    exact run_fnSD (us := .ref p :: us) (vs := .ref p :: vs) (E := WE (dnX X.K F0 RX)) Fo hr hb .nil (passAt hx σ) I2 (.cons rfl r2) (by rw [List.append_nil]; exact up_call (s0.trans s3) a2 (rs.mono s3) (.cons ref_rw rw2) q2 (Fin.mono kk s3))
theorem qe_meth0 {pl : Sem Bool} (ho : QE X F0 o to) (G : ∀ C, Cs C → Mth X.prog X.w X.K X.mg X.base k C m (pss C) (sps C)) (hr : Room k X.A) (hx : QX X F0 RX)
    (ht : eval (.Call (.Attribute o m apos) [] [] pos) X.env = (do
      let ov ← eval o X.env
      standAt apos.atName
      let (f, first) ← holding [ov] (getMethod ov m pl)
      callWith pos f first (backTo pos (starEach [] X.env)) (backToKw pos (keywordEach [] X.env))) := by rfl) :
    QE X F0 (.Call (.Attribute o m apos) [] [] pos) (mMeth Cs m sps RX to mNil) := by
  refine ⟨fun pins s σ H Q I ⟨F, ρ, M, R, s0, a, rs, q, kk⟩ => ?_⟩
  refine PySem.W.methodCall_KW (pl := pl) (thn (ho.run pins s σ H (fun x H1 => ∃ p C fs F1 M1, x = .ref p ∧ M1 p = some (.ins C fs) ∧ Cs C ∧ fs.lookup m = none ∧ Same F F1 ∧ Ab X.K F1 M1 H1 ∧ sps C [.ref p] M1 R (RX ρ)) I
    ⟨F, ρ, M, _, s0, a, rs, q, fun F1 w M1 v H1 s1 a1 r1 q1 => ?_⟩) fun u s1 ⟨x, H1, I1, rx, q1⟩ => ?_) ht
  · split at q1
    · rename_i p
      split at q1
      · rename_i C fs e1
        exact ⟨p, C, fs, F1, M1, rw_ref r1, e1, q1.1, q1.2.1, s1, a1, q1.2.2⟩
      · exact q1.elim
    · exact q1.elim
  · obtain ⟨p, C, fs, F1, M1, rfl, e1, hC, hl, s1', a1, q1⟩ := q1
    obtain rfl : u = Value.ref p := rx
    obtain ⟨⟨g, hm, ⟨⟨fd, Fo, hb⟩, hk⟩⟩, hcl⟩ := G C hC
    obtain ⟨dx, vs, h1, _, h2⟩ := a1.ins e1
    refine getmeth_ok I1 h1 hcl hm (lookup_none h2 hl) ?_
    exact PySem.W.callWith_K0 (first := [.ref p]) I1.kIn hm.kp (run_fnSD (us := [.ref p]) (vs := [.ref p]) (E := WE (dnX X.K F0 RX)) Fo hr hb .nil (passAt hx σ) I1 (.cons rfl .nil) (up_call (s0.trans s1') a1 (rs.mono s1') (.cons ref_rw .nil) q1 (Fin.mono kk s1')))
/-! ### a new instance -/
/-- C(..): sp its __init__'s promise, at the new instance -/
def mMake (C : Addr) (sp : MSp) (t : MA) : ME := fun ρ M R => t ρ M fun ws M1 => ∀ p, M1 p = none → sp (.ref p :: ws) (mu M1 p (.ins C [])) (fun v M2 => v = .non ∧ R (.ref p) M2) (fun _ _ _ => False)
theorem qe_make {C : Addr} (Mk' : Mk X.K C f) (G : FF X.prog X.w X.K X.mg X.base k f ps sp) (hr : Room (k + 1) X.A) (hg : Gl X x) (hm : X.mg x = some (.ref C)) (ha : QA X F0 (e :: es) t)
    (hdb : (x == ("__debug__" : Str)) = false := by decide) (he : starEach (e :: es) X.env = (false, eval e X.env) :: starEach es X.env := by rfl) (hpl : (backTo pos (starEach es X.env)).any (·.1) = false := by rfl) :
    QE X F0 (.Call (.Name x p) (e :: es) [] pos) (mMake C sp t) := by
  obtain ⟨⟨fd, Fo, hb⟩, hk⟩ := G
  refine PE.wk (pe_make Mk' Fo hr hg hm hb .nil passL ha hdb he hpl) fun σ H Q ⟨F, ρ, M, R, s, a, rs, q, kk⟩ => ?_
  refine ⟨F, ρ, M, _, s, a, rs, q, fun F1 ws M1 vs H1 s1 a1 r1 q1 => fun x dx nx nd ne => ?_⟩
  show upS X.K sp (.ref x :: (vs ++ [])) _ _ _
  rw [List.append_nil]
  have f1 := (a1.fresh nx).1
  have f2 := (a1.fresh nd).1
  have a2 : Ab X.K F1 M1 (upd H1 dx (.own x)) := a1.grow fun b u z => by rw [upd_ne (ne_of_none z nd)]; exact z
  have nx2 : upd H1 dx (.own x) x = none := by rw [upd_ne (Ne.symm ne)]; exact nx
  have a3 := a2.laid (m := .ins C []) (o := .ins C dx []) nx2 ⟨dx, [], rfl, by simp only [RelFs]⟩
  refine ⟨F1, _, _, _, _, a3, .cons ref_rw r1, q1 x (a1.fresh nx).2, fun F' w M' v H' s' a' r' q' => ?_, fun _ _ _ _ _ _ _ _ _ z => z.elim⟩
  obtain ⟨rfl, q'⟩ := q'
  exact ⟨rw_non r', kk F' _ M' _ H' (s1.trans s') a' ref_rw q'⟩
theorem qe_make0 {C : Addr} (Mk' : Mk X.K C f) (G : FF X.prog X.w X.K X.mg X.base k f ps sp) (hr : Room (k + 1) X.A) (hg : Gl X x) (hm : X.mg x = some (.ref C))
    (hdb : (x == ("__debug__" : Str)) = false := by decide) : QE X F0 (.Call (.Name x p) [] [] pos) (mMake C sp mNil) := by
  obtain ⟨⟨fd, Fo, hb⟩, hk⟩ := G
  refine PE.wk (pe_make0 Mk' Fo hr hg hm hb .nil passL hdb) fun σ H Q ⟨F, ρ, M, R, s, a1, rs, q1, kk⟩ => fun x dx nx nd ne => ?_
  show upS X.K sp [.ref x] _ _ _
  have a2 : Ab X.K F M (upd H dx (.own x)) := a1.grow fun b u z => by rw [upd_ne (ne_of_none z nd)]; exact z
  have nx2 : upd H dx (.own x) x = none := by rw [upd_ne (Ne.symm ne)]; exact nx
  have a3 := a2.laid (m := .ins C []) (o := .ins C dx []) nx2 ⟨dx, [], rfl, by simp only [RelFs]⟩
  refine ⟨F, _, _, _, _, a3, .cons ref_rw .nil, q1 x (a1.fresh nx).2, fun F' w M' v H' s' a' r' q' => ?_, fun _ _ _ _ _ _ _ _ _ z => z.elim⟩
  obtain ⟨rfl, q'⟩ := q'
  exact ⟨rw_non r', kk F' _ M' _ H' s' a' ref_rw q'⟩
end

/-! ### a def of the text -/
def startW (N : List Str) (ws : List W) : MSt := ws.map some ++ List.replicate (N.length - ws.length) none
theorem start_rel {K : PySem.W.Frag} {F : Hp} {N : List Str} {ws : List W} {vs : List V} (r : RelWs K F ws vs) : RelSt K F (startW N ws) (L2.start N vs) := by
  unfold startW L2.start
  rw [← r.length]
  have rep : ∀ n, RelSt K F (List.replicate n none) (List.replicate n none) := fun n => by
    induction n with
    | zero => simp only [List.replicate_zero, RelSt]
    | succ n ih => simp only [List.replicate_succ, RelSt]; exact ih
  have app : ∀ {ws : List W} {vs : List V} (r : RelWs K F ws vs) {ρ : MSt} {σ : L2.St}, RelSt K F ρ σ → RelSt K F (ws.map some ++ ρ) (vs.map some ++ σ) := by
    intro ws
    induction ws with
    | nil => intro vs r ρ σ h; rw [RelWs.nil_inv r]; exact h
    | cons w ws ih =>
      intro vs r ρ σ h
      obtain ⟨v, q, rfl, r1, r2⟩ := RelWs.cons_inv r
      simp only [List.map_cons, List.cons_append, RelSt]
      exact ⟨r1, ih r2 h⟩
  exact app r (rep _)
/-- what was made on the way may be forgotten -/
def sh (R : MQ) : MQ := fun w M' => ∃ M'', MSub M'' M' ∧ R w M''
def shX (R : MXQ) : MXQ := fun C fs M' => ∃ M'', MSub M'' M' ∧ R C fs M''
theorem sh.of {R : MQ} {w : W} {M : MH} (h : R w M) : sh R w M := ⟨M, MSub.refl _, h⟩
theorem shX.of {R : MXQ} {C : Addr} {fs : List (Str × W)} {M : MH} (h : R C fs M) : shX R C fs M := ⟨M, MSub.refl _, h⟩
theorem ff_of {P : Program} {w : World} {K : PySem.W.Frag} {mg : Str → Option Value} {base : Heap} {x qual : Str} {st : Stmt} {f : Addr} {fd : FuncData} {N ps : List Str} {k : Nat} {sp : MSp} (F : Fun K x qual st f fd) (S : FnScope N ps (defScope st)) (hb : Binds K fd ps [])
    (len : ∀ ws M R RX, sp ws M R RX → ws.length = ps.length)
    (hbody : ∀ (cdv : Value) (A : Around) (outer : List Env) (s : Shared) (H : Hp) (E : XK) (F0 : Hp) (ws : List W) (M : MH) (R : MQ) (RX : MXQ), Room k (A.deeper (envOfC qual (defScope st) s.heap.objs.size f cdv)) → sp ws M R RX →
      QX (cxOf (L2.CX P w) P w K mg base N qual (defScope st) f cdv A outer s H E) F0 (fun _ => shX RX) →
      PassesOwn (model P w) (A.deeper (envOfC qual (defScope st) s.heap.objs.size f cdv)) (envOfC qual (defScope st) s.heap.objs.size f cdv) (cxOf (L2.CX P w) P w K mg base N qual (defScope st) f cdv A outer s H E).xe →
      ∃ t, QSs (cxOf (L2.CX P w) P w K mg base N qual (defScope st) f cdv A outer s H E) F0 (defBody st) t ∧ t { nx := fun _ M' => sh R .non M', rt := sh R } (startW N ws) M) : FF P w K mg base (k + 1) f ps sp := by
  refine ⟨⟨fd, F.okX S (fun vs H Q E ⟨_, ws, M, R, RX, _, r, q, _, _⟩ => by rw [← r.length]; exact len _ _ _ _ q) (fun cdv A outer s H vs Q E hr ⟨F0, ws, M, R, RX, a, r, q, k1, k2⟩ => ?_), hb⟩, F.kp⟩
  have tk : QX (cxOf (L2.CX P w) P w K mg base N qual (defScope st) f cdv A outer s H E) F0 (fun _ => shX RX) := Takes.imp (takes_of rfl rfl rfl rfl) fun c d σ H' ⟨F', ρ, M', C, fs, s', a', rs', e, x', M'', m', q'⟩ => by
    subst e
    exact k2 F' C fs M'' H' d s' (a'.shrink m') x' q'
  obtain ⟨t, ht, hq⟩ := hbody cdv A outer s H E F0 ws M R RX hr q tk (passes_of rfl)
  refine ⟨_, ht, F0, _, M, _, Same.refl _, a, start_rel r, hq, ⟨fun F' ρ M' σ H' s' a' r' ⟨M'', m', q'⟩ => ?_, fun F' w M' v H' s' a' r' ⟨M'', m', q'⟩ => ?_, fun _ _ _ _ _ _ _ _ z => z.elim, fun _ _ _ _ _ _ _ _ z => z.elim⟩⟩
  · exact k1 F' _ M'' _ H' s' (a'.shrink m') non_rw q'
  · exact k1 F' _ M'' _ H' s' (a'.shrink m') r' q'
end Ri

set_option Elab.async false
set_option linter.all false
set_option maxRecDepth 100000
set_option maxHeartbeats 2000000
namespace Ri
open PySem L2 PySem.Calls PyProof.Rows

/-! ### list comprehensions -/
def mdel (M : MH) (D : Addr) : MH := fun b => if b = D then none else M b
theorem mdel_mu {M : MH} {D : Addr} {o : MO} (h : M D = none) : mdel (mu M D o) D = M := by
  funext b; unfold mdel mu
  by_cases e : b = D
  · subst e; simp [h]
  · simp [e]
theorem mdel_mu_ne {M : MH} {D a : Addr} {o : MO} (h : a ≠ D) : mdel (mu M a o) D = mu (mdel M D) a o := by
  funext b; unfold mdel mu
  by_cases e : b = D
  · subst e; simp [Ne.symm h]
  · simp [e]
theorem mdel_ne {M : MH} {D b : Addr} (h : b ≠ D) : mdel M D b = M b := by unfold mdel; rw [if_neg h]
theorem mdel_id {M : MH} {D : Addr} (h : M D = none) : mdel M D = M := by
  funext b; unfold mdel
  by_cases e : b = D
  · subst e; simp [h]
  · simp [e]
theorem msub_del {M : MH} {D : Addr} : MSub (mdel M D) M := fun b o e => by
  unfold mdel at e
  by_cases h : b = D
  · rw [if_pos h] at e; cases e
  · rw [if_neg h] at e; exact e
/-- a list that may change is taken for ever -/
theorem Ab.seal {K : PySem.W.Frag} {F : Hp} {M : MH} {H : Hp} {D : Addr} {ws : List W} (a : Ab K F M H) (h : M D = some (.lst ws)) : ∃ F', Same F F' ∧ Ab K F' (mdel M D) H ∧ RelW K F' (.fl ws) (.ref D) := by
  obtain ⟨vs, h1, f1, r⟩ := a.lst h
  have s : Same F (upd F D (.lst vs)) := fun b u e => by rw [upd_ne (ne_of_none e f1)]; exact e
  refine ⟨upd F D (.lst vs), s, ⟨fun b u e => ?_, fun b m e => ?_⟩, ?_⟩
  · by_cases hb : b = D
    · subst hb; rw [upd_same] at e; cases e; exact h1
    · rw [upd_ne hb] at e; exact a.sub _ _ e
  · unfold mdel at e
    by_cases hb : b = D
    · rw [if_pos hb] at e; cases e
    · rw [if_neg hb] at e
      obtain ⟨o, e1, e2, e3⟩ := a.mv b m e
      exact ⟨o, e1, by rw [upd_ne hb]; exact e2, e3.mono s⟩
  · simp only [RelW]
    exact ⟨D, vs, rfl, upd_same, r.mono s⟩
def lcT (D : Addr) (b : W → Option MSt) (tt : MT) (te : ME) (R : List W → MH → Prop) : List W → List W → MH → Prop
  | [], acc, M => R acc M
  | w :: ws, acc, M => match b w with
    | none => False
    | some ρ => tt ρ M fun c M1 => if c = true then te ρ M1 fun y M2 => M2 D = some (.lst acc) ∧ lcT D b tt te R ws (acc ++ [y]) (mu M2 D (.lst (acc ++ [y]))) else M1 D = some (.lst acc) ∧ lcT D b tt te R ws acc M1
/-- how the target takes an item: the slots of its names -/
def bd1 (i : Nat) (ρ : MSt) (w : W) : Option MSt := some (st (stN ρ i) i w)
def bd2 (i j : Nat) (ρ : MSt) (w : W) : Option MSt := match w with | .tup [a, b] => some (st (st (stN (stN ρ j) i) i a) j b) | _ => none
def mYes : MT := fun _ M R => R true M
/-- [..], never changed behind -/
def mLcF (b : MSt → W → Option MSt) (ti : MI) (tt : MT) (te : ME) : ME := fun ρ M R => ti ρ M fun ws M1 => ws.length ≤ sizeLine ∧ ∀ D, M1 D = none → lcT D (b ρ) tt te (fun acc M2 => M2 D = some (.lst acc) ∧ R (.fl acc) (mdel M2 D)) ws [] (mu M1 D (.lst []))
/-- [..], to be changed -/
def mLc (b : MSt → W → Option MSt) (ti : MI) (tt : MT) (te : ME) : ME := fun ρ M R => ti ρ M fun ws M1 => ws.length ≤ sizeLine ∧ ∀ D, M1 D = none → lcT D (b ρ) tt te (fun acc M2 => R (.ref D) M2) ws [] (mu M1 D (.lst []))
abbrev QTs (X : Cx) (F0 : Hp) (es : List Expr) (t : MT) : Prop := PTs X es (dnT X.K F0 t)
theorem PTs.wk {X : Cx} {es : List Expr} {t t' : TT} (h : PTs X es t) (i : ∀ σ H Q, t' σ H Q → t σ H Q) : PTs X es t' := ⟨fun pins s σ H Q I q => h.run pins s σ H Q I (i _ _ _ q)⟩
section
variable {X : Cx} {F0 : Hp}
theorem qts_nil : QTs X F0 [] mYes := PTs.wk pts_nil fun σ H Q ⟨F, ρ, M, R, s, a, rs, q, k⟩ => k F true M H (Same.refl _) a q
theorem qts_one {c : Expr} {t : MT} (h : QT X F0 c t) : QTs X F0 [c] t := pts_one h
/-- the V-level target and its trees -/
structure Bd (K : PySem.W.Frag) (g : TG) (vs : List Nat) (b : MSt → W → Option MSt) : Prop where
  go : ∀ F ρ σ w v H M ρ' Q, RelSt K F ρ σ → Ab K F M H → RelW K F w v → b ρ w = some ρ' → (∀ σ', RelSt K F ρ' σ' → wipe σ' vs = wipe σ vs → Q σ' H) → g v (wipe σ vs) H Q
theorem bd_1 {K : PySem.W.Frag} {i : Nat} : Bd K (gName i) [i] (bd1 i) where
  go := fun F ρ σ w v H M ρ' Q rs a r e h => by
    simp only [bd1, Option.some.injEq] at e; subst e
    refine h _ (RelSt.set r i (RelSt.clear i rs)) ?_
    simp only [wipe, List.set_set]
theorem bd_2 {K : PySem.W.Frag} {i j : Nat} (hij : i ≠ j) : Bd K (gTup K 2 (gCons (gName i) (gCons (gName j) gNil))) [i, j] (bd2 i j) where
  go := fun F ρ σ w v H M ρ' Q rs a r e h => by
    unfold bd2 at e
    split at e
    · simp only [Option.some.injEq] at e; subst e
      obtain ⟨p, vs, rfl, h1, h2⟩ := rw_tup r
      obtain ⟨x, q, rfl, r1, r2⟩ := RelWs.cons_inv h2
      obtain ⟨y, q', rfl, r3, r4⟩ := RelWs.cons_inv r2
      rw [RelWs.nil_inv r4] at h1
      refine ⟨p, [x, y], rfl, sqT_sub a.sub h1, rfl, x, [y], rfl, y, [], rfl, rfl, h _ (RelSt.set r3 j (RelSt.set r1 i (RelSt.clear i (RelSt.clear j rs)))) ?_⟩
      simp only [wipe]
      rw [List.set_comm _ _ (Ne.symm hij), List.set_set, List.set_comm _ _ hij]
      rw [List.set_set]
      have e1 : ∀ (l : List (Option V)) , ((l.set i none).set j none) = (l.set j none).set i none := fun l => List.set_comm _ _ hij
      simp [List.set_comm _ _ hij, List.set_set]
    · cases e
theorem lc_gen {K : PySem.W.Frag} {ti : MI} {tt : MT} {te : ME} {g : TG} {vs : List Nat} {b : MSt → W → Option MSt} (B : Bd K g vs b) {Rf : Addr → List W → MH → MQ → Prop} {σ : L2.St} {H : Hp} {Q : VK}
    (hf : ∀ D acc F M H R, Ab K F M H → M D = some (.lst acc) → Rf D acc M R → (∀ F' w M' v H', Same F F' → Ab K F' M' H' → RelW K F' w v → R w M' → Q v H') → Q (.ref D) H)
    (h : dnE K F0 (fun ρ M R => ti ρ M fun ws M1 => ws.length ≤ sizeLine ∧ ∀ D, M1 D = none → lcT D (b ρ) tt te (fun acc M2 => Rf D acc M2 R) ws [] (mu M1 D (.lst []))) σ H Q) :
    tLc (dnI K F0 ti) g (dnT K F0 tt) (dnE K F0 te) vs σ H Q := by
  obtain ⟨F, ρ, M, R, s, a, rs, q, k⟩ := h
  refine ⟨F, ρ, M, _, s, a, rs, q, fun F1 ws M1 J H1 s1 a1 y1 q1 D nD => ?_⟩
  obtain ⟨hlen, q1⟩ := q1
  let Wv : Nat → Nat → Hp → Prop := fun i m H => m + i = ws.length ∧ ∃ F' M' acc, Same F1 F' ∧ Ab K F' M' H ∧ acc.length ≤ i ∧ M' D = some (.lst acc) ∧ lcT D (b ρ) tt te (fun acc M2 => Rf D acc M2 R) (ws.drop i) acc M'
  refine ⟨Wv, ⟨ws.length, rfl, F1, _, [], Same.refl _, a1.laid (m := .lst []) nD ⟨[], rfl, .nil⟩, Nat.le_refl _, mu_same, q1 D (a1.fresh nD).2⟩, ?_⟩
  rintro i m H2 ⟨hm, F2, M2, acc, s2, a2, ha, hD, q2⟩
  cases e : ws[i]? with
  | none =>
    have hi : ws.length ≤ i := List.getElem?_eq_none_iff.mp e
    have hi2 : i = ws.length := by omega
    subst hi2
    rw [List.drop_eq_nil_of_le (Nat.le_refl _)] at q2
    exact .inl ⟨y1.stop F2 M2 H2 s2 a2, hf D acc F2 M2 H2 R a2 hD q2 fun F' w M' v H' s' => k F' w M' v H' (s1.trans (s2.trans s'))⟩
  | some w =>
    have hi : i < ws.length := (List.getElem?_eq_some_iff.mp e).1
    have ed : ws.drop i = w :: ws.drop (i + 1) := by
      rw [List.drop_eq_getElem_cons hi]
      rw [List.getElem?_eq_getElem hi] at e
      cases e; rfl
    rw [ed] at q2
    refine .inr ⟨y1.go i w F2 M2 H2 s2 a2 e, fun H' => ∃ F' M' acc, Same F1 F' ∧ Ab K F' M' H' ∧ acc.length ≤ i + 1 ∧ M' D = some (.lst acc) ∧ lcT D (b ρ) tt te (fun acc M2 => Rf D acc M2 R) (ws.drop (i + 1)) acc M', fun H' h => ⟨m - 1, by omega, by omega, h⟩, fun x H3 hy => ?_⟩
    obtain ⟨F3, s3, a3, rx⟩ := y1.yl i w F2 M2 H2 x H3 s2 a2 e hy
    unfold lcT at q2
    cases eb : b ρ w with
    | none => rw [eb] at q2; exact q2.elim
    | some ρ' =>
      rw [eb] at q2
      refine B.go F3 ρ σ w x H3 M2 ρ' _ (rs.mono (s1.trans (s2.trans s3))) a3 rx eb fun σ' rs' hw => ⟨hw, F3, ρ', M2, _, s.trans (s1.trans (s2.trans s3)), a3, rs', q2, fun F4 c M4 H4 s4 a4 q4 => ?_⟩
      cases c with
      | true =>
        rw [if_pos rfl]
        rw [if_pos rfl] at q4
        refine ⟨F4, ρ', M4, _, s.trans (s1.trans (s2.trans (s3.trans s4))), a4, rs'.mono s4, q4, fun F5 y M5 v5 H5 s5 a5 r5 q5 => ?_⟩
        obtain ⟨hD5, q5⟩ := q5
        obtain ⟨vs5, h1, _, h2⟩ := a5.lst hD5
        refine ⟨vs5, h1, by rw [← h2.length]; omega, F5, _, acc ++ [y], s2.trans (s3.trans (s4.trans s5)), a5.write (m := .lst (acc ++ [y])) hD5 ⟨_, rfl, h2.append (.cons r5 .nil)⟩, ?_, mu_same, q5⟩
        rw [List.length_append, List.length_singleton]
        omega
      | false =>
        rw [if_neg Bool.false_ne_true]
        rw [if_neg Bool.false_ne_true] at q4
        exact ⟨F4, M4, acc, s2.trans (s3.trans s4), a4, by omega, q4.1, q4.2⟩
theorem fin_F {K : PySem.W.Frag} {Q : VK} : ∀ (D : Addr) (acc : List W) (F : Hp) (M : MH) (H : Hp) (R : MQ), Ab K F M H → M D = some (.lst acc) → (M D = some (.lst acc) ∧ R (.fl acc) (mdel M D)) → (∀ F' w M' v H', Same F F' → Ab K F' M' H' → RelW K F' w v → R w M' → Q v H') → Q (.ref D) H := fun D acc F M H R a hD h k => by
  obtain ⟨F', s, a', r⟩ := a.seal hD
  exact k F' _ _ _ _ s a' r h.2
theorem fin_L {K : PySem.W.Frag} {Q : VK} : ∀ (D : Addr) (acc : List W) (F : Hp) (M : MH) (H : Hp) (R : MQ), Ab K F M H → M D = some (.lst acc) → R (.ref D) M → (∀ F' w M' v H', Same F F' → Ab K F' M' H' → RelW K F' w v → R w M' → Q v H') → Q (.ref D) H := fun D acc F M H R a hD h k =>
  k F _ _ _ _ (Same.refl _) a ref_rw h
variable {elt tg iter : Expr} {ifs : List Expr} {scope : Scope} {own : List (Str × Nat)} {pos : Pos} {ti : MI} {tt : MT} {te : ME} {g : TG} {b : MSt → W → Option MSt}
theorem qe_lcF (hc : X.calm = true) (hN : X.N.Nodup) (hi : QI X F0 tg iter ti) (ok : BlkOk X.N X.env.scope scope own) (B : Bd X.K g (own.map (·.2)) b)
    (hg : ∀ (s : Shared) (H : Hp) (C : Addr) (cl : List (Str × Addr)) (fp : List Addr), PG (X.blk s H scope (compEnvC scope cl C X.env) fp) tg g)
    (ht : ∀ (s : Shared) (H : Hp) (C : Addr) (cl : List (Str × Addr)) (fp : List Addr), QTs (X.blk s H scope (compEnvC scope cl C X.env) fp) F0 ifs tt)
    (he : ∀ (s : Shared) (H : Hp) (C : Addr) (cl : List (Str × Addr)) (fp : List Addr), QE (X.blk s H scope (compEnvC scope cl C X.env) fp) F0 elt te) (hs : ∀ x, foldedSetIterable iter X.env x = pure x := by intro _; rfl) :
    QE X F0 (.ListComp elt [⟨tg, iter, ifs, 0⟩] scope pos) (mLcF b ti tt te) :=
  PE.wk (pe_lc hc hN hi ok hg ht he hs) fun σ H Q h => lc_gen (Rf := fun D acc M R => M D = some (.lst acc) ∧ R (.fl acc) (mdel M D)) B fin_F h
theorem qe_lc (hc : X.calm = true) (hN : X.N.Nodup) (hi : QI X F0 tg iter ti) (ok : BlkOk X.N X.env.scope scope own) (B : Bd X.K g (own.map (·.2)) b)
    (hg : ∀ (s : Shared) (H : Hp) (C : Addr) (cl : List (Str × Addr)) (fp : List Addr), PG (X.blk s H scope (compEnvC scope cl C X.env) fp) tg g)
    (ht : ∀ (s : Shared) (H : Hp) (C : Addr) (cl : List (Str × Addr)) (fp : List Addr), QTs (X.blk s H scope (compEnvC scope cl C X.env) fp) F0 ifs tt)
    (he : ∀ (s : Shared) (H : Hp) (C : Addr) (cl : List (Str × Addr)) (fp : List Addr), QE (X.blk s H scope (compEnvC scope cl C X.env) fp) F0 elt te) (hs : ∀ x, foldedSetIterable iter X.env x = pure x := by intro _; rfl) :
    QE X F0 (.ListComp elt [⟨tg, iter, ifs, 0⟩] scope pos) (mLc b ti tt te) :=
  PE.wk (pe_lc hc hN hi ok hg ht he hs) fun σ H Q h => lc_gen (Rf := fun D acc M R => R (.ref D) M) B fin_L h
theorem asg_of {K : PySem.W.Frag} {tE : TE} {mE : ME} {i : Nat} {D : Ends} {σ : L2.St} {H : Hp} (l : ∀ Q, dnE K F0 mE σ H Q → tE σ H Q) (h : dnS K F0 (mAsg mE (nName i)) D σ H) : tAsg tE (gName i) D σ H := by
  obtain ⟨F, ρ, M, E, s, a, rs, q, k⟩ := h
  exact l _ ⟨F, ρ, M, _, s, a, rs, q, fun F1 w M1 v H1 s1 a1 r1 q1 => k.nx F1 _ M1 _ H1 s1 a1 ((rs.mono s1).set r1 i) q1⟩
theorem qs_setLcF {i : Nat} {y : Str} {py spos : Pos} (hc : X.calm = true) (hN : X.N.Nodup) (hy : X.N[i]? = some y) (hyl : X.env.scope.names.lookup y = some .local)
    (hsw : swapsWith (.ListComp elt [⟨tg, iter, ifs, 0⟩] scope pos) (some (.Name y py)) spos.line X.env = pure true) (hi : QI X F0 tg iter ti) (ok : BlkOk X.N X.env.scope scope own) (B : Bd X.K g (own.map (·.2)) b)
    (hg : ∀ (s : Shared) (H : Hp) (C : Addr) (cl : List (Str × Addr)) (fp : List Addr), PG (X.blk s H scope (compEnvC scope cl C X.env) fp) tg g)
    (ht : ∀ (s : Shared) (H : Hp) (C : Addr) (cl : List (Str × Addr)) (fp : List Addr), QTs (X.blk s H scope (compEnvC scope cl C X.env) fp) F0 ifs tt)
    (he : ∀ (s : Shared) (H : Hp) (C : Addr) (cl : List (Str × Addr)) (fp : List Addr), QE (X.blk s H scope (compEnvC scope cl C X.env) fp) F0 elt te) (hs : ∀ x, foldedSetIterable iter X.env x = pure x := by intro _; rfl) :
    QS X F0 (.Assign [.Name y py] (.ListComp elt [⟨tg, iter, ifs, 0⟩] scope pos) spos) (mAsg (mLcF b ti tt te) (nName i)) :=
  PS.wk (ps_setLc hc hN hy hyl hsw hi ok hg ht he hs) fun D σ H h => asg_of (fun Q q => lc_gen (Rf := fun D acc M R => M D = some (.lst acc) ∧ R (.fl acc) (mdel M D)) B fin_F q) h
theorem qs_setLc {i : Nat} {y : Str} {py spos : Pos} (hc : X.calm = true) (hN : X.N.Nodup) (hy : X.N[i]? = some y) (hyl : X.env.scope.names.lookup y = some .local)
    (hsw : swapsWith (.ListComp elt [⟨tg, iter, ifs, 0⟩] scope pos) (some (.Name y py)) spos.line X.env = pure true) (hi : QI X F0 tg iter ti) (ok : BlkOk X.N X.env.scope scope own) (B : Bd X.K g (own.map (·.2)) b)
    (hg : ∀ (s : Shared) (H : Hp) (C : Addr) (cl : List (Str × Addr)) (fp : List Addr), PG (X.blk s H scope (compEnvC scope cl C X.env) fp) tg g)
    (ht : ∀ (s : Shared) (H : Hp) (C : Addr) (cl : List (Str × Addr)) (fp : List Addr), QTs (X.blk s H scope (compEnvC scope cl C X.env) fp) F0 ifs tt)
    (he : ∀ (s : Shared) (H : Hp) (C : Addr) (cl : List (Str × Addr)) (fp : List Addr), QE (X.blk s H scope (compEnvC scope cl C X.env) fp) F0 elt te) (hs : ∀ x, foldedSetIterable iter X.env x = pure x := by intro _; rfl) :
    QS X F0 (.Assign [.Name y py] (.ListComp elt [⟨tg, iter, ifs, 0⟩] scope pos) spos) (mAsg (mLc b ti tt te) (nName i)) :=
  PS.wk (ps_setLc hc hN hy hyl hsw hi ok hg ht he hs) fun D σ H h => asg_of (fun Q q => lc_gen (Rf := fun D acc M R => R (.ref D) M) B fin_L q) h
theorem lcF_map {M : MH} {b : W → Option MSt} {te : ME} {R : MQ} {f : W → W} {ws : List W} (h : ∀ w ∈ ws, ∃ ρ, b w = some ρ ∧ ∀ (M' : MH) (R' : MQ), MSub M M' → R' (f w) M' → te ρ M' R') (q : R (.fl (ws.map f)) M) :
    ∀ D, M D = none → lcT D b mYes te (fun acc M2 => M2 D = some (.lst acc) ∧ R (.fl acc) (mdel M2 D)) ws [] (mu M D (.lst [])) := fun D hD => by
  have gen : ∀ (xs acc : List W) (M' : MH), (∀ w ∈ xs, w ∈ ws) → (∀ b, b ≠ D → M' b = M b) → M' D = some (.lst acc) → R (.fl (acc ++ xs.map f)) M → lcT D b mYes te (fun acc M2 => M2 D = some (.lst acc) ∧ R (.fl acc) (mdel M2 D)) xs acc M' := by
    intro xs
    induction xs with
    | nil =>
      intro acc M' _ h1 h2 q
      unfold lcT
      refine ⟨h2, ?_⟩
      have e : mdel M' D = M := by
        funext c; unfold mdel
        by_cases hc : c = D
        · rw [if_pos hc, hc, hD]
        · rw [if_neg hc, h1 c hc]
      rw [e]
      simpa using q
    | cons x xs ih =>
      intro acc M' hm h1 h2 q
      unfold lcT
      obtain ⟨ρ, e, he⟩ := h x (hm x List.mem_cons_self)
      rw [e]
      dsimp only [mYes]
      rw [if_pos rfl]
      refine he M' _ (fun c o hc => by rw [h1 c (mne hc hD)]; exact hc) ⟨h2, ih (acc ++ [f x]) _ (fun w hw => hm w (List.mem_cons_of_mem _ hw)) (fun c hc => by rw [mu_ne hc, h1 c hc]) mu_same ?_⟩
      simpa using q
  exact gen ws [] _ (fun _ h => h) (fun c hc => mu_ne hc) mu_same (by simpa using q)
/-! ### zip of two tuples, of two lists that stand -/
def pairs : List W → List W → List W
  | a :: as, b :: bs => .tup [a, b] :: pairs as bs
  | _, _ => []
theorem pairs_get : ∀ {as bs : List W} {i : Nat} {w : W}, (pairs as bs)[i]? = some w → ∃ a b, w = .tup [a, b] ∧ as[i]? = some a ∧ bs[i]? = some b
  | [], _, _, _, h => by simp [pairs] at h
  | _ :: _, [], _, _, h => by simp [pairs] at h
  | a :: as, b :: bs, 0, w, h => by simp [pairs] at h; subst h; exact ⟨a, b, rfl, rfl, rfl⟩
  | a :: as, b :: bs, i + 1, w, h => by
    obtain ⟨x, y, e, h1, h2⟩ := pairs_get (as := as) (bs := bs) (i := i) (w := w) (by simpa [pairs] using h)
    exact ⟨x, y, e, by simpa using h1, by simpa using h2⟩
theorem pairs_len : ∀ {as bs : List W}, (pairs as bs).length = min as.length bs.length
  | [], _ => by simp [pairs]
  | _ :: _, [] => by simp [pairs]
  | a :: as, b :: bs => by simp [pairs, pairs_len (as := as) (bs := bs)]
def iZ (t : MA) : MI := fun ρ M R => t ρ M fun ws M1 => match ws with
  | [.tup xs, .tup ys] => R (pairs xs ys) M1
  | [.fl xs, .fl ys] => R (pairs xs ys) M1
  | _ => False
theorem yl_zipT {K : PySem.W.Frag} {F : Hp} {p q : Addr} {vs us : List V} {xs ys : List W} (h : SqT K F p vs) (h' : SqT K F q us) (r : RelWs K F xs vs) (r' : RelWs K F ys us) : Yl K F (RZ.ItzT K p q) (pairs xs ys) where
  go := fun i w F' M H s a e => by
    obtain ⟨x, y, rfl, e1, e2⟩ := pairs_get e
    obtain ⟨v, h1, _⟩ := r.get e1
    obtain ⟨u, h2, _⟩ := r'.get e2
    exact ⟨vs, us, v, u, sqT_sub (s.trans a.sub) h, sqT_sub (s.trans a.sub) h', h1, h2⟩
  yl := fun i w F' M H x H' s a e y => by
    obtain ⟨x', y', rfl, e1, e2⟩ := pairs_get e
    obtain ⟨v, h1, h2⟩ := r.get e1
    obtain ⟨u, h3, h4⟩ := r'.get e2
    obtain ⟨T, a', b', rfl, nT, rfl, k1, k2⟩ := y
    have z1 := k1 vs (sqT_sub (s.trans a.sub) h)
    have z2 := k2 us (sqT_sub (s.trans a.sub) h')
    rw [h1] at z1; cases z1
    rw [h3] at z2; cases z2
    obtain ⟨a2, s2⟩ := a.frz (o := .tup [v, u]) nT
    refine ⟨_, s2, a2, ?_⟩
    simp only [RelW]
    exact ⟨T, _, rfl, SqT.of upd_same, .cons (h2.mono (s.trans s2)) (.cons (h4.mono (s.trans s2)) .nil)⟩
  stop := fun F' M H s a => by
    refine ⟨vs, us, sqT_sub (s.trans a.sub) h, sqT_sub (s.trans a.sub) h', ?_⟩
    rw [pairs_len, r.length, r'.length]
    omega
theorem yl_zipL {K : PySem.W.Frag} {F : Hp} {p q : Addr} {vs us : List V} {xs ys : List W} (h : SqL K F p vs) (h' : SqL K F q us) (r : RelWs K F xs vs) (r' : RelWs K F ys us) : Yl K F (Itz K p q) (pairs xs ys) where
  go := fun i w F' M H s a e => by
    obtain ⟨x, y, rfl, e1, e2⟩ := pairs_get e
    obtain ⟨v, h1, _⟩ := r.get e1
    obtain ⟨u, h2, _⟩ := r'.get e2
    exact ⟨vs, us, v, u, sqL_sub (s.trans a.sub) h, sqL_sub (s.trans a.sub) h', h1, h2⟩
  yl := fun i w F' M H x H' s a e y => by
    obtain ⟨x', y', rfl, e1, e2⟩ := pairs_get e
    obtain ⟨v, h1, h2⟩ := r.get e1
    obtain ⟨u, h3, h4⟩ := r'.get e2
    obtain ⟨T, a', b', rfl, nT, rfl, k1, k2⟩ := y
    have z1 := k1 vs (sqL_sub (s.trans a.sub) h)
    have z2 := k2 us (sqL_sub (s.trans a.sub) h')
    rw [h1] at z1; cases z1
    rw [h3] at z2; cases z2
    obtain ⟨a2, s2⟩ := a.frz (o := .tup [v, u]) nT
    refine ⟨_, s2, a2, ?_⟩
    simp only [RelW]
    exact ⟨T, _, rfl, SqT.of upd_same, .cons (h2.mono (s.trans s2)) (.cons (h4.mono (s.trans s2)) .nil)⟩
  stop := fun F' M H s a => by
    refine ⟨vs, us, sqL_sub (s.trans a.sub) h, sqL_sub (s.trans a.sub) h', ?_⟩
    rw [pairs_len, r.length, r'.length]
    omega
theorem qi_zip {e e2 : Expr} {ta : MA} {p pos tpos : Pos} {elts : List Expr} {kk : Nat} (hg : Gl X "zip") (hm : X.mg "zip" = none) (ha : QA X F0 [e, e2] ta)
    (hs : starEach [e, e2] X.env = (false, eval e X.env) :: starEach [e2] X.env := by rfl) (hpl : (backTo pos (starEach [e2] X.env)).any (·.1) = false := by rfl) :
    QI X F0 (.Tuple elts kk tpos) (.Call (.Name "zip" p) [e, e2] [] pos) (iZ ta) := by
  refine PI.wk (RZ.pi_zipA hg hm ha hs hpl) fun σ H Q ⟨F, ρ, M, R, s, a, rs, q, k⟩ => ?_
  refine ⟨F, ρ, M, _, s, a, rs, q, fun F1 ws M1 vs H1 s1 a1 r1 q1 => ?_⟩
  split at q1
  · obtain ⟨v, r, rfl, h1, h2⟩ := RelWs.cons_inv r1
    obtain ⟨v', r', rfl, h3, h4⟩ := RelWs.cons_inv h2
    rw [RelWs.nil_inv h4]
    obtain ⟨p1, vs1, rfl, h5, h6⟩ := rw_tup h1
    obtain ⟨p2, vs2, rfl, h7, h8⟩ := rw_tup h3
    exact ⟨p1, p2, vs1, vs2, rfl, .inr ⟨sqT_sub a1.sub h5, sqT_sub a1.sub h7, k F1 _ M1 _ H1 s1 a1 (yl_zipT h5 h7 h6 h8) q1⟩⟩
  · obtain ⟨v, r, rfl, h1, h2⟩ := RelWs.cons_inv r1
    obtain ⟨v', r', rfl, h3, h4⟩ := RelWs.cons_inv h2
    rw [RelWs.nil_inv h4]
    obtain ⟨p1, vs1, rfl, h5, h6⟩ := rw_fl h1
    obtain ⟨p2, vs2, rfl, h7, h8⟩ := rw_fl h3
    exact ⟨p1, p2, vs1, vs2, rfl, .inl ⟨SqL.of (a1.sub _ _ h5), SqL.of (a1.sub _ _ h7), k F1 _ M1 _ H1 s1 a1 (yl_zipL (SqL.of h5) (SqL.of h7) h6 h8) q1⟩⟩
  · exact q1.elim
/-! ### all, any of a list of truths -/
def allBl : List W → Option (List Bool)
  | [] => some []
  | .bl x :: r => (allBl r).map (x :: ·)
  | _ => none
theorem allBl_of {K : PySem.W.Frag} {F : Hp} : ∀ {ws : List W} {vs : List V} {xs : List Bool}, RelWs K F ws vs → allBl ws = some xs → vs = xs.map V.bl
  | [], vs, xs, r, h => by
    simp only [allBl, Option.some.injEq] at h; subst h
    rw [RelWs.nil_inv r]; rfl
  | w :: ws, vs, xs, r, h => by
    obtain ⟨v, q, rfl, r1, r2⟩ := RelWs.cons_inv r
    cases w with
    | bl z =>
      simp only [allBl] at h
      obtain ⟨ys, e, rfl⟩ := Option.map_eq_some_iff.mp h
      rw [rw_bl r1, allBl_of r2 e, List.map_cons]
    | _ => simp only [allBl] at h; cases h
theorem allBl_map (bs : List Bool) : allBl (bs.map W.bl) = some bs := by
  induction bs with
  | nil => rfl
  | cons b bs ih => simp only [List.map_cons, allBl, ih, Option.map_some]
def mAll : MC
  | [w], M, R => match lw M w with
    | some xs => match allBl xs with | some bs => R (.bl (bs.all id)) M | none => False
    | none => False
  | _, _, _ => False
theorem c_all (hc : X.calm = true) : QC X (.builtin "all") mAll := by
  refine ⟨_, cr_all hc, fun F M H ws vs R Q a r h k => ?_⟩
  unfold mAll at h
  split at h
  · obtain ⟨v, q, rfl, r1, r2⟩ := RelWs.cons_inv r
    rw [RelWs.nil_inv r2]
    split at h
    · rename_i xs e
      split at h
      · rename_i bs e2
        obtain ⟨p, us, rfl, h1, h2⟩ := lw_sq a r1 e
        have e3 := allBl_of h2 e2
        subst e3
        exact ⟨p, bs, rfl, h1, k.here a bl_rw h⟩
      · exact h.elim
    · exact h.elim
  · exact h.elim
end
end Ri

set_option Elab.async false
set_option linter.all false
set_option maxRecDepth 100000
set_option maxHeartbeats 2000000
namespace Ri
open PySem L2 PySem.Calls PyProof.Rows

/-! ### a starred target -/
theorem Walks.shift {prog : Program} {w : World} {A : Around} {I : Addr} {fp wr : List Addr} {n : Nat} {P : Nat → Value → Prop} {St : Nat → Heap → Prop} (W : Walks prog w A I fp wr n P St) (i : Nat) (hi : i ≤ n) :
    Walks prog w A I fp wr (n - i) (fun j v => P (i + j) v) (fun j h => St (i + j) h) where
  sub := W.sub
  frame := fun j h h' st k => W.frame (i + j) h h' st k
  item := fun j s Q E hj st hQ => W.item (i + j) s Q E (by omega) st fun v h' tk hp hs k => hQ v h' tk hp (by rw [show i + (j + 1) = i + j + 1 by omega]; exact hs) k
  done := fun s Q E st hQ => W.done s Q E (by rw [show i + (n - i) = n by omega] at st; exact st) hQ
  self := fun j s Q E st hQ => W.self (i + j) s Q E st hQ
section
variable {prog : Program} {w : World} {A : Around} {E : Value → Shared → Prop} {s : Shared}
theorem unpackStar_tup {t : Addr} {items : Array Value} {i n : Nat} {Q : List Value → Shared → Prop} (hh : A.handled = none) (ht : s.heap.IsTuple t items) (hi : i + (n - 1 - i) ≤ items.size) (hsz : items.size ≤ sizeLine)
    (hQ : ∀ (h' : Heap) (tk : Nat), (∀ b o, s.heap.get? b = some o → h'.get? b = some o) →
      Q (items.toList.take i ++ [.ref h'.objs.size] ++ (items.toList.drop i).drop (items.size - i - (n - 1 - i)))
        { s with heap := h'.push { cls := .type "list", data := .seq ((items.toList.drop i).take (items.size - i - (n - 1 - i))).toArray }, toks := tk }) : wpAny (model prog w) A (unpackItems (.ref t) n (some i)) Q E s := by
  have hlt : t ≠ s.heap.objs.size := by obtain ⟨o, ho, _⟩ := ht; exact Nat.ne_of_lt (Heap.lt_size ho)
  unfold unpackItems
  refine wpAny_bind ?_
  unfold notIterableAtAll
  refine wpAny_bind (wpAny_specialOf ht.typeIs F.slot_tuple_iter.lookup ?_)
  refine wpAny_pure ?_
  simp only [Bool.false_eq_true, if_false]
  refine wpAny_bind (wpAny_holding (wpAny_pyIter_tuple ht ?_))
  refine wpAny_bind (wpAny_holding (wpAny_draw_tuple hlt i 0 _ _ ⟨_, Heap.get?_push_size _ rfl, rfl, rfl⟩ (ht.push _) (by omega) fun h₁ hit₁ hs₁ => ?_))
  have hlen : (List.take i (List.drop 0 items.toList)).length = i := by rw [List.drop_zero, List.length_take, Array.length_toList]; omega
  rw [if_neg (by rw [hlen]; omega)]
  rw [Nat.zero_add] at hit₁
  have ht₁ : h₁.IsTuple t items := (ht.push _).extBut hs₁.extBut hlt
  have hI : s.heap.objs.size < h₁.objs.size := by obtain ⟨o, ho, _⟩ := hit₁; exact Heap.lt_size ho
  have htl : t < h₁.objs.size := by obtain ⟨o, ho, _⟩ := ht₁; exact Heap.lt_size ho
  have W := (Walks.shift (Walks.tuple (prog := prog) (w := w) (A := A.in1) hh s.heap.objs.size t hlt items) i (by omega)).toS
  refine wpAny_bind (wpAny_holding (wpAny_collect_iter (T := "tuple_iterator") (.inr (.inr (.inr rfl))) W (fun j s st => ?_) ⟨?_, ?_⟩ (fun b hb => ?_) (by simp) (fun s' acc hm hacc => ?_) (by omega)))
  · obtain ⟨⟨o, ho, hc, _⟩, _⟩ := st
    exact ⟨o, ho, hc⟩
  · exact hit₁
  · exact ht₁
  · have : b = s.heap.objs.size ∨ b = t := by simpa using hb
    rcases this with e | e <;> (rw [e]; assumption)
  · obtain ⟨a1, a2⟩ := hacc
    have eacc : acc.toList = items.toList.drop i := by
      apply List.ext_getElem?
      intro j
      rw [List.getElem?_drop]
      by_cases hj : j < acc.size
      · have q : items[i + j]? = some acc[j] := a2 j acc[j] (by simp [hj])
        rw [Array.getElem?_toList, Array.getElem?_toList, q]
        simp [hj]
      · rw [List.getElem?_eq_none (by simp; omega), List.getElem?_eq_none (by simp; omega)]
    rw [eacc]
    have hl2 : (items.toList.drop i).length = items.size - i := by simp
    rw [if_neg (by rw [hl2]; omega)]
    unfold newList
    obtain ⟨h3, g3, d3, t3, o3⟩ := s'
    obtain ⟨m1, m2, m3, m4, m5⟩ := hm
    dsimp only at m1 m2 m3 m4 m5
    subst m3 m4
    have m2' : g3 = s.gens := by first | exact m2 | exact m2.symm
    subst m2'
    have keep : ∀ b o, s.heap.get? b = some o → h3.get? b = some o := fun b o e => m1 b o (by
      have : b ≠ s.heap.objs.size := Nat.ne_of_lt (Heap.lt_size e)
      simpa using this) (hs₁.extBut b o (Nat.ne_of_lt (Heap.lt_size e)) (Heap.get?_push_of_some _ e))
    refine wpAny_bind (wpAny_newObj_type ?_ (by
      show (List.take _ _).toArray.size ≤ sizeLine
      rw [List.size_toArray, List.length_take, List.length_drop, Array.length_toList]
      omega))
    refine wpAny_pure ?_
    rw [hl2]
    rw [List.drop_zero]
    exact hQ h3 t3 keep
end
section
variable {X : Cx} {F0 : Hp} {pos : Pos}
/-- a, *b, c = a tuple: i names ahead of the star, n in all -/
def gStar (K : PySem.W.Frag) (n i : Nat) (t : TGs) : TG := fun v σ H Q => ∃ a xs, v = .ref a ∧ SqT K H a xs ∧ i + (n - 1 - i) ≤ xs.length ∧
  ∀ p, H p = none → t (xs.take i ++ [.ref p] ++ (xs.drop i).drop (xs.length - i - (n - 1 - i))) σ (upd H p (.lst ((xs.drop i).take (xs.length - i - (n - 1 - i))))) Q
/-- targets of which one is starred -/
structure PGz (X : Cx) (es : List Expr) (t : TGs) : Prop where
  run : ∀ (pins : List (Addr × Obj)) (s : Shared) (σ : L2.St) (H : Hp) (vs : List V) (us : List Value) (Q : L2.St → Hp → Prop), Inv X pins σ H s → Vals vs us → t vs σ H Q →
    wpAny (model X.prog X.w) X.A (assignInOrder ((assignEach es X.env).map (·.2)) us) (fun _ s' => ∃ σ' H', Inv X pins σ' H' s' ∧ Q σ' H') X.xe s
theorem pg_star {es : List Expr} {k : Nat} {t : TGs} {n i : Nat} (hc : X.calm = true) (h : PGz X es t)
    (hn : (assignEach es X.env).length = n) (hst : (assignEach es X.env).findIdx? (·.1) = some i) : PG X (.Tuple es k pos) (gStar X.K n i t) := by
  refine ⟨fun pins s σ H v u Q I r hw => ?_⟩
  obtain ⟨a, xs, e1, hq, hl, hw⟩ := hw
  subst e1
  cases r
  obtain ⟨its, rv, ht, hz⟩ := I.tuple hq
  rw [assign_Tuple]
  refine wpAny_bind (wpAny_standAt ?_)
  unfold unpack
  rw [hn, hst]
  have len := rv.length
  refine wpAny_bind (wpAny_holding (unpackStar_tup (I.ok.hd hc) (show s.heap.IsTuple a its.toArray from ht) (by rw [List.size_toArray, ← len]; exact hl) (by rw [List.size_toArray, ← len]; exact hz) fun h' tk kp => ?_))
  have I1 : Inv X pins σ H { s with heap := h', toks := tk } := I.kept (t' := tk) kp
  have nf : H h'.objs.size = none := I1.hok.fresh (Nat.le_refl _)
  have e3 : its.toArray.size = xs.length := by rw [List.size_toArray, len]
  rw [e3]
  have I2 : Inv X pins σ (upd H h'.objs.size (.lst ((xs.drop i).take (xs.length - i - (n - 1 - i))))) { s with heap := h'.push { cls := .type "list", data := .seq ((its.toArray.toList.drop i).take (xs.length - i - (n - 1 - i))).toArray }, toks := tk } :=
    I1.laid (t' := tk) (fun b o e => Heap.get?_push_of_some _ e) (Nat.le_refl _) ⟨by rw [List.length_take, List.length_drop]; omega, _, 0, (rv.drop i).take _, by
      have := Heap.get?_push_size h' (o := { cls := .type "list", data := .seq ((its.drop i).take (xs.length - i - (n - 1 - i))).toArray }) rfl
      simpa using this⟩
  refine h.run pins _ σ _ _ _ Q I2 (((rv.take i).append (.cons (show RelV (V.ref h'.objs.size) (Value.ref h'.objs.size) from rfl) .nil)).append ((rv.drop i).drop _)) (hw _ nf)
theorem pgz_nil : PGz X [] gNil := ⟨fun pins s σ H vs us Q I r h => pgs_nil.run pins s σ H vs us Q I r h⟩
theorem pgz_cons {e : Expr} {es : List Expr} {t : TG} {u : TGs} (h1 : PG X e t) (h2 : PGz X es u)
    (hs : (assignEach (e :: es) X.env).map (·.2) = assign e X.env :: (assignEach es X.env).map (·.2) := by rfl) : PGz X (e :: es) (gCons t u) := by
  refine ⟨fun pins s σ H vs us Q I r h => ?_⟩
  obtain ⟨v, vr, e1, h⟩ := h
  subst e1
  cases r with
  | cons r rr =>
    rw [hs]
    refine assignInOrder_cons (thn (h1.run pins s σ H _ _ _ I r h) fun _ s1 ⟨σ1, H1, I1, q1⟩ => ?_)
    exact h2.run pins s1 σ1 H1 _ _ Q I1 rr q1
theorem pgz_star {e : Expr} {p : Pos} {es : List Expr} {t : TG} {u : TGs} (h1 : PG X e t) (h2 : PGz X es u) : PGz X (.Starred e p :: es) (gCons t u) := by
  refine ⟨fun pins s σ H vs us Q I r h => ?_⟩
  obtain ⟨v, vr, e1, h⟩ := h
  subst e1
  cases r with
  | cons r rr =>
    rw [arm_assignEach_Starred, List.map_cons]
    refine assignInOrder_cons (thn (h1.run pins s σ H _ _ _ I r h) fun _ s1 ⟨σ1, H1, I1, q1⟩ => ?_)
    exact h2.run pins s1 σ1 H1 _ _ Q I1 rr q1
/-- .. over trees; the starred part never changes -/
def nStar (n i : Nat) (t : MGs) : MG := fun w ρ M R => match w with
  | .tup xs => i + (n - 1 - i) ≤ xs.length ∧ t (xs.take i ++ [.fl ((xs.drop i).take (xs.length - i - (n - 1 - i)))] ++ (xs.drop i).drop (xs.length - i - (n - 1 - i))) ρ M R
  | _ => False
abbrev QGz (X : Cx) (F0 : Hp) (es : List Expr) (g : MGs) : Prop := PGz X es (dnGs X.K F0 g)
theorem PGz.wk {es : List Expr} {t t' : TGs} (h : PGz X es t) (i : ∀ v σ H Q, t' v σ H Q → t v σ H Q) : PGz X es t' := ⟨fun pins s σ H vs us Q I r q => h.run pins s σ H vs us Q I r (i _ _ _ _ q)⟩
theorem qgz_nil : QGz X F0 [] nNil := PGz.wk pgz_nil fun vs σ H Q ⟨F, ρ, M, ws, R, s, a, rs, r, q, k⟩ => by
  cases ws with
  | nil => exact ⟨RelWs.nil_inv r, k F ρ M σ H (Same.refl _) a rs q⟩
  | cons w ws => exact q.elim
theorem ncons_of {K : PySem.W.Frag} {t : MG} {u : MGs} {vs : List V} {σ : L2.St} {H : Hp} {Q : L2.St → Hp → Prop} (h : dnGs K F0 (nCons t u) vs σ H Q) : gCons (dnG K F0 t) (dnGs K F0 u) vs σ H Q := by
  obtain ⟨F, ρ, M, ws, R, s, a, rs, r, q, k⟩ := h
  cases ws with
  | nil => exact q.elim
  | cons w ws =>
    obtain ⟨v, us, rfl, r1, r2⟩ := RelWs.cons_inv r
    exact ⟨v, us, rfl, F, ρ, M, w, _, s, a, rs, r1, q, fun F' ρ' M' σ' H' s' a' rs' q' => ⟨F', ρ', M', ws, R, s.trans s', a', rs', r2.mono s', q', fun F2 ρ2 M2 σ2 H2 s2 => k F2 ρ2 M2 σ2 H2 (s'.trans s2)⟩⟩
theorem qgz_cons {e : Expr} {es : List Expr} {t : MG} {u : MGs} (h1 : QG X F0 e t) (h2 : QGz X F0 es u)
    (hs : (assignEach (e :: es) X.env).map (·.2) = assign e X.env :: (assignEach es X.env).map (·.2) := by rfl) : QGz X F0 (e :: es) (nCons t u) := PGz.wk (pgz_cons h1 h2 hs) fun _ _ _ _ h => ncons_of h
theorem qgz_star {e : Expr} {p : Pos} {es : List Expr} {t : MG} {u : MGs} (h1 : QG X F0 e t) (h2 : QGz X F0 es u) : QGz X F0 (.Starred e p :: es) (nCons t u) := PGz.wk (pgz_star h1 h2) fun _ _ _ _ h => ncons_of h
theorem qg_star {es : List Expr} {k : Nat} {t : MGs} {n i : Nat} (hc : X.calm = true) (h : QGz X F0 es t)
    (hn : (assignEach es X.env).length = n := by rfl) (hst : (assignEach es X.env).findIdx? (·.1) = some i := by rfl) : QG X F0 (.Tuple es k pos) (nStar n i t) := PG.wk (pg_star hc h hn hst) fun v σ H Q ⟨F, ρ, M, w, R, s, a, rs, r, q, k⟩ => by
  cases w with
  | tup xs =>
    obtain ⟨p, vs, rfl, h1, h2⟩ := rw_tup r
    refine ⟨p, vs, rfl, sqT_sub a.sub h1, by rw [← h2.length]; exact q.1, fun p n => ?_⟩
    rw [← h2.length]
    obtain ⟨a', s'⟩ := a.frz (o := .lst ((vs.drop i).take (xs.length - i - (_ - 1 - i)))) n
    refine ⟨_, ρ, M, _, R, s.trans s', a', rs.mono s', RelWs.append (RelWs.append ((h2.take i).mono s') (.cons ?_ .nil)) (((h2.drop i).drop _).mono s'), q.2, fun F' ρ' M' σ' H' s2 => k F' ρ' M' σ' H' (s'.trans s2)⟩
    simp only [RelW]
    exact ⟨p, _, rfl, upd_same, ((h2.drop i).take _).mono s'⟩
  | _ => exact q.elim
/-! ### xs[::-1] -/
def mRev (te : ME) : ME := fun ρ M R => te ρ M fun w M1 => match lw M1 w with | some xs => R (.fl xs.reverse) M1 | none => False
theorem qe_rev {e : Expr} {te : ME} {k : Nat} {p1 p2 p3 : Pos} (he : QE X F0 e te) : QE X F0 (.Subscript e (.Slice none none (some (.UnaryOp .USub (.Constant (.int 1) k p1) p2)) p3) pos) (mRev te) := by
  refine PE.wk (pe_revL he) fun σ H Q ⟨F, ρ, M, R, s, a, rs, q, k⟩ => ?_
  refine ⟨F, ρ, M, _, s, a, rs, q, fun F1 w M1 v H1 s1 a1 r1 q1 => ?_⟩
  split at q1
  · rename_i xs e
    obtain ⟨p, vs, rfl, h1, h2⟩ := lw_sq a1 r1 e
    exact ⟨p, vs, rfl, h1, fun p n => (Fin.mono k s1).fl a1 h2.reverse n q1⟩
  · exact q1.elim
/-! ### written dicts with text keys -/
def KDEs (K : PySem.W.Frag) (w : World) : List DictEntry → List (Str × W) → Prop
  | [], [] => True
  | e :: r, (x, y) :: q => (∃ t v, e.key = .str x t ∧ e.hash = PyData.keyHash w.params x ∧ RelV v e.val ∧ ∀ F, RelW K F y v) ∧ KDEs K w r q
  | _, _ => False
def KD (K : PySem.W.Frag) (w : World) (d : Addr) (kvs : List (Str × W)) : Prop := ∃ es n, K.lookup d = some ⟨.type "dict", none, .dict es n, #[]⟩ ∧ (d == sysModules) = false ∧ KDEs K w es.toList kvs
theorem KDEs.lit {K : PySem.W.Frag} {w : World} : ∀ {es : List DictEntry} {kvs : List (Str × W)}, KDEs K w es kvs → PySem.W.KeysLit w.params es
  | [], [], _ => trivial
  | [], _ :: _, h => h.elim
  | _ :: _, [], h => h.elim
  | e :: r, (x, y) :: q, ⟨⟨t, v, h1, h2, _, _⟩, hr⟩ => ⟨⟨x, t, h1, h2⟩, KDEs.lit hr⟩
theorem KDEs.look {K : PySem.W.Frag} {w : World} {z : Str} : ∀ {es : List DictEntry} {kvs : List (Str × W)}, KDEs K w es kvs →
    match kvs.lookup z with
    | some y => ∃ e v, es.find? (·.key.isStr z) = some e ∧ RelV v e.val ∧ ∀ F, RelW K F y v
    | none => es.find? (·.key.isStr z) = none ∧ es.any (·.refKey) = false
  | [], [], _ => ⟨rfl, rfl⟩
  | [], _ :: _, h => h.elim
  | _ :: _, [], h => h.elim
  | e :: r, (x, y) :: q, ⟨⟨t, v, h1, h2, h3, h4⟩, hr⟩ => by
    have ih := KDEs.look (z := z) hr
    have ek : e.key.isStr z = (z == x) := by
      rw [h1]
      first | rfl | (show (x == z) = (z == x); exact Bool.beq_comm ..) | (simp [Value.isStr, Bool.beq_comm])
    rw [List.lookup_cons]
    cases c : (z == x) with
    | true =>
      simp only
      refine ⟨e, v, ?_, h3, h4⟩
      rw [List.find?_cons, ek, c]
    | false =>
      simp only
      have rk : e.refKey = false := by unfold DictEntry.refKey; rw [h1]
      split at ih
      · rename_i y' e'
        obtain ⟨e2, v2, f1, f2⟩ := ih
        exact ⟨e2, v2, by rw [List.find?_cons, ek, c]; exact f1, f2⟩
      · rename_i e'
        refine ⟨by rw [List.find?_cons, ek, c]; exact ih.1, ?_⟩
        rw [List.any_cons, rk, Bool.false_or]
        exact ih.2
theorem KD.ns {K : PySem.W.Frag} {w : World} {d : Addr} {kvs : List (Str × W)} (h : KD K w d kvs) (z : Str) :
    match kvs.lookup z with
    | some y => ∃ u v, PySem.W.nsIn K d z = some (some u) ∧ RelV v u ∧ ∀ F, RelW K F y v
    | none => PySem.W.nsIn K d z = some none := by
  obtain ⟨es, n, h1, h2, h3⟩ := h
  have q := h3.look (z := z)
  unfold PySem.W.nsIn
  rw [h1]
  split at q
  · rename_i y e
    obtain ⟨en, v, f1, f2, f3⟩ := q
    exact ⟨en.val, v, by dsimp only; rw [f1], f2, f3⟩
  · rename_i e
    dsimp only
    rw [q.1]
    simp only
    rw [if_neg (by rw [q.2]; exact Bool.false_ne_true)]
theorem KD.dict {K : PySem.W.Frag} {w : World} {d : Addr} {kvs : List (Str × W)} (h : KD K w d kvs) : ∃ es n, KDict K w d es n := by
  obtain ⟨es, n, h1, h2, h3⟩ := h
  exact ⟨es, n, h1, h3.lit, h2⟩
variable {d : Addr} {kvs : List (Str × W)}
/-- z in D, D a written dict -/
def mKIn (d : Addr) (kvs : List (Str × W)) (neg : Bool) : M2
  | .str z, .ref p, M, R => p = d ∧ R (.bl (if neg then !(kvs.lookup z).isSome else (kvs.lookup z).isSome)) M
  | _, _, _, _ => False
theorem q_kin (D : KD X.K X.w d kvs) : QOp X (compareOp .In) (mKIn d kvs false) := by
  obtain ⟨es, n, Dd⟩ := D.dict
  refine ⟨_, op_in_kd Dd, fun F M H x y x' y' R Q a rx ry h k => ?_⟩
  unfold mKIn at h
  split at h
  · rename_i z p
    obtain ⟨rfl, h⟩ := h
    have q := D.ns z
    split at q
    · rename_i y e
      obtain ⟨u, v, f1, f2, f3⟩ := q
      rw [e] at h
      exact ⟨z, _, rw_str rx, rw_ref ry, f1, k.here a bl_rw (by simpa using h)⟩
    · rename_i e
      rw [e] at h
      exact ⟨z, _, rw_str rx, rw_ref ry, q, k.here a bl_rw (by simpa using h)⟩
  · exact h.elim
theorem q_knin (D : KD X.K X.w d kvs) : QOp X (compareOp .NotIn) (mKIn d kvs true) := by
  obtain ⟨es, n, Dd⟩ := D.dict
  refine ⟨_, op_notIn_kd Dd, fun F M H x y x' y' R Q a rx ry h k => ?_⟩
  unfold mKIn at h
  split at h
  · rename_i z p
    obtain ⟨rfl, h⟩ := h
    have q := D.ns z
    split at q
    · rename_i y e
      obtain ⟨u, v, f1, f2, f3⟩ := q
      rw [e] at h
      exact ⟨z, _, rw_str rx, rw_ref ry, f1, k.here a bl_rw (by simpa using h)⟩
    · rename_i e
      rw [e] at h
      exact ⟨z, _, rw_str rx, rw_ref ry, q, k.here a bl_rw (by simpa using h)⟩
  · exact h.elim
/-- D[z] -/
def mKIx (d : Addr) (kvs : List (Str × W)) : M2
  | .ref p, .str z, M, R => p = d ∧ match kvs.lookup z with | some y => R y M | none => False
  | _, _, _, _ => False
theorem q_kix (D : KD X.K X.w d kvs) : QIx X (mKIx d kvs) := by
  refine ⟨_, ix_kdict, fun F M H x y x' y' R Q a rx ry h k => ?_⟩
  unfold mKIx at h
  split at h
  · rename_i p z
    obtain ⟨rfl, h⟩ := h
    have q := D.ns z
    split at q
    · rename_i y e
      obtain ⟨u, v, f1, f2, f3⟩ := q
      rw [e] at h
      obtain ⟨es, n, Dd⟩ := D.dict
      exact ⟨_, z, v, rw_ref rx, rw_str ry, ⟨es, n, u, Dd.at_, Dd.lit, f1, f2⟩, k.here a (f3 F) h⟩
    · rename_i e
      rw [e] at h
      exact h.elim
  · exact h.elim
/-- D.get(z, x) -/
def kgR (kvs : List (Str × W)) (R : MQ) (y : W) (M : MH) : W → Prop
  | .str z => R ((kvs.lookup z).getD y) M
  | _ => False
def mKGet (d : Addr) (kvs : List (Str × W)) (to tk td : ME) : ME := fun ρ M R => to ρ M fun o M1 => match o with
  | .ref p => p = d ∧ tk ρ M1 fun z M2 => td ρ M2 fun y M3 => kgR kvs R y M3 z
  | _ => False
theorem qe_kget {o e f : Expr} {apos cpos : Pos} {to tk td : ME} (D : KD X.K X.w d kvs) (ho : QE X F0 o to) (he : QE X F0 e tk) (hf : QE X F0 f td) (m : L2.M2 X o "get" apos e f cpos) : QE X F0 (.Call (.Attribute o "get" apos) [e, f] [] cpos) (mKGet d kvs to tk td) := by
  refine ⟨fun pins s σ H Q I ⟨F, ρ, M, R, s0, a, rs, q, k⟩ => ?_⟩
  obtain ⟨es, n, Dd⟩ := D.dict
  refine wpAny_Call_method m.base m.few m.line PySem.F.plainAttrs_dict PySem.F.slot_dict_get PySem.F.type_dict_get (thn (ho.run pins s σ H (fun x H1 => x = .ref d ∧ dnE X.K F0 (fun ρ M R => tk ρ M fun z M2 => td ρ M2 fun y M3 => kgR kvs R y M3 z) σ H1 Q) I ⟨F, ρ, M, _, s0, a, rs, q, fun F1 w M1 v H1 s1 a1 r1 q1 => ?_⟩) fun u s1 ⟨x, H1, I1, rx, ex, q1⟩ => ?_)
  · cases w with
    | ref p =>
      obtain ⟨rfl, q1⟩ := q1
      exact ⟨rw_ref r1, F1, ρ, M1, R, s0.trans s1, a1, rs.mono s1, q1, fun F' w M' v H' s' => k F' w M' v H' (s1.trans s')⟩
    | _ => exact q1.elim
  · subst ex
    obtain rfl : u = Value.ref d := rx
    have hT := kd_type Dd I1
    refine ⟨hT, fun a' e' => ?_, ?_⟩
    · cases e'
      exact ⟨_, I1.kIn _ _ Dd.at_, rfl⟩
    rw [m.trees]
    obtain ⟨F1, ρ1, M1, R1, s1', a1, rs1, q1, k1⟩ := q1
    refine Calls.callWith_builtin rfl (Calls.evalArgs_plain (Calls.spliced_cons (thn (he.run pins s1 σ H1 (fun z H2 => ∃ zw F2 M2, Same F1 F2 ∧ Ab X.K F2 M2 H2 ∧ RelW X.K F2 zw z ∧ td ρ1 M2 fun y M3 => kgR kvs R1 y M3 zw) I1 ⟨F1, ρ1, M1, _, s1', a1, rs1, q1, fun F2 w M2 v H2 s2 a2 r2 q2 => ⟨w, F2, M2, s2, a2, r2, q2⟩⟩) fun iv s2 ⟨z, H2, I2, rz, zw, F2, M2, s2', a2, r2, q2⟩ => ?_)))
    refine Calls.spliced_cons (thn (hf.run pins s2 σ H2 (fun y H3 => ∃ yw F3 M3, Same F2 F3 ∧ Ab X.K F3 M3 H3 ∧ RelW X.K F3 yw y ∧ kgR kvs R1 yw M3 zw) I2 ⟨F2, ρ1, M2, _, s1'.trans s2', a2, rs1.mono s2', q2, fun F3 w M3 v H3 s3 a3 r3 q3 => ⟨w, F3, M3, s3, a3, r3, q3⟩⟩) fun fv s3 ⟨y, H3, I3, ry, yw, F3, M3, s3', a3, r3, q3⟩ => Calls.spliced_nil ?_)
    cases zw with
    | str zz =>
      have ez := rw_str r2
      subst ez
      obtain ⟨t, rfl⟩ := rz
      have hm := PySem.W.mapOf_K (prog := X.prog) (w := X.w) I3.kIn Dd.at_ Dd.lit
      refine call_meetsIn PySem.F.slot_dict_get hm.typeIs PySem.F.entry_dict_get (PySem.F.args_dict_get_3 _ _ _) (meets_dict_get_default (strKind X.prog X.w) d (strKind_is X.prog X.w zz t) Dd.low fv) ⟨_, hm, ?_⟩
      have nsq := D.ns zz
      split at nsq
      · rename_i yy e
        obtain ⟨u0, v0, f1, f2, f3⟩ := nsq
        rw [PySem.W.find_K Dd.at_ f1]
        have q3' : R1 ((kvs.lookup zz).getD yw) M3 := q3
        rw [e] at q3'
        exact ⟨v0, H3, I3.tok _, f2, k1 F3 yy M3 v0 H3 (s2'.trans s3') a3 (f3 _) q3'⟩
      · rename_i e
        rw [PySem.W.find_K Dd.at_ nsq]
        have q3' : R1 ((kvs.lookup zz).getD yw) M3 := q3
        rw [e] at q3'
        exact ⟨y, H3, I3.tok _, ry, k1 F3 yw M3 y H3 (s2'.trans s3') a3 r3 q3'⟩
    | _ => exact q3.elim
end
end Ri

set_option Elab.async false
set_option linter.all false
set_option maxRecDepth 100000
set_option maxHeartbeats 2000000
namespace Ri
open PySem L2 PySem.Calls PyProof.Rows

/-! ### raise of an own exception with one field -/
def spInit (C : Addr) (fld : Str) : Sp := fun vs H Q _ => ∃ (a : Addr) (y : V), vs = [.ref a, y] ∧ H a = some (exo a C none) ∧ ∀ dx, H dx = none → dx ≠ a → Q .non (upd (upd H dx (exd dx [(fld, y)])) a (exo a C (some dx)))
/-- what the written part says of an exception class whose __init__ stores one field -/
structure XC (P : Program) (w : World) (K : PySem.W.Frag) (mg : Str → Option Value) (base : Heap) (C : Addr) (fld : Str) : Prop where
  T : OexC K C
  ex : ∃ fI fd ps, PySem.W.findIn K (.ref C) "__init__" = some (some (.ref fI)) ∧ PySem.W.typeIn K (.ref fI) = some (.type "function") ∧ FnOk P w K mg base (L2.CX P w) 1 fI fd ps (spInit C fld) ∧ Binds K fd ps []
section
variable {X : Cx} {F0 : Hp} {RX : MSt → MXQ}
def mRaise (C : Addr) (fld : Str) (RX : MSt → MXQ) (t : MA) : MS := fun _ ρ M => t ρ M fun ws M1 => match ws with | [w] => RX ρ C [(fld, w)] M1 | _ => False
theorem qs_raise {C : Addr} {fld x : Str} {e : Expr} {p pos pos2 : Pos} {t : MA} (hc : X.calm = true) (Z : XC X.prog X.w X.K X.mg X.base C fld) (hr : Room 2 X.A) (hg : Gl X x) (hm : X.mg x = some (.ref C)) (hx : QX X F0 RX) (ha : QA X F0 [e] t)
    (hdb : (x == ("__debug__" : Str)) = false := by decide) (he : starEach [e] X.env = (false, eval e X.env) :: starEach [] X.env := by rfl) (hpl : (backTo pos (starEach [] X.env)).any (·.1) = false := by rfl) :
    QS X F0 (.Raise (some (.Call (.Name x p) [e] [] pos)) none pos2) (mRaise C fld RX t) := by
  obtain ⟨fI, fd, ps, iC, tI, F1, hb⟩ := Z.ex
  refine PS.wk (ps_raise hc hx (pmk_oex Z.T iC tI F1 hr hb .nil passL hg hm ha hdb he hpl)) fun D σ H ⟨F, ρ, M, E, s, a, rs, q, k⟩ => ?_
  refine ⟨F, ρ, M, _, s, a, rs, q, fun F1 ws M1 vs H1 s1 a1 r1 q1 => ?_⟩
  split at q1
  · rename_i w
    obtain ⟨v, r, rfl, r2, r3⟩ := RelWs.cons_inv r1
    have r3' := RelWs.nil_inv r3
    subst r3'
    refine ⟨by show 1 ≤ 1000; decide, fun a0 n0 => ⟨a0, v, rfl, upd_same, fun dx nd ne => ⟨rfl, dx, [(fld, v)], upd_same, ?_, ?_, ?_⟩⟩⟩
    · rw [upd_ne ne, upd_same]
    · rw [upd_ne ne] at nd; exact nd
    · have nd' : H1 dx = none := by rw [upd_ne ne] at nd; exact nd
      obtain ⟨H', hH'⟩ : ∃ H', H' = upd (del (upd (upd (upd H1 a0 (exo a0 C none)) dx (exd dx [(fld, v)])) a0 (exo a0 C (some dx))) a0) dx (.xd [(fld, v)]) := ⟨_, rfl⟩
      have sm : Same H1 H' := fun b o z => by
        have b1 : b ≠ dx := ne_of_none z nd'
        have b2 : b ≠ a0 := ne_of_none z n0
        rw [hH', upd_ne b1, del_ne b2, upd_ne b2, upd_ne b1, upd_ne b2]
        exact z
      have hd : H' dx = some (.xd [(fld, v)]) := by rw [hH', upd_same]
      have fd1 := a1.fresh nd'
      have s2 : Same F1 (upd F1 dx (.xd [(fld, v)])) := fun b u z => by rw [upd_ne (ne_of_none z fd1.1)]; exact z
      have a2 : Ab X.K (upd F1 dx (.xd [(fld, v)])) M1 H' := (a1.grow sm).more s2 (fun b u z => by
        by_cases e' : b = dx
        · subst e'; rw [upd_same] at z; cases z; exact hd
        · rw [upd_ne e'] at z; exact sm _ _ (a1.sub _ _ z)) fun b m z => by
          have e' : b ≠ dx := mne z fd1.2
          rw [upd_ne e']
          obtain ⟨_, _, f, _⟩ := a1.mv b m z
          exact f
      rw [← hH']
      refine ⟨_, ρ, M1, C, _, s.trans (s1.trans s2), a2, rs.mono (s1.trans s2), rfl, .inr ⟨dx, _, rfl, upd_same, ?_⟩, q1⟩
      simp only [RelFs]
      exact ⟨trivial, r2.mono s2, trivial⟩
  · exact q1.elim
/-! ### keywords alone, in the parameters' order -/
abbrev QK (X : Cx) (F0 : Hp) (kws : List Keyword) (t : MA) : Prop := PK X kws (dnA X.K F0 t)
theorem PK.wk {kws : List Keyword} {t t' : TA} (h : PK X kws t) (i : ∀ σ H Q, t' σ H Q → t σ H Q) : PK X kws t' := ⟨fun p pins s σ H Q I q => h.run p pins s σ H Q I (i _ _ _ q)⟩
theorem qk_nil : QK X F0 [] mNil := PK.wk pk_nil fun σ H Q ⟨F, ρ, M, R, s, a, rs, q, k⟩ => k F [] M [] H (Same.refl _) a .nil q
theorem qk_cons {nm : Option Str} {e : Expr} {kpos : Pos} {kws : List Keyword} {te : ME} {t : MA} (ha : QE X F0 e te) (hr : QK X F0 kws t) : QK X F0 (⟨nm, e, kpos⟩ :: kws) (mCons te t) := PK.wk (pk_cons ha hr) fun _ _ _ q => cns q
/-- a def at f keeps sp; called by its parameters' names, in their order -/
structure FFK (P : Program) (w : World) (K : PySem.W.Frag) (mg : Str → Option Value) (base : Heap) (k : Nat) (f : Addr) (ps ks : List Str) (sp : MSp) : Prop where
  ex : ∃ fd, FnOk P w K mg base (L2.CX P w) k f fd ps (upS K sp) ∧ ∀ (s : Shared) (ws : List Value), K.In s.heap → ws.length = ps.length → BindsTo s fd ⟨[], ks.zip ws⟩ (ps.zip ws)
  kp : PySem.W.keepIn K (.ref f) = true
theorem FFK.mono {P : Program} {w : World} {K : PySem.W.Frag} {mg : Str → Option Value} {base : Heap} {j k : Nat} {f : Addr} {ps ks : List Str} {sp : MSp} (h : FFK P w K mg base j f ps ks sp) (l : j ≤ k) : FFK P w K mg base k f ps ks sp := by
  obtain ⟨⟨fd, F, b⟩, kp⟩ := h
  exact ⟨⟨fd, F.mono l, b⟩, kp⟩
theorem qe_callK {k : Nat} {f : Addr} {ps ks : List Str} {sp : MSp} {x : Str} {p pos : Pos} {kws : List Keyword} {t : MA} (G : FFK X.prog X.w X.K X.mg X.base k f ps ks sp) (hr : Room k X.A) (hg : Gl X x) (hm : X.mg x = some (.ref f)) (hx : QX X F0 RX) (ha : QK X F0 kws t)
    (hall : (backToKw pos (keywordEach kws X.env)).all (·.1.isSome) = true := by rfl) (hks : (backToKw pos (keywordEach kws X.env)).filterMap (·.1) = ks := by rfl)
    (hdb : (x == ("__debug__" : Str)) = false := by decide)
    (hpl : ((backTo pos (starEach [] X.env)).any (·.1) || (backToKw pos (keywordEach kws X.env)).any (·.1.isNone)) = false := by rfl) :
    QE X F0 (.Call (.Name x p) [] kws pos) (mCall sp RX t) := by
  obtain ⟨⟨fd, Fo, hb⟩, hk⟩ := G
  refine ⟨fun pins s σ H Q I ⟨F, ρ, M, R, s0, a, rs, q, kk⟩ => ?_⟩
  refine wpAny_Call_Name_kw (ld_glob I hg hm ?_ hdb)
  refine PySem.W.callWith_KW0 (h₀ := X.base) I.ok.mod.kin hk hall ?_ hpl
  refine thn (ha.run pos pins s σ H (fun vs H2 => ∃ ws F2 M2, Same F F2 ∧ Ab X.K F2 M2 H2 ∧ RelWs X.K F2 ws vs ∧ sp ws M2 R (RX ρ)) I
    ⟨F, ρ, M, _, s0, a, rs, q, fun F2 ws M2 vs H2 s2 a2 r2 q2 => ⟨ws, F2, M2, s2, a2, r2, q2⟩⟩) fun us s2 ⟨vs, H2, I2, r2, ws, F2, M2, s3, a2, rw2, q2⟩ => ⟨I2.kIn, ?_⟩
  rw [hks, List.append_nil]
  have hsp : upS X.K sp vs H2 Q (WE (dnX X.K F0 RX) σ) := up_call (s0.trans s3) a2 (rs.mono s3) rw2 q2 (Fin.mono kk s3)
  have hl : us.length = ps.length := by rw [← r2.length]; exact Fo.len _ _ _ _ hsp
  refine wpAny_call (codeAny_mono (Fo.run X.A X.stack s2 H2 ⟨[], ks.zip us⟩ us vs Q _ hr I2.env0 (hb s2 us I2.kIn hl) r2 hsp) fun r s' hq => ?_)
  cases r with
  | error e => exact (passAt hx σ) pins H2 s2 e s' I2 hq
  | ok fl =>
    cases fl with
    | ret u => exact I2.after hq
    | next => exact False.elim hq
    | brk => exact False.elim hq
    | cont => exact False.elim hq
/-! ### f-strings -/
def mFmt (te : ME) : ME := fun ρ M R => te ρ M fun w M1 => match w with
  | .str y => y.length ≤ sizeLine ∧ R (.str y) M1
  | .int i => i.natAbs.log2 < 1920 ∧ R (.str (toString i)) M1
  | _ => False
theorem qe_fmt {e : Expr} {te : ME} {pos : Pos} (he : QE X F0 e te) : QE X F0 (.FormattedValue e (-1) none pos) (mFmt te) := by
  refine PE.wk (pe_fmt he) fun σ H Q ⟨F, ρ, M, R, s, a, rs, q, k⟩ => ?_
  refine ⟨F, ρ, M, _, s, a, rs, q, fun F1 w M1 v H1 s1 a1 r1 q1 => ?_⟩
  split at q1
  · exact .inl ⟨_, rw_str r1, q1.1, k F1 _ M1 _ H1 s1 a1 str_rw q1.2⟩
  · exact .inr ⟨_, rw_int r1, q1.1, k F1 _ M1 _ H1 s1 a1 str_rw q1.2⟩
  · exact q1.elim
/-- the parts -/
inductive QJ (X : Cx) (F0 : Hp) : List Expr → List ME → Prop where
  | nil : QJ X F0 [] []
  | cons {e : Expr} {t : ME} {es : List Expr} {ts : List ME} (h : QE X F0 e t) (r : QJ X F0 es ts) : QJ X F0 (e :: es) (t :: ts)
def mJs : List ME → Str → MSt → MH → (Str → MH → Prop) → Prop
  | [], acc, _, M, R => R acc M
  | t :: ts, acc, ρ, M, R => t ρ M fun w M1 => match w with | .str y => (acc ++ y).length ≤ sizeLine ∧ mJs ts (acc ++ y) ρ M1 R | _ => False
theorem QJ.pj {es : List Expr} {ts : List ME} (h : QJ X F0 es ts) : PJ X es (ts.map (dnE X.K F0)) := by
  induction h with
  | nil => exact .nil
  | cons h r ih => exact .cons h ih
theorem js_of {K : PySem.W.Frag} {σ : L2.St} {Q : Str → Hp → Prop} : ∀ (ts : List ME) (acc : Str) (F : Hp) (ρ : MSt) (M : MH) (H : Hp) (R : Str → MH → Prop), Same F0 F → Ab K F M H → RelSt K F ρ σ → mJs ts acc ρ M R → (∀ F' z M' H', Same F F' → Ab K F' M' H' → R z M' → Q z H') → tJs (ts.map (dnE K F0)) acc σ H Q
  | [], acc, F, ρ, M, H, R, s, a, rs, q, k => k F acc M H (Same.refl _) a q
  | t :: ts, acc, F, ρ, M, H, R, s, a, rs, q, k => by
    refine ⟨F, ρ, M, _, s, a, rs, q, fun F1 w M1 v H1 s1 a1 r1 q1 => ?_⟩
    split at q1
    · rename_i y
      exact ⟨y, rw_str r1, q1.1, js_of ts (acc ++ y) F1 ρ M1 H1 R (s.trans s1) a1 (rs.mono s1) q1.2 fun F' z M' H' s' => k F' z M' H' (s1.trans s')⟩
    · exact q1.elim
theorem qe_joined {v1 v2 : Expr} {rest : List Expr} {ts : List ME} {pos : Pos} (h : QJ X F0 (v1 :: v2 :: rest) ts) : QE X F0 (.JoinedStr (v1 :: v2 :: rest) pos) (fun ρ M R => mJs ts Str.empty ρ M fun z M1 => R (.str z) M1) := by
  refine PE.wk (pe_joined h.pj) fun σ H Q ⟨F, ρ, M, R, s, a, rs, q, k⟩ => ?_
  exact js_of ts _ F ρ M H _ s a rs q fun F' z M' H' s' a' q' => k F' _ M' _ H' s' a' str_rw q'
theorem qe_joined1 {e : Expr} {te : ME} {pos : Pos} (he : QE X F0 e te) : QE X F0 (.JoinedStr [e] pos) te := pe_joined1 he
/-- a def of the text, by its function object -/
theorem fn_rich {P : Program} {w : World} {K : PySem.W.Frag} {mg : Str → Option Value} {base : Heap} {x qual : Str} {st : Stmt} {f : Addr} {fd : FuncData} {N ps : List Str} {k : Nat} {sp : MSp} (F : Fun K x qual st f fd) (S : FnScope N ps (defScope st))
    (len : ∀ ws M R RX, sp ws M R RX → ws.length = ps.length)
    (hbody : ∀ (cdv : Value) (A : Around) (outer : List Env) (s : Shared) (H : Hp) (E : XK) (F0 : Hp) (ws : List W) (M : MH) (R : MQ) (RX : MXQ), Room k (A.deeper (envOfC qual (defScope st) s.heap.objs.size f cdv)) → sp ws M R RX →
      QX (cxOf (L2.CX P w) P w K mg base N qual (defScope st) f cdv A outer s H E) F0 (fun _ => shX RX) →
      PassesOwn (model P w) (A.deeper (envOfC qual (defScope st) s.heap.objs.size f cdv)) (envOfC qual (defScope st) s.heap.objs.size f cdv) (cxOf (L2.CX P w) P w K mg base N qual (defScope st) f cdv A outer s H E).xe →
      ∃ t, QSs (cxOf (L2.CX P w) P w K mg base N qual (defScope st) f cdv A outer s H E) F0 (defBody st) t ∧ t { nx := fun _ M' => sh R .non M', rt := sh R } (startW N ws) M) : FnOk P w K mg base (L2.CX P w) (k + 1) f fd ps (upS K sp) := by
  refine F.okX S (fun vs H Q E ⟨_, ws, M, R, RX, _, r, q, _, _⟩ => by rw [← r.length]; exact len _ _ _ _ q) (fun cdv A outer s H vs Q E hr ⟨F0, ws, M, R, RX, a, r, q, k1, k2⟩ => ?_)
  have tk : QX (cxOf (L2.CX P w) P w K mg base N qual (defScope st) f cdv A outer s H E) F0 (fun _ => shX RX) := Takes.imp (takes_of rfl rfl rfl rfl) fun c d σ H' ⟨F', ρ, M', C, fs, s', a', rs', e, x', M'', m', q'⟩ => by
    subst e
    exact k2 F' C fs M'' H' d s' (a'.shrink m') x' q'
  obtain ⟨t, ht, hq⟩ := hbody cdv A outer s H E F0 ws M R RX hr q tk (passes_of rfl)
  refine ⟨_, ht, F0, _, M, _, Same.refl _, a, start_rel r, hq, ⟨fun F' ρ M' σ H' s' a' r' ⟨M'', m', q'⟩ => ?_, fun F' w M' v H' s' a' r' ⟨M'', m', q'⟩ => ?_, fun _ _ _ _ _ _ _ _ z => z.elim, fun _ _ _ _ _ _ _ _ z => z.elim⟩⟩
  · exact k1 F' _ M'' _ H' s' (a'.shrink m') non_rw q'
  · exact k1 F' _ M'' _ H' s' (a'.shrink m') r' q'
end
end Ri

set_option Elab.async false
set_option linter.all false
set_option maxRecDepth 100000
set_option maxHeartbeats 2000000
/-! An exception that is caught, kept and read behind its suite. -/
namespace Ri
open PySem L2

theorem exT_ok {P : Program} {w : World} {H : Hp} {h : Heap} {a : Addr} {cls : Value} {d : Option Addr} {ob : Obj} {fv : Array Value} (e : h.get? a = some ob) (z : Zc cls d ob) (dt : ob.data = .fields fv) : ObjOk P w H h a (ExT a cls d) :=
  ⟨⟨ob, e, z, fv, dt⟩, ⟨ob, e⟩, fun _ _ ⟨o1, q1, r1⟩ keep => ⟨o1, keep o1 q1, r1⟩⟩
section
variable {X : Cx} {pins : List (Addr × Obj)} {σ : L2.St} {H : Hp} {s : Shared}
theorem inv_hold {a : Addr} {cls : Value} {d : Option Addr} {ob : Obj} {fv : Array Value} (I : Inv X pins σ H s) (e : s.heap.get? a = some ob) (z : Zc cls d ob) (dt : ob.data = .fields fv) (na : H a = none)
    (nL : a ≠ X.env.locals) (n0 : X.s_0.heap.get? a = none) (np : ∀ p ∈ X.pn ++ pins, p.1 ≠ a) : Inv X pins σ (upd H a (ExT a cls d)) s where
  ok := I.ok
  os := I.os
  bare := I.bare
  base := ⟨I.base.keep, I.base.slot, fun b u q n hx => by rw [upd_ne (fun t => by rw [t, n0] at q; cases q)]; exact I.base.free b u q n hx, I.base.there,
    fun b xs q => by have q2 := I.base.tups b xs q; rw [upd_ne (ne_of_none q2 na)]; exact q2, fun b u v q => by have q2 := I.base.frzs b u v q; rw [upd_ne (ne_of_none q2 na)]; exact q2,
    fun b ps q => by obtain ⟨m, q2⟩ := I.base.tbls b ps q; exact ⟨m, by rw [upd_ne (ne_of_none q2 na)]; exact q2⟩⟩
  loc := I.loc
  cell := I.cell
  free := by rw [upd_ne (Ne.symm nL)]; exact I.free
  freeC := fun x c hc => by
    have ne : c ≠ a := fun t => by
      obtain ⟨v, hv⟩ := I.cell x c hc
      obtain ⟨oc, h1, h2⟩ := hv
      rw [t, e] at h1
      cases h1
      first
        | (rw [dt] at h2; cases h2)
        | (obtain ⟨h2, h3⟩ := h2; first | (rw [dt] at h2; cases h2) | (rw [dt] at h3; cases h3))
    rw [upd_ne ne]
    exact I.freeC x c hc
  pin := fun p hp => by
    obtain ⟨h1, h2, h3⟩ := I.pin p hp
    exact ⟨h1, by rw [upd_ne (np p hp)]; exact h2, h3⟩
  hok := fun b o q => by
    by_cases hb : b = a
    · subst hb
      rw [upd_same] at q
      cases q
      exact exT_ok e z dt
    · rw [upd_ne hb] at q
      exact (I.hok b o q).stay (fun _ _ _ t => t) (fun c t => by rw [upd_ne (ne_of_none t na)]; exact t) fun c xs t => by rw [upd_ne (ne_of_none t na)]; exact t
  len := I.len
theorem inv_into (I : Inv X pins σ H s) (a : Addr) : Inv (X.suite a (X.pn ++ pins)) [] σ H s :=
  ⟨I.ok.suite _ _, I.os, I.bare, I.base, I.loc, I.cell, I.free, I.freeC, fun p hp => I.pin p (by simpa using hp), I.hok, I.len⟩
theorem inv_outof {a : Addr} {more : List (Addr × Obj)} (I : Inv (X.suite a (X.pn ++ pins)) more σ H s) (ok : X.Ok) : Inv X pins σ H s :=
  ⟨ok, I.os, I.bare, I.base, I.loc, I.cell, I.free, I.freeC, fun p hp => I.pin p (List.mem_append_left _ hp), I.hok, I.len⟩
end
/-- what the clause 'except c as n' wishes, the exception being kept: slot i is n's; it takes all that comes -/
def wHold (K : PySem.W.Frag) (c : Value) (i : Nat) (ts : TS) (D : Ends) : WX := fun cls d σ H =>
  PySem.W.exmOne K cls c = some true ∧ ∀ a, H a = none → ts { nx := fun σ1 H1 => D.nx (σ1.set i none) H1, rt := D.rt, bk := fun σ1 H1 => D.bk (σ1.set i none) H1, ct := fun σ1 H1 => D.ct (σ1.set i none) H1 } (σ.set i (some (.ref a))) (upd H a (ExT a cls d))
section
variable {X : Cx} {x n : Str} {c : Value} {i : Nat} {body suite : List Stmt} {b₀ : Stmt} {np pos pos' : Pos} {tb : WX → TS} {ts : TS}
theorem ps_hold (hs : X.stack = X.env :: X.outer) (hf : X.env.frame = some X.env.locals) (hex : X.ex = []) (hN : X.N.Nodup) (hi : X.N[i]? = some n) (hln : X.env.kindOf n = some .local) (hc : Names X x c)
    (hbody : ∀ (W : WX) (pn : List (Addr × Obj)) (xe : Value → Shared → Prop), Takes (X.tr pn xe) W → PassesOwn (model X.prog X.w) X.A X.env xe → PSs (X.tr pn xe) body (tb W))
    (hsuite : ∀ (a : Addr) (pn : List (Addr × Obj)), PSs (X.suite a pn) (b₀ :: suite) ts) :
    PS X (.Try body [.ExceptHandler (some (.Name x np)) (some n) (b₀ :: suite) pos'] [] [] pos) (fun D σ H => tb (wHold X.K c i ts D) D σ H) := by
  refine ⟨fun pins s σ H D I hw => ?_⟩
  have okX := I.ok
  have frX : X.A.frames = some (X.env :: X.outer) := by rw [okX.frames, hs]
  have land : ∀ u s1, XE (X.tr (X.pn ++ pins) (fun e s₁ => wpAny (model X.prog X.w) X.A (noteFrame e X.env) (fun _ s₂ => wpAny (model X.prog X.w) X.A (setFlight e none) (fun _ s₃ =>
      wpAny (model X.prog X.w) X.A (handleBy e X.env [.ExceptHandler (some (.Name x np)) (some n) (b₀ :: suite) pos']) (SP X pins D) X.xe s₃) X.xe s₂) X.xe s₁)) (wHold X.K c i ts D) u s1 →
      wpAny (model X.prog X.w) X.A (noteFrame u X.env) (fun _ s₂ => wpAny (model X.prog X.w) X.A (setFlight u none) (fun _ s₃ =>
      wpAny (model X.prog X.w) X.A (handleBy u X.env [.ExceptHandler (some (.Name x np)) (some n) (b₀ :: suite) pos']) (SP X pins D) X.xe s₃) X.xe s₂) X.xe s1 := fun u s1 xe => by
    obtain ⟨a, B, sI, more, σ1, H1, cls, d, rfl, I1, ground, up, sky, na, os, ag, hcls, hgo⟩ := xe
    have IX : Inv X pins σ1 H1 sI := I1.ofTry okX
    have skyX : Sky B (X.env :: X.outer) a (Zc cls d) X.env.locals s1.heap := by rw [← hs]; exact sky
    refine Sky.land Zc.steady frX hf skyX fun hp fly upp => ?_
    obtain ⟨ob, fv, atA, zA, dA⟩ := fly.there
    have gone : B.get? a = none := fly.2.1
    have notFrame : a ∉ frs (X.env :: X.outer) := fun hm => by
      obtain ⟨_, o1, e1, nd⟩ := fly.2.2.1.mem hm
      rw [atA] at e1
      cases e1
      exact nd _ dA
    have neL : a ≠ X.env.locals := fun t => notFrame (List.mem_filterMap.mpr ⟨X.env, List.mem_cons_self, by rw [hf, t]⟩)
    have notStack : a ∉ frs X.stack := by rw [hs]; exact notFrame
    have new0 : X.s_0.heap.get? a = none := by
      cases q : X.s_0.heap.get? a with
      | none => rfl
      | some o0 =>
        obtain ⟨o1, q1⟩ := IX.base.there a o0 q (by rw [hex]; exact List.not_mem_nil)
        rw [ground a o1 q1 notStack] at gone
        cases gone
    have notPin : ∀ p ∈ X.pn ++ pins, p.1 ≠ a := fun p hp t => by
      obtain ⟨q1, _⟩ := IX.pin p hp
      rw [t] at q1
      rw [ground a p.2 q1 notStack] at gone
      cases gone
    have I3 : Inv X pins σ1 H1 { s1 with heap := hp } := IX.landed ground fly.1 (up.trans upp) os ag
    have test : ∀ {Q : Value → Shared → Prop} {E : Value → Shared → Prop}, Q c { s1 with heap := hp } → wpAny (model X.prog X.w) (X.A.mark (some (.ref a))) (eval (.Name x np) X.env) Q E { s1 with heap := hp } := fun {Q E} q => by
      obtain ⟨h1, h2, h3 | ⟨h3, h4, h5⟩⟩ := hc
      · exact ld_glob (inv_into I3 a) h1 h3 q h2
      · exact ld_blt (inv_into I3 a) h1 h3 h4 q h5 h2
    refine wpAny_handleBy_cons (codeAny_handlers_test ?_) (by intro q; cases q)
    have tyA : PySem.W.Looks (model X.prog X.w) hp (typeOf (.ref a)) cls := fun A' Q' E' s' keep q => wpAny_typeOf_ref (keep _ _ atA) (by rw [zA.1]; exact q)
    refine test ((PySem.W.exm_one (M := model X.prog X.w) I3.kIn tyA hcls).here ?_)
    refine codeAny_handlers_suite_as (HandSPX.lands_againZ fly fun hq fly2 up2 => ?_)
    have I4 : Inv X pins σ1 H1 { s1 with heap := hq } := IX.landed ground fly2.1 ((up.trans upp).trans up2) os ag
    obtain ⟨ob2, fv2, at2, z2, d2⟩ := fly2.there
    have I5 := inv_into (inv_hold I4 at2 z2 d2 na neL new0 notPin) a
    refine store_ok (X := X.suite a (X.pn ++ pins)) (v := .ref a) I5 hN hi (.inl hln) rfl (fun s5 I6 => ?_) (.inr hln)
    have leave : ∀ {σ6 : L2.St} {H6 : Hp} {s6 : Shared} {Q : Shared → Prop}, Inv (X.suite a (X.pn ++ pins)) [] σ6 H6 s6 → (∀ s7, Inv X pins (σ6.set i none) H6 s7 → Q s7) →
        wpAny (model X.prog X.w) X.A (do bindName X.env n .none; unbindBehindTheSuite X.env n pos') (fun _ s7 => Q s7) X.xe s6 := fun {σ6 H6 s6 Q} J hq => gone_ok (inv_outof J okX) hN hi hln hq
    refine wpAny_mono ((hsuite a (X.pn ++ pins)).run [] s5 _ _ _ I6 (hgo a na)) (fun fl s6 r => ?_) (fun _ _ t => t.elim)
    cases fl with
    | ret u =>
      obtain ⟨v6, σ6, H6, J, rv, q⟩ := r
      exact leave J fun s7 J7 => ⟨_, _, _, J7, rv, q⟩
    | next =>
      obtain ⟨σ6, H6, J, q⟩ := r
      exact leave J fun s7 J7 => ⟨_, _, J7, q⟩
    | cont =>
      obtain ⟨σ6, H6, J, q⟩ := r
      exact leave J fun s7 J7 => ⟨_, _, J7, q⟩
    | brk =>
      obtain ⟨σ6, H6, J, q⟩ := r
      exact leave J fun s7 J7 => ⟨_, _, J7, q⟩
  refine wpAny_Try_except (wpAny_mono ((hbody (wHold X.K c i ts D) (X.pn ++ pins) _ (fun u s1 t => land u s1 t) PassesOwn.looking).run [] s σ H D (I.toTry _) hw) (fun fl s1 r => ?_) (fun _ _ t => t))
  cases fl with
  | ret u =>
    obtain ⟨v1, σ1, H1, J, rv, q⟩ := r
    exact ⟨v1, σ1, H1, J.ofTry okX, rv, q⟩
  | next =>
    obtain ⟨σ1, H1, J, q⟩ := r
    exact wpAny_execs_nil ⟨σ1, H1, J.ofTry okX, q⟩
  | cont =>
    obtain ⟨σ1, H1, J, q⟩ := r
    exact ⟨σ1, H1, J.ofTry okX, q⟩
  | brk =>
    obtain ⟨σ1, H1, J, q⟩ := r
    exact ⟨σ1, H1, J.ofTry okX, q⟩
end
end Ri

set_option Elab.async false
set_option linter.all false
set_option maxRecDepth 100000
set_option maxHeartbeats 4000000
namespace Ri
open PySem L2 PySem.Calls PyProof.Rows PySem.W

theorem exc_kit {K : Frag} {x D : Addr} {ox : Obj} {od : Option Obj} (C : ExcC K D) : KitX K (.ref x) (.ref D) (fun h => InstAt h x ox D od) := by
  obtain ⟨cd, hc, _⟩ := any_some C.hd
  exact kitx_exc (by rw [hc]; rfl) C.hg C.hk C.hs C.ha C.hn C.ht C.hm
section
variable {X : Cx}
theorem ext_at {pins : List (Addr × Obj)} {σ : L2.St} {H : Hp} {s : Shared} {a C : Addr} {od : Option Addr} {fs : List (Str × V)} (I : L2.Inv X pins σ H s) (e : H a = some (ExT a (.ref C) od)) (hd : od = none ∨ ∃ dd, od = some dd ∧ H dd = some (.xd fs)) :
    ∃ ob o2, PySem.W.InstAt s.heap a ob C o2 := by
  obtain ⟨⟨ob, h1, h2, fv, h3⟩, _⟩ := (show ObjOk X.prog X.w H s.heap a (ExT a (.ref C) od) from I.hok a _ e)
  have nc : PySem.W.notCls ob = true := by unfold PySem.W.notCls; rw [h3] <;> rfl
  rcases hd with rfl | ⟨dd, rfl, e2⟩
  · exact ⟨ob, none, h1, h2.1, nc, by rw [h2.2]; trivial⟩
  · obtain ⟨mA, hns, _⟩ := (show ObjOk X.prog X.w H s.heap dd (.xd fs) from I.hok dd _ e2)
    obtain ⟨o2, ho, _⟩ := lookIn_ns hns
    exact ⟨ob, some o2, h1, h2.1, nc, by rw [h2.2]; exact ho⟩
def rIsX (K : PySem.W.Frag) : List V → Hp → VK → Prop := fun xs H Q => ∃ (a D : Addr) (od : Option Addr) (fs : List (Str × V)) (c : V) (cv : Value) (b : Bool), xs = [.ref a, c] ∧ ClsV c cv ∧ H a = some (ExT a (.ref D) od) ∧ (od = none ∨ ∃ dd, od = some dd ∧ H dd = some (.xd fs)) ∧ ExcC K D ∧ PySem.W.kitOne K (.ref D) cv = some b ∧ Q (.bl b) H
theorem call_isX : CallR X (.builtin "isinstance") (rIsX X.K) := by
  intro pins s σ H xs us Q I r h
  obtain ⟨a, D, od, fs, c, cv, b, rfl, hcv, ea, hd, C, e, q⟩ := h
  obtain ⟨u1, u2, rfl, r1, r2⟩ := vals2 r
  have e2 := hcv.eq r2
  subst e2
  cases (show u1 = Value.ref a from r1)
  obtain ⟨ob, o2, J⟩ := ext_at I ea hd
  exact PySem.W.kia_one (exc_kit C) I.kIn J e (fun z => nomatch z) fun tk => ⟨.bl b, H, I.tok tk, rfl, q⟩
/-- e.f, e a kept exception -/
def tXh (Cs : Addr → Prop) (f : Str) (te : TE) : TE := fun σ H Q => te σ H fun x H1 => ∃ (a C dd : Addr) (fs : List (Str × V)) (v : V), x = .ref a ∧ Cs C ∧ H1 a = some (ExT a (.ref C) (some dd)) ∧ H1 dd = some (.xd fs) ∧ fs.lookup f = some v ∧ Q v H1
theorem pe_xh {Cs : Addr → Prop} {e : Expr} {te : TE} {pos : Pos} {f : Str} (T : ∀ C, Cs C → XfC X.K C ∧ PySem.W.findIn X.K (.ref C) f = some none) (he : PE X e te) (hb : attributeBase e f X.env (eval e X.env) = eval e X.env := by rfl) : PE X (.Attribute e f pos) (tXh Cs f te) := by
  refine ⟨fun pins s σ H Q I h => attr_of hb (thn (he.run pins s σ H _ I h) fun u s1 hh => ?_)⟩
  obtain ⟨y, H1, I1, ry, a, C, dd, fs, v, rfl, hC, ea, ed, l, q⟩ := hh
  cases (show u = Value.ref a from ry)
  obtain ⟨T1, hno⟩ := T C hC
  obtain ⟨⟨ob, h1, h2, fv, h3⟩, _⟩ := (show ObjOk X.prog X.w H1 s1.heap a (ExT a (.ref C) (some dd)) from I1.hok a _ ea)
  obtain ⟨mA, hns, hr⟩ := (show ObjOk X.prog X.w H1 s1.heap dd (.xd fs) from I1.hok dd _ ed)
  obtain ⟨o2, ho, hl⟩ := lookIn_ns hns
  obtain ⟨u2, hu, ru⟩ := RelO.some_of (v := v) (o := mA f) (by rw [← l]; exact hr f)
  have J : PySem.W.InstAt s1.heap a ob C (some o2) := ⟨h1, h2.1, by unfold PySem.W.notCls; rw [h3] <;> rfl, by rw [h2.2]; exact ho⟩
  exact HandSPX.exc_get I1.kIn J T1.ga T1.gg T1.exC (PySem.W.findObj_own T1.hdC hno rfl (by rw [hl, hu])) (handed_of ru) ⟨v, H1, I1.tok _, ru, q⟩
end
end Ri

set_option Elab.async false
set_option linter.all false
set_option maxRecDepth 100000
set_option maxHeartbeats 2000000
namespace Ri
open PySem L2

/-! ### try: body / except c as n: suite, the exception kept -/
theorem fs_zip {K : PySem.W.Frag} {F : Hp} : ∀ {fs : List (Str × W)} {vs : List (Str × V)}, RelFs K F fs vs → vs = (fs.map (·.1)).zip (vs.map (·.2)) ∧ RelWs K F (fs.map (·.2)) (vs.map (·.2)) ∧ (fs.map (·.1)).length = (vs.map (·.2)).length
  | [], [], _ => ⟨rfl, .nil, rfl⟩
  | [], _ :: _, h => by simp only [RelFs] at h
  | (n, x) :: r, [], h => by simp only [RelFs] at h
  | (n, x) :: r, (m, u) :: q, h => by
    simp only [RelFs] at h
    obtain ⟨rfl, h1, h2⟩ := h
    obtain ⟨e1, e2, e3⟩ := fs_zip h2
    refine ⟨?_, .cons h1 e2, by simp only [List.map_cons, List.length_cons]; rw [e3]⟩
    simp only [List.map_cons, List.zip_cons_cons]
    rw [← e1]
section
variable {X : Cx} {F0 : Hp} {x n : Str} {c : Value} {i : Nat} {body suite : List Stmt} {b₀ : Stmt} {np pos pos' : Pos}
def mTry (K : PySem.W.Frag) (c : Value) (i : Nat) (tb : (MSt → MXQ) → MS) (ts : MS) : MS := fun E ρ M =>
  tb (fun ρ1 C fs M1 => PySem.W.exmOne K (.ref C) c = some true ∧ fs ≠ [] ∧ ts { nx := fun ρ2 M2 => E.nx (stN ρ2 i) M2, rt := E.rt, bk := fun ρ2 M2 => E.bk (stN ρ2 i) M2, ct := fun ρ2 M2 => E.ct (stN ρ2 i) M2 } (st ρ1 i (.exc C (fs.map (·.1)) (fs.map (·.2)))) M1) E ρ M
theorem qs_try {tb : (MSt → MXQ) → MS} {ts : MS} (hs : X.stack = X.env :: X.outer) (hf : X.env.frame = some X.env.locals) (hex : X.ex = []) (hN : X.N.Nodup) (hi : X.N[i]? = some n) (hln : X.env.kindOf n = some .local) (hc : Names X x c)
    (hbody : ∀ (F1 : Hp) (RX : MSt → MXQ) (pn : List (Addr × Obj)) (xe : Value → Shared → Prop), QX (X.tr pn xe) F1 RX → PassesOwn (model X.prog X.w) X.A X.env xe → QSs (X.tr pn xe) F1 body (tb RX))
    (hsuite : ∀ (a : Addr) (pn : List (Addr × Obj)), QSs (X.suite a pn) F0 (b₀ :: suite) ts) :
    QS X F0 (.Try body [.ExceptHandler (some (.Name x np)) (some n) (b₀ :: suite) pos'] [] [] pos) (mTry X.K c i tb ts) := by
  have h1 := ps_hold (X := X) (x := x) (n := n) (c := c) (i := i) (body := body) (suite := suite) (b₀ := b₀) (np := np) (pos := pos) (pos' := pos') (ts := dnS X.K F0 ts)
    (tb := fun W D σ H => ∃ (F1 : Hp) (RX : MSt → MXQ), (∀ cls d σ H, dnX X.K F1 RX cls d σ H → W cls d σ H) ∧ dnS X.K F1 (tb RX) D σ H) hs hf hex hN hi hln hc
    (fun W pn xe tk ps => ⟨fun pins s σ H D I ⟨F1, RX, imp, q⟩ => (hbody F1 RX pn xe (Takes.imp tk imp) ps).run pins s σ H D I q⟩) hsuite
  refine PS.wk h1 fun D σ H ⟨F, ρ, M, E, s, a, rs, q, k⟩ => ?_
  refine ⟨F, _, fun cls d σ1 H1 hw => ?_, F, ρ, M, E, Same.refl _, a, rs, q, k⟩
  obtain ⟨F1, ρ1, M1, C, fs, s1, a1, rs1, rfl, xd, hk, hne, hts⟩ := hw
  refine ⟨hk, fun p np => ?_⟩
  rcases xd with ⟨_, e⟩ | ⟨dd, vs, rfl, e1, e2⟩
  · exact absurd e hne
  · obtain ⟨z1, z2, z3⟩ := fs_zip e2
    obtain ⟨a2, s2⟩ := a1.frz (o := ExT p (.ref C) (some dd)) np
    refine ⟨_, _, M1, _, s.trans (s1.trans s2), a2, RelSt.set ?_ i (rs1.mono s2), hts, ?_⟩
    · simp only [RelW]
      refine ⟨p, dd, vs.map (·.2), rfl, upd_same, ?_, z3, z2.mono s2⟩
      rw [← z1]
      exact s2 _ _ e1
    · have kk := k.mono (s1.trans s2)
      exact ⟨fun F' ρ' M' σ' H' s' a' r' q' => kk.nx F' _ M' _ H' s' a' (r'.clear i) q', kk.rt, fun F' ρ' M' σ' H' s' a' r' q' => kk.bk F' _ M' _ H' s' a' (r'.clear i) q', fun F' ρ' M' σ' H' s' a' r' q' => kk.ct F' _ M' _ H' s' a' (r'.clear i) q'⟩
/-! ### a kept exception: its field, its class -/
variable {e : Expr} {te : ME} {f : Str}
def mXf (Cs : Addr → Prop) (f : Str) (te : ME) : ME := fun ρ M R => te ρ M fun v M1 => match v with
  | .exc C ns xs => Cs C ∧ match (ns.zip xs).lookup f with | some y => R y M1 | none => False
  | _ => False
theorem qe_xf {Cs : Addr → Prop} (he : QE X F0 e te) (T : ∀ C, Cs C → XfC X.K C ∧ PySem.W.findIn X.K (.ref C) f = some none) (hb : attributeBase e f X.env (eval e X.env) = eval e X.env := by rfl) : QE X F0 (.Attribute e f pos) (mXf Cs f te) := by
  refine PE.wk (pe_xh T he hb) fun σ H Q ⟨F, ρ, M, R, s, a, rs, q, k⟩ => ?_
  refine ⟨F, ρ, M, _, s, a, rs, q, fun F1 v M1 u H1 s1 a1 r1 q1 => ?_⟩
  split at q1
  · rename_i C ns xs
    obtain ⟨hC, q1⟩ := q1
    obtain ⟨p, d, vs, rfl, h1, h2, hl, h3⟩ := rw_exc r1
    split at q1
    · rename_i y l
      obtain ⟨z, l2, rz⟩ := lookup_fs (zip_fs h3) l
      exact ⟨p, C, d, _, z, rfl, hC, a1.sub _ _ h1, a1.sub _ _ h2, l2, k F1 y M1 z H1 s1 a1 rz q1⟩
    · exact q1.elim
  · exact q1.elim
def mIsX (K : PySem.W.Frag) : MC
  | [.exc C _ _, .ref D], M, R => ∃ b, ExcC K C ∧ PySem.W.kitOne K (.ref C) (.ref D) = some b ∧ R (.bl b) M
  | [.exc C _ _, .ty T], M, R => ∃ b, ExcC K C ∧ PySem.W.kitOne K (.ref C) (.type T) = some b ∧ R (.bl b) M
  | _, _, _ => False
theorem c_isX : QC X (.builtin "isinstance") (mIsX X.K) := by
  refine ⟨_, call_isX, fun F M H ws vs R Q a r h k => ?_⟩
  unfold mIsX at h
  split at h
  · obtain ⟨b, h1, h2, h3⟩ := h
    obtain ⟨v, q, rfl, r1, r2⟩ := RelWs.cons_inv r
    obtain ⟨v', q', rfl, r3, r4⟩ := RelWs.cons_inv r2
    rw [RelWs.nil_inv r4, rw_ref r3]
    obtain ⟨p, d, us, rfl, e1, e2, _, _⟩ := rw_exc r1
    exact ⟨p, _, _, _, _, _, b, rfl, .own _, a.sub _ _ e1, .inr ⟨d, rfl, a.sub _ _ e2⟩, h1, h2, k.here a bl_rw h3⟩
  · obtain ⟨b, h1, h2, h3⟩ := h
    obtain ⟨v, q, rfl, r1, r2⟩ := RelWs.cons_inv r
    obtain ⟨v', q', rfl, r3, r4⟩ := RelWs.cons_inv r2
    rw [RelWs.nil_inv r4, rw_ty r3]
    obtain ⟨p, d, us, rfl, e1, e2, _, _⟩ := rw_exc r1
    exact ⟨p, _, _, _, _, _, b, rfl, .ty _, a.sub _ _ e1, .inr ⟨d, rfl, a.sub _ _ e2⟩, h1, h2, k.here a bl_rw h3⟩
  · exact h.elim
end
end Ri

set_option Elab.async false
set_option linter.all false
set_option maxRecDepth 100000
set_option maxHeartbeats 2000000
namespace Ri
open PySem L2

section
variable {X : Cx} {F0 : Hp}
def mDigit : MM
  | .str a, [], M, R => R (.bl (Txt.isdigit a)) M
  | _, _, _, _ => False
theorem m_isdigit : QM X "str" "str.isdigit" mDigit := by
  refine ⟨_, mt_isdigit, fun F M H w v R Q a r ws vs F' M' H' s a' r' h k => ?_⟩
  unfold mDigit at h
  split at h
  · rw [RelWs.nil_inv r']
    exact ⟨_, rw_str r, rfl, trivial, k F' _ M' _ H' s a' bl_rw h⟩
  · exact h.elim
def mLower : MM
  | .str a, [], M, R => R (.bl (Txt.islower a)) M
  | _, _, _, _ => False
theorem m_islower : QM X "str" "str.islower" mLower := by
  refine ⟨_, mt_islower, fun F M H w v R Q a r ws vs F' M' H' s a' r' h k => ?_⟩
  unfold mLower at h
  split at h
  · rw [RelWs.nil_inv r']
    exact ⟨_, rw_str r, rfl, trivial, k F' _ M' _ H' s a' bl_rw h⟩
  · exact h.elim
/-- a text times a number -/
def mMulS : M2
  | .str z, .int n, M, R => MulOk z n ∧ R (.str (Txt.mul z n)) M
  | _, _, _, _ => False
theorem q_muls : QOp X (binaryOp .Mult) mMulS := by
  have h : OpR X (binaryOp .Mult) (fun x y H Q => ∃ z n, x = .str z ∧ y = .int n ∧ MulOk z n ∧ Q (.str (Txt.mul z n)) H) := by
    intro pins s σ H x y v u Q I rx ry h
    obtain ⟨z, n, rfl, rfl, hok, q⟩ := h
    obtain ⟨t, rfl⟩ := rx
    obtain ⟨t2, rfl⟩ := ry
    exact PySem.SB.mul hok fun t' k => ⟨.str (Txt.mul z n), H, I.tok k, ⟨t', rfl⟩, q⟩
  refine ⟨_, h, fun F M H x y x' y' R Q a rx ry h k => ?_⟩
  unfold mMulS at h
  split at h
  · exact ⟨_, _, rw_str rx, rw_int ry, h.1, k.here a str_rw h.2⟩
  · exact h.elim
/-- two lists put together into one that may change -/
def mAddL : M2 := fun x y M R => match lx M x, lx M y with
  | some i, some j => i.length + j.length ≤ sizeLine ∧ ∀ p, M p = none → R (.ref p) (mu M p (.lst (i ++ j)))
  | _, _ => False
theorem q_addL : QOp X (binaryOp .Add) mAddL := by
  refine ⟨_, op_cat, fun F M H x y x' y' R Q a rx ry h k => ?_⟩
  unfold mAddL at h
  split at h
  · rename_i i j h1 h2
    obtain ⟨p, vs, rfl, e1, r1⟩ := lx_at a rx h1
    obtain ⟨q, us, rfl, e2, r2⟩ := lx_at a ry h2
    refine ⟨p, q, vs, us, rfl, rfl, e1, e2, by rw [← r1.length, ← r2.length]; exact h.1, fun p n => ?_⟩
    exact k.lst a (r1.append r2) n h.2
  · exact h.elim
/-- (a, b, ..) = a list -/
def nLstT (n : Nat) (t : MGs) : MG := fun w ρ M R => match lw M w with | some xs => xs.length = n ∧ t xs ρ M R | none => False
theorem qg_lst {es : List Expr} {k : Nat} {t : MGs} {n : Nat} {pos : Pos} (hc : X.calm = true) (h : QGs X F0 es t)
    (hn : (assignEach es X.env).length = n := by rfl) (hst : (assignEach es X.env).findIdx? (·.1) = none := by rfl) : QG X F0 (.Tuple es k pos) (nLstT n t) := PG.wk (pg_lst hc h hn hst) fun v σ H Q ⟨F, ρ, M, w, R, s, a, rs, r, q, k⟩ => by
  unfold nLstT at q
  split at q
  · rename_i xs e
    obtain ⟨p, vs, rfl, h1, h2⟩ := lw_sq a r e
    exact ⟨p, vs, rfl, h1, by rw [← h2.length]; exact q.1, F, ρ, M, xs, R, s, a, rs, h2, q.2, k⟩
  · exact q.elim
end
end Ri

set_option Elab.async false
set_option linter.all false
set_option maxRecDepth 100000
set_option maxHeartbeats 4000000

namespace Ri
open PySem L2
def topS (i : Nat) : Stmt := PySem.Challenge.pw_mirrorstair_k02_what_is_no_datum.main.body.getD i (.Pass ⟨0, 0, 0, 0⟩)
def inClass (s : Stmt) (j : Nat) : Stmt := match s with | .ClassDef _ _ _ body .. => body.getD j (.Pass ⟨0, 0, 0, 0⟩) | _ => .Pass ⟨0, 0, 0, 0⟩
abbrev s_read_data : Stmt := (topS 21)
abbrev N_read_data : List Str := ["text", "reader", "found"]
theorem sc_read_data : FnScope N_read_data ["text"] (defScope s_read_data) := ⟨rfl, rfl, rfl, by decide +kernel, rfl, by decide +kernel, by decide +kernel⟩
abbrev s_leaf_text : Stmt := (topS 22)
abbrev N_leaf_text : List Str := ["value"]
theorem sc_leaf_text : FnScope N_leaf_text ["value"] (defScope s_leaf_text) := ⟨rfl, rfl, rfl, by decide +kernel, rfl, by decide +kernel, by decide +kernel⟩
abbrev s_data_text : Stmt := (topS 23)
abbrev N_data_text : List Str := ["value", "found", "left", "written", "part", "row", "one"]
theorem sc_data_text : FnScope N_data_text ["value"] (defScope s_data_text) := ⟨rfl, rfl, rfl, by decide +kernel, rfl, by decide +kernel, by decide +kernel⟩
abbrev s__law_mixed : Stmt := (topS 25)
abbrev N__law_mixed : List Str := ["_law_cell", "_law_k", "_law_number"]
theorem sc__law_mixed : FnScope N__law_mixed ["_law_cell", "_law_k"] (defScope s__law_mixed) := ⟨rfl, rfl, rfl, by decide +kernel, rfl, by decide +kernel, by decide +kernel⟩
abbrev s__law_purse : Stmt := (topS 26)
abbrev N__law_purse : List Str := ["_law_cell", "_law_k"]
theorem sc__law_purse : FnScope N__law_purse ["_law_cell", "_law_k"] (defScope s__law_purse) := ⟨rfl, rfl, rfl, by decide +kernel, rfl, by decide +kernel, by decide +kernel⟩
abbrev s__law_take : Stmt := (topS 27)
abbrev N__law_take : List Str := ["_law_purse_here", "_law_steps", "_law_got"]
theorem sc__law_take : FnScope N__law_take ["_law_purse_here", "_law_steps"] (defScope s__law_take) := ⟨rfl, rfl, rfl, by decide +kernel, rfl, by decide +kernel, by decide +kernel⟩
abbrev s__law_at : Stmt := (topS 28)
abbrev N__law_at : List Str := ["_law_script", "_law_k"]
theorem sc__law_at : FnScope N__law_at ["_law_script", "_law_k"] (defScope s__law_at) := ⟨rfl, rfl, rfl, by decide +kernel, rfl, by decide +kernel, by decide +kernel⟩
abbrev s__law_leaf_text : Stmt := (topS 29)
abbrev N__law_leaf_text : List Str := ["_law_item"]
theorem sc__law_leaf_text : FnScope N__law_leaf_text ["_law_item"] (defScope s__law_leaf_text) := ⟨rfl, rfl, rfl, by decide +kernel, rfl, by decide +kernel, by decide +kernel⟩
abbrev s__law_said : Stmt := (topS 30)
abbrev N__law_said : List Str := ["_law_item", "_law_part"]
theorem sc__law_said : FnScope N__law_said ["_law_item"] (defScope s__law_said) := ⟨rfl, rfl, rfl, by decide +kernel, rfl, by decide +kernel, by decide +kernel⟩
abbrev s__law_datum : Stmt := (topS 31)
abbrev N__law_datum : List Str := ["_law_purse_here", "_law_deep", "_law_way", "_law_k"]
theorem sc__law_datum : FnScope N__law_datum ["_law_purse_here", "_law_deep"] (defScope s__law_datum) := ⟨rfl, rfl, rfl, by decide +kernel, rfl, by decide +kernel, by decide +kernel⟩
abbrev s__law_leaf_end : Stmt := (topS 32)
abbrev N__law_leaf_end : List Str := ["_law_line", "_law_at_here", "_law_sign", "_law_start", "_law_first", "_law_end"]
theorem sc__law_leaf_end : FnScope N__law_leaf_end ["_law_line", "_law_at_here"] (defScope s__law_leaf_end) := ⟨rfl, rfl, rfl, by decide +kernel, rfl, by decide +kernel, by decide +kernel⟩
abbrev s__law_wrong_at : Stmt := (topS 33)
abbrev N__law_wrong_at : List Str := ["_law_line", "_law_still", "_law_at_here", "_law_wants", "_law_sign", "_law_wrong"]
theorem sc__law_wrong_at : FnScope N__law_wrong_at ["_law_line"] (defScope s__law_wrong_at) := ⟨rfl, rfl, rfl, by decide +kernel, rfl, by decide +kernel, by decide +kernel⟩
abbrev s__law_bent : Stmt := (topS 34)
abbrev N__law_bent : List Str := ["_law_purse_here", "_law_line", "_law_way", "_law_at_here", "_law_end", "_law_sign"]
theorem sc__law_bent : FnScope N__law_bent ["_law_purse_here", "_law_line"] (defScope s__law_bent) := ⟨rfl, rfl, rfl, by decide +kernel, rfl, by decide +kernel, by decide +kernel⟩
abbrev s__law_alone : Stmt := (topS 35)
abbrev N__law_alone : List Str := ["_law_error", "_law_got"]
theorem sc__law_alone : FnScope N__law_alone ["_law_error"] (defScope s__law_alone) := ⟨rfl, rfl, rfl, by decide +kernel, rfl, by decide +kernel, by decide +kernel⟩
abbrev s__law_right : Stmt := (topS 36)
abbrev N__law_right : List Str := ["_law_line", "_law_error", "_law_told", "caught", "_law_wrong"]
theorem sc__law_right : FnScope N__law_right ["_law_line"] (defScope s__law_right) := ⟨rfl, rfl, rfl, by decide +kernel, rfl, by decide +kernel, by decide +kernel⟩
abbrev s_law : Stmt := (topS 37)
abbrev N_law : List Str := ["_law_script", "_law_cell", "_law_purse_here", "_law_line", "_law_turn", "_law_steps", "_law_rows", "_law_row", "_law_thing"]
theorem sc_law : FnScope N_law ["_law_script"] (defScope s_law) := ⟨rfl, rfl, rfl, by decide +kernel, rfl, by decide +kernel, by decide +kernel⟩
abbrev s_Reader___init__ : Stmt := (inClass (topS 20) 0)
abbrev N_Reader___init__ : List Str := ["self", "text"]
theorem sc_Reader___init__ : FnScope N_Reader___init__ ["self", "text"] (defScope s_Reader___init__) := ⟨rfl, rfl, rfl, by decide +kernel, rfl, by decide +kernel, by decide +kernel⟩
abbrev s_Reader_next_sign : Stmt := (inClass (topS 20) 1)
abbrev N_Reader_next_sign : List Str := ["self"]
theorem sc_Reader_next_sign : FnScope N_Reader_next_sign ["self"] (defScope s_Reader_next_sign) := ⟨rfl, rfl, rfl, by decide +kernel, rfl, by decide +kernel, by decide +kernel⟩
abbrev s_Reader_wants : Stmt := (inClass (topS 20) 2)
abbrev N_Reader_wants : List Str := ["self", "sign"]
theorem sc_Reader_wants : FnScope N_Reader_wants ["self", "sign"] (defScope s_Reader_wants) := ⟨rfl, rfl, rfl, by decide +kernel, rfl, by decide +kernel, by decide +kernel⟩
abbrev s_Reader_row_of : Stmt := (inClass (topS 20) 3)
abbrev N_Reader_row_of : List Str := ["self", "signs", "most", "start"]
theorem sc_Reader_row_of : FnScope N_Reader_row_of ["self", "signs", "most"] (defScope s_Reader_row_of) := ⟨rfl, rfl, rfl, by decide +kernel, rfl, by decide +kernel, by decide +kernel⟩
abbrev s_Reader_a_number : Stmt := (inClass (topS 20) 4)
abbrev N_Reader_a_number : List Str := ["self", "below", "found"]
theorem sc_Reader_a_number : FnScope N_Reader_a_number ["self"] (defScope s_Reader_a_number) := ⟨rfl, rfl, rfl, by decide +kernel, rfl, by decide +kernel, by decide +kernel⟩
abbrev s_Reader_a_leaf : Stmt := (inClass (topS 20) 5)
abbrev N_Reader_a_leaf : List Str := ["self", "word"]
theorem sc_Reader_a_leaf : FnScope N_Reader_a_leaf ["self"] (defScope s_Reader_a_leaf) := ⟨rfl, rfl, rfl, by decide +kernel, rfl, by decide +kernel, by decide +kernel⟩
abbrev s_Reader_a_datum : Stmt := (inClass (topS 20) 6)
abbrev N_Reader_a_datum : List Str := ["self", "still", "found"]
theorem sc_Reader_a_datum : FnScope N_Reader_a_datum ["self"] (defScope s_Reader_a_datum) := ⟨rfl, rfl, rfl, by decide +kernel, rfl, by decide +kernel, by decide +kernel⟩
abbrev s_BadText___init__ : Stmt := (inClass (topS 6) 0)
abbrev N_BadText___init__ : List Str := ["self", "at"]
theorem sc_BadText___init__ : FnScope N_BadText___init__ ["self", "at"] (defScope s_BadText___init__) := ⟨rfl, rfl, rfl, by decide +kernel, rfl, by decide +kernel, by decide +kernel⟩
abbrev w_TRUTHS : List (Str × W) := [("yes", .bl true), ("no", .bl false)]
structure KwB (K : PySem.W.Frag) (fd : FuncData) (ps : List Str) : Prop where
  go : ∀ (s : Shared) (ws : List Value), K.In s.heap → ws.length = ps.length → BindsTo s fd ⟨[], ps.zip ws⟩ (ps.zip ws)
theorem vals_strs {K : PySem.W.Frag} {F : Hp} : ∀ {xs : List Str} {us : List Value}, Vals (xs.map V.str) us → RelWs K F (xs.map W.str) (xs.map V.str)
  | [], _, _ => .nil
  | x :: xs, us, h => by
    cases h with
    | cons h1 h2 => exact .cons str_rw (vals_strs h2)
theorem kt_strs {K : PySem.W.Frag} {F : Hp} {D : Addr} {o : Obj} {its : Array Value} {n : Nat} {xs : List Str} (l : K.lookup D = some o) (hc : o.cls = .type "tuple") (hd : o.data = .seq its n) (_ : True = True) (hs : its.size ≤ sizeLine) (hv : Vals (xs.map V.str) its.toList) : RelW K F (.tup (xs.map W.str)) (.ref D) := by
  simp only [RelW]
  exact ⟨D, _, rfl, .inr ⟨o, its, n, l, hc, hd, hs, hv⟩, vals_strs hv⟩

structure Tx (P : Program) (w : World) (K : PySem.W.Frag) (mg : Str → Option Value) (base : Heap) where
  A_read_data : Addr
  m_read_data : mg "read_data" = some (.ref A_read_data)
  F_read_data : ∃ fd, Fun K "read_data" "read_data" s_read_data A_read_data fd ∧ Binds K fd ["text"] [] ∧ True
  A_leaf_text : Addr
  m_leaf_text : mg "leaf_text" = some (.ref A_leaf_text)
  F_leaf_text : ∃ fd, Fun K "leaf_text" "leaf_text" s_leaf_text A_leaf_text fd ∧ Binds K fd ["value"] [] ∧ True
  A_data_text : Addr
  m_data_text : mg "data_text" = some (.ref A_data_text)
  F_data_text : ∃ fd, Fun K "data_text" "data_text" s_data_text A_data_text fd ∧ Binds K fd ["value"] [] ∧ True
  A__law_mixed : Addr
  m__law_mixed : mg "_law_mixed" = some (.ref A__law_mixed)
  F__law_mixed : ∃ fd, Fun K "_law_mixed" "_law_mixed" s__law_mixed A__law_mixed fd ∧ Binds K fd ["_law_cell", "_law_k"] [] ∧ True
  A__law_purse : Addr
  m__law_purse : mg "_law_purse" = some (.ref A__law_purse)
  F__law_purse : ∃ fd, Fun K "_law_purse" "_law_purse" s__law_purse A__law_purse fd ∧ Binds K fd ["_law_cell", "_law_k"] [] ∧ True
  A__law_take : Addr
  m__law_take : mg "_law_take" = some (.ref A__law_take)
  F__law_take : ∃ fd, Fun K "_law_take" "_law_take" s__law_take A__law_take fd ∧ Binds K fd ["_law_purse_here", "_law_steps"] [] ∧ True
  A__law_at : Addr
  m__law_at : mg "_law_at" = some (.ref A__law_at)
  F__law_at : ∃ fd, Fun K "_law_at" "_law_at" s__law_at A__law_at fd ∧ Binds K fd ["_law_script", "_law_k"] [] ∧ True
  A__law_leaf_text : Addr
  m__law_leaf_text : mg "_law_leaf_text" = some (.ref A__law_leaf_text)
  F__law_leaf_text : ∃ fd, Fun K "_law_leaf_text" "_law_leaf_text" s__law_leaf_text A__law_leaf_text fd ∧ Binds K fd ["_law_item"] [] ∧ True
  A__law_said : Addr
  m__law_said : mg "_law_said" = some (.ref A__law_said)
  F__law_said : ∃ fd, Fun K "_law_said" "_law_said" s__law_said A__law_said fd ∧ Binds K fd ["_law_item"] [] ∧ True
  A__law_datum : Addr
  m__law_datum : mg "_law_datum" = some (.ref A__law_datum)
  F__law_datum : ∃ fd, Fun K "_law_datum" "_law_datum" s__law_datum A__law_datum fd ∧ Binds K fd ["_law_purse_here", "_law_deep"] [] ∧ True
  A__law_leaf_end : Addr
  m__law_leaf_end : mg "_law_leaf_end" = some (.ref A__law_leaf_end)
  F__law_leaf_end : ∃ fd, Fun K "_law_leaf_end" "_law_leaf_end" s__law_leaf_end A__law_leaf_end fd ∧ Binds K fd ["_law_line", "_law_at_here"] [] ∧ True
  A__law_wrong_at : Addr
  m__law_wrong_at : mg "_law_wrong_at" = some (.ref A__law_wrong_at)
  F__law_wrong_at : ∃ fd, Fun K "_law_wrong_at" "_law_wrong_at" s__law_wrong_at A__law_wrong_at fd ∧ Binds K fd ["_law_line"] [] ∧ True
  A__law_bent : Addr
  m__law_bent : mg "_law_bent" = some (.ref A__law_bent)
  F__law_bent : ∃ fd, Fun K "_law_bent" "_law_bent" s__law_bent A__law_bent fd ∧ Binds K fd ["_law_purse_here", "_law_line"] [] ∧ True
  A__law_alone : Addr
  m__law_alone : mg "_law_alone" = some (.ref A__law_alone)
  F__law_alone : ∃ fd, Fun K "_law_alone" "_law_alone" s__law_alone A__law_alone fd ∧ Binds K fd ["_law_error"] [] ∧ True
  A__law_right : Addr
  m__law_right : mg "_law_right" = some (.ref A__law_right)
  F__law_right : ∃ fd, Fun K "_law_right" "_law_right" s__law_right A__law_right fd ∧ Binds K fd ["_law_line"] [] ∧ True
  A_law : Addr
  m_law : mg "law" = some (.ref A_law)
  F_law : ∃ fd, Fun K "law" "law" s_law A_law fd ∧ Binds K fd ["_law_script"] [] ∧ True
  C_Function : Addr
  c_Function : mg "Function" = some (.ref C_Function)
  cl_Function : Cls K C_Function
  fl_Function_words : Fld K C_Function "words"
  C_BuiltIn : Addr
  c_BuiltIn : mg "BuiltIn" = some (.ref C_BuiltIn)
  cl_BuiltIn : Cls K C_BuiltIn
  fl_BuiltIn_word : Fld K C_BuiltIn "word"
  C_Reader : Addr
  c_Reader : mg "Reader" = some (.ref C_Reader)
  cl_Reader : Cls K C_Reader
  fl_Reader_signs : Fld K C_Reader "signs"
  fl_Reader_at : Fld K C_Reader "at"
  A_Reader___init__ : Addr
  F_Reader___init__ : ∃ fd, Fun K "__init__" "Reader.__init__" s_Reader___init__ A_Reader___init__ fd ∧ Binds K fd ["self", "text"] [] ∧ True
  mk_Reader : Mk K C_Reader A_Reader___init__
  A_Reader_next_sign : Addr
  F_Reader_next_sign : ∃ fd, Fun K "next_sign" "Reader.next_sign" s_Reader_next_sign A_Reader_next_sign fd ∧ Binds K fd ["self"] [] ∧ True
  mt_Reader_next_sign : Meth K C_Reader "next_sign" A_Reader_next_sign
  A_Reader_wants : Addr
  F_Reader_wants : ∃ fd, Fun K "wants" "Reader.wants" s_Reader_wants A_Reader_wants fd ∧ Binds K fd ["self", "sign"] [] ∧ True
  mt_Reader_wants : Meth K C_Reader "wants" A_Reader_wants
  A_Reader_row_of : Addr
  F_Reader_row_of : ∃ fd, Fun K "row_of" "Reader.row_of" s_Reader_row_of A_Reader_row_of fd ∧ Binds K fd ["self", "signs", "most"] [] ∧ True
  mt_Reader_row_of : Meth K C_Reader "row_of" A_Reader_row_of
  A_Reader_a_number : Addr
  F_Reader_a_number : ∃ fd, Fun K "a_number" "Reader.a_number" s_Reader_a_number A_Reader_a_number fd ∧ Binds K fd ["self"] [] ∧ True
  mt_Reader_a_number : Meth K C_Reader "a_number" A_Reader_a_number
  A_Reader_a_leaf : Addr
  F_Reader_a_leaf : ∃ fd, Fun K "a_leaf" "Reader.a_leaf" s_Reader_a_leaf A_Reader_a_leaf fd ∧ Binds K fd ["self"] [] ∧ True
  mt_Reader_a_leaf : Meth K C_Reader "a_leaf" A_Reader_a_leaf
  A_Reader_a_datum : Addr
  F_Reader_a_datum : ∃ fd, Fun K "a_datum" "Reader.a_datum" s_Reader_a_datum A_Reader_a_datum fd ∧ Binds K fd ["self"] [] ∧ True
  mt_Reader_a_datum : Meth K C_Reader "a_datum" A_Reader_a_datum
  C_BadText : Addr
  c_BadText : mg "BadText" = some (.ref C_BadText)
  x_BadText : XC P w K mg base C_BadText "at"
  z_ValueError : mg "ValueError" = none
  z_bool : mg "bool" = none
  z_int : mg "int" = none
  z_isinstance : mg "isinstance" = none
  z_len : mg "len" = none
  z_list : mg "list" = none
  z_min : mg "min" = none
  z_range : mg "range" = none
  z_str : mg "str" = none
  z_tuple : mg "tuple" = none
  t_FIGURES : Tok
  g_FIGURES : mg "FIGURES" = some (.str "0123456789" t_FIGURES)
  t_LETTERS : Tok
  g_LETTERS : mg "LETTERS" = some (.str "abcdefghijklmnopqrstuvwxyz" t_LETTERS)
  t_MOST_FIGURES : Tok
  g_MOST_FIGURES : mg "MOST_FIGURES" = some (.int 40 t_MOST_FIGURES)
  t_MOST_LETTERS : Tok
  g_MOST_LETTERS : mg "MOST_LETTERS" = some (.int 12 t_MOST_LETTERS)
  D_TRUTHS : Addr
  g_TRUTHS : mg "TRUTHS" = some (.ref D_TRUTHS)
  k_TRUTHS : KD K w D_TRUTHS w_TRUTHS
  C_Fault : Addr
  c_Fault : mg "Fault" = some (.ref C_Fault)
  C_NoBack : Addr
  c_NoBack : mg "NoBack" = some (.ref C_NoBack)
  C_NoKind : Addr
  c_NoKind : mg "NoKind" = some (.ref C_NoKind)
  C_NoLevel : Addr
  c_NoLevel : mg "NoLevel" = some (.ref C_NoLevel)
  C_NoLine : Addr
  c_NoLine : mg "NoLine" = some (.ref C_NoLine)
  C_NoName : Addr
  c_NoName : mg "NoName" = some (.ref C_NoName)
  C_TooHigh : Addr
  c_TooHigh : mg "TooHigh" = some (.ref C_TooHigh)
  C_TooLong : Addr
  c_TooLong : mg "TooLong" = some (.ref C_TooLong)
  C_StairError : Addr
  c_StairError : mg "StairError" = some (.ref C_StairError)
  e_BadText : ExcC K C_BadText
  f_BadText : XfC K C_BadText ∧ PySem.W.findIn K (.ref C_BadText) "at" = some none
  q_Fault : PySem.W.kitOne K (.ref C_BadText) (.ref C_Fault) = some false
  q_NoBack : PySem.W.kitOne K (.ref C_BadText) (.ref C_NoBack) = some false
  q_NoKind : PySem.W.kitOne K (.ref C_BadText) (.ref C_NoKind) = some false
  q_NoLevel : PySem.W.kitOne K (.ref C_BadText) (.ref C_NoLevel) = some false
  q_NoLine : PySem.W.kitOne K (.ref C_BadText) (.ref C_NoLine) = some false
  q_NoName : PySem.W.kitOne K (.ref C_BadText) (.ref C_NoName) = some false
  q_TooHigh : PySem.W.kitOne K (.ref C_BadText) (.ref C_TooHigh) = some false
  q_TooLong : PySem.W.kitOne K (.ref C_BadText) (.ref C_TooLong) = some false
  q_BadText : PySem.W.kitOne K (.ref C_BadText) (.ref C_BadText) = some true
  q_ValueError : PySem.W.kitOne K (.ref C_BadText) (.type "ValueError") = some true
  h_StairError : PySem.W.exmOne K (.ref C_BadText) (.ref C_StairError) = some true
  i_bool_Function : PySem.W.kitOne K (.type "bool") (.ref C_Function) = some false
  i_int_Function : PySem.W.kitOne K (.type "int") (.ref C_Function) = some false
  i_str_Function : PySem.W.kitOne K (.type "str") (.ref C_Function) = some false
  i_bool_BuiltIn : PySem.W.kitOne K (.type "bool") (.ref C_BuiltIn) = some false
  i_int_BuiltIn : PySem.W.kitOne K (.type "int") (.ref C_BuiltIn) = some false
  i_str_BuiltIn : PySem.W.kitOne K (.type "str") (.ref C_BuiltIn) = some false
end Ri
set_option Elab.async false
set_option linter.all false
set_option maxRecDepth 100000
set_option maxHeartbeats 4000000
namespace Ri
open PySem L2

/-! ### texts and data -/
abbrev tls (x : Str) : List Nat := x.cps.toList
def mkS (x : List Nat) : Str := ⟨x.toArray⟩
theorem str_ext {x y : Str} (h : tls x = tls y) : x = y := TL.ext_tl h
theorem tls_mk (x : List Nat) : tls (mkS x) = x := rfl
theorem mk_tls (x : Str) : mkS (tls x) = x := str_ext rfl
theorem tls_app (x y : Str) : tls (x ++ y) = tls x ++ tls y := TL.tl_append x y
theorem len_tls (x : Str) : x.length = (tls x).length := TL.len_tl x
def hd1 : List Nat → Str
  | [] => mkS []
  | c :: _ => mkS [c]
theorem cut_next {z : Str} {n : Nat} : cutS z (some (n : Int)) (some ((n : Int) + 1)) = hd1 ((tls z).drop n) := by
  refine str_ext ?_
  unfold cutS
  have e : ((n : Int) + 1) = ((n + 1 : Nat) : Int) := by push_cast; rfl
  rw [e, HT.sIx_nat, HT.sIx_nat]
  show ((tls z).drop (min n z.length)).take (min (n + 1) z.length - min n z.length) = tls (hd1 ((tls z).drop n))
  rw [len_tls]
  by_cases h : n < (tls z).length
  · rw [Nat.min_eq_left (by omega), Nat.min_eq_left (by omega), show n + 1 - n = 1 by omega, List.drop_eq_getElem_cons h]
    rfl
  · rw [List.drop_eq_nil_of_le (Nat.le_of_not_lt h), Nat.min_eq_right (by omega), Nat.min_eq_right (by omega), Nat.sub_self]
    rfl
theorem cut_row {z : Str} {n : Nat} {x r : List Nat} (h : (tls z).drop n = x ++ r) : cutS z (some (n : Int)) (some ((n + x.length : Nat) : Int)) = mkS x := by
  refine str_ext ?_
  unfold cutS
  rw [HT.sIx_nat, HT.sIx_nat]
  show ((tls z).drop (min n z.length)).take (min (n + x.length) z.length - min n z.length) = x
  have hl : (tls z).length - n = x.length + r.length := by rw [← List.length_drop, h, List.length_append]
  rw [len_tls]
  by_cases hx : x = []
  · subst hx
    simp
  · have : 0 < x.length := List.length_pos_iff.mpr hx
    rw [Nat.min_eq_left (by omega), Nat.min_eq_left (by omega), show n + x.length - n = x.length by omega, h]
    simp
theorem in_one {c : Nat} {x : Str} : inStr (mkS [c]) x = decide (c ∈ tls x) := StrLaws.found_one x c

/-! ### leaves -/
def digs (x : List Nat) : Bool := !x.isEmpty && x.all (fun c => decide (48 ≤ c) && decide (c ≤ 57)) && decide (x.length ≤ 40) && (x.head? != some 48)
def numOk (x : List Nat) (i : Int) : Bool := (x == [48] && i == 0) || (digs x && PySem.intText? (mkS x) == some i) || (match x with | 45 :: ds => digs ds && PySem.intText? (mkS ds) == some (-i) | _ => false)
def wordOk (x : List Nat) : Bool := !x.isEmpty && x.all (fun c => decide (97 ≤ c) && decide (c ≤ 122)) && decide (x.length ≤ 12)
def yesT : List Nat := [121, 101, 115]
def noT : List Nat := [110, 111]
def leafOk (x : List Nat) : W → Bool
  | .bl true => x == yesT
  | .bl false => x == noT
  | .int i => numOk x i && (tls (toString i) == x) && decide (i.natAbs.log2 < 1920)
  | .str s => wordOk x && (tls s == x) && x != yesT && x != noT
  | _ => false
inductive D where
  | lf (x : List Nat) (w : W)
  | t (xs : List D)
mutual
def txt : D → List Nat
  | .lf x _ => x
  | .t xs => 40 :: ((sibs xs).drop 1 ++ [41])
def sibs : List D → List Nat
  | [] => []
  | d :: r => 32 :: (txt d ++ sibs r)
end
mutual
def wD : D → W
  | .lf _ w => w
  | .t xs => .tup (wDs xs)
def wDs : List D → List W
  | [] => []
  | d :: r => wD d :: wDs r
end
mutual
def okD : D → Prop
  | .lf x w => leafOk x w = true
  | .t xs => okDs xs
def okDs : List D → Prop
  | [] => True
  | d :: r => okD d ∧ okDs r
end
mutual
def dp : D → Nat
  | .lf _ _ => 0
  | .t xs => dps xs + 1
def dps : List D → Nat
  | [] => 0
  | d :: r => max (dp d) (dps r)
end
theorem wDs_map : ∀ xs : List D, wDs xs = xs.map wD
  | [] => by simp only [wDs, List.map_nil]
  | d :: r => by simp only [wDs, List.map_cons, wDs_map r]
theorem okDs_mem : ∀ {xs : List D}, okDs xs ↔ ∀ d ∈ xs, okD d
  | [] => by simp [okDs]
  | d :: r => by simp [okDs, okDs_mem (xs := r)]
theorem dps_le : ∀ {xs : List D} {n : Nat}, dps xs ≤ n ↔ ∀ d ∈ xs, dp d ≤ n
  | [], n => by simp [dps]
  | d :: r, n => by simp [dps, Nat.max_le, dps_le (xs := r)]
theorem okD_t {xs : List D} : okD (.t xs) ↔ ∀ d ∈ xs, okD d := by
  simp only [okD]; exact okDs_mem
theorem wD_t {xs : List D} : wD (.t xs) = .tup (xs.map wD) := by simp only [wD, wDs_map]
theorem txt_nil : txt (.t []) = [40, 41] := by simp [txt, sibs]
theorem txt_cons {d : D} {r : List D} : txt (.t (d :: r)) = 40 :: (txt d ++ (sibs r ++ [41])) := by simp [txt, sibs]
/-- what a leaf is like -/
theorem leaf_cases {x : List Nat} {w : W} (h : leafOk x w = true) : (∃ b, w = .bl b ∧ x = if b then yesT else noT) ∨ (∃ i, w = .int i ∧ numOk x i = true ∧ tls (toString i) = x ∧ i.natAbs.log2 < 1920) ∨ (∃ s, w = .str s ∧ wordOk x = true ∧ tls s = x ∧ x ≠ yesT ∧ x ≠ noT) := by
  cases w with
  | bl b =>
    cases b with
    | true => exact .inl ⟨true, rfl, by simpa [leafOk] using h⟩
    | false => exact .inl ⟨false, rfl, by simpa [leafOk] using h⟩
  | int i =>
    simp only [leafOk, Bool.and_eq_true, beq_iff_eq, decide_eq_true_eq] at h
    exact .inr (.inl ⟨i, rfl, h.1.1, h.1.2, h.2⟩)
  | str s =>
    simp only [leafOk, Bool.and_eq_true, beq_iff_eq, bne_iff_ne] at h
    exact .inr (.inr ⟨s, rfl, h.1.1.1, h.1.1.2, h.1.2, h.2⟩)
  | _ => simp [leafOk] at h
def stopL : List Nat → Prop
  | [] => True
  | c :: _ => c = 32 ∨ c = 41
/-! ### reading on: the leaf at the head of a text -/
def digP (c : Nat) : Bool := decide (48 ≤ c) && decide (c ≤ 57)
def lowP (c : Nat) : Bool := decide (97 ≤ c) && decide (c ≤ 122)
def run (p : Nat → Bool) : Nat → List Nat → List Nat
  | 0, _ => []
  | _ + 1, [] => []
  | n + 1, c :: r => if p c = true then c :: run p n r else []
theorem run_split (p : Nat → Bool) : ∀ (n : Nat) (l : List Nat), ∃ r, l = run p n l ++ r ∧ (run p n l).length ≤ n ∧ (∀ c ∈ run p n l, p c = true) ∧ ((run p n l).length = n ∨ ∀ c, r.head? = some c → p c = false)
  | 0, l => ⟨l, by simp [run], by simp [run], by simp [run], .inl rfl⟩
  | n + 1, [] => ⟨[], rfl, by simp [run], by simp [run], .inr fun c h => by cases h⟩
  | n + 1, c :: l => by
    by_cases h : p c = true
    · obtain ⟨r, h1, h2, h3, h4⟩ := run_split p n l
      have e : run p (n + 1) (c :: l) = c :: run p n l := by rw [run, if_pos h]
      rw [e]
      refine ⟨r, by rw [List.cons_append, ← h1], by simpa using h2, ?_, ?_⟩
      · intro x hx
        rcases List.mem_cons.mp hx with rfl | hx
        · exact h
        · exact h3 x hx
      · rcases h4 with h4 | h4
        · exact .inl (by simp [h4])
        · exact .inr h4
    · have e : run p (n + 1) (c :: l) = [] := by rw [run, if_neg h]
      rw [e]
      exact ⟨c :: l, rfl, Nat.zero_le _, by simp, .inr fun x hx => by
        simp only [List.head?_cons, Option.some.injEq] at hx
        subst hx
        simpa using h⟩
def dval (x : List Nat) : Int := ((NumText.digitsVal x : Nat) : Int)
def numR : List Nat → (Int × Nat) ⊕ Nat
  | 45 :: 48 :: _ => .inr 1
  | 45 :: r => if (run digP 40 r).isEmpty then .inr 1 else .inl (-(dval (run digP 40 r)), 1 + (run digP 40 r).length)
  | 48 :: _ => .inl (0, 1)
  | l => if (run digP 40 l).isEmpty then .inr 0 else .inl (dval (run digP 40 l), (run digP 40 l).length)
def numHead : List Nat → Bool
  | c :: _ => c == 45 || digP c
  | [] => false
/-- the leaf that is read: its text, its value; or how far its signs go -/
def leafR (l : List Nat) : (List Nat × W) ⊕ Nat :=
  if numHead l then (match numR l with | .inl (i, k) => .inl (l.take k, .int i) | .inr k => .inr k)
  else if (run lowP 12 l).isEmpty then .inr 0 else .inl (run lowP 12 l, (List.lookup (mkS (run lowP 12 l)) w_TRUTHS).getD (.str (mkS (run lowP 12 l))))
end Ri

set_option Elab.async false
set_option linter.all false
set_option maxRecDepth 100000
set_option maxHeartbeats 4000000

namespace Ri
open PySem L2 PySem.Calls PyProof.Rows

/-! ### the __init__ of BadText -/
theorem okI_BadText {P : Program} {w : World} {K : PySem.W.Frag} {mg : Str → Option Value} {base : Heap} {f C : Addr} {fd : FuncData} (F : Fun K "__init__" "BadText.__init__" s_BadText___init__ f fd) (X : OexC K C) (hn : PySem.W.findIn K (.ref C) "at" = some none) :
    FnOk P w K mg base (L2.CX P w) 1 f fd ["self", "at"] (spInit C "at") := by
  refine F.okX sc_BadText___init__ (fun vs H Q E h => ?_) (fun cdv A outer s H vs Q E hr h => ⟨_, pss_one (ps_ost (pv 0) (pv 1)), ?_⟩)
  · obtain ⟨a, y, rfl, _⟩ := h
    rfl
  · obtain ⟨a, y, rfl, h1, q⟩ := h
    exact ⟨y, rfl, .ref a, rfl, a, C, rfl, X, hn, .inl ⟨h1, fun dx n ne => q dx n ne⟩⟩


variable {P : Program} {w : World} {K : PySem.W.Frag} {mg : Str → Option Value} {base : Heap}
def rdF (z : Str) (i : Int) : List (Str × W) := [("signs", .str z), ("at", .int i)]
def rd (T : Tx P w K mg base) (z : Str) (n : Nat) : MO := .ins T.C_Reader (rdF z n)
def sp_Reader___init__ (T : Tx P w K mg base) : MSp := fun ws M R _ => ∃ p z, ws = [.ref p, .str z] ∧ M p = some (.ins T.C_Reader []) ∧ R .non (mu M p (rd T z 0))
def sp_Reader_next_sign (T : Tx P w K mg base) : MSp := fun ws M R _ => ∃ p z n, ws = [.ref p] ∧ M p = some (rd T z n) ∧ z.length ≤ sizeLine ∧ R (.str (hd1 ((tls z).drop n))) M
def rxAt (T : Tx P w K mg base) (RX : MXQ) (k : Nat) (M : MH) : Prop := RX T.C_BadText [("at", .int (k : Int))] M
def sp_Reader_wants (T : Tx P w K mg base) : MSp := fun ws M R RX => ∃ p z n c, ws = [.ref p, .str (mkS [c])] ∧ M p = some (rd T z n) ∧ z.length ≤ sizeLine ∧ (((tls z).drop n).head? = some c → R .non (mu M p (rd T z (n + 1)))) ∧ (((tls z).drop n).head? ≠ some c → rxAt T RX n M)
theorem cls_rd {T : Tx P w K mg base} {M : MH} {p : Addr} {z : Str} {n : Nat} (h : M p = some (rd T z n)) : clsW M (.ref p) = some T.C_Reader := by simp only [clsW, h, rd]
theorem at_rd {T : Tx P w K mg base} {M : MH} {p : Addr} {z : Str} {n : Nat} (h : M p = some (rd T z n)) : fldW M "at" (.ref p) = some (.int (n : Int)) := by simp only [fldW, h, rd]; rfl
theorem signs_rd {T : Tx P w K mg base} {M : MH} {p : Addr} {z : Str} {n : Nat} (h : M p = some (rd T z n)) : fldW M "signs" (.ref p) = some (.str z) := by simp only [fldW, h, rd]; rfl
theorem put_rd {z : Str} {i j : Int} : putW "at" (.int j) (rdF z i) = rdF z j := by rfl
theorem put_rd0 {z : Str} : putW "at" (.int 0) (putW "signs" (.str z) ([] : List (Str × W))) = rdF z ((0 : Nat) : Int) := by rfl
theorem lk_at {z : Str} {i : Int} : List.lookup ("at" : Str) (rdF z i) = some (.int i) := by rfl
theorem len_rd {z : Str} {i : Int} : (rdF z i).length = 2 := rfl
theorem lk_s {z : Str} {i : Int} : List.lookup ("signs" : Str) (rdF z i) = some (.str z) := by rfl
theorem lk_1 {z : Str} {i : Int} : List.lookup ("next_sign" : Str) (rdF z i) = none := by rfl
theorem lk_2 {z : Str} {i : Int} : List.lookup ("wants" : Str) (rdF z i) = none := by rfl
theorem lk_3 {z : Str} {i : Int} : List.lookup ("row_of" : Str) (rdF z i) = none := by rfl
theorem lk_4 {z : Str} {i : Int} : List.lookup ("a_number" : Str) (rdF z i) = none := by rfl
theorem lk_5 {z : Str} {i : Int} : List.lookup ("a_leaf" : Str) (rdF z i) = none := by rfl
theorem lk_6 {z : Str} {i : Int} : List.lookup ("a_datum" : Str) (rdF z i) = none := by rfl
theorem add_ii {i j : Int} {M : MH} {R : MQ} : mAdd (.int i) (.int j) M R = R (.int (i + j)) M := rfl
theorem add_ss {i j : Str} {M : MH} {R : MQ} : mAdd (.str i) (.str j) M R = (i.length + j.length ≤ sizeLine ∧ R (.str (i ++ j)) M) := rfl
theorem add_tt {i j : List W} {M : MH} {R : MQ} : mAdd (.tup i) (.tup j) M R = (i.length + j.length ≤ sizeLine ∧ R (.tup (i ++ j)) M) := rfl
theorem add_ff {i j : List W} {M : MH} {R : MQ} : mAdd (.fl i) (.fl j) M R = (i.length + j.length ≤ sizeLine ∧ R (.fl (i ++ j)) M) := rfl
theorem sub_ii {i j : Int} {M : MH} {R : MQ} : mSub (.int i) (.int j) M R = R (.int (i - j)) M := rfl
theorem mul_ii {i j : Int} {M : MH} {R : MQ} : mMul (.int i) (.int j) M R = (CMulW i j ∧ R (.int (i * j)) M) := rfl
theorem div_ii {i j : Int} {M : MH} {R : MQ} : mDiv (.int i) (.int j) M R = (CDivW i j ∧ R (.int (i / j)) M) := rfl
theorem mod_ii {i j : Int} {M : MH} {R : MQ} : mMod (.int i) (.int j) M R = (0 < j ∧ R (.int (i % j)) M) := rfl
theorem pow_ii {i j : Int} {M : MH} {R : MQ} : mPow (.int i) (.int j) M R = (0 ≤ j ∧ (Builtin.Int.intBits i : Int) * j ≤ 2 ^ 27 ∧ R (.int (i ^ j.toNat)) M) := rfl
theorem neg_i {i : Int} {M : MH} {R : MQ} : mNeg (.int i) M R = R (.int (-i)) M := rfl
theorem lt_ii {i j : Int} {M : MH} {R : MQ} : mLt (.int i) (.int j) M R = R (.bl (decide (i < j))) M := rfl
theorem le_ii {i j : Int} {M : MH} {R : MQ} : mLe (.int i) (.int j) M R = R (.bl (decide (i ≤ j))) M := rfl
theorem gt_ii {i j : Int} {M : MH} {R : MQ} : mGt (.int i) (.int j) M R = R (.bl (decide (j < i))) M := rfl
theorem ge_ii {i j : Int} {M : MH} {R : MQ} : mGe (.int i) (.int j) M R = R (.bl (decide (j ≤ i))) M := rfl
theorem eq_ii {i j : Int} {M : MH} {R : MQ} : mEq (.int i) (.int j) M R = R (.bl (decide (i = j))) M := rfl
theorem eq_ss {i j : Str} {M : MH} {R : MQ} : mEq (.str i) (.str j) M R = R (.bl (decide (i = j))) M := rfl
theorem eq_bb {i j : Bool} {M : MH} {R : MQ} : mEq (.bl i) (.bl j) M R = R (.bl (decide (i = j))) M := rfl
theorem ne_ii {i j : Int} {M : MH} {R : MQ} : mNe (.int i) (.int j) M R = R (.bl (!decide (i = j))) M := rfl
theorem ne_ss {i j : Str} {M : MH} {R : MQ} : mNe (.str i) (.str j) M R = R (.bl (!decide (i = j))) M := rfl
theorem in_ss {i j : Str} {M : MH} {R : MQ} : mIn false (.str i) (.str j) M R = R (.bl (inStr i j)) M := rfl
theorem int_i {i : Int} {M : MH} {R : MQ} : mInt [.int i] M R = R (.int i) M := rfl
theorem int_b {i : Bool} {M : MH} {R : MQ} : mInt [.bl i] M R = R (.int (if i then 1 else 0)) M := rfl
theorem int_s {z : Str} {M : MH} {R : MQ} : mInt [.str z] M R = (z.length ≤ 640 ∧ match PySem.intText? z with | some n => R (.int n) M | none => False) := rfl
theorem cut_s {z : Str} {lo hi : Option Int} {M : MH} {R : MQ} : mCut (.str z) lo hi M R = (z.length ≤ sizeLine ∧ R (.str (cutS z lo hi)) M) := rfl
theorem len_s {z : Str} {M : MH} {R : MQ} : mLen [.str z] M R = (z.length ≤ sizeLine ∧ R (.int z.length) M) := rfl
theorem len_t {z : List W} {M : MH} {R : MQ} : mLen [.tup z] M R = R (.int z.length) M := rfl
theorem len_f {z : List W} {M : MH} {R : MQ} : mLen [.fl z] M R = R (.int z.length) M := rfl
theorem len_sc {z : List W} {M : MH} {R : MQ} : mLen [.sc z] M R = R (.int z.length) M := rfl
theorem str_i {i : Int} {M : MH} {R : MQ} : mStr [.int i] M R = (i.natAbs.log2 < 1920 ∧ R (.str (toString i)) M) := rfl
theorem str_s {i : Str} {M : MH} {R : MQ} : mStr [.str i] M R = R (.str i) M := rfl
theorem tupof_f {i : List W} {M : MH} {R : MQ} : mTupOf [.fl i] M R = R (.tup i) M := rfl
theorem str_eq {a b : List Nat} : decide (mkS a = mkS b) = decide (a = b) := by
  have : (mkS a = mkS b) ↔ a = b := ⟨fun h => by have := congrArg tls h; simpa [tls_mk] using this, fun h => by rw [h]⟩
  exact decide_eq_decide.mpr this
theorem hd_eq {l : List Nat} {b : Nat} : decide (hd1 l = mkS [b]) = (l.head? == some b) := by
  cases l with
  | nil => rw [hd1, str_eq]; rfl
  | cons c r =>
    rw [hd1, str_eq]
    simp only [List.head?_cons]
    by_cases h : c = b
    · subst h; simp
    · simp [h]
theorem hd_nil {l : List Nat} : decide (hd1 l = mkS []) = l.isEmpty := by
  cases l with
  | nil => rw [hd1, str_eq]; rfl
  | cons c r => rw [hd1, str_eq]; rfl
theorem lit_e : (Str.ofString "") = mkS [] := rfl
theorem lit_d : (Str.ofString "-") = mkS [45] := rfl
theorem lit_0 : (Str.ofString "0") = mkS [48] := rfl
theorem lit_o : (Str.ofString "(") = mkS [40] := rfl
theorem lit_c : (Str.ofString ")") = mkS [41] := rfl
theorem lit_s : (Str.ofString " ") = mkS [32] := rfl
theorem hd_e {l : List Nat} : decide (hd1 l = Str.ofString "") = l.isEmpty := hd_nil
theorem hd_d {l : List Nat} : decide (hd1 l = Str.ofString "-") = (l.head? == some 45) := hd_eq
theorem hd_0 {l : List Nat} : decide (hd1 l = Str.ofString "0") = (l.head? == some 48) := hd_eq
theorem hd_o {l : List Nat} : decide (hd1 l = Str.ofString "(") = (l.head? == some 40) := hd_eq
theorem hd_c {l : List Nat} : decide (hd1 l = Str.ofString ")") = (l.head? == some 41) := hd_eq
theorem hd_s {l : List Nat} : decide (hd1 l = Str.ofString " ") = (l.head? == some 32) := hd_eq
theorem hd_in {c : Nat} {r : List Nat} {sg : Str} : inStr (hd1 (c :: r)) sg = decide (c ∈ tls sg) := in_one
theorem lit_fig : tls (Str.ofString "0123456789") = [48, 49, 50, 51, 52, 53, 54, 55, 56, 57] := rfl
theorem lit_let : tls (Str.ofString "abcdefghijklmnopqrstuvwxyz") = [97, 98, 99, 100, 101, 102, 103, 104, 105, 106, 107, 108, 109, 110, 111, 112, 113, 114, 115, 116, 117, 118, 119, 120, 121, 122] := rfl
def sp_Reader_row_of (T : Tx P w K mg base) : MSp := fun ws M R RX => ∃ (p : Addr) (z : Str) (n : Nat) (sg : Str) (most : Nat) (pr : Nat → Bool), ws = [.ref p, .str sg, .int (most : Int)] ∧ M p = some (rd T z n) ∧ z.length ≤ sizeLine ∧ (∀ c, decide (c ∈ tls sg) = pr c) ∧
  (run pr most ((tls z).drop n) ≠ [] → R (.str (mkS (run pr most ((tls z).drop n)))) (mu M p (rd T z (n + (run pr most ((tls z).drop n)).length)))) ∧ (run pr most ((tls z).drop n) = [] → rxAt T RX n M)
def ansN (T : Tx P w K mg base) (p : Addr) (z : Str) (n : Nat) (M : MH) (R : MQ) (RX : MXQ) : (Int × Nat) ⊕ Nat → Prop
  | .inl (i, k) => R (.int i) (mu M p (rd T z (n + k)))
  | .inr k => ∀ m, rxAt T RX (n + k) (mu M p (rd T z m))
def sp_Reader_a_number (T : Tx P w K mg base) : MSp := fun ws M R RX => ∃ p z n, ws = [.ref p] ∧ M p = some (rd T z n) ∧ z.length ≤ sizeLine ∧ numHead ((tls z).drop n) = true ∧ ansN T p z n M R RX (numR ((tls z).drop n))
def ansL (T : Tx P w K mg base) (p : Addr) (z : Str) (n : Nat) (M : MH) (R : MQ) (RX : MXQ) : (List Nat × W) ⊕ Nat → Prop
  | .inl (x, v) => R v (mu M p (rd T z (n + x.length)))
  | .inr k => ∀ m, rxAt T RX (n + k) (mu M p (rd T z m))
def sp_Reader_a_leaf (T : Tx P w K mg base) : MSp := fun ws M R RX => ∃ p z n, ws = [.ref p] ∧ M p = some (rd T z n) ∧ z.length ≤ sizeLine ∧ ansL T p z n M R RX (leafR ((tls z).drop n))
theorem dig_in (c : Nat) : decide (c ∈ tls (Str.ofString "0123456789")) = digP c := by
  rw [lit_fig]
  unfold digP
  rw [← Bool.decide_and]
  refine decide_eq_decide.mpr ?_
  simp only [List.mem_cons, List.not_mem_nil, or_false]
  omega
theorem low_in (c : Nat) : decide (c ∈ tls (Str.ofString "abcdefghijklmnopqrstuvwxyz")) = lowP c := by
  rw [lit_let]
  unfold lowP
  rw [← Bool.decide_and]
  refine decide_eq_decide.mpr ?_
  simp only [List.mem_cons, List.not_mem_nil, or_false]
  omega
theorem num_le {l : List Nat} {i : Int} {k : Nat} (h : numR l = .inl (i, k)) : k ≤ l.length := by
  unfold numR at h
  split at h
  · cases h
  · rename_i r _
    obtain ⟨r2, h1, _⟩ := run_split digP 40 r
    split at h
    · cases h
    · simp only [Sum.inl.injEq, Prod.mk.injEq] at h
      have h2 := congrArg List.length h1
      rw [List.length_append] at h2
      simp only [List.length_cons]
      omega
  · simp only [Sum.inl.injEq, Prod.mk.injEq] at h
    simp only [List.length_cons]
    omega
  · obtain ⟨r2, h1, _⟩ := run_split digP 40 l
    split at h
    · cases h
    · simp only [Sum.inl.injEq, Prod.mk.injEq] at h
      have h2 := congrArg List.length h1
      rw [List.length_append] at h2
      omega
theorem shx {RX : MXQ} {C : Addr} {fs : List (Str × W)} {M : MH} (h : RX C fs M) : shX RX C fs M := ⟨M, MSub.refl _, h⟩
theorem run_int {x : List Nat} (h : ∀ c ∈ x, digP c = true) (hne : x ≠ []) (hl : x.length ≤ 40) : PySem.intText? (mkS x) = some (dval x) :=
  intText_digits (x := mkS x) (fun c hc => by
    have z := h c hc
    unfold digP at z
    rw [Bool.and_eq_true, decide_eq_true_eq, decide_eq_true_eq] at z
    exact z) hne (by show x.toArray.size ≤ 4300; simp; omega)
theorem num_cases {x : List Nat} {i : Int} (h : numOk x i = true) : (x = [48] ∧ i = 0) ∨ (digs x = true ∧ PySem.intText? (mkS x) = some i) ∨ (∃ ds, x = 45 :: ds ∧ digs ds = true ∧ PySem.intText? (mkS ds) = some (-i)) := by
  unfold numOk at h
  simp only [Bool.or_eq_true, Bool.and_eq_true, beq_iff_eq] at h
  rcases h with (h | h) | h
  · exact .inl h
  · exact .inr (.inl h)
  · right; right
    split at h
    · rename_i ds
      simp only [Bool.and_eq_true, beq_iff_eq] at h
      exact ⟨ds, rfl, h⟩
    · cases h
theorem digs_cons {x : List Nat} (h : digs x = true) : ∃ c x', x = c :: x' ∧ 48 ≤ c ∧ c ≤ 57 ∧ c ≠ 48 := by
  cases x with
  | nil => simp [digs] at h
  | cons c x' =>
    simp only [digs, List.all_cons, Bool.and_eq_true, decide_eq_true_eq, List.head?_cons, bne_iff_ne, ne_eq, Option.some.injEq] at h
    exact ⟨c, x', rfl, h.1.1.2.1.1, h.1.1.2.1.2, h.2⟩
theorem digs_all {x : List Nat} (h : digs x = true) : (∀ c ∈ x, c ∈ tls (Str.ofString "0123456789")) ∧ x.length ≤ 40 := by
  simp only [digs, Bool.and_eq_true, decide_eq_true_eq, List.all_eq_true] at h
  refine ⟨fun c hc => ?_, h.1.2⟩
  obtain ⟨h1, h2⟩ := h.1.1.2 c hc
  rw [lit_fig]
  have : c = 48 ∨ c = 49 ∨ c = 50 ∨ c = 51 ∨ c = 52 ∨ c = 53 ∨ c = 54 ∨ c = 55 ∨ c = 56 ∨ c = 57 := by omega
  simpa using this
theorem leaf_num {x : List Nat} {v : W} (h : leafOk x v = true) : (∃ i, v = .int i ∧ numOk x i = true) ∨ (wordOk x = true ∧ (List.lookup (mkS x) w_TRUTHS).getD (.str (mkS x)) = v) := by
  rcases leaf_cases h with ⟨b, rfl, rfl⟩ | ⟨i, rfl, hn, _⟩ | ⟨s, rfl, hw, hs, h1, h2⟩
  · right
    cases b with
    | true => exact ⟨rfl, rfl⟩
    | false => exact ⟨rfl, rfl⟩
  · exact .inl ⟨i, rfl, hn⟩
  · right
    refine ⟨hw, ?_⟩
    have a : (mkS x == Str.ofString "yes") = false := by
      rw [beq_eq_false_iff_ne]; intro e; exact h1 (congrArg tls e)
    have b : (mkS x == Str.ofString "no") = false := by
      rw [beq_eq_false_iff_ne]; intro e; exact h2 (congrArg tls e)
    simp only [w_TRUTHS, List.lookup, a, b, Option.getD_none]
    rw [← hs, mk_tls]
theorem num_head {x : List Nat} {i : Int} (h : numOk x i = true) : (∃ x', x = 45 :: x') ∨ ∃ c x', x = c :: x' ∧ c ∈ tls (Str.ofString "0123456789") ∧ c ≠ 45 := by
  rcases num_cases h with ⟨rfl, _⟩ | ⟨hg, _⟩ | ⟨ds, rfl, _⟩
  · exact .inr ⟨48, [], rfl, by rw [lit_fig]; decide, by decide⟩
  · obtain ⟨c, x', rfl, h1, h2, h3⟩ := digs_cons hg
    exact .inr ⟨c, x', rfl, (digs_all hg).1 c (List.mem_cons_self), by omega⟩
  · exact .inl ⟨ds, rfl⟩
theorem word_cons {x : List Nat} (h : wordOk x = true) : ∃ c x', x = c :: x' ∧ 97 ≤ c ∧ c ≤ 122 := by
  cases x with
  | nil => simp [wordOk] at h
  | cons c x' =>
    simp only [wordOk, List.all_cons, Bool.and_eq_true, decide_eq_true_eq] at h
    exact ⟨c, x', rfl, h.1.2.1⟩
theorem word_all {x : List Nat} (h : wordOk x = true) : (∀ c ∈ x, c ∈ tls (Str.ofString "abcdefghijklmnopqrstuvwxyz")) ∧ x.length ≤ 12 := by
  simp only [wordOk, Bool.and_eq_true, decide_eq_true_eq, List.all_eq_true] at h
  refine ⟨fun c hc => ?_, h.2⟩
  obtain ⟨h1, h2⟩ := h.1.2 c hc
  rw [lit_let]
  have : ∀ k : Nat, 97 ≤ k → k ≤ 122 → k ∈ [97, 98, 99, 100, 101, 102, 103, 104, 105, 106, 107, 108, 109, 110, 111, 112, 113, 114, 115, 116, 117, 118, 119, 120, 121, 122] := fun k a b => by
    simp only [List.mem_cons, List.not_mem_nil, or_false]; omega
  exact this c h1 h2

theorem fo_Reader___init__ {fd : FuncData} (T : Tx P w K mg base) (F : Fun K "__init__" "Reader.__init__" s_Reader___init__ T.A_Reader___init__ fd)  : FnOk P w K mg base (L2.CX P w) (1) T.A_Reader___init__ fd ["self", "text"] (upS K (sp_Reader___init__ T)) := by
  refine fn_rich F sc_Reader___init__ (fun ws M R RX h => ?len) (fun cdv A outer s H E F0 ws M R RX hr hsp hx hp => ⟨_, (qss_cons (qs_fld (Cs := (fun C => C = T.C_Reader)) (qv 0) (qv 1) (by rintro _ rfl; exact T.fl_Reader_signs))
      (qss_one (qs_fld (Cs := (fun C => C = T.C_Reader)) (qv 0) qe_int (by rintro _ rfl; exact T.fl_Reader_at)))), ?body⟩)
  case len => (unfold sp_Reader___init__ at h; first | (obtain ⟨_, rfl, _⟩ := h; rfl) | (obtain ⟨_, _, rfl, _⟩ := h; rfl) | (obtain ⟨_, _, _, rfl, _⟩ := h; rfl) | (obtain ⟨_, _, _, _, rfl, _⟩ := h; rfl) | (obtain ⟨_, _, _, _, _, rfl, _⟩ := h; rfl) | (obtain ⟨_, _, _, _, _, _, rfl, _⟩ := h; rfl) | (obtain ⟨_, _, _, _, _, _, _, rfl, _⟩ := h; rfl) | (obtain ⟨_, _, _, _, _, _, _, _, rfl, _⟩ := h; rfl))
  case body =>
    obtain ⟨p, z, rfl, hM, q⟩ := hsp
    simp only [mVar, gt, mC, mOp, mUn, mTest, mChain, mAnd, mOr, mNot, mAndV, mOrV, mNotV, mIf, mNil, mCons, mTup, mFl, mLst, mCB, mBM0, mBM, mSl, mPart, mNoPart, mSeq, mNext, mDrop, mRet, mIfS, mAsg, nName, st, startW, mFld, mSetFld, mAugFld, mMeth, mCall, mRaise, List.map_cons, List.map_nil, List.length_cons, List.length_nil, List.replicate, List.cons_append, List.nil_append, Nat.zero_add, Nat.reduceAdd, Nat.reduceSub, Nat.sub_self, mWhile, add_ii, add_ss, add_tt, add_ff, sub_ii, mul_ii, div_ii, mod_ii, pow_ii, neg_i, lt_ii, le_ii, gt_ii, ge_ii, eq_ii, eq_ss, eq_bb, ne_ii, ne_ss, in_ss, int_i, int_b, int_s, cut_s, len_s, len_t, len_f, len_sc, str_i, str_s, tupof_f]
    simp only [hM, mu_same, true_and]
    refine ⟨by decide, by show 1 < 1000; decide, _, MSub.refl _, ?_⟩
    rw [mu_mu, put_rd0]
    exact q
theorem ok_Reader___init__ (T : Tx P w K mg base)  : FF P w K mg base (1) T.A_Reader___init__ ["self", "text"] (sp_Reader___init__ T) := by
  obtain ⟨fd, F, hb, _⟩ := T.F_Reader___init__
  exact ⟨⟨fd, fo_Reader___init__ T F , hb⟩, F.kp⟩

theorem fo_Reader_next_sign {fd : FuncData} (T : Tx P w K mg base) (F : Fun K "next_sign" "Reader.next_sign" s_Reader_next_sign T.A_Reader_next_sign fd)  : FnOk P w K mg base (L2.CX P w) (1) T.A_Reader_next_sign fd ["self"] (upS K (sp_Reader_next_sign T)) := by
  refine fn_rich F sc_Reader_next_sign (fun ws M R RX h => ?len) (fun cdv A outer s H E F0 ws M R RX hr hsp hx hp => ⟨_, (qss_one (qs_ret (qe_slice q_cut (qe_fld (Cs := (fun C => C = T.C_Reader)) (qv 0) (by rintro _ rfl; exact T.fl_Reader_signs)) (qo_some (qe_fld (Cs := (fun C => C = T.C_Reader)) (qv 0) (by rintro _ rfl; exact T.fl_Reader_at))) (qo_some (qe_op q_add (qe_fld (Cs := (fun C => C = T.C_Reader)) (qv 0) (by rintro _ rfl; exact T.fl_Reader_at)) qe_int))))), ?body⟩)
  case len => (unfold sp_Reader_next_sign at h; first | (obtain ⟨_, rfl, _⟩ := h; rfl) | (obtain ⟨_, _, rfl, _⟩ := h; rfl) | (obtain ⟨_, _, _, rfl, _⟩ := h; rfl) | (obtain ⟨_, _, _, _, rfl, _⟩ := h; rfl) | (obtain ⟨_, _, _, _, _, rfl, _⟩ := h; rfl) | (obtain ⟨_, _, _, _, _, _, rfl, _⟩ := h; rfl) | (obtain ⟨_, _, _, _, _, _, _, rfl, _⟩ := h; rfl) | (obtain ⟨_, _, _, _, _, _, _, _, rfl, _⟩ := h; rfl))
  case body =>
    obtain ⟨p, z, n, rfl, hM, hz, q⟩ := hsp
    simp only [mVar, gt, mC, mOp, mUn, mTest, mChain, mAnd, mOr, mNot, mAndV, mOrV, mNotV, mIf, mNil, mCons, mTup, mFl, mLst, mCB, mBM0, mBM, mSl, mPart, mNoPart, mSeq, mNext, mDrop, mRet, mIfS, mAsg, nName, st, startW, mFld, mSetFld, mAugFld, mMeth, mCall, mRaise, List.map_cons, List.map_nil, List.length_cons, List.length_nil, List.replicate, List.cons_append, List.nil_append, Nat.zero_add, Nat.reduceAdd, Nat.reduceSub, Nat.sub_self, mWhile, add_ii, add_ss, add_tt, add_ff, sub_ii, mul_ii, div_ii, mod_ii, pow_ii, neg_i, lt_ii, le_ii, gt_ii, ge_ii, eq_ii, eq_ss, eq_bb, ne_ii, ne_ss, in_ss, int_i, int_b, int_s, cut_s, len_s, len_t, len_f, len_sc, str_i, str_s, tupof_f]
    simp only [cls_rd hM, at_rd hM, signs_rd hM, true_and]
    exact ⟨hz, _, MSub.refl _, by rw [cut_next]; exact q⟩
theorem ok_Reader_next_sign (T : Tx P w K mg base)  : FF P w K mg base (1) T.A_Reader_next_sign ["self"] (sp_Reader_next_sign T) := by
  obtain ⟨fd, F, hb, _⟩ := T.F_Reader_next_sign
  exact ⟨⟨fd, fo_Reader_next_sign T F , hb⟩, F.kp⟩
theorem okM_Reader_next_sign (T : Tx P w K mg base) : Mth P w K mg base (1) T.C_Reader "next_sign" ["self"] (sp_Reader_next_sign T) := ⟨⟨_, T.mt_Reader_next_sign, ok_Reader_next_sign T⟩, T.cl_Reader⟩

theorem fo_Reader_wants {fd : FuncData} (T : Tx P w K mg base) (F : Fun K "wants" "Reader.wants" s_Reader_wants T.A_Reader_wants fd)  : FnOk P w K mg base (L2.CX P w) (3) T.A_Reader_wants fd ["self", "sign"] (upS K (sp_Reader_wants T)) := by
  refine fn_rich F sc_Reader_wants (fun ws M R RX h => ?len) (fun cdv A outer s H E F0 ws M R RX hr hsp hx hp => ⟨_, (qss_cons (qs_if (qt_cmp (q_ne hr.units) (qe_meth0 (Cs := (fun C => C = T.C_Reader)) (sps := fun _ => sp_Reader_next_sign T) (pss := fun _ => _) (qv 0) (by rintro _ rfl; exact (okM_Reader_next_sign T)) (hr.mono (by omega)) hx) (qv 1) (nomark _)) (qss_one (qs_raise rfl T.x_BadText (hr.mono (by omega)) rfl T.c_BadText hx (qa_cons (qe_fld (Cs := (fun C => C = T.C_Reader)) (qv 0) (by rintro _ rfl; exact T.fl_Reader_at)) qa_nil))) qss_nil)
      (qss_one (qs_fldadd (Cs := (fun C => C = T.C_Reader)) (qv 0) qe_int (by rintro _ rfl; exact T.fl_Reader_at)))), ?body⟩)
  case len => (unfold sp_Reader_wants at h; first | (obtain ⟨_, rfl, _⟩ := h; rfl) | (obtain ⟨_, _, rfl, _⟩ := h; rfl) | (obtain ⟨_, _, _, rfl, _⟩ := h; rfl) | (obtain ⟨_, _, _, _, rfl, _⟩ := h; rfl) | (obtain ⟨_, _, _, _, _, rfl, _⟩ := h; rfl) | (obtain ⟨_, _, _, _, _, _, rfl, _⟩ := h; rfl) | (obtain ⟨_, _, _, _, _, _, _, rfl, _⟩ := h; rfl) | (obtain ⟨_, _, _, _, _, _, _, _, rfl, _⟩ := h; rfl))
  case body =>
    obtain ⟨p, z, n, c, rfl, hM, hz, q, qx⟩ := hsp
    have hM' : M p = some (.ins T.C_Reader (rdF z n)) := hM
    simp only [mVar, gt, mC, mOp, mUn, mTest, mChain, mAnd, mOr, mNot, mAndV, mOrV, mNotV, mIf, mNil, mCons, mTup, mFl, mLst, mCB, mBM0, mBM, mSl, mPart, mNoPart, mSeq, mNext, mDrop, mRet, mIfS, mAsg, nName, st, startW, mFld, mSetFld, mAugFld, mMeth, mCall, mRaise, List.map_cons, List.map_nil, List.length_cons, List.length_nil, List.replicate, List.cons_append, List.nil_append, Nat.zero_add, Nat.reduceAdd, Nat.reduceSub, Nat.sub_self, mWhile, add_ii, add_ss, add_tt, add_ff, sub_ii, mul_ii, div_ii, mod_ii, pow_ii, neg_i, lt_ii, le_ii, gt_ii, ge_ii, eq_ii, eq_ss, eq_bb, ne_ii, ne_ss, in_ss, int_i, int_b, int_s, cut_s, len_s, len_t, len_f, len_sc, str_i, str_s, tupof_f]
    (try simp only [hd_e, hd_d, hd_0, hd_o, hd_c, hd_s, hd_in, List.head?_cons, List.head?_nil, List.isEmpty_cons, List.isEmpty_nil, List.cons_append, List.nil_append, beq_self_eq_true, gt, clsW, fldW, rd, add_ii, add_ss, add_tt, add_ff, sub_ii, mul_ii, div_ii, mod_ii, pow_ii, neg_i, lt_ii, le_ii, gt_ii, ge_ii, eq_ii, eq_ss, eq_bb, ne_ii, ne_ss, in_ss, int_i, int_b, int_s, cut_s, len_s, len_t, len_f, len_sc, str_i, str_s, tupof_f, lk_at, lk_s, lk_1, lk_2, lk_3, lk_4, lk_5, lk_6, put_rd, put_rd0, len_rd, mu_same, mu_mu, true_and, and_true, Bool.not_true, Bool.not_false, if_true, if_false, Bool.false_eq_true, decide_true, decide_false, Bool.true_eq_false, ite_true, ite_false, eq_self_iff_true, hM'])
    refine ⟨p, z, n, rfl, hM, hz, ?_⟩
    have e : decide (hd1 ((tls z).drop n) = mkS [c]) = (((tls z).drop n).head? == some c) := hd_eq
    by_cases h : ((tls z).drop n).head? = some c
    · have h2 : (((tls z).drop n).head? == some c) = true := by rw [h]; simp
      (try simp only [hd_e, hd_d, hd_0, hd_o, hd_c, hd_s, hd_in, List.head?_cons, List.head?_nil, List.isEmpty_cons, List.isEmpty_nil, List.cons_append, List.nil_append, beq_self_eq_true, gt, clsW, fldW, rd, add_ii, add_ss, add_tt, add_ff, sub_ii, mul_ii, div_ii, mod_ii, pow_ii, neg_i, lt_ii, le_ii, gt_ii, ge_ii, eq_ii, eq_ss, eq_bb, ne_ii, ne_ss, in_ss, int_i, int_b, int_s, cut_s, len_s, len_t, len_f, len_sc, str_i, str_s, tupof_f, lk_at, lk_s, lk_1, lk_2, lk_3, lk_4, lk_5, lk_6, put_rd, put_rd0, len_rd, mu_same, mu_mu, true_and, and_true, Bool.not_true, Bool.not_false, if_true, if_false, Bool.false_eq_true, decide_true, decide_false, Bool.true_eq_false, ite_true, ite_false, eq_self_iff_true, e, h2, hM'])
      exact ⟨by decide, _, MSub.refl _, q h⟩
    · have h2 : (((tls z).drop n).head? == some c) = false := by simpa using h
      (try simp only [hd_e, hd_d, hd_0, hd_o, hd_c, hd_s, hd_in, List.head?_cons, List.head?_nil, List.isEmpty_cons, List.isEmpty_nil, List.cons_append, List.nil_append, beq_self_eq_true, gt, clsW, fldW, rd, add_ii, add_ss, add_tt, add_ff, sub_ii, mul_ii, div_ii, mod_ii, pow_ii, neg_i, lt_ii, le_ii, gt_ii, ge_ii, eq_ii, eq_ss, eq_bb, ne_ii, ne_ss, in_ss, int_i, int_b, int_s, cut_s, len_s, len_t, len_f, len_sc, str_i, str_s, tupof_f, lk_at, lk_s, lk_1, lk_2, lk_3, lk_4, lk_5, lk_6, put_rd, put_rd0, len_rd, mu_same, mu_mu, true_and, and_true, Bool.not_true, Bool.not_false, if_true, if_false, Bool.false_eq_true, decide_true, decide_false, Bool.true_eq_false, ite_true, ite_false, eq_self_iff_true, e, h2, hM'])
      exact shx (qx h)
theorem ok_Reader_wants (T : Tx P w K mg base)  : FF P w K mg base (3) T.A_Reader_wants ["self", "sign"] (sp_Reader_wants T) := by
  obtain ⟨fd, F, hb, _⟩ := T.F_Reader_wants
  exact ⟨⟨fd, fo_Reader_wants T F , hb⟩, F.kp⟩
theorem okM_Reader_wants (T : Tx P w K mg base) : Mth P w K mg base (3) T.C_Reader "wants" ["self", "sign"] (sp_Reader_wants T) := ⟨⟨_, T.mt_Reader_wants, ok_Reader_wants T⟩, T.cl_Reader⟩

theorem fo_Reader_row_of {fd : FuncData} (T : Tx P w K mg base) (F : Fun K "row_of" "Reader.row_of" s_Reader_row_of T.A_Reader_row_of fd)  : FnOk P w K mg base (L2.CX P w) (3) T.A_Reader_row_of fd ["self", "signs", "most"] (upS K (sp_Reader_row_of T)) := by
  refine fn_rich F sc_Reader_row_of (fun ws M R RX h => ?len) (fun cdv A outer s H E F0 ws M R RX hr hsp hx hp => ⟨_, (qss_cons (qs_set (i := 3) sc_Reader_row_of.nd rfl (by first | exact Or.inl rfl | exact Or.inr rfl) (qe_fld (Cs := (fun C => C = T.C_Reader)) (qv 0) (by rintro _ rfl; exact T.fl_Reader_at)))
      (qss_cons (qs_while hp (QW.qt (qw_and (qt_cmp (q_ne hr.units) (qe_meth0 (Cs := (fun C => C = T.C_Reader)) (sps := fun _ => sp_Reader_next_sign T) (pss := fun _ => _) (qv 0) (by rintro _ rfl; exact (okM_Reader_next_sign T)) (hr.mono (by omega)) hx) qe_str (nomark _)) (qw_and (qt_cmp q_in (qe_meth0 (Cs := (fun C => C = T.C_Reader)) (sps := fun _ => sp_Reader_next_sign T) (pss := fun _ => _) (qv 0) (by rintro _ rfl; exact (okM_Reader_next_sign T)) (hr.mono (by omega)) hx) (qv 1) (by rfl)) (qw_and1 (qt_cmp q_lt (qe_fld (Cs := (fun C => C = T.C_Reader)) (qv 0) (by rintro _ rfl; exact T.fl_Reader_at)) (qe_op q_add (qv 3) (qv 2)) (nomark _)))))) (qss_one (qs_fldadd (Cs := (fun C => C = T.C_Reader)) (qv 0) qe_int (by rintro _ rfl; exact T.fl_Reader_at))))
      (qss_cons (qs_if (qt_cmp (q_eq hr.units) (qe_fld (Cs := (fun C => C = T.C_Reader)) (qv 0) (by rintro _ rfl; exact T.fl_Reader_at)) (qv 3) (nomark _)) (qss_one (qs_raise rfl T.x_BadText (hr.mono (by omega)) rfl T.c_BadText hx (qa_cons (qe_fld (Cs := (fun C => C = T.C_Reader)) (qv 0) (by rintro _ rfl; exact T.fl_Reader_at)) qa_nil))) qss_nil)
      (qss_one (qs_ret (qe_slice q_cut (qe_fld (Cs := (fun C => C = T.C_Reader)) (qv 0) (by rintro _ rfl; exact T.fl_Reader_signs)) (qo_some (qv 3)) (qo_some (qe_fld (Cs := (fun C => C = T.C_Reader)) (qv 0) (by rintro _ rfl; exact T.fl_Reader_at))))))))), ?body⟩)
  case len => (unfold sp_Reader_row_of at h; first | (obtain ⟨_, rfl, _⟩ := h; rfl) | (obtain ⟨_, _, rfl, _⟩ := h; rfl) | (obtain ⟨_, _, _, rfl, _⟩ := h; rfl) | (obtain ⟨_, _, _, _, rfl, _⟩ := h; rfl) | (obtain ⟨_, _, _, _, _, rfl, _⟩ := h; rfl) | (obtain ⟨_, _, _, _, _, _, rfl, _⟩ := h; rfl) | (obtain ⟨_, _, _, _, _, _, _, rfl, _⟩ := h; rfl) | (obtain ⟨_, _, _, _, _, _, _, _, rfl, _⟩ := h; rfl))
  case body =>
    obtain ⟨p, z, n, sg, most, pr, rfl, hM, hz, hpr, q, qx⟩ := hsp
    obtain ⟨r, hd, hm, hin', hend⟩ := run_split pr most ((tls z).drop n)
    generalize hxx : run pr most ((tls z).drop n) = x at hd hm hin' hend q qx
    have hin : ∀ c ∈ x, c ∈ tls sg := fun c hc => of_decide_eq_true (by rw [hpr]; exact hin' c hc)
    have hM' : M p = some (.ins T.C_Reader (rdF z n)) := hM
    have hdk : ∀ k, k ≤ x.length → (tls z).drop (n + k) = x.drop k ++ r := fun k hk => by
      rw [← List.drop_drop, hd, List.drop_append_of_le_length hk]
    simp only [mVar, gt, mC, mOp, mUn, mTest, mChain, mAnd, mOr, mNot, mAndV, mOrV, mNotV, mIf, mNil, mCons, mTup, mFl, mLst, mCB, mBM0, mBM, mSl, mPart, mNoPart, mSeq, mNext, mDrop, mRet, mIfS, mAsg, nName, st, startW, mFld, mSetFld, mAugFld, mMeth, mCall, mRaise, List.map_cons, List.map_nil, List.length_cons, List.length_nil, List.replicate, List.cons_append, List.nil_append, Nat.zero_add, Nat.reduceAdd, Nat.reduceSub, Nat.sub_self, mWhile, add_ii, add_ss, add_tt, add_ff, sub_ii, mul_ii, div_ii, mod_ii, pow_ii, neg_i, lt_ii, le_ii, gt_ii, ge_ii, eq_ii, eq_ss, eq_bb, ne_ii, ne_ss, in_ss, int_i, int_b, int_s, cut_s, len_s, len_t, len_f, len_sc, str_i, str_s, tupof_f]
    (try simp only [hd_e, hd_d, hd_0, hd_o, hd_c, hd_s, hd_in, List.head?_cons, List.head?_nil, List.isEmpty_cons, List.isEmpty_nil, List.cons_append, List.nil_append, beq_self_eq_true, gt, clsW, fldW, rd, add_ii, add_ss, add_tt, add_ff, sub_ii, mul_ii, div_ii, mod_ii, pow_ii, neg_i, lt_ii, le_ii, gt_ii, ge_ii, eq_ii, eq_ss, eq_bb, ne_ii, ne_ss, in_ss, int_i, int_b, int_s, cut_s, len_s, len_t, len_f, len_sc, str_i, str_s, tupof_f, lk_at, lk_s, lk_1, lk_2, lk_3, lk_4, lk_5, lk_6, put_rd, put_rd0, len_rd, mu_same, mu_mu, true_and, and_true, Bool.not_true, Bool.not_false, if_true, if_false, Bool.false_eq_true, decide_true, decide_false, Bool.true_eq_false, ite_true, ite_false, eq_self_iff_true, hM'])
    refine ⟨fun m ρ M1 => ∃ k, k ≤ x.length ∧ m = x.length - k ∧ ρ = [some (.ref p), some (.str sg), some (.int (most : Int)), some (.int (n : Int))] ∧ M1 = mu M p (rd T z (n + k)), ⟨x.length, 0, Nat.zero_le _, rfl, rfl, (mu_id hM).symm⟩, ?_⟩
    rintro m ρ M1 ⟨k, hk, rfl, rfl, rfl⟩
    have hN : mu M p (rd T z (n + k)) p = some (.ins T.C_Reader (rdF z ((n + k : Nat) : Int))) := mu_same
    (try simp only [hd_e, hd_d, hd_0, hd_o, hd_c, hd_s, hd_in, List.head?_cons, List.head?_nil, List.isEmpty_cons, List.isEmpty_nil, List.cons_append, List.nil_append, beq_self_eq_true, gt, clsW, fldW, rd, add_ii, add_ss, add_tt, add_ff, sub_ii, mul_ii, div_ii, mod_ii, pow_ii, neg_i, lt_ii, le_ii, gt_ii, ge_ii, eq_ii, eq_ss, eq_bb, ne_ii, ne_ss, in_ss, int_i, int_b, int_s, cut_s, len_s, len_t, len_f, len_sc, str_i, str_s, tupof_f, lk_at, lk_s, lk_1, lk_2, lk_3, lk_4, lk_5, lk_6, put_rd, put_rd0, len_rd, mu_same, mu_mu, true_and, and_true, Bool.not_true, Bool.not_false, if_true, if_false, Bool.false_eq_true, decide_true, decide_false, Bool.true_eq_false, ite_true, ite_false, eq_self_iff_true, hN])
    refine ⟨p, z, n + k, rfl, mu_same, hz, ?_⟩
    rw [hdk k hk]
    by_cases hkl : k < x.length
    · have ed : x.drop k = x[k] :: x.drop (k + 1) := List.drop_eq_getElem_cons hkl
      have hc : x[k] ∈ tls sg := hin _ (List.getElem_mem hkl)
      rw [ed]
      (try simp only [hd_e, hd_d, hd_0, hd_o, hd_c, hd_s, hd_in, List.head?_cons, List.head?_nil, List.isEmpty_cons, List.isEmpty_nil, List.cons_append, List.nil_append, beq_self_eq_true, gt, clsW, fldW, rd, add_ii, add_ss, add_tt, add_ff, sub_ii, mul_ii, div_ii, mod_ii, pow_ii, neg_i, lt_ii, le_ii, gt_ii, ge_ii, eq_ii, eq_ss, eq_bb, ne_ii, ne_ss, in_ss, int_i, int_b, int_s, cut_s, len_s, len_t, len_f, len_sc, str_i, str_s, tupof_f, lk_at, lk_s, lk_1, lk_2, lk_3, lk_4, lk_5, lk_6, put_rd, put_rd0, len_rd, mu_same, mu_mu, true_and, and_true, Bool.not_true, Bool.not_false, if_true, if_false, Bool.false_eq_true, decide_true, decide_false, Bool.true_eq_false, ite_true, ite_false, eq_self_iff_true, hN])
      refine ⟨p, z, n + k, rfl, mu_same, hz, ?_⟩
      rw [hdk k hk, ed]
      have hlt : ((n + k : Nat) : Int) < (n : Int) + (most : Int) := by omega
      (try simp only [hd_e, hd_d, hd_0, hd_o, hd_c, hd_s, hd_in, List.head?_cons, List.head?_nil, List.isEmpty_cons, List.isEmpty_nil, List.cons_append, List.nil_append, beq_self_eq_true, gt, clsW, fldW, rd, add_ii, add_ss, add_tt, add_ff, sub_ii, mul_ii, div_ii, mod_ii, pow_ii, neg_i, lt_ii, le_ii, gt_ii, ge_ii, eq_ii, eq_ss, eq_bb, ne_ii, ne_ss, in_ss, int_i, int_b, int_s, cut_s, len_s, len_t, len_f, len_sc, str_i, str_s, tupof_f, lk_at, lk_s, lk_1, lk_2, lk_3, lk_4, lk_5, lk_6, put_rd, put_rd0, len_rd, mu_same, mu_mu, true_and, and_true, Bool.not_true, Bool.not_false, if_true, if_false, Bool.false_eq_true, decide_true, decide_false, Bool.true_eq_false, ite_true, ite_false, eq_self_iff_true, hN, decide_eq_true hc, decide_eq_true hlt])
      exact ⟨by decide, x.length - (k + 1), by omega, k + 1, hkl, rfl, rfl⟩
    · have ek : k = x.length := by omega
      subst ek
      rw [List.drop_length, List.nil_append]
      have ce : cutS z (some (n : Int)) (some ((n + x.length : Nat) : Int)) = mkS x := cut_row hd
      cases r with
      | nil =>
        by_cases hx0 : x = []
        · have ne : decide (((n + x.length : Nat) : Int) = (n : Int)) = true := decide_eq_true (by rw [hx0]; simp)
          (try simp only [hd_e, hd_d, hd_0, hd_o, hd_c, hd_s, hd_in, List.head?_cons, List.head?_nil, List.isEmpty_cons, List.isEmpty_nil, List.cons_append, List.nil_append, beq_self_eq_true, gt, clsW, fldW, rd, add_ii, add_ss, add_tt, add_ff, sub_ii, mul_ii, div_ii, mod_ii, pow_ii, neg_i, lt_ii, le_ii, gt_ii, ge_ii, eq_ii, eq_ss, eq_bb, ne_ii, ne_ss, in_ss, int_i, int_b, int_s, cut_s, len_s, len_t, len_f, len_sc, str_i, str_s, tupof_f, lk_at, lk_s, lk_1, lk_2, lk_3, lk_4, lk_5, lk_6, put_rd, put_rd0, len_rd, mu_same, mu_mu, true_and, and_true, Bool.not_true, Bool.not_false, if_true, if_false, Bool.false_eq_true, decide_true, decide_false, Bool.true_eq_false, ite_true, ite_false, eq_self_iff_true, hN, ne, ce])
          refine ⟨M, fun b o e => ?_, (by have h := qx hx0; rw [hx0]; exact h)⟩
          by_cases hb : b = p
          · subst hb
            rw [hM] at e
            cases e
            rw [hx0]
            exact mu_same
          · rw [mu_ne hb]; exact e
        · have ne : decide (((n + x.length : Nat) : Int) = (n : Int)) = false := decide_eq_false (by have := List.length_pos_iff.mpr hx0; omega)
          (try simp only [hd_e, hd_d, hd_0, hd_o, hd_c, hd_s, hd_in, List.head?_cons, List.head?_nil, List.isEmpty_cons, List.isEmpty_nil, List.cons_append, List.nil_append, beq_self_eq_true, gt, clsW, fldW, rd, add_ii, add_ss, add_tt, add_ff, sub_ii, mul_ii, div_ii, mod_ii, pow_ii, neg_i, lt_ii, le_ii, gt_ii, ge_ii, eq_ii, eq_ss, eq_bb, ne_ii, ne_ss, in_ss, int_i, int_b, int_s, cut_s, len_s, len_t, len_f, len_sc, str_i, str_s, tupof_f, lk_at, lk_s, lk_1, lk_2, lk_3, lk_4, lk_5, lk_6, put_rd, put_rd0, len_rd, mu_same, mu_mu, true_and, and_true, Bool.not_true, Bool.not_false, if_true, if_false, Bool.false_eq_true, decide_true, decide_false, Bool.true_eq_false, ite_true, ite_false, eq_self_iff_true, hN, ne, ce, ce])
          exact ⟨hz, _, MSub.refl _, q hx0⟩
      | cons c r' =>
        (try simp only [hd_e, hd_d, hd_0, hd_o, hd_c, hd_s, hd_in, List.head?_cons, List.head?_nil, List.isEmpty_cons, List.isEmpty_nil, List.cons_append, List.nil_append, beq_self_eq_true, gt, clsW, fldW, rd, add_ii, add_ss, add_tt, add_ff, sub_ii, mul_ii, div_ii, mod_ii, pow_ii, neg_i, lt_ii, le_ii, gt_ii, ge_ii, eq_ii, eq_ss, eq_bb, ne_ii, ne_ss, in_ss, int_i, int_b, int_s, cut_s, len_s, len_t, len_f, len_sc, str_i, str_s, tupof_f, lk_at, lk_s, lk_1, lk_2, lk_3, lk_4, lk_5, lk_6, put_rd, put_rd0, len_rd, mu_same, mu_mu, true_and, and_true, Bool.not_true, Bool.not_false, if_true, if_false, Bool.false_eq_true, decide_true, decide_false, Bool.true_eq_false, ite_true, ite_false, eq_self_iff_true, hN])
        refine ⟨p, z, n + x.length, rfl, mu_same, hz, ?_⟩
        rw [hdk _ (Nat.le_refl _), List.drop_length, List.nil_append]
        by_cases hc : c ∈ tls sg
        · have hl : x.length = most := by
            rcases hend with h | h
            · exact h
            · have h1 := h c rfl
              rw [← hpr, decide_eq_true hc] at h1
              cases h1
          have hlt : decide (((n + x.length : Nat) : Int) < (n : Int) + (most : Int)) = false := decide_eq_false (by omega)
          (try simp only [hd_e, hd_d, hd_0, hd_o, hd_c, hd_s, hd_in, List.head?_cons, List.head?_nil, List.isEmpty_cons, List.isEmpty_nil, List.cons_append, List.nil_append, beq_self_eq_true, gt, clsW, fldW, rd, add_ii, add_ss, add_tt, add_ff, sub_ii, mul_ii, div_ii, mod_ii, pow_ii, neg_i, lt_ii, le_ii, gt_ii, ge_ii, eq_ii, eq_ss, eq_bb, ne_ii, ne_ss, in_ss, int_i, int_b, int_s, cut_s, len_s, len_t, len_f, len_sc, str_i, str_s, tupof_f, lk_at, lk_s, lk_1, lk_2, lk_3, lk_4, lk_5, lk_6, put_rd, put_rd0, len_rd, mu_same, mu_mu, true_and, and_true, Bool.not_true, Bool.not_false, if_true, if_false, Bool.false_eq_true, decide_true, decide_false, Bool.true_eq_false, ite_true, ite_false, eq_self_iff_true, hN, decide_eq_true hc, hlt])
          by_cases hx0 : x = []
          · have ne : decide (((n + x.length : Nat) : Int) = (n : Int)) = true := decide_eq_true (by rw [hx0]; simp)
            (try simp only [hd_e, hd_d, hd_0, hd_o, hd_c, hd_s, hd_in, List.head?_cons, List.head?_nil, List.isEmpty_cons, List.isEmpty_nil, List.cons_append, List.nil_append, beq_self_eq_true, gt, clsW, fldW, rd, add_ii, add_ss, add_tt, add_ff, sub_ii, mul_ii, div_ii, mod_ii, pow_ii, neg_i, lt_ii, le_ii, gt_ii, ge_ii, eq_ii, eq_ss, eq_bb, ne_ii, ne_ss, in_ss, int_i, int_b, int_s, cut_s, len_s, len_t, len_f, len_sc, str_i, str_s, tupof_f, lk_at, lk_s, lk_1, lk_2, lk_3, lk_4, lk_5, lk_6, put_rd, put_rd0, len_rd, mu_same, mu_mu, true_and, and_true, Bool.not_true, Bool.not_false, if_true, if_false, Bool.false_eq_true, decide_true, decide_false, Bool.true_eq_false, ite_true, ite_false, eq_self_iff_true, hN, ne, hlt])
            refine ⟨M, fun b o e => ?_, (by have h := qx hx0; rw [hx0]; exact h)⟩
            by_cases hb : b = p
            · subst hb
              rw [hM] at e
              cases e
              rw [hx0]
              exact mu_same
            · rw [mu_ne hb]; exact e
          · have ne : decide (((n + x.length : Nat) : Int) = (n : Int)) = false := decide_eq_false (by have := List.length_pos_iff.mpr hx0; omega)
            (try simp only [hd_e, hd_d, hd_0, hd_o, hd_c, hd_s, hd_in, List.head?_cons, List.head?_nil, List.isEmpty_cons, List.isEmpty_nil, List.cons_append, List.nil_append, beq_self_eq_true, gt, clsW, fldW, rd, add_ii, add_ss, add_tt, add_ff, sub_ii, mul_ii, div_ii, mod_ii, pow_ii, neg_i, lt_ii, le_ii, gt_ii, ge_ii, eq_ii, eq_ss, eq_bb, ne_ii, ne_ss, in_ss, int_i, int_b, int_s, cut_s, len_s, len_t, len_f, len_sc, str_i, str_s, tupof_f, lk_at, lk_s, lk_1, lk_2, lk_3, lk_4, lk_5, lk_6, put_rd, put_rd0, len_rd, mu_same, mu_mu, true_and, and_true, Bool.not_true, Bool.not_false, if_true, if_false, Bool.false_eq_true, decide_true, decide_false, Bool.true_eq_false, ite_true, ite_false, eq_self_iff_true, hN, ne, ce, hlt])
            exact ⟨hz, _, MSub.refl _, q hx0⟩
        · (try simp only [hd_e, hd_d, hd_0, hd_o, hd_c, hd_s, hd_in, List.head?_cons, List.head?_nil, List.isEmpty_cons, List.isEmpty_nil, List.cons_append, List.nil_append, beq_self_eq_true, gt, clsW, fldW, rd, add_ii, add_ss, add_tt, add_ff, sub_ii, mul_ii, div_ii, mod_ii, pow_ii, neg_i, lt_ii, le_ii, gt_ii, ge_ii, eq_ii, eq_ss, eq_bb, ne_ii, ne_ss, in_ss, int_i, int_b, int_s, cut_s, len_s, len_t, len_f, len_sc, str_i, str_s, tupof_f, lk_at, lk_s, lk_1, lk_2, lk_3, lk_4, lk_5, lk_6, put_rd, put_rd0, len_rd, mu_same, mu_mu, true_and, and_true, Bool.not_true, Bool.not_false, if_true, if_false, Bool.false_eq_true, decide_true, decide_false, Bool.true_eq_false, ite_true, ite_false, eq_self_iff_true, hN, decide_eq_false hc])
          by_cases hx0 : x = []
          · have ne : decide (((n + x.length : Nat) : Int) = (n : Int)) = true := decide_eq_true (by rw [hx0]; simp)
            (try simp only [hd_e, hd_d, hd_0, hd_o, hd_c, hd_s, hd_in, List.head?_cons, List.head?_nil, List.isEmpty_cons, List.isEmpty_nil, List.cons_append, List.nil_append, beq_self_eq_true, gt, clsW, fldW, rd, add_ii, add_ss, add_tt, add_ff, sub_ii, mul_ii, div_ii, mod_ii, pow_ii, neg_i, lt_ii, le_ii, gt_ii, ge_ii, eq_ii, eq_ss, eq_bb, ne_ii, ne_ss, in_ss, int_i, int_b, int_s, cut_s, len_s, len_t, len_f, len_sc, str_i, str_s, tupof_f, lk_at, lk_s, lk_1, lk_2, lk_3, lk_4, lk_5, lk_6, put_rd, put_rd0, len_rd, mu_same, mu_mu, true_and, and_true, Bool.not_true, Bool.not_false, if_true, if_false, Bool.false_eq_true, decide_true, decide_false, Bool.true_eq_false, ite_true, ite_false, eq_self_iff_true, hN, ne, decide_eq_false hc])
            refine ⟨M, fun b o e => ?_, (by have h := qx hx0; rw [hx0]; exact h)⟩
            by_cases hb : b = p
            · subst hb
              rw [hM] at e
              cases e
              rw [hx0]
              exact mu_same
            · rw [mu_ne hb]; exact e
          · have ne : decide (((n + x.length : Nat) : Int) = (n : Int)) = false := decide_eq_false (by have := List.length_pos_iff.mpr hx0; omega)
            (try simp only [hd_e, hd_d, hd_0, hd_o, hd_c, hd_s, hd_in, List.head?_cons, List.head?_nil, List.isEmpty_cons, List.isEmpty_nil, List.cons_append, List.nil_append, beq_self_eq_true, gt, clsW, fldW, rd, add_ii, add_ss, add_tt, add_ff, sub_ii, mul_ii, div_ii, mod_ii, pow_ii, neg_i, lt_ii, le_ii, gt_ii, ge_ii, eq_ii, eq_ss, eq_bb, ne_ii, ne_ss, in_ss, int_i, int_b, int_s, cut_s, len_s, len_t, len_f, len_sc, str_i, str_s, tupof_f, lk_at, lk_s, lk_1, lk_2, lk_3, lk_4, lk_5, lk_6, put_rd, put_rd0, len_rd, mu_same, mu_mu, true_and, and_true, Bool.not_true, Bool.not_false, if_true, if_false, Bool.false_eq_true, decide_true, decide_false, Bool.true_eq_false, ite_true, ite_false, eq_self_iff_true, hN, ne, ce, decide_eq_false hc])
            exact ⟨hz, _, MSub.refl _, q hx0⟩
theorem ok_Reader_row_of (T : Tx P w K mg base)  : FF P w K mg base (3) T.A_Reader_row_of ["self", "signs", "most"] (sp_Reader_row_of T) := by
  obtain ⟨fd, F, hb, _⟩ := T.F_Reader_row_of
  exact ⟨⟨fd, fo_Reader_row_of T F , hb⟩, F.kp⟩
theorem okM_Reader_row_of (T : Tx P w K mg base) : Mth P w K mg base (3) T.C_Reader "row_of" ["self", "signs", "most"] (sp_Reader_row_of T) := ⟨⟨_, T.mt_Reader_row_of, ok_Reader_row_of T⟩, T.cl_Reader⟩

theorem fo_Reader_a_number {fd : FuncData} (T : Tx P w K mg base) (F : Fun K "a_number" "Reader.a_number" s_Reader_a_number T.A_Reader_a_number fd)  : FnOk P w K mg base (L2.CX P w) (4) T.A_Reader_a_number fd ["self"] (upS K (sp_Reader_a_number T)) := by
  refine fn_rich F sc_Reader_a_number (fun ws M R RX h => ?len) (fun cdv A outer s H E F0 ws M R RX hr hsp hx hp => ⟨_, (qss_cons (qs_set (i := 1) sc_Reader_a_number.nd rfl (by first | exact Or.inl rfl | exact Or.inr rfl) (qe_cmp (q_eq hr.units) (qe_meth0 (Cs := (fun C => C = T.C_Reader)) (sps := fun _ => sp_Reader_next_sign T) (pss := fun _ => _) (qv 0) (by rintro _ rfl; exact (okM_Reader_next_sign T)) (hr.mono (by omega)) hx) qe_str (nomark _)))
      (qss_cons (qs_if (qt_val (qv 1)) (qss_cons (qs_fldadd (Cs := (fun C => C = T.C_Reader)) (qv 0) qe_int (by rintro _ rfl; exact T.fl_Reader_at))
      (qss_one (qs_if (qt_cmp (q_eq hr.units) (qe_meth0 (Cs := (fun C => C = T.C_Reader)) (sps := fun _ => sp_Reader_next_sign T) (pss := fun _ => _) (qv 0) (by rintro _ rfl; exact (okM_Reader_next_sign T)) (hr.mono (by omega)) hx) qe_str (nomark _)) (qss_one (qs_raise rfl T.x_BadText (hr.mono (by omega)) rfl T.c_BadText hx (qa_cons (qe_fld (Cs := (fun C => C = T.C_Reader)) (qv 0) (by rintro _ rfl; exact T.fl_Reader_at)) qa_nil))) qss_nil))) qss_nil)
      (qss_cons (qs_if (qt_cmp (q_eq hr.units) (qe_meth0 (Cs := (fun C => C = T.C_Reader)) (sps := fun _ => sp_Reader_next_sign T) (pss := fun _ => _) (qv 0) (by rintro _ rfl; exact (okM_Reader_next_sign T)) (hr.mono (by omega)) hx) qe_str (nomark _)) (qss_cons (qs_fldadd (Cs := (fun C => C = T.C_Reader)) (qv 0) qe_int (by rintro _ rfl; exact T.fl_Reader_at))
      (qss_one (qs_ret qe_int))) qss_nil)
      (qss_cons (qs_set (i := 2) sc_Reader_a_number.nd rfl (by first | exact Or.inl rfl | exact Or.inr rfl) (qe_callTy c_int rfl T.z_int (by decide +kernel) (qa_cons (qe_meth (Cs := (fun C => C = T.C_Reader)) (sps := fun _ => sp_Reader_row_of T) (pss := fun _ => _) (qv 0) (by rintro _ rfl; exact (okM_Reader_row_of T)) (hr.mono (by omega)) hx (qa_cons (qe_glob (w := .str "0123456789") (v := .str "0123456789") rfl T.g_FIGURES ⟨_, rfl⟩ (fun _ => str_rw)) (qa_cons (qe_glob (w := .int 40) (v := .int 40) rfl T.g_MOST_FIGURES ⟨_, rfl⟩ (fun _ => int_rw)) qa_nil))) qa_nil)))
      (qss_one (qs_ret (qe_if (qt_val (qv 1)) (qe_un q_neg (qv 2)) (qv 2)))))))), ?body⟩)
  case len => (unfold sp_Reader_a_number at h; first | (obtain ⟨_, rfl, _⟩ := h; rfl) | (obtain ⟨_, _, rfl, _⟩ := h; rfl) | (obtain ⟨_, _, _, rfl, _⟩ := h; rfl) | (obtain ⟨_, _, _, _, rfl, _⟩ := h; rfl) | (obtain ⟨_, _, _, _, _, rfl, _⟩ := h; rfl) | (obtain ⟨_, _, _, _, _, _, rfl, _⟩ := h; rfl) | (obtain ⟨_, _, _, _, _, _, _, rfl, _⟩ := h; rfl) | (obtain ⟨_, _, _, _, _, _, _, _, rfl, _⟩ := h; rfl))
  case body =>
    obtain ⟨p, z, n, rfl, hM, hz, hh, q⟩ := hsp
    have hM' : M p = some (.ins T.C_Reader (rdF z n)) := hM
    generalize hl : (tls z).drop n = l at hh q
    cases l with
    | nil => cases hh
    | cons c r =>
      simp only [mVar, gt, mC, mOp, mUn, mTest, mChain, mAnd, mOr, mNot, mAndV, mOrV, mNotV, mIf, mNil, mCons, mTup, mFl, mLst, mCB, mBM0, mBM, mSl, mPart, mNoPart, mSeq, mNext, mDrop, mRet, mIfS, mAsg, nName, st, startW, mFld, mSetFld, mAugFld, mMeth, mCall, mRaise, List.map_cons, List.map_nil, List.length_cons, List.length_nil, List.replicate, List.cons_append, List.nil_append, Nat.zero_add, Nat.reduceAdd, Nat.reduceSub, Nat.sub_self, mWhile, add_ii, add_ss, add_tt, add_ff, sub_ii, mul_ii, div_ii, mod_ii, pow_ii, neg_i, lt_ii, le_ii, gt_ii, ge_ii, eq_ii, eq_ss, eq_bb, ne_ii, ne_ss, in_ss, int_i, int_b, int_s, cut_s, len_s, len_t, len_f, len_sc, str_i, str_s, tupof_f]
      (try simp only [hd_e, hd_d, hd_0, hd_o, hd_c, hd_s, hd_in, List.head?_cons, List.head?_nil, List.isEmpty_cons, List.isEmpty_nil, List.cons_append, List.nil_append, beq_self_eq_true, gt, clsW, fldW, rd, add_ii, add_ss, add_tt, add_ff, sub_ii, mul_ii, div_ii, mod_ii, pow_ii, neg_i, lt_ii, le_ii, gt_ii, ge_ii, eq_ii, eq_ss, eq_bb, ne_ii, ne_ss, in_ss, int_i, int_b, int_s, cut_s, len_s, len_t, len_f, len_sc, str_i, str_s, tupof_f, lk_at, lk_s, lk_1, lk_2, lk_3, lk_4, lk_5, lk_6, put_rd, put_rd0, len_rd, mu_same, mu_mu, true_and, and_true, Bool.not_true, Bool.not_false, if_true, if_false, Bool.false_eq_true, decide_true, decide_false, Bool.true_eq_false, ite_true, ite_false, eq_self_iff_true, hM'])
      refine ⟨p, z, n, rfl, hM, hz, ?_⟩
      rw [hl]
      by_cases h45 : c = 45
      · subst h45
        have hl1 : (tls z).drop (n + 1) = r := by rw [← List.drop_drop, hl]; rfl
        (try simp only [hd_e, hd_d, hd_0, hd_o, hd_c, hd_s, hd_in, List.head?_cons, List.head?_nil, List.isEmpty_cons, List.isEmpty_nil, List.cons_append, List.nil_append, beq_self_eq_true, gt, clsW, fldW, rd, add_ii, add_ss, add_tt, add_ff, sub_ii, mul_ii, div_ii, mod_ii, pow_ii, neg_i, lt_ii, le_ii, gt_ii, ge_ii, eq_ii, eq_ss, eq_bb, ne_ii, ne_ss, in_ss, int_i, int_b, int_s, cut_s, len_s, len_t, len_f, len_sc, str_i, str_s, tupof_f, lk_at, lk_s, lk_1, lk_2, lk_3, lk_4, lk_5, lk_6, put_rd, put_rd0, len_rd, mu_same, mu_mu, true_and, and_true, Bool.not_true, Bool.not_false, if_true, if_false, Bool.false_eq_true, decide_true, decide_false, Bool.true_eq_false, ite_true, ite_false, eq_self_iff_true, hM'])
        refine ⟨by decide, p, z, n + 1, rfl, mu_same, hz, ?_⟩
        rw [hl1]
        cases r with
        | nil =>
          have qn : ansN T p z n M R RX (.inr 1) := q
          (try simp only [hd_e, hd_d, hd_0, hd_o, hd_c, hd_s, hd_in, List.head?_cons, List.head?_nil, List.isEmpty_cons, List.isEmpty_nil, List.cons_append, List.nil_append, beq_self_eq_true, gt, clsW, fldW, rd, add_ii, add_ss, add_tt, add_ff, sub_ii, mul_ii, div_ii, mod_ii, pow_ii, neg_i, lt_ii, le_ii, gt_ii, ge_ii, eq_ii, eq_ss, eq_bb, ne_ii, ne_ss, in_ss, int_i, int_b, int_s, cut_s, len_s, len_t, len_f, len_sc, str_i, str_s, tupof_f, lk_at, lk_s, lk_1, lk_2, lk_3, lk_4, lk_5, lk_6, put_rd, put_rd0, len_rd, mu_same, mu_mu, true_and, and_true, Bool.not_true, Bool.not_false, if_true, if_false, Bool.false_eq_true, decide_true, decide_false, Bool.true_eq_false, ite_true, ite_false, eq_self_iff_true, show ((none : Option Nat) == some 48) = false from rfl])
          refine ⟨p, z, n + 1, rfl, mu_same, hz, ?_⟩
          rw [hl1]
          (try simp only [hd_e, hd_d, hd_0, hd_o, hd_c, hd_s, hd_in, List.head?_cons, List.head?_nil, List.isEmpty_cons, List.isEmpty_nil, List.cons_append, List.nil_append, beq_self_eq_true, gt, clsW, fldW, rd, add_ii, add_ss, add_tt, add_ff, sub_ii, mul_ii, div_ii, mod_ii, pow_ii, neg_i, lt_ii, le_ii, gt_ii, ge_ii, eq_ii, eq_ss, eq_bb, ne_ii, ne_ss, in_ss, int_i, int_b, int_s, cut_s, len_s, len_t, len_f, len_sc, str_i, str_s, tupof_f, lk_at, lk_s, lk_1, lk_2, lk_3, lk_4, lk_5, lk_6, put_rd, put_rd0, len_rd, mu_same, mu_mu, true_and, and_true, Bool.not_true, Bool.not_false, if_true, if_false, Bool.false_eq_true, decide_true, decide_false, Bool.true_eq_false, ite_true, ite_false, eq_self_iff_true, show ((none : Option Nat) == some 48) = false from rfl])
          refine ⟨p, z, n + 1, _, 40, digP, rfl, mu_same, hz, dig_in, ?_, ?_⟩
          · rw [hl1]; intro h; exact absurd rfl h
          · intro _; exact shx (qn (n + 1))
        | cons d r' =>
          by_cases h48 : d = 48
          · subst h48
            have qn : ansN T p z n M R RX (.inr 1) := q
            (try simp only [hd_e, hd_d, hd_0, hd_o, hd_c, hd_s, hd_in, List.head?_cons, List.head?_nil, List.isEmpty_cons, List.isEmpty_nil, List.cons_append, List.nil_append, beq_self_eq_true, gt, clsW, fldW, rd, add_ii, add_ss, add_tt, add_ff, sub_ii, mul_ii, div_ii, mod_ii, pow_ii, neg_i, lt_ii, le_ii, gt_ii, ge_ii, eq_ii, eq_ss, eq_bb, ne_ii, ne_ss, in_ss, int_i, int_b, int_s, cut_s, len_s, len_t, len_f, len_sc, str_i, str_s, tupof_f, lk_at, lk_s, lk_1, lk_2, lk_3, lk_4, lk_5, lk_6, put_rd, put_rd0, len_rd, mu_same, mu_mu, true_and, and_true, Bool.not_true, Bool.not_false, if_true, if_false, Bool.false_eq_true, decide_true, decide_false, Bool.true_eq_false, ite_true, ite_false, eq_self_iff_true])
            exact shx (qn (n + 1))
          · have e48 : (some d == some 48) = false := by simpa using h48
            (try simp only [hd_e, hd_d, hd_0, hd_o, hd_c, hd_s, hd_in, List.head?_cons, List.head?_nil, List.isEmpty_cons, List.isEmpty_nil, List.cons_append, List.nil_append, beq_self_eq_true, gt, clsW, fldW, rd, add_ii, add_ss, add_tt, add_ff, sub_ii, mul_ii, div_ii, mod_ii, pow_ii, neg_i, lt_ii, le_ii, gt_ii, ge_ii, eq_ii, eq_ss, eq_bb, ne_ii, ne_ss, in_ss, int_i, int_b, int_s, cut_s, len_s, len_t, len_f, len_sc, str_i, str_s, tupof_f, lk_at, lk_s, lk_1, lk_2, lk_3, lk_4, lk_5, lk_6, put_rd, put_rd0, len_rd, mu_same, mu_mu, true_and, and_true, Bool.not_true, Bool.not_false, if_true, if_false, Bool.false_eq_true, decide_true, decide_false, Bool.true_eq_false, ite_true, ite_false, eq_self_iff_true, e48])
            refine ⟨p, z, n + 1, rfl, mu_same, hz, ?_⟩
            rw [hl1]
            (try simp only [hd_e, hd_d, hd_0, hd_o, hd_c, hd_s, hd_in, List.head?_cons, List.head?_nil, List.isEmpty_cons, List.isEmpty_nil, List.cons_append, List.nil_append, beq_self_eq_true, gt, clsW, fldW, rd, add_ii, add_ss, add_tt, add_ff, sub_ii, mul_ii, div_ii, mod_ii, pow_ii, neg_i, lt_ii, le_ii, gt_ii, ge_ii, eq_ii, eq_ss, eq_bb, ne_ii, ne_ss, in_ss, int_i, int_b, int_s, cut_s, len_s, len_t, len_f, len_sc, str_i, str_s, tupof_f, lk_at, lk_s, lk_1, lk_2, lk_3, lk_4, lk_5, lk_6, put_rd, put_rd0, len_rd, mu_same, mu_mu, true_and, and_true, Bool.not_true, Bool.not_false, if_true, if_false, Bool.false_eq_true, decide_true, decide_false, Bool.true_eq_false, ite_true, ite_false, eq_self_iff_true, e48])
            have en : numR (45 :: d :: r') = (if (run digP 40 (d :: r')).isEmpty then .inr 1 else .inl (-(dval (run digP 40 (d :: r'))), 1 + (run digP 40 (d :: r')).length)) := by
              rw [numR]
              intro r2 e2
              cases e2
              exact h48 rfl
            rw [en] at q
            obtain ⟨r2, hd2, hm2, hin2, _⟩ := run_split digP 40 (d :: r')
            refine ⟨p, z, n + 1, _, 40, digP, rfl, mu_same, hz, dig_in, ?_, ?_⟩
            · rw [hl1]
              intro hne
              generalize run digP 40 (d :: r') = x at *
              have hi := run_int hin2 hne hm2
              have hne' : x.isEmpty = false := by cases x with
                | nil => exact absurd rfl hne
                | cons => rfl
              rw [hne'] at q
              have qn : ansN T p z n M R RX (.inl (-(dval x), 1 + x.length)) := q
              (try simp only [hd_e, hd_d, hd_0, hd_o, hd_c, hd_s, hd_in, List.head?_cons, List.head?_nil, List.isEmpty_cons, List.isEmpty_nil, List.cons_append, List.nil_append, beq_self_eq_true, gt, clsW, fldW, rd, add_ii, add_ss, add_tt, add_ff, sub_ii, mul_ii, div_ii, mod_ii, pow_ii, neg_i, lt_ii, le_ii, gt_ii, ge_ii, eq_ii, eq_ss, eq_bb, ne_ii, ne_ss, in_ss, int_i, int_b, int_s, cut_s, len_s, len_t, len_f, len_sc, str_i, str_s, tupof_f, lk_at, lk_s, lk_1, lk_2, lk_3, lk_4, lk_5, lk_6, put_rd, put_rd0, len_rd, mu_same, mu_mu, true_and, and_true, Bool.not_true, Bool.not_false, if_true, if_false, Bool.false_eq_true, decide_true, decide_false, Bool.true_eq_false, ite_true, ite_false, eq_self_iff_true, hi])
              refine ⟨by show x.toArray.size ≤ 640; simp; omega, _, MSub.refl _, ?_⟩
              have e : n + 1 + x.length = n + (1 + x.length) := by omega
              rw [e]
              exact qn
            · rw [hl1]
              intro he
              rw [he] at q
              have qn : ansN T p z n M R RX (.inr 1) := q
              exact shx (qn (n + 1))
      · have e45 : (some c == some 45) = false := by simpa using h45
        (try simp only [hd_e, hd_d, hd_0, hd_o, hd_c, hd_s, hd_in, List.head?_cons, List.head?_nil, List.isEmpty_cons, List.isEmpty_nil, List.cons_append, List.nil_append, beq_self_eq_true, gt, clsW, fldW, rd, add_ii, add_ss, add_tt, add_ff, sub_ii, mul_ii, div_ii, mod_ii, pow_ii, neg_i, lt_ii, le_ii, gt_ii, ge_ii, eq_ii, eq_ss, eq_bb, ne_ii, ne_ss, in_ss, int_i, int_b, int_s, cut_s, len_s, len_t, len_f, len_sc, str_i, str_s, tupof_f, lk_at, lk_s, lk_1, lk_2, lk_3, lk_4, lk_5, lk_6, put_rd, put_rd0, len_rd, mu_same, mu_mu, true_and, and_true, Bool.not_true, Bool.not_false, if_true, if_false, Bool.false_eq_true, decide_true, decide_false, Bool.true_eq_false, ite_true, ite_false, eq_self_iff_true, hM', e45])
        refine ⟨p, z, n, rfl, hM, hz, ?_⟩
        rw [hl]
        by_cases h48 : c = 48
        · subst h48
          have qn : ansN T p z n M R RX (.inl (0, 1)) := q
          (try simp only [hd_e, hd_d, hd_0, hd_o, hd_c, hd_s, hd_in, List.head?_cons, List.head?_nil, List.isEmpty_cons, List.isEmpty_nil, List.cons_append, List.nil_append, beq_self_eq_true, gt, clsW, fldW, rd, add_ii, add_ss, add_tt, add_ff, sub_ii, mul_ii, div_ii, mod_ii, pow_ii, neg_i, lt_ii, le_ii, gt_ii, ge_ii, eq_ii, eq_ss, eq_bb, ne_ii, ne_ss, in_ss, int_i, int_b, int_s, cut_s, len_s, len_t, len_f, len_sc, str_i, str_s, tupof_f, lk_at, lk_s, lk_1, lk_2, lk_3, lk_4, lk_5, lk_6, put_rd, put_rd0, len_rd, mu_same, mu_mu, true_and, and_true, Bool.not_true, Bool.not_false, if_true, if_false, Bool.false_eq_true, decide_true, decide_false, Bool.true_eq_false, ite_true, ite_false, eq_self_iff_true, hM'])
          exact ⟨by decide, _, MSub.refl _, qn⟩
        · have e48 : (some c == some 48) = false := by simpa using h48
          (try simp only [hd_e, hd_d, hd_0, hd_o, hd_c, hd_s, hd_in, List.head?_cons, List.head?_nil, List.isEmpty_cons, List.isEmpty_nil, List.cons_append, List.nil_append, beq_self_eq_true, gt, clsW, fldW, rd, add_ii, add_ss, add_tt, add_ff, sub_ii, mul_ii, div_ii, mod_ii, pow_ii, neg_i, lt_ii, le_ii, gt_ii, ge_ii, eq_ii, eq_ss, eq_bb, ne_ii, ne_ss, in_ss, int_i, int_b, int_s, cut_s, len_s, len_t, len_f, len_sc, str_i, str_s, tupof_f, lk_at, lk_s, lk_1, lk_2, lk_3, lk_4, lk_5, lk_6, put_rd, put_rd0, len_rd, mu_same, mu_mu, true_and, and_true, Bool.not_true, Bool.not_false, if_true, if_false, Bool.false_eq_true, decide_true, decide_false, Bool.true_eq_false, ite_true, ite_false, eq_self_iff_true, hM', e48])
          have en : numR (c :: r) = (if (run digP 40 (c :: r)).isEmpty then .inr 0 else .inl (dval (run digP 40 (c :: r)), (run digP 40 (c :: r)).length)) := by
            rw [numR]
            · intro r2 e2; cases e2; exact h45 rfl
            · intro r2 e2; cases e2; exact h45 rfl
            · intro r2 e2; cases e2; exact h48 rfl
          rw [en] at q
          obtain ⟨r2, hd2, hm2, hin2, _⟩ := run_split digP 40 (c :: r)
          refine ⟨p, z, n, _, 40, digP, rfl, hM, hz, dig_in, ?_, ?_⟩
          · rw [hl]
            intro hne
            generalize run digP 40 (c :: r) = x at *
            have hi := run_int hin2 hne hm2
            have hne' : x.isEmpty = false := by cases x with
              | nil => exact absurd rfl hne
              | cons => rfl
            rw [hne'] at q
            have qn : ansN T p z n M R RX (.inl (dval x, x.length)) := q
            (try simp only [hd_e, hd_d, hd_0, hd_o, hd_c, hd_s, hd_in, List.head?_cons, List.head?_nil, List.isEmpty_cons, List.isEmpty_nil, List.cons_append, List.nil_append, beq_self_eq_true, gt, clsW, fldW, rd, add_ii, add_ss, add_tt, add_ff, sub_ii, mul_ii, div_ii, mod_ii, pow_ii, neg_i, lt_ii, le_ii, gt_ii, ge_ii, eq_ii, eq_ss, eq_bb, ne_ii, ne_ss, in_ss, int_i, int_b, int_s, cut_s, len_s, len_t, len_f, len_sc, str_i, str_s, tupof_f, lk_at, lk_s, lk_1, lk_2, lk_3, lk_4, lk_5, lk_6, put_rd, put_rd0, len_rd, mu_same, mu_mu, true_and, and_true, Bool.not_true, Bool.not_false, if_true, if_false, Bool.false_eq_true, decide_true, decide_false, Bool.true_eq_false, ite_true, ite_false, eq_self_iff_true, hi])
            exact ⟨by show x.toArray.size ≤ 640; simp; omega, _, MSub.refl _, qn⟩
          · rw [hl]
            intro he
            rw [he] at q
            have qn : ansN T p z n M R RX (.inr 0) := q
            have := qn n
            rw [mu_id hM] at this
            exact shx this
theorem ok_Reader_a_number (T : Tx P w K mg base)  : FF P w K mg base (4) T.A_Reader_a_number ["self"] (sp_Reader_a_number T) := by
  obtain ⟨fd, F, hb, _⟩ := T.F_Reader_a_number
  exact ⟨⟨fd, fo_Reader_a_number T F , hb⟩, F.kp⟩
theorem okM_Reader_a_number (T : Tx P w K mg base) : Mth P w K mg base (4) T.C_Reader "a_number" ["self"] (sp_Reader_a_number T) := ⟨⟨_, T.mt_Reader_a_number, ok_Reader_a_number T⟩, T.cl_Reader⟩

theorem fo_Reader_a_leaf {fd : FuncData} (T : Tx P w K mg base) (F : Fun K "a_leaf" "Reader.a_leaf" s_Reader_a_leaf T.A_Reader_a_leaf fd)  : FnOk P w K mg base (L2.CX P w) (5) T.A_Reader_a_leaf fd ["self"] (upS K (sp_Reader_a_leaf T)) := by
  refine fn_rich F sc_Reader_a_leaf (fun ws M R RX h => ?len) (fun cdv A outer s H E F0 ws M R RX hr hsp hx hp => ⟨_, (qss_cons (qs_if (QW.qt (qw_or (qt_cmp (q_eq hr.units) (qe_meth0 (Cs := (fun C => C = T.C_Reader)) (sps := fun _ => sp_Reader_next_sign T) (pss := fun _ => _) (qv 0) (by rintro _ rfl; exact (okM_Reader_next_sign T)) (hr.mono (by omega)) hx) qe_str (nomark _)) (qw_or1 (QW.qt (qw_and (qt_cmp (q_ne hr.units) (qe_meth0 (Cs := (fun C => C = T.C_Reader)) (sps := fun _ => sp_Reader_next_sign T) (pss := fun _ => _) (qv 0) (by rintro _ rfl; exact (okM_Reader_next_sign T)) (hr.mono (by omega)) hx) qe_str (nomark _)) (qw_and1 (qt_cmp q_in (qe_meth0 (Cs := (fun C => C = T.C_Reader)) (sps := fun _ => sp_Reader_next_sign T) (pss := fun _ => _) (qv 0) (by rintro _ rfl; exact (okM_Reader_next_sign T)) (hr.mono (by omega)) hx) (qe_glob (w := .str "0123456789") (v := .str "0123456789") rfl T.g_FIGURES ⟨_, rfl⟩ (fun _ => str_rw)) (by rfl)))))))) (qss_one (qs_ret (qe_meth0 (Cs := (fun C => C = T.C_Reader)) (sps := fun _ => sp_Reader_a_number T) (pss := fun _ => _) (qv 0) (by rintro _ rfl; exact (okM_Reader_a_number T)) (hr.mono (by omega)) hx))) qss_nil)
      (qss_cons (qs_set (i := 1) sc_Reader_a_leaf.nd rfl (by first | exact Or.inl rfl | exact Or.inr rfl) (qe_meth (Cs := (fun C => C = T.C_Reader)) (sps := fun _ => sp_Reader_row_of T) (pss := fun _ => _) (qv 0) (by rintro _ rfl; exact (okM_Reader_row_of T)) (hr.mono (by omega)) hx (qa_cons (qe_glob (w := .str "abcdefghijklmnopqrstuvwxyz") (v := .str "abcdefghijklmnopqrstuvwxyz") rfl T.g_LETTERS ⟨_, rfl⟩ (fun _ => str_rw)) (qa_cons (qe_glob (w := .int 12) (v := .int 12) rfl T.g_MOST_LETTERS ⟨_, rfl⟩ (fun _ => int_rw)) qa_nil))))
      (qss_one (qs_ret (qe_kget T.k_TRUTHS (qe_glob (w := .ref T.D_TRUTHS) (v := .ref _) rfl T.g_TRUTHS rfl (fun _ => ref_rw)) (qv 1) (qv 1) ⟨rfl, rfl, rfl, rfl⟩))))), ?body⟩)
  case len => (unfold sp_Reader_a_leaf at h; first | (obtain ⟨_, rfl, _⟩ := h; rfl) | (obtain ⟨_, _, rfl, _⟩ := h; rfl) | (obtain ⟨_, _, _, rfl, _⟩ := h; rfl) | (obtain ⟨_, _, _, _, rfl, _⟩ := h; rfl) | (obtain ⟨_, _, _, _, _, rfl, _⟩ := h; rfl) | (obtain ⟨_, _, _, _, _, _, rfl, _⟩ := h; rfl) | (obtain ⟨_, _, _, _, _, _, _, rfl, _⟩ := h; rfl) | (obtain ⟨_, _, _, _, _, _, _, _, rfl, _⟩ := h; rfl))
  case body =>
    obtain ⟨p, z, n, rfl, hM, hz, q⟩ := hsp
    have hM' : M p = some (.ins T.C_Reader (rdF z n)) := hM
    generalize hl : (tls z).drop n = l at q
    have num : numHead l = true → sp_Reader_a_number T [.ref p] M (sh R) (shX RX) := fun hh => by
      refine ⟨p, z, n, rfl, hM, hz, by rw [hl]; exact hh, ?_⟩
      rw [hl]
      unfold leafR at q
      rw [if_pos hh] at q
      cases e : numR l with
      | inr k =>
        rw [e] at q
        exact fun m => shx (q m)
      | inl ik =>
        obtain ⟨i, k⟩ := ik
        rw [e] at q
        have hk : (l.take k).length = k := by
          have := num_le e
          rw [List.length_take]; omega
        have q' : R (.int i) (mu M p (rd T z (n + (l.take k).length))) := q
        rw [hk] at q'
        exact ⟨_, MSub.refl _, q'⟩
    simp only [mVar, gt, mC, mOp, mUn, mTest, mChain, mAnd, mOr, mNot, mAndV, mOrV, mNotV, mIf, mNil, mCons, mTup, mFl, mLst, mCB, mBM0, mBM, mSl, mPart, mNoPart, mSeq, mNext, mDrop, mRet, mIfS, mAsg, nName, st, startW, mFld, mSetFld, mAugFld, mMeth, mCall, mRaise, List.map_cons, List.map_nil, List.length_cons, List.length_nil, List.replicate, List.cons_append, List.nil_append, Nat.zero_add, Nat.reduceAdd, Nat.reduceSub, Nat.sub_self, mWhile, add_ii, add_ss, add_tt, add_ff, sub_ii, mul_ii, div_ii, mod_ii, pow_ii, neg_i, lt_ii, le_ii, gt_ii, ge_ii, eq_ii, eq_ss, eq_bb, ne_ii, ne_ss, in_ss, int_i, int_b, int_s, cut_s, len_s, len_t, len_f, len_sc, str_i, str_s, tupof_f]
    (try simp only [hd_e, hd_d, hd_0, hd_o, hd_c, hd_s, hd_in, List.head?_cons, List.head?_nil, List.isEmpty_cons, List.isEmpty_nil, List.cons_append, List.nil_append, beq_self_eq_true, gt, clsW, fldW, rd, add_ii, add_ss, add_tt, add_ff, sub_ii, mul_ii, div_ii, mod_ii, pow_ii, neg_i, lt_ii, le_ii, gt_ii, ge_ii, eq_ii, eq_ss, eq_bb, ne_ii, ne_ss, in_ss, int_i, int_b, int_s, cut_s, len_s, len_t, len_f, len_sc, str_i, str_s, tupof_f, lk_at, lk_s, lk_1, lk_2, lk_3, lk_4, lk_5, lk_6, put_rd, put_rd0, len_rd, mu_same, mu_mu, true_and, and_true, Bool.not_true, Bool.not_false, if_true, if_false, Bool.false_eq_true, decide_true, decide_false, Bool.true_eq_false, ite_true, ite_false, eq_self_iff_true, hM'])
    refine ⟨p, z, n, rfl, hM, hz, ?_⟩
    rw [hl]
    cases l with
    | nil =>
      (try simp only [hd_e, hd_d, hd_0, hd_o, hd_c, hd_s, hd_in, List.head?_cons, List.head?_nil, List.isEmpty_cons, List.isEmpty_nil, List.cons_append, List.nil_append, beq_self_eq_true, gt, clsW, fldW, rd, add_ii, add_ss, add_tt, add_ff, sub_ii, mul_ii, div_ii, mod_ii, pow_ii, neg_i, lt_ii, le_ii, gt_ii, ge_ii, eq_ii, eq_ss, eq_bb, ne_ii, ne_ss, in_ss, int_i, int_b, int_s, cut_s, len_s, len_t, len_f, len_sc, str_i, str_s, tupof_f, lk_at, lk_s, lk_1, lk_2, lk_3, lk_4, lk_5, lk_6, put_rd, put_rd0, len_rd, mu_same, mu_mu, true_and, and_true, Bool.not_true, Bool.not_false, if_true, if_false, Bool.false_eq_true, decide_true, decide_false, Bool.true_eq_false, ite_true, ite_false, eq_self_iff_true, hM', show ((none : Option Nat) == some 45) = false from rfl])
      refine ⟨p, z, n, rfl, hM, hz, ?_⟩
      rw [hl]
      (try simp only [hd_e, hd_d, hd_0, hd_o, hd_c, hd_s, hd_in, List.head?_cons, List.head?_nil, List.isEmpty_cons, List.isEmpty_nil, List.cons_append, List.nil_append, beq_self_eq_true, gt, clsW, fldW, rd, add_ii, add_ss, add_tt, add_ff, sub_ii, mul_ii, div_ii, mod_ii, pow_ii, neg_i, lt_ii, le_ii, gt_ii, ge_ii, eq_ii, eq_ss, eq_bb, ne_ii, ne_ss, in_ss, int_i, int_b, int_s, cut_s, len_s, len_t, len_f, len_sc, str_i, str_s, tupof_f, lk_at, lk_s, lk_1, lk_2, lk_3, lk_4, lk_5, lk_6, put_rd, put_rd0, len_rd, mu_same, mu_mu, true_and, and_true, Bool.not_true, Bool.not_false, if_true, if_false, Bool.false_eq_true, decide_true, decide_false, Bool.true_eq_false, ite_true, ite_false, eq_self_iff_true, hM'])
      have hl0 : numHead ([]) = false := rfl
      unfold leafR at q
      rw [if_neg (by rw [hl0]; simp)] at q
      refine ⟨p, z, n, _, 12, lowP, rfl, hM, hz, low_in, ?_, ?_⟩
      · rw [hl]
        intro hne
        have hne' : (run lowP 12 ([])).isEmpty = false := by
          cases h : run lowP 12 ([]) with
          | nil => exact absurd h hne
          | cons => rfl
        rw [hne'] at q
        simp only [mKGet, mC, mVar, gt]
        rw [true_and]
        exact ⟨_, MSub.refl _, q⟩
      · rw [hl]
        intro he
        have he' : (run lowP 12 ([])).isEmpty = true := by rw [he]; rfl
        rw [he'] at q
        have q' := (show ansL T p z n M R RX (.inr 0) from q) n
        rw [mu_id hM] at q'
        exact shx q'
    | cons c r =>
      by_cases h45 : c = 45
      · subst h45
        (try simp only [hd_e, hd_d, hd_0, hd_o, hd_c, hd_s, hd_in, List.head?_cons, List.head?_nil, List.isEmpty_cons, List.isEmpty_nil, List.cons_append, List.nil_append, beq_self_eq_true, gt, clsW, fldW, rd, add_ii, add_ss, add_tt, add_ff, sub_ii, mul_ii, div_ii, mod_ii, pow_ii, neg_i, lt_ii, le_ii, gt_ii, ge_ii, eq_ii, eq_ss, eq_bb, ne_ii, ne_ss, in_ss, int_i, int_b, int_s, cut_s, len_s, len_t, len_f, len_sc, str_i, str_s, tupof_f, lk_at, lk_s, lk_1, lk_2, lk_3, lk_4, lk_5, lk_6, put_rd, put_rd0, len_rd, mu_same, mu_mu, true_and, and_true, Bool.not_true, Bool.not_false, if_true, if_false, Bool.false_eq_true, decide_true, decide_false, Bool.true_eq_false, ite_true, ite_false, eq_self_iff_true, hM'])
        exact num rfl
      · have e45 : (some c == some 45) = false := by simpa using h45
        (try simp only [hd_e, hd_d, hd_0, hd_o, hd_c, hd_s, hd_in, List.head?_cons, List.head?_nil, List.isEmpty_cons, List.isEmpty_nil, List.cons_append, List.nil_append, beq_self_eq_true, gt, clsW, fldW, rd, add_ii, add_ss, add_tt, add_ff, sub_ii, mul_ii, div_ii, mod_ii, pow_ii, neg_i, lt_ii, le_ii, gt_ii, ge_ii, eq_ii, eq_ss, eq_bb, ne_ii, ne_ss, in_ss, int_i, int_b, int_s, cut_s, len_s, len_t, len_f, len_sc, str_i, str_s, tupof_f, lk_at, lk_s, lk_1, lk_2, lk_3, lk_4, lk_5, lk_6, put_rd, put_rd0, len_rd, mu_same, mu_mu, true_and, and_true, Bool.not_true, Bool.not_false, if_true, if_false, Bool.false_eq_true, decide_true, decide_false, Bool.true_eq_false, ite_true, ite_false, eq_self_iff_true, hM', e45])
        refine ⟨p, z, n, rfl, hM, hz, ?_⟩
        rw [hl]
        (try simp only [hd_e, hd_d, hd_0, hd_o, hd_c, hd_s, hd_in, List.head?_cons, List.head?_nil, List.isEmpty_cons, List.isEmpty_nil, List.cons_append, List.nil_append, beq_self_eq_true, gt, clsW, fldW, rd, add_ii, add_ss, add_tt, add_ff, sub_ii, mul_ii, div_ii, mod_ii, pow_ii, neg_i, lt_ii, le_ii, gt_ii, ge_ii, eq_ii, eq_ss, eq_bb, ne_ii, ne_ss, in_ss, int_i, int_b, int_s, cut_s, len_s, len_t, len_f, len_sc, str_i, str_s, tupof_f, lk_at, lk_s, lk_1, lk_2, lk_3, lk_4, lk_5, lk_6, put_rd, put_rd0, len_rd, mu_same, mu_mu, true_and, and_true, Bool.not_true, Bool.not_false, if_true, if_false, Bool.false_eq_true, decide_true, decide_false, Bool.true_eq_false, ite_true, ite_false, eq_self_iff_true, hM'])
        refine ⟨p, z, n, rfl, hM, hz, ?_⟩
        rw [hl]
        cases hd : digP c with
        | true =>
          (try simp only [hd_e, hd_d, hd_0, hd_o, hd_c, hd_s, hd_in, List.head?_cons, List.head?_nil, List.isEmpty_cons, List.isEmpty_nil, List.cons_append, List.nil_append, beq_self_eq_true, gt, clsW, fldW, rd, add_ii, add_ss, add_tt, add_ff, sub_ii, mul_ii, div_ii, mod_ii, pow_ii, neg_i, lt_ii, le_ii, gt_ii, ge_ii, eq_ii, eq_ss, eq_bb, ne_ii, ne_ss, in_ss, int_i, int_b, int_s, cut_s, len_s, len_t, len_f, len_sc, str_i, str_s, tupof_f, lk_at, lk_s, lk_1, lk_2, lk_3, lk_4, lk_5, lk_6, put_rd, put_rd0, len_rd, mu_same, mu_mu, true_and, and_true, Bool.not_true, Bool.not_false, if_true, if_false, Bool.false_eq_true, decide_true, decide_false, Bool.true_eq_false, ite_true, ite_false, eq_self_iff_true, hM', dig_in c, hd])
          exact num (by simp [numHead, hd])
        | false =>
          (try simp only [hd_e, hd_d, hd_0, hd_o, hd_c, hd_s, hd_in, List.head?_cons, List.head?_nil, List.isEmpty_cons, List.isEmpty_nil, List.cons_append, List.nil_append, beq_self_eq_true, gt, clsW, fldW, rd, add_ii, add_ss, add_tt, add_ff, sub_ii, mul_ii, div_ii, mod_ii, pow_ii, neg_i, lt_ii, le_ii, gt_ii, ge_ii, eq_ii, eq_ss, eq_bb, ne_ii, ne_ss, in_ss, int_i, int_b, int_s, cut_s, len_s, len_t, len_f, len_sc, str_i, str_s, tupof_f, lk_at, lk_s, lk_1, lk_2, lk_3, lk_4, lk_5, lk_6, put_rd, put_rd0, len_rd, mu_same, mu_mu, true_and, and_true, Bool.not_true, Bool.not_false, if_true, if_false, Bool.false_eq_true, decide_true, decide_false, Bool.true_eq_false, ite_true, ite_false, eq_self_iff_true, hM', dig_in c, hd])
          have hl0 : numHead (c :: r) = false := by simp [numHead, hd, h45]
          unfold leafR at q
          rw [if_neg (by rw [hl0]; simp)] at q
          refine ⟨p, z, n, _, 12, lowP, rfl, hM, hz, low_in, ?_, ?_⟩
          · rw [hl]
            intro hne
            have hne' : (run lowP 12 (c :: r)).isEmpty = false := by
              cases h : run lowP 12 (c :: r) with
              | nil => exact absurd h hne
              | cons => rfl
            rw [hne'] at q
            simp only [mKGet, mC, mVar, gt]
            rw [true_and]
            exact ⟨_, MSub.refl _, q⟩
          · rw [hl]
            intro he
            have he' : (run lowP 12 (c :: r)).isEmpty = true := by rw [he]; rfl
            rw [he'] at q
            have q' := (show ansL T p z n M R RX (.inr 0) from q) n
            rw [mu_id hM] at q'
            exact shx q'
theorem ok_Reader_a_leaf (T : Tx P w K mg base)  : FF P w K mg base (5) T.A_Reader_a_leaf ["self"] (sp_Reader_a_leaf T) := by
  obtain ⟨fd, F, hb, _⟩ := T.F_Reader_a_leaf
  exact ⟨⟨fd, fo_Reader_a_leaf T F , hb⟩, F.kp⟩
theorem okM_Reader_a_leaf (T : Tx P w K mg base) : Mth P w K mg base (5) T.C_Reader "a_leaf" ["self"] (sp_Reader_a_leaf T) := ⟨⟨_, T.mt_Reader_a_leaf, ok_Reader_a_leaf T⟩, T.cl_Reader⟩

end Ri
set_option Elab.async false
set_option linter.all false
set_option maxRecDepth 100000
set_option maxHeartbeats 4000000

namespace Ri
open PySem L2 PySem.Calls PyProof.Rows

/-! ### == of a list that holds lists -/
def datsM (M : MH) : List W → Option (List PyData)
  | [] => some []
  | w :: ws => (datM M w).bind fun d => (datsM M ws).map (d :: ·)
def datM2 (M : MH) : W → Option PyData
  | .ref p => match M p with | some (.lst xs) => (datsM M xs).map .list | _ => none
  | w => dat w
theorem dpsM_of {K : PySem.W.Frag} {F : Hp} {M : MH} {H : Hp} (a : Ab K F M H) : ∀ {ws : List W} {vs : List V} {ds : List PyData}, RelWs K F ws vs → datsM M ws = some ds → DpAll K H vs ds
  | [], vs, ds, r, h => by
    simp only [datsM, Option.some.injEq] at h; subst h
    rw [RelWs.nil_inv r]; exact .nil
  | w :: ws, vs, ds, r, h => by
    obtain ⟨v, q, rfl, r1, r2⟩ := RelWs.cons_inv r
    simp only [datsM] at h
    obtain ⟨d, e1, h⟩ := Option.bind_eq_some_iff.mp h
    obtain ⟨es, e2, h⟩ := Option.map_eq_some_iff.mp h
    subst h
    exact .cons (dpM_of a r1 e1) (dpsM_of a r2 e2)
theorem dpM2_of {K : PySem.W.Frag} {F : Hp} {M : MH} {H : Hp} (a : Ab K F M H) {w : W} {v : V} {d : PyData} (r : RelW K F w v) (h : datM2 M w = some d) : Dp K H v d := by
  cases w with
  | ref p =>
    simp only [datM2] at h
    split at h
    · rename_i xs e
      obtain ⟨ds, e1, h⟩ := Option.map_eq_some_iff.mp h
      subst h
      cases rw_ref r
      obtain ⟨vs, h1, _, h2⟩ := a.lst e
      exact .lst (SqL.of h1) (dpsM_of a h2 e1)
    · cases h
  | _ => exact dp_of a r h
def deqL (M : MH) (x y : W) (k : Bool → Prop) : Prop := match datM2 M x, datM2 M y with
  | some d, some e => d.canLay0 = true ∧ e.canLay0 = true ∧ min d.depth e.depth ≤ 64 ∧ k (PyData.eqv d e)
  | _, _ => False
def mEqL : M2 := fun x y M R => deqL M x y fun b => R (.bl b) M
def mNeL : M2 := fun x y M R => deqL M x y fun b => R (.bl (!b)) M
theorem q_eqL {X : Cx} (hu : X.A.units + 64 < cLine) : QOp X (compareOp .Eq) mEqL := by
  refine ⟨_, op_eqM hu, fun F M H x y x' y' R Q a rx ry h k => ?_⟩
  unfold mEqL deqL at h
  split at h
  · rename_i d e' h1 h2
    obtain ⟨h3, h4, h5, h6⟩ := h
    exact ⟨d, e', dpM2_of a rx h1, dpM2_of a ry h2, h3, h4, h5, k.here a bl_rw h6⟩
  · exact h.elim
theorem q_neL {X : Cx} (hu : X.A.units + 64 < cLine) : QOp X (compareOp .NotEq) mNeL := by
  refine ⟨_, op_neM hu, fun F M H x y x' y' R Q a rx ry h k => ?_⟩
  unfold mNeL deqL at h
  split at h
  · rename_i d e' h1 h2
    obtain ⟨h3, h4, h5, h6⟩ := h
    exact ⟨d, e', dpM2_of a rx h1, dpM2_of a ry h2, h3, h4, h5, k.here a bl_rw h6⟩
  · exact h.elim
theorem seq_have {t u : MS} {D : MEnds} {ρ : MSt} {M : MH} (I : MSt → MH → Prop) (h2 : ∀ ρ M, I ρ M → u D ρ M) (h1 : ∀ G : MSt → MH → Prop, (∀ ρ M, I ρ M → G ρ M) → t { D with nx := G } ρ M) : mSeq t u D ρ M := h1 _ h2
/-! ### the data of a datum -/
theorem leaf_dat {x : List Nat} {v : W} (h : leafOk x v = true) : ∃ e, dat v = some e ∧ e.canLay0 = true ∧ e.depth = 0 := by
  rcases leaf_cases h with ⟨b, rfl, _⟩ | ⟨i, rfl, _⟩ | ⟨s, rfl, hw, hs, _⟩
  · exact ⟨_, rfl, rfl, rfl⟩
  · exact ⟨_, rfl, rfl, rfl⟩
  · refine ⟨_, rfl, ?_, rfl⟩
    show PySem.PyData.strOk s = true
    unfold PySem.PyData.strOk
    rw [← Array.all_toList]
    rw [List.all_eq_true]
    intro c hc
    have hc' : c ∈ x := by rw [← hs]; exact hc
    simp only [wordOk, Bool.and_eq_true, decide_eq_true_eq, List.all_eq_true] at hw
    have := hw.1.2 c hc'
    exact decide_eq_true (by omega)
mutual
theorem dat_wD : ∀ {d : D}, okD d → ∃ e, dat (wD d) = some e ∧ e.canLay0 = true ∧ e.depth = dp d
  | .lf x v, h => by
    obtain ⟨e, h1, h2, h3⟩ := leaf_dat (x := x) (v := v) (by simpa [okD] using h)
    exact ⟨e, by simpa only [wD] using h1, h2, by simpa only [dp] using h3⟩
  | .t xs, h => by
    obtain ⟨es, h1, h2, h3⟩ := dats_wD (xs := xs) (by simpa [okD] using h)
    exact ⟨.tuple es, by simp only [wD, dat, h1, Option.map_some], h2, by simp only [dp, PyData.depth, h3]⟩
theorem dats_wD : ∀ {xs : List D}, okDs xs → ∃ es, dats (wDs xs) = some es ∧ PyData.canLayAll0 es = true ∧ PyData.depthAll es = dps xs
  | [], _ => ⟨[], by simp only [wDs, dats], rfl, by simp only [dps, PyData.depthAll]⟩
  | d :: r, h => by
    simp only [okDs] at h
    obtain ⟨e, h1, h2, h3⟩ := dat_wD (d := d) h.1
    obtain ⟨es, h4, h5, h6⟩ := dats_wD (xs := r) h.2
    exact ⟨e :: es, by simp only [wDs, dats, h1, h4, Option.bind_some, Option.map_some], by simp only [PyData.canLayAll0, h2, h5, Bool.and_true], by simp only [dps, PyData.depthAll, h3, h6]⟩
end
theorem dats_map {xs : List D} (h : ∀ d ∈ xs, okD d) : ∃ es, dats (xs.map wD) = some es ∧ PyData.canLayAll0 es = true ∧ PyData.depthAll es = dps xs := by
  rw [← wDs_map]
  exact dats_wD (okDs_mem.mpr h)
/-! ### the reader's stack -/
abbrev Frm := List D × List D
def kont : List Frm → List Nat
  | [] => []
  | (_, td) :: fs => sibs td ++ (41 :: kont fs)
def plug : D → List Frm → D
  | d, [] => d
  | d, (dn, td) :: fs => plug (.t (dn ++ d :: td)) fs
def FrM (M : MH) : List Addr → List Frm → Prop
  | [], [] => True
  | q :: qs, (dn, _) :: fs => M q = some (.lst (dn.map wD)) ∧ q ∉ qs ∧ FrM M qs fs
  | _, _ => False
def okF (fs : List Frm) : Prop := ∀ f ∈ fs, (∀ d ∈ f.1, okD d) ∧ ∀ d ∈ f.2, okD d
theorem FrM.mono {M N : MH} : ∀ {qs : List Addr} {fs : List Frm}, (∀ q ∈ qs, N q = M q) → FrM M qs fs → FrM N qs fs
  | [], [], _, _ => trivial
  | q :: qs, (dn, td) :: fs, h, hf => by
    simp only [FrM] at hf ⊢
    exact ⟨by rw [h q List.mem_cons_self]; exact hf.1, hf.2.1, FrM.mono (fun x hx => h x (List.mem_cons_of_mem _ hx)) hf.2.2⟩
  | [], _ :: _, _, hf => hf.elim
  | _ :: _, [], _, hf => hf.elim
theorem FrM.dat {M : MH} : ∀ {qs : List Addr} {fs : List Frm}, FrM M qs fs → okF fs → ∃ es, datsM M (qs.map W.ref) = some es ∧ PyData.canLayAll0 es = true ∧ es.length = fs.length
  | [], [], _, _ => ⟨[], rfl, rfl, rfl⟩
  | q :: qs, (dn, td) :: fs, hf, ho => by
    simp only [FrM] at hf
    obtain ⟨es, h1, h2, h3⟩ := FrM.dat hf.2.2 fun f hf' => ho f (List.mem_cons_of_mem _ hf')
    obtain ⟨e, h4, h5, h6⟩ := dats_map (ho _ List.mem_cons_self).1
    refine ⟨.list e :: es, ?_, ?_, by simp [h3]⟩
    · simp only [List.map_cons, datsM, datM, hf.1, h4, h1, Option.map_some, Option.bind_some]
    · simp only [PyData.canLayAll0, PyData.canLay0, h5, h2, Bool.and_true]
  | [], _ :: _, hf, _ => hf.elim
  | _ :: _, [], hf, _ => hf.elim
theorem datsM_app {M : MH} : ∀ {xs ys : List W} {ds es : List PyData}, datsM M xs = some ds → datsM M ys = some es → datsM M (xs ++ ys) = some (ds ++ es)
  | [], _, ds, _, h, h' => by simp only [datsM, Option.some.injEq] at h; subst h; exact h'
  | x :: xs, ys, ds, es, h, h' => by
    simp only [datsM] at h
    obtain ⟨d, e1, h⟩ := Option.bind_eq_some_iff.mp h
    obtain ⟨fs, e2, h⟩ := Option.map_eq_some_iff.mp h
    subst h
    simp only [List.cons_append, datsM, e1, datsM_app e2 h', Option.bind_some, Option.map_some]
theorem lay_app : ∀ {xs ys : List PyData}, PyData.canLayAll0 xs = true → PyData.canLayAll0 ys = true → PyData.canLayAll0 (xs ++ ys) = true
  | [], _, _, h => h
  | x :: xs, ys, h, h' => by
    simp only [PyData.canLayAll0, Bool.and_eq_true, List.cons_append] at h ⊢
    exact ⟨h.1, lay_app h.2 h'⟩
theorem datsM_rev {M : MH} : ∀ {xs : List W} {ds : List PyData}, datsM M xs = some ds → PyData.canLayAll0 ds = true → ∃ es, datsM M xs.reverse = some es ∧ PyData.canLayAll0 es = true ∧ es.length = ds.length
  | [], ds, h, h' => by simp only [datsM, Option.some.injEq] at h; subst h; exact ⟨[], rfl, rfl, rfl⟩
  | x :: xs, ds, h, h' => by
    simp only [datsM] at h
    obtain ⟨d, e1, h⟩ := Option.bind_eq_some_iff.mp h
    obtain ⟨fs, e2, h⟩ := Option.map_eq_some_iff.mp h
    subst h
    simp only [PyData.canLayAll0, Bool.and_eq_true] at h'
    obtain ⟨es, h1, h2, h3⟩ := datsM_rev e2 h'.2
    refine ⟨es ++ [d], ?_, lay_app h2 (by simp [PyData.canLayAll0, h'.1]), by simp [h3]⟩
    rw [List.reverse_cons]
    exact datsM_app h1 (by simp only [datsM, e1, Option.bind_some, Option.map_some])
variable {P : Program} {w : World} {K : PySem.W.Frag} {mg : Str → Option Value} {base : Heap}
/-- the reader on its way -/
structure Stk (T : Tx P w K mg base) (M : MH) (p S : Addr) (z : Str) (M1 : MH) (n : Nat) (qs : List Addr) (fs : List Frm) : Prop where
  rdr : M1 p = some (rd T z n)
  stl : M1 S = some (.lst (qs.reverse.map W.ref))
  frm : FrM M1 qs fs
  sq : S ∉ qs
  pq : p ∉ qs
  ps : p ≠ S
  fr : ∀ q ∈ qs, M q = none
  fS : M S = none
  kp : ∀ b o, b ≠ p → M b = some o → M1 b = some o
  ok : okF fs
  le : n ≤ (tls z).length
theorem le_drop {z : Str} {n : Nat} {x r : List Nat} (h : (tls z).drop n = x ++ r) (hx : x ≠ []) : n + x.length ≤ (tls z).length := by
  have h1 : ((tls z).drop n).length = x.length + r.length := by rw [h, List.length_append]
  have h2 : 0 < x.length := List.length_pos_iff.mpr hx
  rw [List.length_drop] at h1
  omega
theorem le_drop1 {z : Str} {n c : Nat} {r : List Nat} (h : (tls z).drop n = c :: r) : n + 1 ≤ (tls z).length := le_drop (x := [c]) h (by simp)
section
variable {T : Tx P w K mg base} {M M1 : MH} {p S : Addr} {z : Str} {n : Nat} {qs : List Addr} {fs : List Frm}
theorem FrM.len : ∀ {qs : List Addr} {fs : List Frm}, FrM M qs fs → qs.length = fs.length
  | [], [], _ => rfl
  | q :: qs, (dn, td) :: fs, h => by simp only [FrM] at h; simp [FrM.len h.2.2]
  | [], _ :: _, hf => hf.elim
  | _ :: _, [], hf => hf.elim
theorem Stk.data (s : Stk T M p S z M1 n qs fs) : ∃ es, datM2 M1 (.ref S) = some (.list es) ∧ PyData.canLayAll0 es = true ∧ es.length = fs.length := by
  obtain ⟨es, h1, h2, h3⟩ := s.frm.dat s.ok
  obtain ⟨ds, h4, h5, h6⟩ := datsM_rev h1 h2
  refine ⟨ds, ?_, h5, by rw [h6, h3]⟩
  simp only [datM2, s.stl]
  rw [← List.map_reverse] at h4
  rw [h4]
  rfl
theorem eqv_nil {es : List PyData} : PyData.eqv (.list es) (.list []) = es.isEmpty := by
  cases es with
  | nil => simp [PyData.eqv, PyData.eqvAll]
  | cons e es => simp [PyData.eqv, PyData.eqvAll]
theorem Stk.deq (s : Stk T M p S z M1 n qs fs) {k : Bool → Prop} (h : k fs.isEmpty) : deqL M1 (.ref S) (.fl []) k := by
  obtain ⟨es, h1, h2, h3⟩ := s.data
  unfold deqL
  rw [h1]
  have e2 : datM2 M1 (.fl []) = some (.list []) := rfl
  rw [e2]
  dsimp only
  refine ⟨h2, rfl, ?_, ?_⟩
  · have : (PyData.list []).depth = 1 := by simp [PyData.depth, PyData.depthAll]
    omega
  · rw [eqv_nil]
    have : es.isEmpty = fs.isEmpty := by
      cases es with
      | nil => cases fs with
        | nil => rfl
        | cons => simp at h3
      | cons => cases fs with
        | nil => simp at h3
        | cons => rfl
    rw [this]
    exact h
theorem Stk.adv (s : Stk T M p S z M1 n qs fs) (m : Nat) (hm : m ≤ (tls z).length) : Stk T M p S z (mu M1 p (rd T z m)) m qs fs :=
  ⟨mu_same, by rw [mu_ne (Ne.symm s.ps)]; exact s.stl, s.frm.mono fun q hq => mu_ne fun e => s.pq (e ▸ hq), s.sq, s.pq, s.ps, s.fr, s.fS, fun b o hb e => by rw [mu_ne hb]; exact s.kp b o hb e, s.ok, hm⟩
theorem Stk.push (s : Stk T M p S z M1 n qs fs) {q : Addr} (hq : M1 q = none) {td : List D} (htd : ∀ d ∈ td, okD d) (hp : M p ≠ none) : Stk T M p S z (mu (mu M1 q (.lst [])) S (.lst (qs.reverse.map W.ref ++ [.ref q]))) n (q :: qs) (([], td) :: fs) := by
  have h1 : q ≠ S := fun e => by rw [e, s.stl] at hq; cases hq
  have h2 : q ≠ p := fun e => by rw [e, s.rdr] at hq; cases hq
  have h3 : q ∉ qs := fun hm => by
    have gen : ∀ {qs : List Addr} {fs : List Frm}, FrM M1 qs fs → q ∉ qs := by
      intro qs
      induction qs with
      | nil => intro fs _; simp
      | cons a qs ih =>
        intro fs h
        cases fs with
        | nil => exact h.elim
        | cons f fs =>
          obtain ⟨dn, td⟩ := f
          simp only [FrM] at h
          intro hm
          rcases List.mem_cons.mp hm with e | hm
          · rw [e, h.1] at hq; cases hq
          · exact ih h.2.2 hm
    exact gen s.frm hm
  have h4 : M q = none := by
    cases e : M q with
    | none => rfl
    | some o => have := s.kp q o h2 e; rw [hq] at this; cases this
  refine ⟨by rw [mu_ne s.ps, mu_ne (Ne.symm h2)]; exact s.rdr, by rw [mu_same]; simp, ?_, ?_, ?_, s.ps, ?_, s.fS, fun b o hb e => ?_, ?_, s.le⟩
  · simp only [FrM]
    refine ⟨by rw [mu_ne h1, mu_same]; rfl, h3, s.frm.mono fun a ha => ?_⟩
    have e1 : a ≠ S := fun e => s.sq (by rw [← e]; exact ha)
    have e2 : a ≠ q := fun e => h3 (by rw [← e]; exact ha)
    rw [mu_ne e1, mu_ne e2]
  · intro hm
    rcases List.mem_cons.mp hm with e | hm
    · exact h1 e.symm
    · exact s.sq hm
  · intro hm
    rcases List.mem_cons.mp hm with e | hm
    · exact h2 e.symm
    · exact s.pq hm
  · intro a ha
    rcases List.mem_cons.mp ha with e | hm
    · rw [e]; exact h4
    · exact s.fr a hm
  · have b1 : b ≠ S := fun e' => by rw [e', s.fS] at e; cases e
    have b2 : b ≠ q := fun e' => by rw [e', h4] at e; cases e
    rw [mu_ne b1, mu_ne b2]
    exact s.kp b o hb e
  · intro f hf
    rcases List.mem_cons.mp hf with e | hf
    · rw [e]; exact ⟨fun d hd => by simp at hd, htd⟩
    · exact s.ok f hf
theorem Stk.app {q : Addr} {dn td : List D} (s : Stk T M p S z M1 n (q :: qs) ((dn, td) :: fs)) {d : D} {td' : List D} (hd : okD d) (htd : ∀ d ∈ td', okD d) : Stk T M p S z (mu M1 q (.lst (dn.map wD ++ [wD d]))) n (q :: qs) ((dn ++ [d], td') :: fs) := by
  have f := s.frm
  simp only [FrM] at f
  have hp : p ≠ q := fun e => s.pq (e ▸ List.mem_cons_self)
  have hS : S ≠ q := fun e => s.sq (e ▸ List.mem_cons_self)
  refine ⟨by rw [mu_ne hp]; exact s.rdr, by rw [mu_ne hS]; exact s.stl, ?_, s.sq, s.pq, s.ps, s.fr, s.fS, fun b o hb e => ?_, ?_, s.le⟩
  · simp only [FrM]
    exact ⟨by rw [mu_same]; simp, f.2.1, f.2.2.mono fun a ha => mu_ne fun e => f.2.1 (e ▸ ha)⟩
  · have b2 : b ≠ q := fun e' => by rw [e', s.fr q List.mem_cons_self] at e; cases e
    rw [mu_ne b2]
    exact s.kp b o hb e
  · intro f' hf
    rcases List.mem_cons.mp hf with e | hf
    · rw [e]
      refine ⟨fun x hx => ?_, htd⟩
      rcases List.mem_append.mp hx with h | h
      · exact (s.ok _ List.mem_cons_self).1 x h
      · rw [List.mem_singleton.mp h]; exact hd
    · exact s.ok f' (List.mem_cons_of_mem _ hf)
theorem Stk.pop {q : Addr} {f : Frm} (s : Stk T M p S z M1 n (q :: qs) (f :: fs)) : Stk T M p S z (mu M1 S (.lst (qs.reverse.map W.ref))) n qs fs := by
  obtain ⟨dn, td⟩ := f
  have f := s.frm
  simp only [FrM] at f
  refine ⟨by rw [mu_ne s.ps]; exact s.rdr, mu_same, f.2.2.mono fun a ha => mu_ne fun e => s.sq (e ▸ List.mem_cons_of_mem _ ha), fun h => s.sq (List.mem_cons_of_mem _ h), fun h => s.pq (List.mem_cons_of_mem _ h), s.ps, fun a ha => s.fr a (List.mem_cons_of_mem _ ha), s.fS, fun b o hb e => ?_, fun f hf => s.ok f (List.mem_cons_of_mem _ hf), s.le⟩
  have b1 : b ≠ S := fun e' => by rw [e', s.fS] at e; cases e
  rw [mu_ne b1]
  exact s.kp b o hb e
theorem Stk.rdr' (s : Stk T M p S z M1 n qs fs) : M1 p = some (.ins T.C_Reader (rdF z (n : Int))) := s.rdr
theorem Stk.stl1 {q : Addr} {f : Frm} (s : Stk T M p S z M1 n (q :: qs) (f :: fs)) : M1 S = some (.lst (qs.reverse.map W.ref ++ [.ref q])) := by
  rw [s.stl]; simp
theorem Stk.top {q : Addr} {dn td : List D} (s : Stk T M p S z M1 n (q :: qs) ((dn, td) :: fs)) : M1 q = some (.lst (dn.map wD)) := by
  have f := s.frm
  simp only [FrM] at f
  exact f.1
end
theorem atI_last {xs : List W} {x : W} : atI (xs ++ [x]) (-1) = some x := by
  unfold atI ixN
  rw [if_neg (by decide), if_pos (by simp; omega)]
  simp
  rw [show (-1 + ((xs.length : Int) + 1)).toNat = xs.length by omega]
  simp
theorem last_get {xs : List W} {x : W} : (xs ++ [x])[(xs ++ [x]).length - 1]? = some x := by simp
theorem txt_head {d : D} (h : okD d) : (∃ xs r, d = .t xs ∧ txt d = 40 :: r) ∨ ∃ x v c r, d = .lf x v ∧ leafOk x v = true ∧ x = c :: r ∧ c ≠ 40 ∧ c ≠ 41 := by
  cases d with
  | t xs => exact .inl ⟨xs, (sibs xs).drop 1 ++ [41], rfl, by simp only [txt]⟩
  | lf x v =>
    have hl : leafOk x v = true := by simpa [okD] using h
    refine .inr ⟨x, v, ?_⟩
    rcases leaf_num hl with ⟨i, _, hn⟩ | ⟨hw, _⟩
    · rcases num_head hn with ⟨x', rfl⟩ | ⟨c, x', rfl, hc, _⟩
      · exact ⟨45, x', rfl, hl, rfl, by decide, by decide⟩
      · refine ⟨c, x', rfl, hl, rfl, ?_, ?_⟩ <;> (rw [lit_fig] at hc; intro e; subst e; revert hc; decide)
    · obtain ⟨c, x', rfl, h1, h2⟩ := word_cons hw
      exact ⟨c, x', rfl, hl, rfl, by omega, by omega⟩
theorem txt_pos {d : D} (h : okD d) : 0 < (txt d).length := by
  rcases txt_head h with ⟨_, r, _, e⟩ | ⟨x, v, c, r, rfl, _, e, _⟩
  · rw [e]; simp
  · simp [txt, e]
theorem sibs_app : ∀ {a b : List D}, sibs (a ++ b) = sibs a ++ sibs b
  | [], b => rfl
  | d :: r, b => by simp only [List.cons_append, sibs, sibs_app (a := r), List.append_assoc]
theorem sibs_len : ∀ {a : List D}, a.length ≤ (sibs a).length
  | [] => Nat.le_refl _
  | d :: r => by
    have := sibs_len (a := r)
    simp only [sibs, List.length_cons, List.length_append]
    omega
theorem txt_t_len {xs : List D} : (sibs xs).length ≤ (txt (.t xs)).length := by
  simp only [txt, List.length_cons, List.length_append, List.length_drop, List.length_nil]
  omega
theorem plug_le : ∀ {fs : List Frm} {d : D}, (txt d).length ≤ (txt (plug d fs)).length
  | [], d => Nat.le_refl _
  | (dn, td) :: fs, d => by
    refine Nat.le_trans ?_ (plug_le (fs := fs) (d := .t (dn ++ d :: td)))
    refine Nat.le_trans ?_ txt_t_len
    simp only [sibs_app, sibs, List.length_append, List.length_cons]
    omega
theorem plug_top {dn td : List D} {d : D} {fs : List Frm} : dn.length < (txt (plug d ((dn, td) :: fs))).length := by
  refine Nat.lt_of_lt_of_le ?_ (plug_le (fs := fs) (d := .t (dn ++ d :: td)))
  refine Nat.lt_of_lt_of_le ?_ txt_t_len
  have := sibs_len (a := dn)
  simp only [sibs_app, sibs, List.length_append, List.length_cons]
  omega
theorem kont_len : ∀ {fs : List Frm}, fs.length ≤ (kont fs).length
  | [] => Nat.le_refl _
  | (dn, td) :: fs => by
    have := kont_len (fs := fs)
    simp only [kont, List.length_append, List.length_cons]
    omega
theorem fold_rd {P : Program} {w : World} {K : PySem.W.Frag} {mg : Str → Option Value} {base : Heap} {T : Tx P w K mg base} {z : Str} {n : Nat} : MO.ins T.C_Reader (rdF z (n : Int)) = rd T z n := rfl
theorem fold_rd1 {P : Program} {w : World} {K : PySem.W.Frag} {mg : Str → Option Value} {base : Heap} {T : Tx P w K mg base} {z : Str} {n : Nat} : MO.ins T.C_Reader (rdF z ((n : Int) + 1)) = rd T z (n + 1) := rfl
theorem append_ok {M : MH} {p : Addr} {xs : List W} {x : W} {R : MQ} (h : M p = some (.lst xs)) (hl : xs.length < sizeLine) (q : R .non (mu M p (.lst (xs ++ [x])))) : mAppend (.ref p) [x] M R := by
  simp only [mAppend, h]; exact ⟨hl, q⟩
theorem pop_ok {M : MH} {p : Addr} {xs : List W} {x : W} {R : MQ} (h : M p = some (.lst (xs ++ [x]))) (q : R x (mu M p (.lst xs))) : mPop (.ref p) [] M R := by
  simp only [mPop, h, last_get, List.dropLast_concat]; exact q
theorem extend_ok {M : MH} {p : Addr} {xs ys : List W} {x : W} {R : MQ} (h : M p = some (.lst xs)) (h2 : lx M x = some ys) (hl : xs.length + ys.length ≤ sizeLine) (q : R .non (mu M p (.lst (xs ++ ys)))) : mExtend (.ref p) [x] M R := by
  simp only [mExtend, h, h2]; exact ⟨hl, q⟩
theorem tupof_ok {M : MH} {p : Addr} {xs : List W} {R : MQ} (h : M p = some (.lst xs)) (q : R (.tup xs) M) : mTupOf [.ref p] M R := by
  simp only [mTupOf, lw, h]; exact q
theorem rcv_l {M : MH} {p : Addr} {xs : List W} (h : M p = some (.lst xs)) : rcv M "list" (.ref p) := by
  simp only [rcv, lw, h]
theorem ixm_ok {M : MH} {p : Addr} {xs : List W} {x : W} {i : Int} {R : MQ} (h : M p = some (.lst xs)) (hx : atI xs i = some x) (q : R x M) : mIx (.ref p) (.int i) M R := by
  simp only [mIx, pw, lw, h, hx]; exact q

end Ri
set_option Elab.async false
set_option linter.all false
set_option maxRecDepth 100000
set_option maxHeartbeats 4000000

namespace Ri
open PySem L2 PySem.Calls PyProof.Rows

/-! ### how a text is read: one turn a part -/
inductive Res where
  | ok (d : D) (rest : List Nat) (at_ : Nat)
  | bad (at_ : Nat)
inductive Run : List (List D) → List Nat → Nat → Option D → Res → Prop where
  | opn0 {st : List (List D)} {r : List Nat} {n : Nat} {res : Res} : Run st r (n + 2) (some (.t [])) res → Run st (40 :: 41 :: r) n none res
  | opn {st : List (List D)} {r : List Nat} {n : Nat} {res : Res} : r.head? ≠ some 41 → Run ([] :: st) r (n + 1) none res → Run st (40 :: r) n none res
  | leaf {st : List (List D)} {l x : List Nat} {v : W} {n : Nat} {res : Res} : l.head? ≠ some 40 → leafR l = .inl (x, v) → Run st (l.drop x.length) (n + x.length) (some (.lf x v)) res → Run st l n none res
  | bleaf {st : List (List D)} {l : List Nat} {k n : Nat} : l.head? ≠ some 40 → leafR l = .inr k → Run st l n none (.bad (n + k))
  | done {l : List Nat} {n : Nat} {d : D} : Run [] l n (some d) (.ok d l n)
  | next {fr : List D} {st : List (List D)} {r : List Nat} {n : Nat} {d : D} {res : Res} : Run ((fr ++ [d]) :: st) r (n + 1) none res → Run (fr :: st) (32 :: r) n (some d) res
  | clos {fr : List D} {st : List (List D)} {r : List Nat} {n : Nat} {d : D} {res : Res} : Run st r (n + 1) (some (.t (fr ++ [d]))) res → Run (fr :: st) (41 :: r) n (some d) res
  | bad {fr : List D} {st : List (List D)} {l : List Nat} {n : Nat} {d : D} : l.head? ≠ some 32 → l.head? ≠ some 41 → Run (fr :: st) l n (some d) (.bad n)
theorem digs_val {x : List Nat} (h : ∀ c ∈ x, digP c = true) (hne : x ≠ []) (h0 : x.head? ≠ some 48) : tls (toString (dval x)) = x := by
  have hd : NumText.AllDigits x := fun c hc => by
    have z := h c hc
    unfold digP at z
    rw [Bool.and_eq_true, decide_eq_true_eq, decide_eq_true_eq] at z
    exact z
  have e : tls (toString (dval x)) = TL.numL (NumText.digitsVal x) := TL.tl_num _
  rw [e]
  unfold TL.numL
  cases x with
  | nil => exact absurd rfl hne
  | cons c r =>
    have hc := hd c List.mem_cons_self
    have hc48 : c ≠ 48 := fun t => h0 (by rw [t]; rfl)
    rw [NumText.toDigits_digitsVal r.length (c :: r) rfl hd (.inr ⟨c, r, rfl, by omega⟩), List.map_map]
    have : ∀ l : List Nat, NumText.AllDigits l → l.map (Char.toNat ∘ Char.ofNat) = l := fun l => by
      induction l with
      | nil => intro _; rfl
      | cons a l ih =>
        intro ha
        have h1 := ha a List.mem_cons_self
        have h2 : (Char.ofNat a).toNat = a := by
          have : ∀ k : Nat, k < 58 → (Char.ofNat k).toNat = k := by decide
          exact this a (by omega)
        simp only [List.map_cons, Function.comp, h2]
        rw [ih fun x hx => ha x (List.mem_cons_of_mem _ hx)]
    exact this _ hd
theorem dval_log {x : List Nat} (h : x.length ≤ 40) (hd : ∀ c ∈ x, digP c = true) : (dval x).natAbs.log2 < 1920 := by
  have hv : ∀ (l : List Nat) (a : Nat), (∀ c ∈ l, digP c = true) → l.foldl (fun acc c => acc * 10 + (c - 48)) a < (a + 1) * 10 ^ l.length := fun l => by
    induction l with
    | nil => intro a _; simp
    | cons c l ih =>
      intro a hc
      have h1 := ih (a * 10 + (c - 48)) fun x hx => hc x (List.mem_cons_of_mem _ hx)
      have h2 := hc c List.mem_cons_self
      unfold digP at h2
      rw [Bool.and_eq_true, decide_eq_true_eq, decide_eq_true_eq] at h2
      simp only [List.foldl_cons, List.length_cons, Nat.pow_succ]
      have h3 : a * 10 + (c - 48) + 1 ≤ (a + 1) * 10 := by omega
      have h4 := Nat.mul_le_mul_right (10 ^ l.length) h3
      have h5 : (a + 1) * (10 ^ l.length * 10) = (a + 1) * 10 * 10 ^ l.length := by rw [Nat.mul_comm (10 ^ l.length) 10, ← Nat.mul_assoc]
      omega
  have h1 := hv x 0 hd
  have h2 : NumText.digitsVal x < 1 * 10 ^ x.length := h1
  have h3 : (10 : Nat) ^ x.length ≤ 10 ^ 40 := Nat.pow_le_pow_right (by decide) h
  have h4 : (dval x).natAbs < 2 ^ 1919 := by
    show (((NumText.digitsVal x : Nat) : Int)).natAbs < 2 ^ 1919
    rw [Int.natAbs_natCast]
    exact Nat.lt_of_lt_of_le (Nat.lt_of_lt_of_le (by omega) h3) (by decide +kernel)
  exact PySem.Flt.log2_lt_of (by decide) (Nat.lt_of_lt_of_le h4 (by decide +kernel))
theorem take_run {l : List Nat} {p : Nat → Bool} {n : Nat} : l.take (run p n l).length = run p n l := by
  obtain ⟨r, h, _⟩ := run_split p n l
  have : l.take (run p n l).length = (run p n l ++ r).take (run p n l).length := by rw [← h]
  rw [this]; simp
theorem neg_text {x : List Nat} (h : ∀ c ∈ x, digP c = true) (hne : x ≠ []) (h0 : x.head? ≠ some 48) : tls (toString (-(dval x))) = 45 :: x := by
  have e := digs_val h hne h0
  have hpos : 0 < NumText.digitsVal x := by
    cases x with
    | nil => exact absurd rfl hne
    | cons c r =>
      have hc := h c List.mem_cons_self
      unfold digP at hc
      rw [Bool.and_eq_true, decide_eq_true_eq, decide_eq_true_eq] at hc
      exact NumText.digitsVal_pos (by have : c ≠ 48 := fun t => h0 (by rw [t]; rfl); omega)
  show tls (Str.ofString (toString (-((NumText.digitsVal x : Nat) : Int)))) = _
  have e2 : toString (-((NumText.digitsVal x : Nat) : Int)) = "-" ++ toString ((NumText.digitsVal x : Nat) : Int) := by
    obtain ⟨m, hm⟩ : ∃ m, NumText.digitsVal x = m + 1 := ⟨NumText.digitsVal x - 1, by omega⟩
    rw [hm]
    rfl
  rw [e2]
  have e3 : tls (Str.ofString (toString ((NumText.digitsVal x : Nat) : Int))) = x := e
  have t1 := TL.tl_ofString ("-" ++ toString ((NumText.digitsVal x : Nat) : Int))
  have t2 := TL.tl_ofString (toString ((NumText.digitsVal x : Nat) : Int))
  show TL.tl _ = _
  rw [t1, String.toList_append, List.map_append, ← t2]
  show [45] ++ TL.tl _ = _
  rw [show TL.tl (Str.ofString (toString ((NumText.digitsVal x : Nat) : Int))) = x from e3]
  rfl
theorem run_head {p : Nat → Bool} {n : Nat} {l : List Nat} (hne : run p n l ≠ []) : (run p n l).head? = l.head? := by
  obtain ⟨r, h, _⟩ := run_split p n l
  cases e : run p n l with
  | nil => exact absurd e hne
  | cons c x => rw [e] at h; rw [h]; rfl
theorem digs_of {x : List Nat} (h : ∀ c ∈ x, digP c = true) (hne : x ≠ []) (hl : x.length ≤ 40) (h0 : x.head? ≠ some 48) : digs x = true := by
  unfold digs
  simp only [Bool.and_eq_true, decide_eq_true_eq, List.all_eq_true, bne_iff_ne, ne_eq, Bool.not_eq_true']
  refine ⟨⟨⟨?_, fun c hc => ?_⟩, hl⟩, h0⟩
  · cases x with
    | nil => exact absurd rfl hne
    | cons => rfl
  · have := h c hc
    unfold digP at this
    rwa [Bool.and_eq_true, decide_eq_true_eq, decide_eq_true_eq] at this
theorem ne_of_empty {x : List Nat} (h : ¬ x.isEmpty = true) : x ≠ [] := fun e => h (by rw [e]; rfl)
theorem numR_ok {l : List Nat} {i : Int} {k : Nat} (h : numR l = .inl (i, k)) : numOk (l.take k) i = true ∧ tls (toString i) = l.take k ∧ i.natAbs.log2 < 1920 ∧ l.take k ≠ [] := by
  unfold numR at h
  split at h
  · cases h
  · rename_i r hno
    split at h
    · cases h
    · rename_i hne
      simp only [Sum.inl.injEq, Prod.mk.injEq] at h
      obtain ⟨rfl, rfl⟩ := h
      obtain ⟨r2, _, hl, hd, _⟩ := run_split digP 40 r
      have hx := ne_of_empty hne
      have ht : (45 :: r).take (1 + (run digP 40 r).length) = 45 :: run digP 40 r := by
        rw [Nat.add_comm, List.take_succ_cons, take_run]
      have h0 : (run digP 40 r).head? ≠ some 48 := by
        rw [run_head hx]
        cases r with
        | nil => simp
        | cons c r' => intro e; simp only [List.head?_cons, Option.some.injEq] at e; subst e; exact hno _ rfl
      rw [ht]
      generalize run digP 40 r = x at *
      refine ⟨?_, neg_text hd hx h0, by rw [Int.natAbs_neg]; exact dval_log hl hd, by simp⟩
      have e1 : digs x = true := digs_of hd hx hl h0
      have e2 := run_int hd hx hl
      simp [numOk, e1, e2]
  · simp only [Sum.inl.injEq, Prod.mk.injEq] at h
    obtain ⟨rfl, rfl⟩ := h
    exact ⟨by simp [numOk], rfl, by decide, by simp⟩
  · rename_i hn1 hn2 hn3
    split at h
    · cases h
    · rename_i hne
      simp only [Sum.inl.injEq, Prod.mk.injEq] at h
      obtain ⟨rfl, rfl⟩ := h
      obtain ⟨r2, _, hl, hd, _⟩ := run_split digP 40 l
      have hx := ne_of_empty hne
      have h0 : (run digP 40 l).head? ≠ some 48 := by
        rw [run_head hx]
        cases l with
        | nil => simp
        | cons c r' => intro e; simp only [List.head?_cons, Option.some.injEq] at e; subst e; exact hn3 _ rfl
      rw [take_run]
      generalize run digP 40 l = x at *
      refine ⟨?_, digs_val hd hx h0, dval_log hl hd, hx⟩
      have e1 : digs x = true := digs_of hd hx hl h0
      have e2 := run_int hd hx hl
      simp [numOk, e1, e2]
/-- what is read as a leaf is one -/
theorem leafR_ok {l x : List Nat} {v : W} (h : leafR l = .inl (x, v)) : leafOk x v = true ∧ x ≠ [] ∧ x = l.take x.length := by
  unfold leafR at h
  split at h
  · split at h
    · rename_i i k e
      simp only [Sum.inl.injEq, Prod.mk.injEq] at h
      obtain ⟨rfl, rfl⟩ := h
      have hk := num_le e
      have tk : l.take k = l.take (l.take k).length := by rw [List.length_take, Nat.min_eq_left hk]
      obtain ⟨h1, h2, h3, h4⟩ := numR_ok e
      refine ⟨?_, h4, tk⟩
      simp only [leafOk, h1, h2, Bool.true_and, beq_self_eq_true, decide_eq_true h3]
    · cases h
  · split at h
    · cases h
    · rename_i hne
      simp only [Sum.inl.injEq, Prod.mk.injEq] at h
      obtain ⟨rfl, rfl⟩ := h
      have hx := ne_of_empty hne
      obtain ⟨r2, _, hl, hd, _⟩ := run_split lowP 12 l
      refine ⟨?_, hx, take_run.symm⟩
      generalize run lowP 12 l = x at *
      by_cases hy : x = yesT
      · subst hy; rfl
      · by_cases hn : x = noT
        · subst hn; rfl
        · have a : (mkS x == Str.ofString "yes") = false := by
            rw [beq_eq_false_iff_ne]; intro e; exact hy (congrArg tls e)
          have b : (mkS x == Str.ofString "no") = false := by
            rw [beq_eq_false_iff_ne]; intro e; exact hn (congrArg tls e)
          simp only [w_TRUTHS, List.lookup, a, b, Option.getD_none, leafOk]
          have hw : wordOk x = true := by
            unfold wordOk
            simp only [Bool.and_eq_true, decide_eq_true_eq, List.all_eq_true, Bool.not_eq_true']
            refine ⟨⟨?_, fun c hc => ?_⟩, hl⟩
            · cases x with
              | nil => exact absurd rfl hx
              | cons => rfl
            · have := hd c hc
              unfold lowP at this
              rwa [Bool.and_eq_true, decide_eq_true_eq, decide_eq_true_eq] at this
          have e1 : (x != yesT) = true := by simpa using hy
          have e2 : (x != noT) = true := by simpa using hn
          simp only [hw, e1, e2, tls_mk, beq_self_eq_true, Bool.true_and, Bool.and_true]
theorem run_total : ∀ (k : Nat) (st : List (List D)) (l : List Nat) (n : Nat) (fo : Option D), l.length ≤ k → ∃ res, Run st l n fo res := by
  intro k
  induction k with
  | zero =>
    intro st l n fo hl
    have e : l = [] := List.eq_nil_of_length_eq_zero (by omega)
    subst e
    cases fo with
    | none =>
      cases h : leafR [] with
      | inr k => exact ⟨_, .bleaf (by simp) h⟩
      | inl xv =>
        obtain ⟨x, v⟩ := xv
        obtain ⟨_, h2, h3⟩ := leafR_ok h
        simp at h3
        exact absurd h3 h2
    | some d =>
      cases st with
      | nil => exact ⟨_, .done⟩
      | cons fr st => exact ⟨_, .bad (by simp) (by simp)⟩
  | succ k ih =>
    intro st l n fo hl
    cases fo with
    | none =>
      by_cases h40 : l.head? = some 40
      · cases l with
        | nil => cases h40
        | cons c r =>
          simp only [List.head?_cons, Option.some.injEq] at h40
          subst h40
          by_cases h41 : r.head? = some 41
          · cases r with
            | nil => cases h41
            | cons c r =>
              simp only [List.head?_cons, Option.some.injEq] at h41
              subst h41
              obtain ⟨res, hr⟩ := ih st r (n + 2) (some (.t [])) (by simp only [List.length_cons] at hl; omega)
              exact ⟨res, .opn0 hr⟩
          · obtain ⟨res, hr⟩ := ih ([] :: st) r (n + 1) none (by simp only [List.length_cons] at hl; omega)
            exact ⟨res, .opn h41 hr⟩
      · cases h : leafR l with
        | inr k => exact ⟨_, .bleaf h40 h⟩
        | inl xv =>
          obtain ⟨x, v⟩ := xv
          obtain ⟨_, h2, h3⟩ := leafR_ok h
          have hp : 0 < x.length := List.length_pos_iff.mpr h2
          have hle : x.length ≤ l.length := by rw [h3, List.length_take]; omega
          obtain ⟨res, hr⟩ := ih st (l.drop x.length) (n + x.length) (some (.lf x v)) (by rw [List.length_drop]; omega)
          exact ⟨res, .leaf h40 h hr⟩
    | some d =>
      cases st with
      | nil => exact ⟨_, .done⟩
      | cons fr st =>
        by_cases h32 : l.head? = some 32
        · cases l with
          | nil => cases h32
          | cons c r =>
            simp only [List.head?_cons, Option.some.injEq] at h32
            subst h32
            obtain ⟨res, hr⟩ := ih ((fr ++ [d]) :: st) r (n + 1) none (by simp only [List.length_cons] at hl; omega)
            exact ⟨res, .next hr⟩
        · by_cases h41 : l.head? = some 41
          · cases l with
            | nil => cases h41
            | cons c r =>
              simp only [List.head?_cons, Option.some.injEq] at h41
              subst h41
              obtain ⟨res, hr⟩ := ih st r (n + 1) (some (.t (fr ++ [d]))) (by simp only [List.length_cons] at hl; omega)
              exact ⟨res, .clos hr⟩
          · exact ⟨_, .bad h32 h41⟩
def doneT (fr : List D) : List Nat := fr.flatMap fun d => txt d ++ [32]
def preT : List (List D) → List Nat
  | [] => []
  | fr :: st => preT st ++ 40 :: doneT fr
def ctxT (st : List (List D)) : Option D → List Nat
  | none => preT st
  | some d => preT st ++ txt d
theorem txt_done (fr : List D) (d : D) : txt (.t (fr ++ [d])) = 40 :: (doneT fr ++ txt d ++ [41]) := by
  have : ∀ (fr : List D) (d : D), (sibs (fr ++ [d])).drop 1 = doneT fr ++ txt d := by
    intro fr
    induction fr with
    | nil => intro d; simp [sibs, doneT]
    | cons a r ih =>
      intro d
      have h := ih d
      have h2 : sibs (r ++ [d]) = 32 :: (doneT r ++ txt d) := by
        rw [← h]
        cases r with
        | nil => simp [sibs]
        | cons b r => simp [sibs]
      simp only [List.cons_append, sibs, List.drop_succ_cons, List.drop_zero, h2]
      simp [doneT]
  simp only [txt, this]
theorem run_text : ∀ {st : List (List D)} {l : List Nat} {n : Nat} {fo : Option D} {res : Res}, Run st l n fo res → (∀ fr ∈ st, ∀ d ∈ fr, okD d) → (∀ d, fo = some d → okD d) → ∀ d rest m, res = .ok d rest m → okD d ∧ ctxT st fo ++ l = txt d ++ rest ∧ m + rest.length = n + l.length := by
  intro st l n fo res h
  induction h with
  | opn0 h ih =>
    intro hs hf d rest m e
    obtain ⟨h1, h2, h3⟩ := ih hs (fun d hd => by cases hd; simp [okD, okDs]) d rest m e
    refine ⟨h1, ?_, by simp only [List.length_cons]; omega⟩
    rw [← h2]
    simp [ctxT, txt, sibs]
  | opn h41 h ih =>
    intro hs hf d rest m e
    obtain ⟨h1, h2, h3⟩ := ih (fun fr hfr x hx => by
      rcases List.mem_cons.mp hfr with rfl | hfr
      · simp at hx
      · exact hs fr hfr x hx) (fun d hd => by cases hd) d rest m e
    refine ⟨h1, ?_, by simp only [List.length_cons]; omega⟩
    rw [← h2]
    simp [ctxT, preT, doneT]
  | @leaf st l x v n res h40 hl h ih =>
    intro hs hf d rest m e
    obtain ⟨k1, k2, k3⟩ := leafR_ok hl
    obtain ⟨h1, h2, h3⟩ := ih hs (fun d hd => by cases hd; simpa [okD] using k1) d rest m e
    have hle : x.length ≤ l.length := by rw [k3, List.length_take]; omega
    refine ⟨h1, ?_, by rw [List.length_drop] at h3; omega⟩
    rw [← h2]
    simp only [ctxT, txt]
    rw [List.append_assoc]
    congr 1
    have := List.take_append_drop x.length l
    rw [← k3] at this
    exact this.symm
  | bleaf h40 hl => intro hs hf d rest m e; cases e
  | @done l n d0 =>
    intro hs hf d rest m e
    cases e
    exact ⟨hf _ rfl, by simp [ctxT, preT], rfl⟩
  | @next fr st r n d0 res h ih =>
    intro hs hf d rest m e
    obtain ⟨h1, h2, h3⟩ := ih (fun fr' hfr x hx => by
      rcases List.mem_cons.mp hfr with rfl | hfr
      · rcases List.mem_append.mp hx with hx | hx
        · exact hs fr List.mem_cons_self x hx
        · rw [List.mem_singleton.mp hx]; exact hf _ rfl
      · exact hs fr' (List.mem_cons_of_mem _ hfr) x hx) (fun d hd => by cases hd) d rest m e
    refine ⟨h1, ?_, by simp only [List.length_cons]; omega⟩
    rw [← h2]
    simp [ctxT, preT, doneT]
  | @clos fr st r n d0 res h ih =>
    intro hs hf d rest m e
    obtain ⟨h1, h2, h3⟩ := ih (fun fr' hfr x hx => hs fr' (List.mem_cons_of_mem _ hfr) x hx) (fun d hd => by
      cases hd
      refine okD_t.mpr fun x hx => ?_
      rcases List.mem_append.mp hx with hx | hx
      · exact hs fr List.mem_cons_self x hx
      · rw [List.mem_singleton.mp hx]; exact hf _ rfl) d rest m e
    refine ⟨h1, ?_, by simp only [List.length_cons]; omega⟩
    rw [← h2]
    simp [ctxT, preT, txt_done]
  | bad h32 h41 => intro hs hf d rest m e; cases e

end Ri
set_option Elab.async false
set_option linter.all false
set_option maxRecDepth 100000
set_option maxHeartbeats 4000000

namespace Ri
open PySem L2 PySem.Calls PyProof.Rows

variable {P : Program} {w : World} {K : PySem.W.Frag} {mg : Str → Option Value} {base : Heap}
def ansD (T : Tx P w K mg base) (p : Addr) (z : Str) (M : MH) (R : MQ) (RX : MXQ) : Res → Prop
  | .ok d _ m => R (wD d) (mu M p (rd T z m))
  | .bad k => ∀ m, rxAt T RX k (mu M p (rd T z m))
def sp_Reader_a_datum (T : Tx P w K mg base) : MSp := fun ws M R RX => ∃ p z res, ws = [.ref p] ∧ M p = some (rd T z 0) ∧ z.length ≤ sizeLine ∧ Run [] (tls z) 0 none res ∧ ansD T p z M R RX res
def frm (st : List (List D)) : List Frm := st.map fun fr => (fr, [])
theorem frm_len {st : List (List D)} : (frm st).length = st.length := by simp [frm]
theorem Stk.sub {T : Tx P w K mg base} {M M1 : MH} {p S : Addr} {z : Str} {n : Nat} {qs : List Addr} {fs : List Frm} (s : Stk T M p S z M1 n qs fs) : MSub (mu M p (rd T z n)) M1 := fun b o e => by
  by_cases hb : b = p
  · subst hb; rw [mu_same] at e; cases e; exact s.rdr
  · rw [mu_ne hb] at e; exact s.kp b o hb e
theorem Stk.subm {T : Tx P w K mg base} {M M1 : MH} {p S : Addr} {z : Str} {n : Nat} {qs : List Addr} {fs : List Frm} (s : Stk T M p S z M1 n qs fs) (m : Nat) : MSub (mu M p (rd T z m)) (mu M1 p (rd T z m)) := fun b o e => by
  by_cases hb : b = p
  · subst hb; rw [mu_same] at e ⊢; exact e
  · rw [mu_ne hb] at e ⊢; exact s.kp b o hb e
structure Bs (st : List (List D)) (n : Nat) : Prop where
  a : st.length ≤ n
  b : ∀ fr ∈ st, fr.length + 1 ≤ n
theorem Bs.push {st : List (List D)} {n : Nat} (h : Bs st n) : Bs ([] :: st) (n + 1) := ⟨by simp only [List.length_cons]; have := h.a; omega, fun fr hf => by
  rcases List.mem_cons.mp hf with rfl | hf
  · simp
  · have := h.b fr hf; omega⟩
theorem Bs.up {st : List (List D)} {n m : Nat} (h : Bs st n) (l : n ≤ m) : Bs st m := ⟨Nat.le_trans h.a l, fun fr hf => Nat.le_trans (h.b fr hf) l⟩
theorem Bs.app {fr : List D} {st : List (List D)} {n : Nat} {d : D} (h : Bs (fr :: st) n) : Bs ((fr ++ [d]) :: st) (n + 1) := ⟨by have := h.a; simp only [List.length_cons] at this ⊢; omega, fun f hf => by
  rcases List.mem_cons.mp hf with rfl | hf
  · have := h.b fr List.mem_cons_self; simp only [List.length_append, List.length_cons, List.length_nil]; omega
  · have := h.b f (List.mem_cons_of_mem _ hf); omega⟩
theorem Bs.pop {fr : List D} {st : List (List D)} {n m : Nat} (h : Bs (fr :: st) n) (l : n ≤ m) : Bs st m := ⟨by have := h.a; simp only [List.length_cons] at this; omega, fun f hf => by have := h.b f (List.mem_cons_of_mem _ hf); omega⟩

theorem fo_Reader_a_datum {fd : FuncData} (T : Tx P w K mg base) (F : Fun K "a_datum" "Reader.a_datum" s_Reader_a_datum T.A_Reader_a_datum fd)  : FnOk P w K mg base (L2.CX P w) (6) T.A_Reader_a_datum fd ["self"] (upS K (sp_Reader_a_datum T)) := by
  refine fn_rich F sc_Reader_a_datum (fun ws M R RX h => ?len) (fun cdv A outer s H E F0 ws M R RX hr hsp hx hp => ⟨_, (qss_cons (qs_set (i := 1) sc_Reader_a_datum.nd rfl (by first | exact Or.inl rfl | exact Or.inr rfl) (qe_lst qa_nil))
      (qss_one (qs_while hp (qt_val qe_bl) (qss_cons (qs_if (qt_cmp (q_eq hr.units) (qe_meth0 (Cs := (fun C => C = T.C_Reader)) (sps := fun _ => sp_Reader_next_sign T) (pss := fun _ => _) (qv 0) (by rintro _ rfl; exact (okM_Reader_next_sign T)) (hr.mono (by omega)) hx) qe_str (nomark _)) (qss_cons (qs_fldadd (Cs := (fun C => C = T.C_Reader)) (qv 0) qe_int (by rintro _ rfl; exact T.fl_Reader_at))
      (qss_cons (qs_expr (qe_bm PySem.F.plainAttrs_list PySem.F.slot_list_append PySem.F.type_list_append m_append (qv 1) (qa_cons (qe_lst qa_nil) qa_nil)))
      (qss_cons (qs_if (qt_cmp (q_ne hr.units) (qe_meth0 (Cs := (fun C => C = T.C_Reader)) (sps := fun _ => sp_Reader_next_sign T) (pss := fun _ => _) (qv 0) (by rintro _ rfl; exact (okM_Reader_next_sign T)) (hr.mono (by omega)) hx) qe_str (nomark _)) (qss_one qs_continue) qss_nil)
      (qss_cons (qs_fldadd (Cs := (fun C => C = T.C_Reader)) (qv 0) qe_int (by rintro _ rfl; exact T.fl_Reader_at))
      (qss_one (qs_set (i := 2) sc_Reader_a_datum.nd rfl (by first | exact Or.inl rfl | exact Or.inr rfl) (qe_callTy c_tuple rfl T.z_tuple (by decide +kernel) (qa_cons (qe_bm0 PySem.F.plainAttrs_list PySem.F.slot_list_pop PySem.F.type_list_pop m_pop (qv 1)) qa_nil)))))))) (qss_one (qs_set (i := 2) sc_Reader_a_datum.nd rfl (by first | exact Or.inl rfl | exact Or.inr rfl) (qe_meth0 (Cs := (fun C => C = T.C_Reader)) (sps := fun _ => sp_Reader_a_leaf T) (pss := fun _ => _) (qv 0) (by rintro _ rfl; exact (okM_Reader_a_leaf T)) (hr.mono (by omega)) hx))))
      (qss_cons (qs_while hp (QW.qt (qw_and (qt_cmp (q_neL hr.units) (qv 1) (qe_fl qa_nil) (nomark _)) (qw_and1 (qt_cmp (q_ne hr.units) (qe_meth0 (Cs := (fun C => C = T.C_Reader)) (sps := fun _ => sp_Reader_next_sign T) (pss := fun _ => _) (qv 0) (by rintro _ rfl; exact (okM_Reader_next_sign T)) (hr.mono (by omega)) hx) qe_str (nomark _))))) (qss_cons (qs_expr (qe_meth (Cs := (fun C => C = T.C_Reader)) (sps := fun _ => sp_Reader_wants T) (pss := fun _ => _) (qv 0) (by rintro _ rfl; exact (okM_Reader_wants T)) (hr.mono (by omega)) hx (qa_cons qe_str qa_nil)))
      (qss_cons (qs_expr (qe_bm PySem.F.plainAttrs_list PySem.F.slot_list_append PySem.F.type_list_append m_append (qe_ix q_ix (qv 1) (qe_un q_neg qe_int) (fun _ _ => rfl)) (qa_cons (qv 2) qa_nil)))
      (qss_one (qs_set (i := 2) sc_Reader_a_datum.nd rfl (by first | exact Or.inl rfl | exact Or.inr rfl) (qe_callTy c_tuple rfl T.z_tuple (by decide +kernel) (qa_cons (qe_bm0 PySem.F.plainAttrs_list PySem.F.slot_list_pop PySem.F.type_list_pop m_pop (qv 1)) qa_nil)))))))
      (qss_cons (qs_if (qt_cmp (q_eqL hr.units) (qv 1) (qe_fl qa_nil) (nomark _)) (qss_one (qs_ret (qv 2))) qss_nil)
      (qss_cons (qs_expr (qe_meth (Cs := (fun C => C = T.C_Reader)) (sps := fun _ => sp_Reader_wants T) (pss := fun _ => _) (qv 0) (by rintro _ rfl; exact (okM_Reader_wants T)) (hr.mono (by omega)) hx (qa_cons qe_str qa_nil)))
      (qss_one (qs_expr (qe_bm PySem.F.plainAttrs_list PySem.F.slot_list_append PySem.F.type_list_append m_append (qe_ix q_ix (qv 1) (qe_un q_neg qe_int) (fun _ _ => rfl)) (qa_cons (qv 2) qa_nil))))))))))), ?body⟩)
  case len => (unfold sp_Reader_a_datum at h; first | (obtain ⟨_, rfl, _⟩ := h; rfl) | (obtain ⟨_, _, rfl, _⟩ := h; rfl) | (obtain ⟨_, _, _, rfl, _⟩ := h; rfl) | (obtain ⟨_, _, _, _, rfl, _⟩ := h; rfl) | (obtain ⟨_, _, _, _, _, rfl, _⟩ := h; rfl) | (obtain ⟨_, _, _, _, _, _, rfl, _⟩ := h; rfl) | (obtain ⟨_, _, _, _, _, _, _, rfl, _⟩ := h; rfl) | (obtain ⟨_, _, _, _, _, _, _, _, rfl, _⟩ := h; rfl))
  case body =>
    obtain ⟨p, z, res, rfl, hM, hz, hrun, q⟩ := hsp
    have hpn : M p ≠ none := by rw [hM]; simp
    have hzl : z.length = (tls z).length := len_tls z
    refine seq_have (fun ρ M1 => ∃ S, M S = none ∧ ρ = [some (.ref p), some (.ref S), none] ∧ M1 = mu M S (.lst [])) ?h2 ?h1
    case h1 =>
      intro G hG
      simp only [mVar, gt, mC, mOp, mUn, mTest, mChain, mAnd, mOr, mNot, mAndV, mOrV, mNotV, mIf, mNil, mCons, mTup, mFl, mLst, mCB, mBM0, mBM, mSl, mPart, mNoPart, mSeq, mNext, mDrop, mCont, mBreak, mRet, mIfS, mAsg, nName, st, startW, mFld, mSetFld, mAugFld, mMeth, mCall, mRaise, List.map_cons, List.map_nil, List.length_cons, List.length_nil, List.replicate, List.cons_append, List.nil_append, Nat.zero_add, Nat.reduceAdd, Nat.reduceSub, Nat.sub_self, mWhile, add_ii, add_ss, add_tt, add_ff, sub_ii, mul_ii, div_ii, mod_ii, pow_ii, neg_i, lt_ii, le_ii, gt_ii, ge_ii, eq_ii, eq_ss, eq_bb, ne_ii, ne_ss, in_ss, int_i, int_b, int_s, cut_s, len_s, len_t, len_f, len_sc, str_i, str_s, tupof_f, mNeL, mEqL]
      exact ⟨by decide, fun S hS => hG _ _ ⟨S, hS, rfl, rfl⟩⟩
    case h2 =>
      rintro ρ M1 ⟨S, hS, rfl, rfl⟩
      have hpS : p ≠ S := mne hM hS
      refine ⟨fun m ρ M1 => ∃ sk qs n l fo, ρ = [some (.ref p), some (.ref S), fo] ∧ Stk T M p S z M1 n qs (frm sk) ∧ Bs sk n ∧ (tls z).drop n = l ∧ Run sk l n none res ∧ m = l.length, ⟨_, [], [], 0, _, none, rfl, ⟨by rw [mu_ne hpS]; exact hM, mu_same, trivial, by simp, by simp, hpS, by simp, hS, fun b o _ e => by rw [mu_ne (mne e hS)]; exact e, fun f hf => by simp [frm] at hf, Nat.zero_le _⟩, ⟨Nat.le_refl _, by simp⟩, rfl, by simpa using hrun, rfl⟩, ?_⟩
      rintro m ρ M1 ⟨sk, qs, n, l, fo, rfl, s, hB, hn, hr, hm⟩
      simp only [mTest, mC, if_true]
      refine seq_have (fun ρ M1 => ∃ sk qs n' l' d, ρ = [some (.ref p), some (.ref S), some (wD d)] ∧ Stk T M p S z M1 n' qs (frm sk) ∧ Bs sk n' ∧ okD d ∧ (tls z).drop n' = l' ∧ Run sk l' n' (some d) res ∧ l'.length < m) ?h2 ?h1
      case h1 =>
        intro G hG
        subst hm
        have hql : sk.length ≤ n := hB.a
        have hqs : qs.length = sk.length := by rw [s.frm.len, frm_len]
        have hnz := s.le
        simp only [mVar, gt, mC, mOp, mUn, mTest, mChain, mAnd, mOr, mNot, mAndV, mOrV, mNotV, mIf, mNil, mCons, mTup, mFl, mLst, mCB, mBM0, mBM, mSl, mPart, mNoPart, mSeq, mNext, mDrop, mCont, mBreak, mRet, mIfS, mAsg, nName, st, startW, mFld, mSetFld, mAugFld, mMeth, mCall, mRaise, List.map_cons, List.map_nil, List.length_cons, List.length_nil, List.replicate, List.cons_append, List.nil_append, Nat.zero_add, Nat.reduceAdd, Nat.reduceSub, Nat.sub_self, mWhile, add_ii, add_ss, add_tt, add_ff, sub_ii, mul_ii, div_ii, mod_ii, pow_ii, neg_i, lt_ii, le_ii, gt_ii, ge_ii, eq_ii, eq_ss, eq_bb, ne_ii, ne_ss, in_ss, int_i, int_b, int_s, cut_s, len_s, len_t, len_f, len_sc, str_i, str_s, tupof_f, mNeL, mEqL]
        (try simp only [hd_e, hd_d, hd_0, hd_o, hd_c, hd_s, hd_in, List.head?_cons, List.head?_nil, List.isEmpty_cons, List.isEmpty_nil, List.cons_append, List.nil_append, beq_self_eq_true, gt, clsW, fldW, add_ii, add_ss, add_tt, add_ff, sub_ii, mul_ii, div_ii, mod_ii, pow_ii, neg_i, lt_ii, le_ii, gt_ii, ge_ii, eq_ii, eq_ss, eq_bb, ne_ii, ne_ss, in_ss, int_i, int_b, int_s, cut_s, len_s, len_t, len_f, len_sc, str_i, str_s, tupof_f, lk_at, lk_s, lk_1, lk_2, lk_3, lk_4, lk_5, lk_6, put_rd, put_rd0, len_rd, mu_same, mu_mu, true_and, and_true, Bool.not_true, Bool.not_false, if_true, if_false, Bool.false_eq_true, decide_true, decide_false, Bool.true_eq_false, ite_true, ite_false, eq_self_iff_true, s.rdr']); (try simp only [fold_rd1, fold_rd])
        refine ⟨p, z, n, rfl, s.rdr, hz, ?_⟩
        rw [hn]
        have leafcase : l.head? ≠ some 40 → sp_Reader_a_leaf T [.ref p] M1 (fun v M2 => G [some (.ref p), some (.ref S), some v] M2) (shX RX) := fun h40 => by
          refine ⟨p, z, n, rfl, s.rdr, hz, ?_⟩
          rw [hn]
          cases hr with
          | opn0 _ => exact absurd rfl h40
          | opn _ _ => exact absurd rfl h40
          | @leaf _ _ x v _ _ _ hl hrest =>
            rw [hl]
            obtain ⟨k1, k2, k3⟩ := leafR_ok hl
            have hle : x.length ≤ l.length := by rw [k3, List.length_take]; omega
            have hp : 0 < x.length := List.length_pos_iff.mpr k2
            have hll : l.length = (tls z).length - n := by rw [← hn, List.length_drop]
            refine hG _ _ ⟨sk, qs, n + x.length, _, .lf x v, by simp [wD], s.adv _ (by omega), hB.up (by omega), by simpa [okD] using k1, by rw [← List.drop_drop, hn], hrest, by rw [List.length_drop]; omega⟩
          | bleaf _ hl =>
            rw [hl]
            exact fun m => ⟨_, s.subm m, q m⟩
        by_cases h40 : l.head? = some 40
        · cases l with
          | nil => cases h40
          | cons c r =>
            simp only [List.head?_cons, Option.some.injEq] at h40
            subst h40
            have le1 : n + 1 ≤ (tls z).length := le_drop1 hn
            have hn1 : (tls z).drop (n + 1) = r := by rw [← List.drop_drop, hn]; rfl
            (try simp only [hd_e, hd_d, hd_0, hd_o, hd_c, hd_s, hd_in, List.head?_cons, List.head?_nil, List.isEmpty_cons, List.isEmpty_nil, List.cons_append, List.nil_append, beq_self_eq_true, gt, clsW, fldW, add_ii, add_ss, add_tt, add_ff, sub_ii, mul_ii, div_ii, mod_ii, pow_ii, neg_i, lt_ii, le_ii, gt_ii, ge_ii, eq_ii, eq_ss, eq_bb, ne_ii, ne_ss, in_ss, int_i, int_b, int_s, cut_s, len_s, len_t, len_f, len_sc, str_i, str_s, tupof_f, lk_at, lk_s, lk_1, lk_2, lk_3, lk_4, lk_5, lk_6, put_rd, put_rd0, len_rd, mu_same, mu_mu, true_and, and_true, Bool.not_true, Bool.not_false, if_true, if_false, Bool.false_eq_true, decide_true, decide_false, Bool.true_eq_false, ite_true, ite_false, eq_self_iff_true, s.rdr']); (try simp only [fold_rd1, fold_rd])
            have s1 := s.adv (n + 1) le1
            refine ⟨by decide, rcv_l s1.stl, Nat.zero_le _, fun a ha => ?_⟩
            have hS' : mu (mu M1 p (rd T z (n + 1))) a (.lst []) S = some (.lst (qs.reverse.map W.ref)) := by
              rw [mu_ne fun e => by rw [← e, s1.stl] at ha; cases ha]; exact s1.stl
            refine append_ok hS' (by rw [List.length_map, List.length_reverse]; omega) ?_
            have s2 := s1.push (td := []) ha (by simp) hpn
            (try simp only [hd_e, hd_d, hd_0, hd_o, hd_c, hd_s, hd_in, List.head?_cons, List.head?_nil, List.isEmpty_cons, List.isEmpty_nil, List.cons_append, List.nil_append, beq_self_eq_true, gt, clsW, fldW, add_ii, add_ss, add_tt, add_ff, sub_ii, mul_ii, div_ii, mod_ii, pow_ii, neg_i, lt_ii, le_ii, gt_ii, ge_ii, eq_ii, eq_ss, eq_bb, ne_ii, ne_ss, in_ss, int_i, int_b, int_s, cut_s, len_s, len_t, len_f, len_sc, str_i, str_s, tupof_f, lk_at, lk_s, lk_1, lk_2, lk_3, lk_4, lk_5, lk_6, put_rd, put_rd0, len_rd, mu_same, mu_mu, true_and, and_true, Bool.not_true, Bool.not_false, if_true, if_false, Bool.false_eq_true, decide_true, decide_false, Bool.true_eq_false, ite_true, ite_false, eq_self_iff_true, s2.rdr']); (try simp only [fold_rd1, fold_rd])
            refine ⟨p, z, n + 1, rfl, s2.rdr, hz, ?_⟩
            rw [hn1]
            by_cases h41 : r.head? = some 41
            · cases r with
              | nil => cases h41
              | cons c r =>
                simp only [List.head?_cons, Option.some.injEq] at h41
                subst h41
                have le2 : n + 1 + 1 ≤ (tls z).length := le_drop1 hn1
                (try simp only [hd_e, hd_d, hd_0, hd_o, hd_c, hd_s, hd_in, List.head?_cons, List.head?_nil, List.isEmpty_cons, List.isEmpty_nil, List.cons_append, List.nil_append, beq_self_eq_true, gt, clsW, fldW, add_ii, add_ss, add_tt, add_ff, sub_ii, mul_ii, div_ii, mod_ii, pow_ii, neg_i, lt_ii, le_ii, gt_ii, ge_ii, eq_ii, eq_ss, eq_bb, ne_ii, ne_ss, in_ss, int_i, int_b, int_s, cut_s, len_s, len_t, len_f, len_sc, str_i, str_s, tupof_f, lk_at, lk_s, lk_1, lk_2, lk_3, lk_4, lk_5, lk_6, put_rd, put_rd0, len_rd, mu_same, mu_mu, true_and, and_true, Bool.not_true, Bool.not_false, if_true, if_false, Bool.false_eq_true, decide_true, decide_false, Bool.true_eq_false, ite_true, ite_false, eq_self_iff_true, s2.rdr']); (try simp only [fold_rd1, fold_rd])
                have s3 := (s2.adv (n + 1 + 1) le2).pop
                refine ⟨by decide, rcv_l (s2.adv (n + 1 + 1) le2).stl, pop_ok (s2.adv (n + 1 + 1) le2).stl1 ?_⟩
                refine tupof_ok (xs := []) ?_ ?_
                · have h1 := (s2.adv (n + 1 + 1) le2).top
                  rw [mu_ne fun e => by
                    have := s2.sq
                    rw [← e] at this
                    exact this List.mem_cons_self]
                  exact h1
                · cases hr with
                  | opn0 hrest => exact hG _ _ ⟨sk, qs, n + 1 + 1, _, .t [], by simp [wD, wDs], s3, hB.up (by omega), by simp [okD, okDs], by rw [← List.drop_drop, hn1]; rfl, hrest, by simp only [List.length_cons]; omega⟩
                  | opn h41 _ => exact absurd rfl h41
                  | leaf h40 _ _ => exact absurd rfl h40
                  | bleaf h40 _ => exact absurd rfl h40
            · have e41 : (r.head? == some 41) = false := by simpa using h41
              (try simp only [hd_e, hd_d, hd_0, hd_o, hd_c, hd_s, hd_in, List.head?_cons, List.head?_nil, List.isEmpty_cons, List.isEmpty_nil, List.cons_append, List.nil_append, beq_self_eq_true, gt, clsW, fldW, add_ii, add_ss, add_tt, add_ff, sub_ii, mul_ii, div_ii, mod_ii, pow_ii, neg_i, lt_ii, le_ii, gt_ii, ge_ii, eq_ii, eq_ss, eq_bb, ne_ii, ne_ss, in_ss, int_i, int_b, int_s, cut_s, len_s, len_t, len_f, len_sc, str_i, str_s, tupof_f, lk_at, lk_s, lk_1, lk_2, lk_3, lk_4, lk_5, lk_6, put_rd, put_rd0, len_rd, mu_same, mu_mu, true_and, and_true, Bool.not_true, Bool.not_false, if_true, if_false, Bool.false_eq_true, decide_true, decide_false, Bool.true_eq_false, ite_true, ite_false, eq_self_iff_true, e41]); (try simp only [fold_rd1, fold_rd])
              cases hr with
              | opn0 _ => exact absurd rfl h41
              | opn _ hrest => exact ⟨r.length, by simp, [] :: sk, a :: qs, n + 1, r, _, rfl, s2, hB.push, hn1, hrest, rfl⟩
              | leaf h40 _ _ => exact absurd rfl h40
              | bleaf h40 _ => exact absurd rfl h40
        · have e40 : (l.head? == some 40) = false := by simpa using h40
          (try simp only [hd_e, hd_d, hd_0, hd_o, hd_c, hd_s, hd_in, List.head?_cons, List.head?_nil, List.isEmpty_cons, List.isEmpty_nil, List.cons_append, List.nil_append, beq_self_eq_true, gt, clsW, fldW, add_ii, add_ss, add_tt, add_ff, sub_ii, mul_ii, div_ii, mod_ii, pow_ii, neg_i, lt_ii, le_ii, gt_ii, ge_ii, eq_ii, eq_ss, eq_bb, ne_ii, ne_ss, in_ss, int_i, int_b, int_s, cut_s, len_s, len_t, len_f, len_sc, str_i, str_s, tupof_f, lk_at, lk_s, lk_1, lk_2, lk_3, lk_4, lk_5, lk_6, put_rd, put_rd0, len_rd, mu_same, mu_mu, true_and, and_true, Bool.not_true, Bool.not_false, if_true, if_false, Bool.false_eq_true, decide_true, decide_false, Bool.true_eq_false, ite_true, ite_false, eq_self_iff_true, s.rdr', e40]); (try simp only [fold_rd1, fold_rd])
          exact leafcase h40
      case h2 =>
        rintro ρ M2 ⟨sk, qs, n', l', d, rfl, s, hB, od, hn, hr, hlt⟩
        refine seq_have (fun ρ M1 => ∃ sk qs n' l' d, ρ = [some (.ref p), some (.ref S), some (wD d)] ∧ Stk T M p S z M1 n' qs (frm sk) ∧ Bs sk n' ∧ okD d ∧ (tls z).drop n' = l' ∧ Run sk l' n' (some d) res ∧ l'.length < m ∧ (sk = [] ∨ l'.head? = some 32)) ?h2 ?h1
        case h1 =>
          intro G hG
          unfold mWhile
          refine ⟨fun k ρ M1 => ∃ sk qs n' l' d, ρ = [some (.ref p), some (.ref S), some (wD d)] ∧ Stk T M p S z M1 n' qs (frm sk) ∧ Bs sk n' ∧ okD d ∧ (tls z).drop n' = l' ∧ Run sk l' n' (some d) res ∧ l'.length < m ∧ k = sk.length, ⟨_, sk, qs, n', l', d, rfl, s, hB, od, hn, hr, hlt, rfl⟩, ?_⟩
          rintro k ρ M1 ⟨sk, qs, n', l', d, rfl, s, hB, od, hn, hr, hlt, rfl⟩
          simp only [mVar, gt, mC, mOp, mUn, mTest, mChain, mAnd, mOr, mNot, mAndV, mOrV, mNotV, mIf, mNil, mCons, mTup, mFl, mLst, mCB, mBM0, mBM, mSl, mPart, mNoPart, mSeq, mNext, mDrop, mCont, mBreak, mRet, mIfS, mAsg, nName, st, startW, mFld, mSetFld, mAugFld, mMeth, mCall, mRaise, List.map_cons, List.map_nil, List.length_cons, List.length_nil, List.replicate, List.cons_append, List.nil_append, Nat.zero_add, Nat.reduceAdd, Nat.reduceSub, Nat.sub_self, mWhile, add_ii, add_ss, add_tt, add_ff, sub_ii, mul_ii, div_ii, mod_ii, pow_ii, neg_i, lt_ii, le_ii, gt_ii, ge_ii, eq_ii, eq_ss, eq_bb, ne_ii, ne_ss, in_ss, int_i, int_b, int_s, cut_s, len_s, len_t, len_f, len_sc, str_i, str_s, tupof_f, mNeL, mEqL]
          refine ⟨by decide, ?_⟩
          refine s.deq ?_
          cases sk with
          | nil =>
            have e0 : (frm []).isEmpty = true := rfl
            (try simp only [hd_e, hd_d, hd_0, hd_o, hd_c, hd_s, hd_in, List.head?_cons, List.head?_nil, List.isEmpty_cons, List.isEmpty_nil, List.cons_append, List.nil_append, beq_self_eq_true, gt, clsW, fldW, add_ii, add_ss, add_tt, add_ff, sub_ii, mul_ii, div_ii, mod_ii, pow_ii, neg_i, lt_ii, le_ii, gt_ii, ge_ii, eq_ii, eq_ss, eq_bb, ne_ii, ne_ss, in_ss, int_i, int_b, int_s, cut_s, len_s, len_t, len_f, len_sc, str_i, str_s, tupof_f, lk_at, lk_s, lk_1, lk_2, lk_3, lk_4, lk_5, lk_6, put_rd, put_rd0, len_rd, mu_same, mu_mu, true_and, and_true, Bool.not_true, Bool.not_false, if_true, if_false, Bool.false_eq_true, decide_true, decide_false, Bool.true_eq_false, ite_true, ite_false, eq_self_iff_true, e0]); (try simp only [fold_rd1, fold_rd])
            exact hG _ _ ⟨[], qs, n', l', d, rfl, s, hB, od, hn, hr, hlt, .inl rfl⟩
          | cons fr sk =>
            have e0 : (frm (fr :: sk)).isEmpty = false := rfl
            have hq : ∃ q qs', qs = q :: qs' := by
              have := s.frm.len
              cases qs with
              | nil => simp [frm] at this
              | cons q qs => exact ⟨q, qs, rfl⟩
            obtain ⟨q0, qs, rfl⟩ := hq
            have s' : Stk T M p S z M1 n' (q0 :: qs) ((fr, []) :: frm sk) := s
            (try simp only [hd_e, hd_d, hd_0, hd_o, hd_c, hd_s, hd_in, List.head?_cons, List.head?_nil, List.isEmpty_cons, List.isEmpty_nil, List.cons_append, List.nil_append, beq_self_eq_true, gt, clsW, fldW, add_ii, add_ss, add_tt, add_ff, sub_ii, mul_ii, div_ii, mod_ii, pow_ii, neg_i, lt_ii, le_ii, gt_ii, ge_ii, eq_ii, eq_ss, eq_bb, ne_ii, ne_ss, in_ss, int_i, int_b, int_s, cut_s, len_s, len_t, len_f, len_sc, str_i, str_s, tupof_f, lk_at, lk_s, lk_1, lk_2, lk_3, lk_4, lk_5, lk_6, put_rd, put_rd0, len_rd, mu_same, mu_mu, true_and, and_true, Bool.not_true, Bool.not_false, if_true, if_false, Bool.false_eq_true, decide_true, decide_false, Bool.true_eq_false, ite_true, ite_false, eq_self_iff_true, e0, s.rdr']); (try simp only [fold_rd1, fold_rd])
            refine ⟨p, z, n', rfl, s.rdr, hz, ?_⟩
            rw [hn]
            by_cases h32 : l'.head? = some 32
            · have e32 : (l'.head? == some 32) = true := by rw [h32]; rfl
              (try simp only [hd_e, hd_d, hd_0, hd_o, hd_c, hd_s, hd_in, List.head?_cons, List.head?_nil, List.isEmpty_cons, List.isEmpty_nil, List.cons_append, List.nil_append, beq_self_eq_true, gt, clsW, fldW, add_ii, add_ss, add_tt, add_ff, sub_ii, mul_ii, div_ii, mod_ii, pow_ii, neg_i, lt_ii, le_ii, gt_ii, ge_ii, eq_ii, eq_ss, eq_bb, ne_ii, ne_ss, in_ss, int_i, int_b, int_s, cut_s, len_s, len_t, len_f, len_sc, str_i, str_s, tupof_f, lk_at, lk_s, lk_1, lk_2, lk_3, lk_4, lk_5, lk_6, put_rd, put_rd0, len_rd, mu_same, mu_mu, true_and, and_true, Bool.not_true, Bool.not_false, if_true, if_false, Bool.false_eq_true, decide_true, decide_false, Bool.true_eq_false, ite_true, ite_false, eq_self_iff_true, e32]); (try simp only [fold_rd1, fold_rd])
              exact hG _ _ ⟨_, _, n', l', d, rfl, s, hB, od, hn, hr, hlt, .inr h32⟩
            · have e32 : (l'.head? == some 32) = false := by simpa using h32
              (try simp only [hd_e, hd_d, hd_0, hd_o, hd_c, hd_s, hd_in, List.head?_cons, List.head?_nil, List.isEmpty_cons, List.isEmpty_nil, List.cons_append, List.nil_append, beq_self_eq_true, gt, clsW, fldW, add_ii, add_ss, add_tt, add_ff, sub_ii, mul_ii, div_ii, mod_ii, pow_ii, neg_i, lt_ii, le_ii, gt_ii, ge_ii, eq_ii, eq_ss, eq_bb, ne_ii, ne_ss, in_ss, int_i, int_b, int_s, cut_s, len_s, len_t, len_f, len_sc, str_i, str_s, tupof_f, lk_at, lk_s, lk_1, lk_2, lk_3, lk_4, lk_5, lk_6, put_rd, put_rd0, len_rd, mu_same, mu_mu, true_and, and_true, Bool.not_true, Bool.not_false, if_true, if_false, Bool.false_eq_true, decide_true, decide_false, Bool.true_eq_false, ite_true, ite_false, eq_self_iff_true, e32, s.rdr']); (try simp only [fold_rd1, fold_rd])
              refine ⟨p, z, n', 41, rfl, s.rdr, hz, fun h41 => ?_, fun h41 => ?_⟩
              · rw [hn] at h41
                cases l' with
                | nil => cases h41
                | cons c r =>
                  simp only [List.head?_cons, Option.some.injEq] at h41
                  subst h41
                  have s1 := s'.adv (n' + 1) (le_drop1 hn)
                  have s2 := s1.app (td' := []) od (by simp)
                  have s3 := s2.pop
                  refine ixm_ok s1.stl1 atI_last ?_
                  refine ⟨rcv_l s1.top, append_ok s1.top ?_ ?_⟩
                  · have h1 := hB.b fr List.mem_cons_self
                    have h2 := s.le
                    rw [List.length_map]
                    omega
                  refine ⟨rcv_l s2.stl, pop_ok s2.stl1 ?_⟩
                  refine tupof_ok (xs := (fr ++ [d]).map wD) ?_ ?_
                  · rw [mu_ne fun e => by
                      have := s2.sq
                      rw [← e] at this
                      exact this List.mem_cons_self]
                    exact s2.top
                  · have od' : okD (.t (fr ++ [d])) := okD_t.mpr (s2.ok _ List.mem_cons_self).1
                    cases hr with
                    | clos hrest => exact ⟨sk.length, by simp, sk, qs, n' + 1, r, .t (fr ++ [d]), by rw [wD_t], s3, hB.pop (by omega), od', by rw [← List.drop_drop, hn]; rfl, hrest, by simp only [List.length_cons] at hlt; omega, rfl⟩
                    | bad _ h41 => exact absurd rfl h41
              · rw [hn] at h41
                cases hr with
                | next _ => exact absurd rfl h32
                | clos _ => exact absurd rfl h41
                | bad _ _ =>
                  refine ⟨_, s.sub, q n'⟩
        case h2 =>
          rintro ρ M1 ⟨sk, qs, n', l', d, rfl, s, hB, od, hn, hr, hlt, hst⟩
          simp only [mVar, gt, mC, mOp, mUn, mTest, mChain, mAnd, mOr, mNot, mAndV, mOrV, mNotV, mIf, mNil, mCons, mTup, mFl, mLst, mCB, mBM0, mBM, mSl, mPart, mNoPart, mSeq, mNext, mDrop, mCont, mBreak, mRet, mIfS, mAsg, nName, st, startW, mFld, mSetFld, mAugFld, mMeth, mCall, mRaise, List.map_cons, List.map_nil, List.length_cons, List.length_nil, List.replicate, List.cons_append, List.nil_append, Nat.zero_add, Nat.reduceAdd, Nat.reduceSub, Nat.sub_self, mWhile, add_ii, add_ss, add_tt, add_ff, sub_ii, mul_ii, div_ii, mod_ii, pow_ii, neg_i, lt_ii, le_ii, gt_ii, ge_ii, eq_ii, eq_ss, eq_bb, ne_ii, ne_ss, in_ss, int_i, int_b, int_s, cut_s, len_s, len_t, len_f, len_sc, str_i, str_s, tupof_f, mNeL, mEqL]
          refine ⟨by decide, ?_⟩
          refine s.deq ?_
          cases sk with
          | nil =>
            have e0 : (frm []).isEmpty = true := rfl
            (try simp only [hd_e, hd_d, hd_0, hd_o, hd_c, hd_s, hd_in, List.head?_cons, List.head?_nil, List.isEmpty_cons, List.isEmpty_nil, List.cons_append, List.nil_append, beq_self_eq_true, gt, clsW, fldW, add_ii, add_ss, add_tt, add_ff, sub_ii, mul_ii, div_ii, mod_ii, pow_ii, neg_i, lt_ii, le_ii, gt_ii, ge_ii, eq_ii, eq_ss, eq_bb, ne_ii, ne_ss, in_ss, int_i, int_b, int_s, cut_s, len_s, len_t, len_f, len_sc, str_i, str_s, tupof_f, lk_at, lk_s, lk_1, lk_2, lk_3, lk_4, lk_5, lk_6, put_rd, put_rd0, len_rd, mu_same, mu_mu, true_and, and_true, Bool.not_true, Bool.not_false, if_true, if_false, Bool.false_eq_true, decide_true, decide_false, Bool.true_eq_false, ite_true, ite_false, eq_self_iff_true, e0]); (try simp only [fold_rd1, fold_rd])
            cases hr with
            | done => exact ⟨_, s.sub, q⟩
          | cons fr sk =>
            have e0 : (frm (fr :: sk)).isEmpty = false := rfl
            have h32 : l'.head? = some 32 := by
              rcases hst with h | h
              · cases h
              · exact h
            have hq : ∃ q qs', qs = q :: qs' := by
              have := s.frm.len
              cases qs with
              | nil => simp [frm] at this
              | cons q qs => exact ⟨q, qs, rfl⟩
            obtain ⟨q0, qs, rfl⟩ := hq
            have s' : Stk T M p S z M1 n' (q0 :: qs) ((fr, []) :: frm sk) := s
            cases l' with
            | nil => cases h32
            | cons c r =>
              simp only [List.head?_cons, Option.some.injEq] at h32
              subst h32
              have s1 := s'.adv (n' + 1) (le_drop1 hn)
              have s2 := s1.app (td' := []) od (by simp)
              (try simp only [hd_e, hd_d, hd_0, hd_o, hd_c, hd_s, hd_in, List.head?_cons, List.head?_nil, List.isEmpty_cons, List.isEmpty_nil, List.cons_append, List.nil_append, beq_self_eq_true, gt, clsW, fldW, add_ii, add_ss, add_tt, add_ff, sub_ii, mul_ii, div_ii, mod_ii, pow_ii, neg_i, lt_ii, le_ii, gt_ii, ge_ii, eq_ii, eq_ss, eq_bb, ne_ii, ne_ss, in_ss, int_i, int_b, int_s, cut_s, len_s, len_t, len_f, len_sc, str_i, str_s, tupof_f, lk_at, lk_s, lk_1, lk_2, lk_3, lk_4, lk_5, lk_6, put_rd, put_rd0, len_rd, mu_same, mu_mu, true_and, and_true, Bool.not_true, Bool.not_false, if_true, if_false, Bool.false_eq_true, decide_true, decide_false, Bool.true_eq_false, ite_true, ite_false, eq_self_iff_true, e0, s.rdr']); (try simp only [fold_rd1, fold_rd])
              refine ⟨p, z, n', 32, rfl, s.rdr, hz, fun _ => ?_, fun h => absurd (by rw [hn]; rfl) h⟩
              refine ixm_ok s1.stl1 atI_last ?_
              refine ⟨rcv_l s1.top, append_ok s1.top ?_ ?_⟩
              · have h1 := hB.b fr List.mem_cons_self
                have h2 := s.le
                rw [List.length_map]
                omega
              cases hr with
              | next hrest => exact ⟨r.length, by simp only [List.length_cons] at hlt; omega, (fr ++ [d]) :: sk, q0 :: qs, n' + 1, r, _, rfl, s2, hB.app, by rw [← List.drop_drop, hn]; rfl, hrest, rfl⟩
              | bad h32 _ => exact absurd rfl h32
theorem ok_Reader_a_datum (T : Tx P w K mg base)  : FF P w K mg base (6) T.A_Reader_a_datum ["self"] (sp_Reader_a_datum T) := by
  obtain ⟨fd, F, hb, _⟩ := T.F_Reader_a_datum
  exact ⟨⟨fd, fo_Reader_a_datum T F , hb⟩, F.kp⟩
theorem okM_Reader_a_datum (T : Tx P w K mg base) : Mth P w K mg base (6) T.C_Reader "a_datum" ["self"] (sp_Reader_a_datum T) := ⟨⟨_, T.mt_Reader_a_datum, ok_Reader_a_datum T⟩, T.cl_Reader⟩

end Ri
set_option Elab.async false
set_option linter.all false
set_option maxRecDepth 100000
set_option maxHeartbeats 4000000

namespace Ri
open PySem L2 PySem.Calls PyProof.Rows

variable {P : Program} {w : World} {K : PySem.W.Frag} {mg : Str → Option Value} {base : Heap}
theorem isi_ty {M : MH} {R : MQ} {v : W} {t T : String} (h : tyW M v = some t) (hk : kitB t T = some (isTy t T)) (q : R (.bl (isTy t T)) M) : mIsi K [v, .ty T] M R := by
  simp only [mIsi, h]; exact ⟨hk, q⟩
theorem isi_ref {M : MH} {R : MQ} {v : W} {t : String} {C : Addr} (h : tyW M v = some t) (hk : PySem.W.kitOne K (.type t) (.ref C) = some false) (q : R (.bl false) M) : mIsi K [v, .ref C] M R := by
  simp only [mIsi, h]; exact ⟨hk, q⟩
theorem deqT {xs : List D} {M : MH} {k : Bool → Prop} (h : okD (.t xs)) (q : k xs.isEmpty) : deq M (wD (.t xs)) (.tup []) k := by
  obtain ⟨e, h1, h2, h3⟩ := dat_wD h
  have hs : scq (wD (.t xs)) (.tup []) = none := by rw [wD_t]; rfl
  have hm : datM M (wD (.t xs)) = some e := by rw [← h1, wD_t]; rfl
  obtain ⟨es, h4, h5, h6⟩ := dats_map (okD_t.mp h)
  have he : e = .tuple es := by
    rw [wD_t] at h1
    simp only [dat, h4, Option.map_some, Option.some.injEq] at h1
    exact h1.symm
  subst he
  have hl : es.isEmpty = xs.isEmpty := by
    cases xs with
    | nil => simp only [List.map_nil, dats, Option.some.injEq] at h4; subst h4; rfl
    | cons x xs =>
      simp only [List.map_cons, dats] at h4
      obtain ⟨d, e1, h4⟩ := Option.bind_eq_some_iff.mp h4
      obtain ⟨fs, e2, h4⟩ := Option.map_eq_some_iff.mp h4
      subst h4; rfl
  unfold deq
  rw [hs]
  dsimp only
  rw [hm]
  have e2 : datM M (.tup []) = some (.tuple []) := rfl
  rw [e2]
  dsimp only
  refine ⟨h2, rfl, ?_, ?_⟩
  · have : (PyData.tuple []).depth = 1 := by simp [PyData.depth, PyData.depthAll]
    omega
  · have : PyData.eqv (.tuple es) (.tuple []) = es.isEmpty := by
      cases es with
      | nil => simp [PyData.eqv, PyData.eqvAll]
      | cons e es => simp [PyData.eqv, PyData.eqvAll]
    rw [this, hl]
    exact q
theorem eqT {xs : List D} {M : MH} {R : MQ} (h : okD (.t xs)) (q : R (.bl xs.isEmpty) M) : mEq (wD (.t xs)) (.tup []) M R := deqT h q
theorem neT {xs : List D} {M : MH} {R : MQ} (h : okD (.t xs)) (q : R (.bl (!xs.isEmpty)) M) : mNe (wD (.t xs)) (.tup []) M R := deqT (k := fun b => R (.bl (!b)) M) h q
theorem turns_inv {g : MG} {tb : MS} {D : MEnds} (I : List W → MSt → MH → Prop) (h0 : ∀ ρ M, I [] ρ M → D.nx ρ M)
    (step : ∀ w ws ρ M, I (w :: ws) ρ M → ∀ G : MSt → MH → Prop, (∀ ρ M, I ws ρ M → G ρ M) → g w ρ M fun ρ1 M1 => tb { D with nx := G, ct := G, bk := D.nx } ρ1 M1) : ∀ ws ρ M, I ws ρ M → turns g tb D ws ρ M
  | [], ρ, M, h => h0 ρ M h
  | w :: ws, ρ, M, h => step w ws ρ M h _ (turns_inv I h0 step ws)
/-! ### what is left to be written -/
inductive It where
  | w (x : List Nat)
  | d (d : D)
def itW : It → W
  | .w x => .tup [.bl true, .str (mkS x)]
  | .d d => .tup [.bl false, wD d]
def itT : It → List Nat
  | .w x => x
  | .d d => txt d
def itOk : It → Prop
  | .w x => x = [40] ∨ x = [41] ∨ x = [32]
  | .d d => okD d
mutual
def wt : D → Nat
  | .lf _ _ => 1
  | .t xs => wts xs + 3
def wts : List D → Nat
  | [] => 0
  | d :: r => wt d + 1 + wts r
end
def itM : It → Nat
  | .w _ => 1
  | .d d => wt d
def rowB : List D → List It
  | [] => []
  | d :: r => .d d :: .w [32] :: rowB r
def fl (l : List It) : List Nat := l.flatMap itT
def ms (l : List It) : Nat := (l.map itM).sum
theorem rowB_ne {d : D} {r : List D} : ∃ B, rowB (d :: r) = B ++ [.w [32]] ∧ fl B = txt d ++ sibs r ∧ ms B + 1 = wts (d :: r) ∧ ∀ i ∈ B, i ∈ rowB (d :: r) := by
  induction r generalizing d with
  | nil => exact ⟨[.d d], rfl, by simp [fl, itT, sibs], by simp [ms, itM, wts], by simp [rowB]⟩
  | cons e r ih =>
    obtain ⟨B, h1, h2, h3, h4⟩ := ih (d := e)
    refine ⟨.d d :: .w [32] :: B, by rw [rowB, h1]; rfl, ?_, ?_, ?_⟩
    · unfold fl at h2 ⊢
      simp only [List.flatMap_cons, h2, itT, sibs]
      simp
    · unfold ms at h3 ⊢
      simp only [List.map_cons, List.sum_cons, itM, wts] at h3 ⊢
      omega
    · intro i hi
      rw [rowB]
      rcases List.mem_cons.mp hi with h | hi
      · rw [h]; exact List.mem_cons_self
      · rcases List.mem_cons.mp hi with h | hi
        · rw [h]; exact List.mem_cons_of_mem _ List.mem_cons_self
        · exact List.mem_cons_of_mem _ (List.mem_cons_of_mem _ (h4 i hi))
theorem rowB_snoc : ∀ {ys : List D} {z : D}, rowB (ys ++ [z]) = rowB ys ++ [.d z, .w [32]]
  | [], z => rfl
  | y :: ys, z => by simp only [List.cons_append, rowB, rowB_snoc (ys := ys)]
theorem rowB_len : ∀ {ys : List D}, (rowB ys).length = 2 * ys.length
  | [] => rfl
  | y :: ys => by simp only [rowB, List.length_cons, rowB_len (ys := ys)]; omega
theorem rowB_ok : ∀ {xs : List D}, (∀ d ∈ xs, okD d) → ∀ i ∈ rowB xs, itOk i
  | [], _, i, hi => by simp [rowB] at hi
  | d :: r, h, i, hi => by
    rw [rowB] at hi
    rcases List.mem_cons.mp hi with e | hi
    · rw [e]; exact h d List.mem_cons_self
    · rcases List.mem_cons.mp hi with e | hi
      · rw [e]; exact .inr (.inr rfl)
      · exact rowB_ok (fun x hx => h x (List.mem_cons_of_mem _ hx)) i hi
theorem it_pos {i : It} (h : itOk i) : 0 < (itT i).length := by
  cases i with
  | w x => rcases h with rfl | rfl | rfl <;> simp [itT]
  | d d => exact txt_pos h
theorem fl_len : ∀ {l : List It}, (∀ i ∈ l, itOk i) → l.length ≤ (fl l).length
  | [], _ => Nat.le_refl _
  | i :: l, h => by
    have h1 := fl_len (l := l) fun x hx => h x (List.mem_cons_of_mem _ hx)
    have h2 := it_pos (h i List.mem_cons_self)
    unfold fl at h1 ⊢
    simp only [List.flatMap_cons, List.length_cons, List.length_append]
    omega
theorem it_dat {i : It} (h : itOk i) : ∃ e, dat (itW i) = some e ∧ e.canLay0 = true := by
  cases i with
  | w x => rcases h with rfl | rfl | rfl <;> exact ⟨_, rfl, by decide +kernel⟩
  | d d =>
    obtain ⟨e, h1, h2, _⟩ := dat_wD h
    exact ⟨.tuple [.bool false, e], by simp only [itW, dat, dats, h1, Option.bind_some, Option.map_some], by simp [PyData.canLay0, PyData.canLayAll0, h2]⟩
theorem its_dat : ∀ {l : List It}, (∀ i ∈ l, itOk i) → ∃ es, dats (l.map itW) = some es ∧ PyData.canLayAll0 es = true ∧ es.length = l.length
  | [], _ => ⟨[], rfl, rfl, rfl⟩
  | i :: l, h => by
    obtain ⟨e, h1, h2⟩ := it_dat (h i List.mem_cons_self)
    obtain ⟨es, h3, h4, h5⟩ := its_dat (l := l) fun x hx => h x (List.mem_cons_of_mem _ hx)
    exact ⟨e :: es, by simp only [List.map_cons, dats, h1, h3, Option.bind_some, Option.map_some], by simp only [PyData.canLayAll0, h2, h4, Bool.and_true], by simp [h5]⟩
theorem ne_its {M : MH} {B : Addr} {L : List It} {R : MQ} (h : M B = some (.lst (L.reverse.map itW))) (ho : ∀ i ∈ L, itOk i) (q : R (.bl (!L.isEmpty)) M) : mNe (.ref B) (.fl []) M R := by
  obtain ⟨es, h1, h2, h3⟩ := its_dat (l := L.reverse) fun i hi => ho i (List.mem_reverse.mp hi)
  unfold mNe deq
  have e0 : scq (.ref B) (.fl []) = none := rfl
  rw [e0]
  dsimp only
  have e1 : datM M (.ref B) = some (.list es) := by simp only [datM, h, h1, Option.map_some]
  have e2 : datM M (.fl []) = some (.list []) := rfl
  rw [e1, e2]
  dsimp only
  refine ⟨h2, rfl, ?_, ?_⟩
  · have : (PyData.list []).depth = 1 := by simp [PyData.depth, PyData.depthAll]
    omega
  · rw [eqv_nil]
    have : es.isEmpty = L.isEmpty := by
      rw [List.length_reverse] at h3
      cases es with
      | nil => cases L with
        | nil => rfl
        | cons => simp at h3
      | cons => cases L with
        | nil => simp at h3
        | cons => rfl
    rw [this]
    exact q
theorem allStr_mk : ∀ l : List (List Nat), allStr (l.map fun x => W.str (mkS x)) = some (l.map mkS)
  | [] => rfl
  | x :: l => by simp only [List.map_cons, allStr, allStr_mk l, Option.map_some]
theorem join_e : ∀ l : List (List Nat), Txt.join (mkS []) (l.map mkS) = mkS l.flatten := fun l => by
  refine str_ext ?_
  rw [TL.join_eq]
  show TL.tl (Str.join (mkS []) (l.map mkS)) = l.flatten
  rw [TL.tl_join]
  have gen : ∀ l : List (List Nat), TL.joinL [] l = l.flatten := by
    intro l
    induction l with
    | nil => rfl
    | cons x l ih =>
      cases l with
      | nil => simp [TL.joinL]
      | cons y l => rw [TL.joinL, ih]; simp
  have : (l.map mkS).map TL.tl = l := by rw [List.map_map]; exact List.map_id' l |> fun h => by simpa [Function.comp_def, TL.tl, mkS] using h
  rw [this]
  exact gen l
theorem join_len (l : List (List Nat)) : ((l.map mkS).map (·.length)).sum = l.flatten.length := by
  induction l with
  | nil => rfl
  | cons x l ih =>
    simp only [List.map_cons, List.sum_cons, ih, List.flatten_cons, List.length_append]
    rfl
def ansRD (T : Tx P w K mg base) (M : MH) (R : MQ) (RX : MXQ) : Res → Prop
  | .ok d rest m => (rest = [] → R (wD d) M) ∧ (rest ≠ [] → rxAt T RX m M)
  | .bad k => rxAt T RX k M
def sp_read_data (T : Tx P w K mg base) : MSp := fun ws M R RX => ∃ v, ws = [v] ∧ ((∃ z res, v = .str z ∧ z.length ≤ sizeLine ∧ Run [] (tls z) 0 none res ∧ ansRD T M R RX res) ∨ ∃ t, tyW M v = some t ∧ kitB t "str" = some false ∧ isTy t "str" = false ∧ rxAt T RX 0 M)
def sp_leaf_text (T : Tx P w K mg base) : MSp := fun ws M R _ => ∃ x v, ws = [v] ∧ leafOk x v = true ∧ R (.str (mkS x)) M
def sp_data_text (T : Tx P w K mg base) : MSp := fun ws M R _ => ∃ d, ws = [wD d] ∧ okD d ∧ (txt d).length ≤ 1000000 ∧ R (.str (mkS (txt d))) M
def headS (h : Str) : Bool := [(W.str "say"), .str "if", .str "fun", .str "let", .str "hold", .str "heed", .str "up"].any fun v => feq v (.str h)
theorem in_heads {s : Str} {M : MH} {R : MQ} (q : R (.bl (headS s)) M) : mIn false (.str s) (.tup [(W.str "say"), .str "if", .str "fun", .str "let", .str "hold", .str "heed", .str "up"]) M R := ⟨rfl, rfl, q⟩
def kindW : W → Str
  | .str _ => "name"
  | .tup [] => "fixed"
  | .tup (.str h :: _) => if headS h then h else "put"
  | .tup (_ :: _) => "put"
  | _ => "fixed"
def sp_kind_of (T : Tx P w K mg base) : MSp := fun ws M R _ => ∃ d, ws = [wD d] ∧ okD d ∧ R (.str (kindW (wD d))) M
def tyD : D → String
  | .lf _ (.bl _) => "bool"
  | .lf _ (.int _) => "int"
  | .lf _ (.str _) => "str"
  | .lf _ _ => "NoneType"
  | .t _ => "tuple"
theorem ty_wD {d : D} (h : okD d) {M : MH} : tyW M (wD d) = some (tyD d) := by
  cases d with
  | t xs => simp only [wD, tyW, tyD]
  | lf x v =>
    rcases leaf_cases (show leafOk x v = true by simpa [okD] using h) with ⟨b, rfl, _⟩ | ⟨i, rfl, _⟩ | ⟨s, rfl, _⟩ <;> simp only [wD, tyW, tyD]
theorem kb_bool : ∀ t, t ∈ ["bool", "int", "str", "tuple"] → kitB t "bool" = some (isTy t "bool") ∧ kitB t "int" = some (isTy t "int") ∧ kitB t "str" = some (isTy t "str") ∧ kitB t "tuple" = some (isTy t "tuple") ∧ kitB t "list" = some (isTy t "list") := by decide +kernel
theorem tyD_mem {d : D} (h : okD d) : tyD d ∈ ["bool", "int", "str", "tuple"] := by
  cases d with
  | t xs => simp [tyD]
  | lf x v =>
    rcases leaf_cases (show leafOk x v = true by simpa [okD] using h) with ⟨b, rfl, _⟩ | ⟨i, rfl, _⟩ | ⟨s, rfl, _⟩ <;> simp [tyD]

theorem fo_read_data {fd : FuncData} (T : Tx P w K mg base) (F : Fun K "read_data" "read_data" s_read_data T.A_read_data fd)  : FnOk P w K mg base (L2.CX P w) (8) T.A_read_data fd ["text"] (upS K (sp_read_data T)) := by
  refine fn_rich F sc_read_data (fun ws M R RX h => ?len) (fun cdv A outer s H E F0 ws M R RX hr hsp hx hp => ⟨_, (qss_cons (qs_if (qt_not (qt_val (qe_callB c_isi rfl T.z_isinstance (by decide +kernel) (qa_cons (qv 0) (qa_cons (qe_tyname (T := "str") rfl T.z_str (by decide +kernel)) qa_nil))))) (qss_one (qs_raise rfl T.x_BadText (hr.mono (by omega)) rfl T.c_BadText hx (qa_cons qe_int qa_nil))) qss_nil)
      (qss_cons (qs_set (i := 1) sc_read_data.nd rfl (by first | exact Or.inl rfl | exact Or.inr rfl) (qe_make T.mk_Reader (ok_Reader___init__ T) (hr.mono (by omega)) rfl T.c_Reader (qa_cons (qv 0) qa_nil)))
      (qss_cons (qs_set (i := 2) sc_read_data.nd rfl (by first | exact Or.inl rfl | exact Or.inr rfl) (qe_meth0 (Cs := (fun C => C = T.C_Reader)) (sps := fun _ => sp_Reader_a_datum T) (pss := fun _ => _) (qv 1) (by rintro _ rfl; exact (okM_Reader_a_datum T)) (hr.mono (by omega)) hx))
      (qss_cons (qs_if (qt_cmp q_lt (qe_fld (Cs := (fun C => C = T.C_Reader)) (qv 1) (by rintro _ rfl; exact T.fl_Reader_at)) (qe_callB c_len rfl T.z_len (by decide +kernel) (qa_cons (qv 0) qa_nil)) (nomark _)) (qss_one (qs_raise rfl T.x_BadText (hr.mono (by omega)) rfl T.c_BadText hx (qa_cons (qe_fld (Cs := (fun C => C = T.C_Reader)) (qv 1) (by rintro _ rfl; exact T.fl_Reader_at)) qa_nil))) qss_nil)
      (qss_one (qs_ret (qv 2))))))), ?body⟩)
  case len => (unfold sp_read_data at h; first | (obtain ⟨_, rfl, _⟩ := h; rfl) | (obtain ⟨_, _, rfl, _⟩ := h; rfl) | (obtain ⟨_, _, _, rfl, _⟩ := h; rfl) | (obtain ⟨_, _, _, _, rfl, _⟩ := h; rfl) | (obtain ⟨_, _, _, _, _, rfl, _⟩ := h; rfl) | (obtain ⟨_, _, _, _, _, _, rfl, _⟩ := h; rfl) | (obtain ⟨_, _, _, _, _, _, _, rfl, _⟩ := h; rfl) | (obtain ⟨_, _, _, _, _, _, _, _, rfl, _⟩ := h; rfl))
  case body =>
    obtain ⟨v, rfl, h⟩ := hsp
    rcases h with ⟨z, res, rfl, hz, hrun, q⟩ | ⟨t, ht, hk, hi, q⟩
    · simp only [mVar, gt, mC, mOp, mUn, mTest, mChain, mAnd, mOr, mNot, mAndV, mOrV, mNotV, mIf, mNil, mCons, mTup, mFl, mLst, mCB, mBM0, mBM, mSl, mPart, mNoPart, mSeq, mNext, mDrop, mCont, mBreak, mRet, mIfS, mAsg, nName, st, startW, mFld, mSetFld, mAugFld, mMeth, mCall, mRaise, List.map_cons, List.map_nil, List.length_cons, List.length_nil, List.replicate, List.cons_append, List.nil_append, Nat.zero_add, Nat.reduceAdd, Nat.reduceSub, Nat.sub_self, mWhile, add_ii, add_ss, add_tt, add_ff, sub_ii, mul_ii, div_ii, mod_ii, pow_ii, neg_i, lt_ii, le_ii, gt_ii, ge_ii, eq_ii, eq_ss, eq_bb, ne_ii, ne_ss, in_ss, int_i, int_b, int_s, cut_s, len_s, len_t, len_f, len_sc, str_i, str_s, tupof_f, mNeL, mEqL]
      refine isi_ty (t := "str") rfl (by decide +kernel) ?_
      (try simp only [hd_e, hd_d, hd_0, hd_o, hd_c, hd_s, hd_in, List.head?_cons, List.head?_nil, List.isEmpty_cons, List.isEmpty_nil, List.cons_append, List.nil_append, beq_self_eq_true, gt, clsW, fldW, add_ii, add_ss, add_tt, add_ff, sub_ii, mul_ii, div_ii, mod_ii, pow_ii, neg_i, lt_ii, le_ii, gt_ii, ge_ii, eq_ii, eq_ss, eq_bb, ne_ii, ne_ss, in_ss, int_i, int_b, int_s, cut_s, len_s, len_t, len_f, len_sc, str_i, str_s, tupof_f, lk_at, lk_s, lk_1, lk_2, lk_3, lk_4, lk_5, lk_6, put_rd, put_rd0, len_rd, mu_same, mu_mu, true_and, and_true, Bool.not_true, Bool.not_false, if_true, if_false, Bool.false_eq_true, decide_true, decide_false, Bool.true_eq_false, ite_true, ite_false, eq_self_iff_true, show isTy "str" "str" = true from by decide]); (try simp only [fold_rd1, fold_rd])
      intro p hp
      refine ⟨p, z, rfl, mu_same, rfl, ?_⟩
      have hz0 : mu M p (rd T z 0) p = some (.ins T.C_Reader (rdF z ((0 : Nat) : Int))) := mu_same
      dsimp only
      simp only [mu_mu, hz0, clsW, fldW]
      refine ⟨trivial, rfl, ?_⟩
      refine ⟨p, z, res, rfl, mu_same, hz, hrun, ?_⟩
      cases res with
      | bad k => exact fun m => ⟨M, by rw [mu_mu]; exact MSub.mu hp, q⟩
      | ok d rest m =>
        obtain ⟨_, h2, h3⟩ := run_text hrun (by simp) (by simp) d rest m rfl
        have hN : mu M p (rd T z m) p = some (.ins T.C_Reader (rdF z m)) := mu_same
        show ansD T p z (mu M p (rd T z 0)) _ _ (.ok d rest m)
        simp only [ansD, mu_mu]
        cases rest with
        | nil =>
          have hlt : decide ((m : Int) < (z.length : Int)) = false := decide_eq_false (by rw [len_tls]; simp only [List.length_nil, List.length_cons, Nat.zero_add, Nat.add_zero] at h3; omega)
          simp only [rd]
          (try simp only [hd_e, hd_d, hd_0, hd_o, hd_c, hd_s, hd_in, List.head?_cons, List.head?_nil, List.isEmpty_cons, List.isEmpty_nil, List.cons_append, List.nil_append, beq_self_eq_true, gt, clsW, fldW, add_ii, add_ss, add_tt, add_ff, sub_ii, mul_ii, div_ii, mod_ii, pow_ii, neg_i, lt_ii, le_ii, gt_ii, ge_ii, eq_ii, eq_ss, eq_bb, ne_ii, ne_ss, in_ss, int_i, int_b, int_s, cut_s, len_s, len_t, len_f, len_sc, str_i, str_s, tupof_f, lk_at, lk_s, lk_1, lk_2, lk_3, lk_4, lk_5, lk_6, put_rd, put_rd0, len_rd, mu_same, mu_mu, true_and, and_true, Bool.not_true, Bool.not_false, if_true, if_false, Bool.false_eq_true, decide_true, decide_false, Bool.true_eq_false, ite_true, ite_false, eq_self_iff_true, hlt]); (try simp only [fold_rd1, fold_rd])
          exact ⟨hz, _, MSub.mu hp, q.1 rfl⟩
        | cons c r =>
          have hlt : decide ((m : Int) < (z.length : Int)) = true := decide_eq_true (by rw [len_tls]; simp only [List.length_nil, List.length_cons, Nat.zero_add, Nat.add_zero] at h3; omega)
          simp only [rd]
          (try simp only [hd_e, hd_d, hd_0, hd_o, hd_c, hd_s, hd_in, List.head?_cons, List.head?_nil, List.isEmpty_cons, List.isEmpty_nil, List.cons_append, List.nil_append, beq_self_eq_true, gt, clsW, fldW, add_ii, add_ss, add_tt, add_ff, sub_ii, mul_ii, div_ii, mod_ii, pow_ii, neg_i, lt_ii, le_ii, gt_ii, ge_ii, eq_ii, eq_ss, eq_bb, ne_ii, ne_ss, in_ss, int_i, int_b, int_s, cut_s, len_s, len_t, len_f, len_sc, str_i, str_s, tupof_f, lk_at, lk_s, lk_1, lk_2, lk_3, lk_4, lk_5, lk_6, put_rd, put_rd0, len_rd, mu_same, mu_mu, true_and, and_true, Bool.not_true, Bool.not_false, if_true, if_false, Bool.false_eq_true, decide_true, decide_false, Bool.true_eq_false, ite_true, ite_false, eq_self_iff_true, hlt]); (try simp only [fold_rd1, fold_rd])
          exact ⟨hz, M, MSub.mu hp, q.2 (by simp)⟩
    · simp only [mVar, gt, mC, mOp, mUn, mTest, mChain, mAnd, mOr, mNot, mAndV, mOrV, mNotV, mIf, mNil, mCons, mTup, mFl, mLst, mCB, mBM0, mBM, mSl, mPart, mNoPart, mSeq, mNext, mDrop, mCont, mBreak, mRet, mIfS, mAsg, nName, st, startW, mFld, mSetFld, mAugFld, mMeth, mCall, mRaise, List.map_cons, List.map_nil, List.length_cons, List.length_nil, List.replicate, List.cons_append, List.nil_append, Nat.zero_add, Nat.reduceAdd, Nat.reduceSub, Nat.sub_self, mWhile, add_ii, add_ss, add_tt, add_ff, sub_ii, mul_ii, div_ii, mod_ii, pow_ii, neg_i, lt_ii, le_ii, gt_ii, ge_ii, eq_ii, eq_ss, eq_bb, ne_ii, ne_ss, in_ss, int_i, int_b, int_s, cut_s, len_s, len_t, len_f, len_sc, str_i, str_s, tupof_f, mNeL, mEqL]
      refine isi_ty ht (by rw [hk, hi]) ?_
      (try simp only [hd_e, hd_d, hd_0, hd_o, hd_c, hd_s, hd_in, List.head?_cons, List.head?_nil, List.isEmpty_cons, List.isEmpty_nil, List.cons_append, List.nil_append, beq_self_eq_true, gt, clsW, fldW, add_ii, add_ss, add_tt, add_ff, sub_ii, mul_ii, div_ii, mod_ii, pow_ii, neg_i, lt_ii, le_ii, gt_ii, ge_ii, eq_ii, eq_ss, eq_bb, ne_ii, ne_ss, in_ss, int_i, int_b, int_s, cut_s, len_s, len_t, len_f, len_sc, str_i, str_s, tupof_f, lk_at, lk_s, lk_1, lk_2, lk_3, lk_4, lk_5, lk_6, put_rd, put_rd0, len_rd, mu_same, mu_mu, true_and, and_true, Bool.not_true, Bool.not_false, if_true, if_false, Bool.false_eq_true, decide_true, decide_false, Bool.true_eq_false, ite_true, ite_false, eq_self_iff_true, hi]); (try simp only [fold_rd1, fold_rd])
      exact shx q
theorem ok_read_data (T : Tx P w K mg base)  : FF P w K mg base (8) T.A_read_data ["text"] (sp_read_data T) := by
  obtain ⟨fd, F, hb, _⟩ := T.F_read_data
  exact ⟨⟨fd, fo_read_data T F , hb⟩, F.kp⟩

theorem fo_leaf_text {fd : FuncData} (T : Tx P w K mg base) (F : Fun K "leaf_text" "leaf_text" s_leaf_text T.A_leaf_text fd)  : FnOk P w K mg base (L2.CX P w) (1) T.A_leaf_text fd ["value"] (upS K (sp_leaf_text T)) := by
  refine fn_rich F sc_leaf_text (fun ws M R RX h => ?len) (fun cdv A outer s H E F0 ws M R RX hr hsp hx hp => ⟨_, (qss_cons (qs_if (qt_val (qe_callB c_isi rfl T.z_isinstance (by decide +kernel) (qa_cons (qv 0) (qa_cons (qe_glob (w := .ref T.C_Function) (v := .ref _) rfl T.c_Function rfl (fun _ => ref_rw)) qa_nil)))) (qss_one (qs_ret (qe_op q_add (qe_op q_add qe_str (qe_bm PySem.F.plainAttrs_str PySem.F.slot_str_join PySem.F.type_str_join m_join qe_str (qa_cons (qe_fld (Cs := (fun C => C = T.C_Function)) (qv 0) (by rintro _ rfl; exact T.fl_Function_words)) qa_nil))) qe_str))) qss_nil)
      (qss_cons (qs_if (qt_val (qe_callB c_isi rfl T.z_isinstance (by decide +kernel) (qa_cons (qv 0) (qa_cons (qe_glob (w := .ref T.C_BuiltIn) (v := .ref _) rfl T.c_BuiltIn rfl (fun _ => ref_rw)) qa_nil)))) (qss_one (qs_ret (qe_joined (.cons qe_str (.cons (qe_fmt (qe_fld (Cs := (fun C => C = T.C_BuiltIn)) (qv 0) (by rintro _ rfl; exact T.fl_BuiltIn_word))) (.cons qe_str .nil)))))) qss_nil)
      (qss_cons (qs_if (qt_val (qe_callB c_isi rfl T.z_isinstance (by decide +kernel) (qa_cons (qv 0) (qa_cons (qe_tyname (T := "bool") rfl T.z_bool (by decide +kernel)) qa_nil)))) (qss_one (qs_ret (qe_if (qt_val (qv 0)) qe_str qe_str))) qss_nil)
      (qss_one (qs_ret (qe_callTy c_str rfl T.z_str (by decide +kernel) (qa_cons (qv 0) qa_nil))))))), ?body⟩)
  case len => (unfold sp_leaf_text at h; first | (obtain ⟨_, rfl, _⟩ := h; rfl) | (obtain ⟨_, _, rfl, _⟩ := h; rfl) | (obtain ⟨_, _, _, rfl, _⟩ := h; rfl) | (obtain ⟨_, _, _, _, rfl, _⟩ := h; rfl) | (obtain ⟨_, _, _, _, _, rfl, _⟩ := h; rfl) | (obtain ⟨_, _, _, _, _, _, rfl, _⟩ := h; rfl) | (obtain ⟨_, _, _, _, _, _, _, rfl, _⟩ := h; rfl) | (obtain ⟨_, _, _, _, _, _, _, _, rfl, _⟩ := h; rfl))
  case body =>
    obtain ⟨x, v, rfl, hl, q⟩ := hsp
    simp only [mVar, gt, mC, mOp, mUn, mTest, mChain, mAnd, mOr, mNot, mAndV, mOrV, mNotV, mIf, mNil, mCons, mTup, mFl, mLst, mCB, mBM0, mBM, mSl, mPart, mNoPart, mSeq, mNext, mDrop, mCont, mBreak, mRet, mIfS, mAsg, nName, st, startW, mFld, mSetFld, mAugFld, mMeth, mCall, mRaise, List.map_cons, List.map_nil, List.length_cons, List.length_nil, List.replicate, List.cons_append, List.nil_append, Nat.zero_add, Nat.reduceAdd, Nat.reduceSub, Nat.sub_self, mWhile, add_ii, add_ss, add_tt, add_ff, sub_ii, mul_ii, div_ii, mod_ii, pow_ii, neg_i, lt_ii, le_ii, gt_ii, ge_ii, eq_ii, eq_ss, eq_bb, ne_ii, ne_ss, in_ss, int_i, int_b, int_s, cut_s, len_s, len_t, len_f, len_sc, str_i, str_s, tupof_f, mNeL, mEqL]
    have hf : ∀ {t : String} {R : MQ}, tyW M v = some t → PySem.W.kitOne K (.type t) (.ref T.C_Function) = some false → PySem.W.kitOne K (.type t) (.ref T.C_BuiltIn) = some false → True := fun _ _ _ => trivial
    rcases leaf_cases hl with ⟨b, rfl, rfl⟩ | ⟨i, rfl, hn, ht, hl2⟩ | ⟨s, rfl, hw, hs, h1, h2⟩
    · refine isi_ref (t := "bool") rfl T.i_bool_Function ?_
      (try simp only [hd_e, hd_d, hd_0, hd_o, hd_c, hd_s, hd_in, List.head?_cons, List.head?_nil, List.isEmpty_cons, List.isEmpty_nil, List.cons_append, List.nil_append, beq_self_eq_true, gt, clsW, fldW, add_ii, add_ss, add_tt, add_ff, sub_ii, mul_ii, div_ii, mod_ii, pow_ii, neg_i, lt_ii, le_ii, gt_ii, ge_ii, eq_ii, eq_ss, eq_bb, ne_ii, ne_ss, in_ss, int_i, int_b, int_s, cut_s, len_s, len_t, len_f, len_sc, str_i, str_s, tupof_f, lk_at, lk_s, lk_1, lk_2, lk_3, lk_4, lk_5, lk_6, put_rd, put_rd0, len_rd, mu_same, mu_mu, true_and, and_true, Bool.not_true, Bool.not_false, if_true, if_false, Bool.false_eq_true, decide_true, decide_false, Bool.true_eq_false, ite_true, ite_false, eq_self_iff_true]); (try simp only [fold_rd1, fold_rd])
      refine isi_ref (t := "bool") rfl T.i_bool_BuiltIn ?_
      (try simp only [hd_e, hd_d, hd_0, hd_o, hd_c, hd_s, hd_in, List.head?_cons, List.head?_nil, List.isEmpty_cons, List.isEmpty_nil, List.cons_append, List.nil_append, beq_self_eq_true, gt, clsW, fldW, add_ii, add_ss, add_tt, add_ff, sub_ii, mul_ii, div_ii, mod_ii, pow_ii, neg_i, lt_ii, le_ii, gt_ii, ge_ii, eq_ii, eq_ss, eq_bb, ne_ii, ne_ss, in_ss, int_i, int_b, int_s, cut_s, len_s, len_t, len_f, len_sc, str_i, str_s, tupof_f, lk_at, lk_s, lk_1, lk_2, lk_3, lk_4, lk_5, lk_6, put_rd, put_rd0, len_rd, mu_same, mu_mu, true_and, and_true, Bool.not_true, Bool.not_false, if_true, if_false, Bool.false_eq_true, decide_true, decide_false, Bool.true_eq_false, ite_true, ite_false, eq_self_iff_true]); (try simp only [fold_rd1, fold_rd])
      refine isi_ty (t := "bool") rfl (by decide +kernel) ?_
      cases b with
      | true =>
        (try simp only [hd_e, hd_d, hd_0, hd_o, hd_c, hd_s, hd_in, List.head?_cons, List.head?_nil, List.isEmpty_cons, List.isEmpty_nil, List.cons_append, List.nil_append, beq_self_eq_true, gt, clsW, fldW, add_ii, add_ss, add_tt, add_ff, sub_ii, mul_ii, div_ii, mod_ii, pow_ii, neg_i, lt_ii, le_ii, gt_ii, ge_ii, eq_ii, eq_ss, eq_bb, ne_ii, ne_ss, in_ss, int_i, int_b, int_s, cut_s, len_s, len_t, len_f, len_sc, str_i, str_s, tupof_f, lk_at, lk_s, lk_1, lk_2, lk_3, lk_4, lk_5, lk_6, put_rd, put_rd0, len_rd, mu_same, mu_mu, true_and, and_true, Bool.not_true, Bool.not_false, if_true, if_false, Bool.false_eq_true, decide_true, decide_false, Bool.true_eq_false, ite_true, ite_false, eq_self_iff_true, show isTy "bool" "bool" = true from by decide]); (try simp only [fold_rd1, fold_rd])
        exact ⟨_, MSub.refl _, q⟩
      | false =>
        (try simp only [hd_e, hd_d, hd_0, hd_o, hd_c, hd_s, hd_in, List.head?_cons, List.head?_nil, List.isEmpty_cons, List.isEmpty_nil, List.cons_append, List.nil_append, beq_self_eq_true, gt, clsW, fldW, add_ii, add_ss, add_tt, add_ff, sub_ii, mul_ii, div_ii, mod_ii, pow_ii, neg_i, lt_ii, le_ii, gt_ii, ge_ii, eq_ii, eq_ss, eq_bb, ne_ii, ne_ss, in_ss, int_i, int_b, int_s, cut_s, len_s, len_t, len_f, len_sc, str_i, str_s, tupof_f, lk_at, lk_s, lk_1, lk_2, lk_3, lk_4, lk_5, lk_6, put_rd, put_rd0, len_rd, mu_same, mu_mu, true_and, and_true, Bool.not_true, Bool.not_false, if_true, if_false, Bool.false_eq_true, decide_true, decide_false, Bool.true_eq_false, ite_true, ite_false, eq_self_iff_true, show isTy "bool" "bool" = true from by decide]); (try simp only [fold_rd1, fold_rd])
        exact ⟨_, MSub.refl _, q⟩
    · refine isi_ref (t := "int") rfl T.i_int_Function ?_
      (try simp only [hd_e, hd_d, hd_0, hd_o, hd_c, hd_s, hd_in, List.head?_cons, List.head?_nil, List.isEmpty_cons, List.isEmpty_nil, List.cons_append, List.nil_append, beq_self_eq_true, gt, clsW, fldW, add_ii, add_ss, add_tt, add_ff, sub_ii, mul_ii, div_ii, mod_ii, pow_ii, neg_i, lt_ii, le_ii, gt_ii, ge_ii, eq_ii, eq_ss, eq_bb, ne_ii, ne_ss, in_ss, int_i, int_b, int_s, cut_s, len_s, len_t, len_f, len_sc, str_i, str_s, tupof_f, lk_at, lk_s, lk_1, lk_2, lk_3, lk_4, lk_5, lk_6, put_rd, put_rd0, len_rd, mu_same, mu_mu, true_and, and_true, Bool.not_true, Bool.not_false, if_true, if_false, Bool.false_eq_true, decide_true, decide_false, Bool.true_eq_false, ite_true, ite_false, eq_self_iff_true]); (try simp only [fold_rd1, fold_rd])
      refine isi_ref (t := "int") rfl T.i_int_BuiltIn ?_
      (try simp only [hd_e, hd_d, hd_0, hd_o, hd_c, hd_s, hd_in, List.head?_cons, List.head?_nil, List.isEmpty_cons, List.isEmpty_nil, List.cons_append, List.nil_append, beq_self_eq_true, gt, clsW, fldW, add_ii, add_ss, add_tt, add_ff, sub_ii, mul_ii, div_ii, mod_ii, pow_ii, neg_i, lt_ii, le_ii, gt_ii, ge_ii, eq_ii, eq_ss, eq_bb, ne_ii, ne_ss, in_ss, int_i, int_b, int_s, cut_s, len_s, len_t, len_f, len_sc, str_i, str_s, tupof_f, lk_at, lk_s, lk_1, lk_2, lk_3, lk_4, lk_5, lk_6, put_rd, put_rd0, len_rd, mu_same, mu_mu, true_and, and_true, Bool.not_true, Bool.not_false, if_true, if_false, Bool.false_eq_true, decide_true, decide_false, Bool.true_eq_false, ite_true, ite_false, eq_self_iff_true]); (try simp only [fold_rd1, fold_rd])
      refine isi_ty (t := "int") rfl (by decide +kernel) ?_
      (try simp only [hd_e, hd_d, hd_0, hd_o, hd_c, hd_s, hd_in, List.head?_cons, List.head?_nil, List.isEmpty_cons, List.isEmpty_nil, List.cons_append, List.nil_append, beq_self_eq_true, gt, clsW, fldW, add_ii, add_ss, add_tt, add_ff, sub_ii, mul_ii, div_ii, mod_ii, pow_ii, neg_i, lt_ii, le_ii, gt_ii, ge_ii, eq_ii, eq_ss, eq_bb, ne_ii, ne_ss, in_ss, int_i, int_b, int_s, cut_s, len_s, len_t, len_f, len_sc, str_i, str_s, tupof_f, lk_at, lk_s, lk_1, lk_2, lk_3, lk_4, lk_5, lk_6, put_rd, put_rd0, len_rd, mu_same, mu_mu, true_and, and_true, Bool.not_true, Bool.not_false, if_true, if_false, Bool.false_eq_true, decide_true, decide_false, Bool.true_eq_false, ite_true, ite_false, eq_self_iff_true, show isTy "int" "bool" = false from by decide]); (try simp only [fold_rd1, fold_rd])
      refine ⟨hl2, _, MSub.refl _, ?_⟩
      rw [← ht, mk_tls] at q
      exact q
    · refine isi_ref (t := "str") rfl T.i_str_Function ?_
      (try simp only [hd_e, hd_d, hd_0, hd_o, hd_c, hd_s, hd_in, List.head?_cons, List.head?_nil, List.isEmpty_cons, List.isEmpty_nil, List.cons_append, List.nil_append, beq_self_eq_true, gt, clsW, fldW, add_ii, add_ss, add_tt, add_ff, sub_ii, mul_ii, div_ii, mod_ii, pow_ii, neg_i, lt_ii, le_ii, gt_ii, ge_ii, eq_ii, eq_ss, eq_bb, ne_ii, ne_ss, in_ss, int_i, int_b, int_s, cut_s, len_s, len_t, len_f, len_sc, str_i, str_s, tupof_f, lk_at, lk_s, lk_1, lk_2, lk_3, lk_4, lk_5, lk_6, put_rd, put_rd0, len_rd, mu_same, mu_mu, true_and, and_true, Bool.not_true, Bool.not_false, if_true, if_false, Bool.false_eq_true, decide_true, decide_false, Bool.true_eq_false, ite_true, ite_false, eq_self_iff_true]); (try simp only [fold_rd1, fold_rd])
      refine isi_ref (t := "str") rfl T.i_str_BuiltIn ?_
      (try simp only [hd_e, hd_d, hd_0, hd_o, hd_c, hd_s, hd_in, List.head?_cons, List.head?_nil, List.isEmpty_cons, List.isEmpty_nil, List.cons_append, List.nil_append, beq_self_eq_true, gt, clsW, fldW, add_ii, add_ss, add_tt, add_ff, sub_ii, mul_ii, div_ii, mod_ii, pow_ii, neg_i, lt_ii, le_ii, gt_ii, ge_ii, eq_ii, eq_ss, eq_bb, ne_ii, ne_ss, in_ss, int_i, int_b, int_s, cut_s, len_s, len_t, len_f, len_sc, str_i, str_s, tupof_f, lk_at, lk_s, lk_1, lk_2, lk_3, lk_4, lk_5, lk_6, put_rd, put_rd0, len_rd, mu_same, mu_mu, true_and, and_true, Bool.not_true, Bool.not_false, if_true, if_false, Bool.false_eq_true, decide_true, decide_false, Bool.true_eq_false, ite_true, ite_false, eq_self_iff_true]); (try simp only [fold_rd1, fold_rd])
      refine isi_ty (t := "str") rfl (by decide +kernel) ?_
      (try simp only [hd_e, hd_d, hd_0, hd_o, hd_c, hd_s, hd_in, List.head?_cons, List.head?_nil, List.isEmpty_cons, List.isEmpty_nil, List.cons_append, List.nil_append, beq_self_eq_true, gt, clsW, fldW, add_ii, add_ss, add_tt, add_ff, sub_ii, mul_ii, div_ii, mod_ii, pow_ii, neg_i, lt_ii, le_ii, gt_ii, ge_ii, eq_ii, eq_ss, eq_bb, ne_ii, ne_ss, in_ss, int_i, int_b, int_s, cut_s, len_s, len_t, len_f, len_sc, str_i, str_s, tupof_f, lk_at, lk_s, lk_1, lk_2, lk_3, lk_4, lk_5, lk_6, put_rd, put_rd0, len_rd, mu_same, mu_mu, true_and, and_true, Bool.not_true, Bool.not_false, if_true, if_false, Bool.false_eq_true, decide_true, decide_false, Bool.true_eq_false, ite_true, ite_false, eq_self_iff_true, show isTy "str" "bool" = false from by decide]); (try simp only [fold_rd1, fold_rd])
      refine ⟨_, MSub.refl _, ?_⟩
      rw [← hs, mk_tls] at q
      exact q
theorem ok_leaf_text (T : Tx P w K mg base)  : FF P w K mg base (1) T.A_leaf_text ["value"] (sp_leaf_text T) := by
  obtain ⟨fd, F, hb, _⟩ := T.F_leaf_text
  exact ⟨⟨fd, fo_leaf_text T F , hb⟩, F.kp⟩

end Ri
set_option Elab.async false
set_option linter.all false
set_option maxRecDepth 100000
set_option maxHeartbeats 4000000

namespace Ri
open PySem L2 PySem.Calls PyProof.Rows
variable {P : Program} {w : World} {K : PySem.W.Frag} {mg : Str → Option Value} {base : Heap}
theorem fo_data_text {fd : FuncData} (T : Tx P w K mg base) (F : Fun K "data_text" "data_text" s_data_text T.A_data_text fd)  : FnOk P w K mg base (L2.CX P w) (2) T.A_data_text fd ["value"] (upS K (sp_data_text T)) := by
  refine fn_rich F sc_data_text (fun ws M R RX h => ?len) (fun cdv A outer s H E F0 ws M R RX hr hsp hx hp => ⟨_, (qss_cons (qs_set (i := 1) sc_data_text.nd rfl (by first | exact Or.inl rfl | exact Or.inr rfl) (qe_lst qa_nil))
      (qss_cons (qs_set (i := 2) sc_data_text.nd rfl (by first | exact Or.inl rfl | exact Or.inr rfl) (qe_lst (qa_cons (qe_tup (qa_cons qe_bl (qa_cons (qv 0) qa_nil))) qa_nil)))
      (qss_cons (qs_while hp (qt_cmp (q_ne hr.units) (qv 2) (qe_fl qa_nil) (nomark _)) (qss_cons (qs_asg (qe_bm0 PySem.F.plainAttrs_list PySem.F.slot_list_pop PySem.F.type_list_pop m_pop (qv 2)) (qg_tup (n := 2) rfl (qgs_cons (qg_name (i := 3) sc_data_text.nd rfl (by first | exact Or.inl rfl | exact Or.inr rfl)) (qgs_cons (qg_name (i := 4) sc_data_text.nd rfl (by first | exact Or.inl rfl | exact Or.inr rfl)) qgs_nil))))
      (qss_one (qs_if (qt_val (qv 3)) (qss_one (qs_expr (qe_bm PySem.F.plainAttrs_list PySem.F.slot_list_append PySem.F.type_list_append m_append (qv 1) (qa_cons (qv 4) qa_nil)))) (qss_one (qs_if (qt_val (qe_callB c_isi rfl T.z_isinstance (by decide +kernel) (qa_cons (qv 4) (qa_cons (qe_tyname (T := "tuple") rfl T.z_tuple (by decide +kernel)) qa_nil)))) (qss_cons (qs_set (i := 5) sc_data_text.nd rfl (by first | exact Or.inl rfl | exact Or.inr rfl) (qe_lst (qa_cons (qe_tup (qa_cons qe_bl (qa_cons qe_str qa_nil))) qa_nil)))
      (qss_cons (qs_for hp rfl (qi_tup (qv 4)) (qg_name (i := 6) sc_data_text.nd rfl (by first | exact Or.inl rfl | exact Or.inr rfl)) (qss_one (qs_expr (qe_bm PySem.F.plainAttrs_list PySem.F.slot_list_extend PySem.F.type_list_extend m_extend (qv 5) (qa_cons (qe_fl (qa_cons (qe_tup (qa_cons qe_bl (qa_cons (qv 6) qa_nil))) (qa_cons (qe_tup (qa_cons qe_bl (qa_cons qe_str qa_nil))) qa_nil))) qa_nil)))))
      (qss_cons (qs_if (qt_cmp (q_ne hr.units) (qv 4) (qe_tup qa_nil) (nomark _)) (qss_one (qs_expr (qe_bm0 PySem.F.plainAttrs_list PySem.F.slot_list_pop PySem.F.type_list_pop m_pop (qv 5)))) qss_nil)
      (qss_cons (qs_expr (qe_bm PySem.F.plainAttrs_list PySem.F.slot_list_append PySem.F.type_list_append m_append (qv 2) (qa_cons (qe_tup (qa_cons qe_bl (qa_cons qe_str qa_nil))) qa_nil)))
      (qss_one (qs_expr (qe_bm PySem.F.plainAttrs_list PySem.F.slot_list_extend PySem.F.type_list_extend m_extend (qv 2) (qa_cons (qe_rev (qv 5)) qa_nil)))))))) (qss_one (qs_expr (qe_bm PySem.F.plainAttrs_list PySem.F.slot_list_append PySem.F.type_list_append m_append (qv 1) (qa_cons (qe_call (ok_leaf_text T) (hr.mono (by omega)) rfl T.m_leaf_text hx (qa_cons (qv 4) qa_nil)) qa_nil))))))))))
      (qss_one (qs_ret (qe_bm PySem.F.plainAttrs_str PySem.F.slot_str_join PySem.F.type_str_join m_join qe_str (qa_cons (qv 1) qa_nil))))))), ?body⟩)
  case len => (unfold sp_data_text at h; first | (obtain ⟨_, rfl, _⟩ := h; rfl) | (obtain ⟨_, _, rfl, _⟩ := h; rfl) | (obtain ⟨_, _, _, rfl, _⟩ := h; rfl) | (obtain ⟨_, _, _, _, rfl, _⟩ := h; rfl) | (obtain ⟨_, _, _, _, _, rfl, _⟩ := h; rfl) | (obtain ⟨_, _, _, _, _, _, rfl, _⟩ := h; rfl) | (obtain ⟨_, _, _, _, _, _, _, rfl, _⟩ := h; rfl) | (obtain ⟨_, _, _, _, _, _, _, _, rfl, _⟩ := h; rfl))
  case body =>
    obtain ⟨d0, rfl, od, hbig, q⟩ := hsp
    have hsz : sizeLine = 16777216 := sizeLine_eq
    refine seq_have (fun ρ M1 => ∃ A, M A = none ∧ ρ = [some (wD d0), some (.ref A), none, none, none, none, none] ∧ M1 = mu M A (.lst [])) ?h2 ?h1
    case h1 =>
      intro G hG
      simp only [mVar, gt, mC, mOp, mUn, mTest, mChain, mAnd, mOr, mNot, mAndV, mOrV, mNotV, mIf, mNil, mCons, mTup, mFl, mLst, mCB, mBM0, mBM, mSl, mPart, mNoPart, mSeq, mNext, mDrop, mCont, mBreak, mRet, mIfS, mAsg, nName, st, startW, mFld, mSetFld, mAugFld, mMeth, mCall, mRaise, List.map_cons, List.map_nil, List.length_cons, List.length_nil, List.replicate, List.cons_append, List.nil_append, Nat.zero_add, Nat.reduceAdd, Nat.reduceSub, Nat.sub_self, mWhile, add_ii, add_ss, add_tt, add_ff, sub_ii, mul_ii, div_ii, mod_ii, pow_ii, neg_i, lt_ii, le_ii, gt_ii, ge_ii, eq_ii, eq_ss, eq_bb, ne_ii, ne_ss, in_ss, int_i, int_b, int_s, cut_s, len_s, len_t, len_f, len_sc, str_i, str_s, tupof_f, mNeL, mEqL]
      exact ⟨by decide, fun A hA => hG _ _ ⟨A, hA, rfl, rfl⟩⟩
    case h2 =>
      rintro ρ M1 ⟨A, hA, rfl, rfl⟩
      refine seq_have (fun ρ M2 => ∃ B, mu M A (.lst []) B = none ∧ ρ = [some (wD d0), some (.ref A), some (.ref B), none, none, none, none] ∧ M2 = mu (mu M A (.lst [])) B (.lst [.tup [.bl false, wD d0]])) ?h2 ?h1
      case h1 =>
        intro G hG
        simp only [mVar, gt, mC, mOp, mUn, mTest, mChain, mAnd, mOr, mNot, mAndV, mOrV, mNotV, mIf, mNil, mCons, mTup, mFl, mLst, mCB, mBM0, mBM, mSl, mPart, mNoPart, mSeq, mNext, mDrop, mCont, mBreak, mRet, mIfS, mAsg, nName, st, startW, mFld, mSetFld, mAugFld, mMeth, mCall, mRaise, List.map_cons, List.map_nil, List.length_cons, List.length_nil, List.replicate, List.cons_append, List.nil_append, Nat.zero_add, Nat.reduceAdd, Nat.reduceSub, Nat.sub_self, mWhile, add_ii, add_ss, add_tt, add_ff, sub_ii, mul_ii, div_ii, mod_ii, pow_ii, neg_i, lt_ii, le_ii, gt_ii, ge_ii, eq_ii, eq_ss, eq_bb, ne_ii, ne_ss, in_ss, int_i, int_b, int_s, cut_s, len_s, len_t, len_f, len_sc, str_i, str_s, tupof_f, mNeL, mEqL]
        exact ⟨by decide, by decide, fun B hB => hG _ _ ⟨B, hB, rfl, rfl⟩⟩
      case h2 =>
        rintro ρ M1 ⟨B, hB, rfl, rfl⟩
        have hAB : A ≠ B := fun e => by rw [← e, mu_same] at hB; cases hB
        have hMB : M B = none := by rw [mu_ne (Ne.symm hAB)] at hB; exact hB
        refine seq_have (fun ρ M1 => ∃ (fo : Option W) (F : List (List Nat)) (r1 r2 r3 r4 : Option W), ρ = [some (wD d0), some (.ref A), fo, r1, r2, r3, r4] ∧ M1 A = some (.lst (F.map fun x => W.str (mkS x))) ∧ F.flatten = txt d0 ∧ F.length ≤ 1000000 ∧ (∀ b o, M b = some o → M1 b = some o)) ?h2 ?h1
        case h1 =>
          intro G hG
          unfold mWhile
          refine ⟨fun m ρ M1 => ∃ (F : List (List Nat)) (L : List It) (r1 r2 r3 r4 : Option W), ρ = [some (wD d0), some (.ref A), some (.ref B), r1, r2, r3, r4] ∧ M1 A = some (.lst (F.map fun x => W.str (mkS x))) ∧ M1 B = some (.lst (L.reverse.map itW)) ∧ (∀ i ∈ L, itOk i) ∧ F.flatten ++ fl L = txt d0 ∧ F.length ≤ F.flatten.length ∧ (∀ b o, M b = some o → M1 b = some o) ∧ m = ms L, ⟨_, [], [.d d0], none, none, none, none, rfl, by rw [mu_ne hAB, mu_same]; rfl, by rw [mu_same]; rfl, by simpa [itOk] using od, by simp [fl, itT], by simp, fun b o e => by rw [mu_ne (mne e hMB), mu_ne (mne e hA)]; exact e, rfl⟩, ?_⟩
          rintro m ρ M1 ⟨F, L, r1, r2, r3, r4, rfl, eA, eB, ok, ht, hF, kp, rfl⟩
          have hLl : F.flatten.length + (fl L).length = (txt d0).length := by rw [← ht, List.length_append]
          have hLL := fl_len ok
          simp only [mVar, gt, mC, mOp, mUn, mTest, mChain, mAnd, mOr, mNot, mAndV, mOrV, mNotV, mIf, mNil, mCons, mTup, mFl, mLst, mCB, mBM0, mBM, mSl, mPart, mNoPart, mSeq, mNext, mDrop, mCont, mBreak, mRet, mIfS, mAsg, nName, st, startW, mFld, mSetFld, mAugFld, mMeth, mCall, mRaise, List.map_cons, List.map_nil, List.length_cons, List.length_nil, List.replicate, List.cons_append, List.nil_append, Nat.zero_add, Nat.reduceAdd, Nat.reduceSub, Nat.sub_self, mWhile, add_ii, add_ss, add_tt, add_ff, sub_ii, mul_ii, div_ii, mod_ii, pow_ii, neg_i, lt_ii, le_ii, gt_ii, ge_ii, eq_ii, eq_ss, eq_bb, ne_ii, ne_ss, in_ss, int_i, int_b, int_s, cut_s, len_s, len_t, len_f, len_sc, str_i, str_s, tupof_f, mNeL, mEqL]
          refine ⟨by decide, ne_its eB ok ?_⟩
          cases L with
          | nil =>
            (try simp only [hd_e, hd_d, hd_0, hd_o, hd_c, hd_s, hd_in, List.head?_cons, List.head?_nil, List.isEmpty_cons, List.isEmpty_nil, List.cons_append, List.nil_append, beq_self_eq_true, gt, clsW, fldW, add_ii, add_ss, add_tt, add_ff, sub_ii, mul_ii, div_ii, mod_ii, pow_ii, neg_i, lt_ii, le_ii, gt_ii, ge_ii, eq_ii, eq_ss, eq_bb, ne_ii, ne_ss, in_ss, int_i, int_b, int_s, cut_s, len_s, len_t, len_f, len_sc, str_i, str_s, tupof_f, lk_at, lk_s, lk_1, lk_2, lk_3, lk_4, lk_5, lk_6, put_rd, put_rd0, len_rd, mu_same, mu_mu, true_and, and_true, Bool.not_true, Bool.not_false, if_true, if_false, Bool.false_eq_true, decide_true, decide_false, Bool.true_eq_false, ite_true, ite_false, eq_self_iff_true]); (try simp only [fold_rd1, fold_rd])
            exact hG _ _ ⟨_, F, _, _, _, _, rfl, eA, by simpa [fl] using ht, by omega, kp⟩
          | cons i L =>
            have eB' : M1 B = some (.lst (L.reverse.map itW ++ [itW i])) := by rw [eB]; simp
            (try simp only [hd_e, hd_d, hd_0, hd_o, hd_c, hd_s, hd_in, List.head?_cons, List.head?_nil, List.isEmpty_cons, List.isEmpty_nil, List.cons_append, List.nil_append, beq_self_eq_true, gt, clsW, fldW, add_ii, add_ss, add_tt, add_ff, sub_ii, mul_ii, div_ii, mod_ii, pow_ii, neg_i, lt_ii, le_ii, gt_ii, ge_ii, eq_ii, eq_ss, eq_bb, ne_ii, ne_ss, in_ss, int_i, int_b, int_s, cut_s, len_s, len_t, len_f, len_sc, str_i, str_s, tupof_f, lk_at, lk_s, lk_1, lk_2, lk_3, lk_4, lk_5, lk_6, put_rd, put_rd0, len_rd, mu_same, mu_mu, true_and, and_true, Bool.not_true, Bool.not_false, if_true, if_false, Bool.false_eq_true, decide_true, decide_false, Bool.true_eq_false, ite_true, ite_false, eq_self_iff_true]); (try simp only [fold_rd1, fold_rd])
            refine ⟨rcv_l eB', pop_ok eB' ?_⟩
            have okL : ∀ i ∈ L, itOk i := fun x hx => ok x (List.mem_cons_of_mem _ hx)
            have eA2 : mu M1 B (.lst (L.reverse.map itW)) A = some (.lst (F.map fun x => W.str (mkS x))) := by rw [mu_ne hAB]; exact eA
            have kp2 : ∀ b o, M b = some o → mu M1 B (.lst (L.reverse.map itW)) b = some o := fun b o e => by rw [mu_ne (mne e hMB)]; exact kp b o e
            have hfl : (fl (i :: L)).length = (itT i).length + (fl L).length := by simp [fl]
            have hip := it_pos (ok i List.mem_cons_self)
            cases i with
            | w x =>
              (try simp only [hd_e, hd_d, hd_0, hd_o, hd_c, hd_s, hd_in, List.head?_cons, List.head?_nil, List.isEmpty_cons, List.isEmpty_nil, List.cons_append, List.nil_append, beq_self_eq_true, gt, clsW, fldW, add_ii, add_ss, add_tt, add_ff, sub_ii, mul_ii, div_ii, mod_ii, pow_ii, neg_i, lt_ii, le_ii, gt_ii, ge_ii, eq_ii, eq_ss, eq_bb, ne_ii, ne_ss, in_ss, int_i, int_b, int_s, cut_s, len_s, len_t, len_f, len_sc, str_i, str_s, tupof_f, lk_at, lk_s, lk_1, lk_2, lk_3, lk_4, lk_5, lk_6, put_rd, put_rd0, len_rd, mu_same, mu_mu, true_and, and_true, Bool.not_true, Bool.not_false, if_true, if_false, Bool.false_eq_true, decide_true, decide_false, Bool.true_eq_false, ite_true, ite_false, eq_self_iff_true, itW, nTup, nCons, nNil]); (try simp only [fold_rd1, fold_rd])
              refine ⟨rfl, ?_⟩
              simp only [mVar, gt, mC, mOp, mUn, mTest, mChain, mAnd, mOr, mNot, mAndV, mOrV, mNotV, mIf, mNil, mCons, mTup, mFl, mLst, mCB, mBM0, mBM, mSl, mPart, mNoPart, mSeq, mNext, mDrop, mCont, mBreak, mRet, mIfS, mAsg, nName, st, startW, mFld, mSetFld, mAugFld, mMeth, mCall, mRaise, List.map_cons, List.map_nil, List.length_cons, List.length_nil, List.replicate, List.cons_append, List.nil_append, Nat.zero_add, Nat.reduceAdd, Nat.reduceSub, Nat.sub_self, mWhile, add_ii, add_ss, add_tt, add_ff, sub_ii, mul_ii, div_ii, mod_ii, pow_ii, neg_i, lt_ii, le_ii, gt_ii, ge_ii, eq_ii, eq_ss, eq_bb, ne_ii, ne_ss, in_ss, int_i, int_b, int_s, cut_s, len_s, len_t, len_f, len_sc, str_i, str_s, tupof_f, mNeL, mEqL]
              (try simp only [hd_e, hd_d, hd_0, hd_o, hd_c, hd_s, hd_in, List.head?_cons, List.head?_nil, List.isEmpty_cons, List.isEmpty_nil, List.cons_append, List.nil_append, beq_self_eq_true, gt, clsW, fldW, add_ii, add_ss, add_tt, add_ff, sub_ii, mul_ii, div_ii, mod_ii, pow_ii, neg_i, lt_ii, le_ii, gt_ii, ge_ii, eq_ii, eq_ss, eq_bb, ne_ii, ne_ss, in_ss, int_i, int_b, int_s, cut_s, len_s, len_t, len_f, len_sc, str_i, str_s, tupof_f, lk_at, lk_s, lk_1, lk_2, lk_3, lk_4, lk_5, lk_6, put_rd, put_rd0, len_rd, mu_same, mu_mu, true_and, and_true, Bool.not_true, Bool.not_false, if_true, if_false, Bool.false_eq_true, decide_true, decide_false, Bool.true_eq_false, ite_true, ite_false, eq_self_iff_true]); (try simp only [fold_rd1, fold_rd])
              refine ⟨rcv_l eA2, append_ok eA2 (by rw [List.length_map]; omega) ?_⟩
              refine ⟨ms L, by simp [ms, itM], F ++ [x], L, _, _, _, _, rfl, by rw [mu_same]; simp, by rw [mu_ne (Ne.symm hAB), mu_same], okL, ?_, ?_, fun b o e => by rw [mu_ne (mne e hA)]; exact kp2 b o e, rfl⟩
              · rw [← ht]; simp [fl, itT]
              · have hx : 0 < x.length := by simpa [itT] using hip
                simp only [List.length_append, List.flatten_append, List.length_cons, List.length_nil, List.flatten_cons, List.flatten_nil, List.append_nil]
                omega
            | d d =>
              have od1 : okD d := ok _ List.mem_cons_self
              (try simp only [hd_e, hd_d, hd_0, hd_o, hd_c, hd_s, hd_in, List.head?_cons, List.head?_nil, List.isEmpty_cons, List.isEmpty_nil, List.cons_append, List.nil_append, beq_self_eq_true, gt, clsW, fldW, add_ii, add_ss, add_tt, add_ff, sub_ii, mul_ii, div_ii, mod_ii, pow_ii, neg_i, lt_ii, le_ii, gt_ii, ge_ii, eq_ii, eq_ss, eq_bb, ne_ii, ne_ss, in_ss, int_i, int_b, int_s, cut_s, len_s, len_t, len_f, len_sc, str_i, str_s, tupof_f, lk_at, lk_s, lk_1, lk_2, lk_3, lk_4, lk_5, lk_6, put_rd, put_rd0, len_rd, mu_same, mu_mu, true_and, and_true, Bool.not_true, Bool.not_false, if_true, if_false, Bool.false_eq_true, decide_true, decide_false, Bool.true_eq_false, ite_true, ite_false, eq_self_iff_true, itW, nTup, nCons, nNil]); (try simp only [fold_rd1, fold_rd])
              refine ⟨rfl, ?_⟩
              simp only [mVar, gt, mC, mOp, mUn, mTest, mChain, mAnd, mOr, mNot, mAndV, mOrV, mNotV, mIf, mNil, mCons, mTup, mFl, mLst, mCB, mBM0, mBM, mSl, mPart, mNoPart, mSeq, mNext, mDrop, mCont, mBreak, mRet, mIfS, mAsg, nName, st, startW, mFld, mSetFld, mAugFld, mMeth, mCall, mRaise, List.map_cons, List.map_nil, List.length_cons, List.length_nil, List.replicate, List.cons_append, List.nil_append, Nat.zero_add, Nat.reduceAdd, Nat.reduceSub, Nat.sub_self, mWhile, add_ii, add_ss, add_tt, add_ff, sub_ii, mul_ii, div_ii, mod_ii, pow_ii, neg_i, lt_ii, le_ii, gt_ii, ge_ii, eq_ii, eq_ss, eq_bb, ne_ii, ne_ss, in_ss, int_i, int_b, int_s, cut_s, len_s, len_t, len_f, len_sc, str_i, str_s, tupof_f, mNeL, mEqL]
              (try simp only [hd_e, hd_d, hd_0, hd_o, hd_c, hd_s, hd_in, List.head?_cons, List.head?_nil, List.isEmpty_cons, List.isEmpty_nil, List.cons_append, List.nil_append, beq_self_eq_true, gt, clsW, fldW, add_ii, add_ss, add_tt, add_ff, sub_ii, mul_ii, div_ii, mod_ii, pow_ii, neg_i, lt_ii, le_ii, gt_ii, ge_ii, eq_ii, eq_ss, eq_bb, ne_ii, ne_ss, in_ss, int_i, int_b, int_s, cut_s, len_s, len_t, len_f, len_sc, str_i, str_s, tupof_f, lk_at, lk_s, lk_1, lk_2, lk_3, lk_4, lk_5, lk_6, put_rd, put_rd0, len_rd, mu_same, mu_mu, true_and, and_true, Bool.not_true, Bool.not_false, if_true, if_false, Bool.false_eq_true, decide_true, decide_false, Bool.true_eq_false, ite_true, ite_false, eq_self_iff_true]); (try simp only [fold_rd1, fold_rd])
              refine isi_ty (ty_wD od1) (kb_bool _ (tyD_mem od1)).2.2.2.1 ?_
              cases d with
              | lf x v =>
                have hl : leafOk x v = true := by simpa [okD] using od1
                have ety : isTy (tyD (.lf x v)) "tuple" = false := by
                  rcases leaf_cases hl with ⟨b, rfl, _⟩ | ⟨i, rfl, _⟩ | ⟨s, rfl, _⟩ <;> (simp only [tyD]; decide)
                rw [ety]
                (try simp only [hd_e, hd_d, hd_0, hd_o, hd_c, hd_s, hd_in, List.head?_cons, List.head?_nil, List.isEmpty_cons, List.isEmpty_nil, List.cons_append, List.nil_append, beq_self_eq_true, gt, clsW, fldW, add_ii, add_ss, add_tt, add_ff, sub_ii, mul_ii, div_ii, mod_ii, pow_ii, neg_i, lt_ii, le_ii, gt_ii, ge_ii, eq_ii, eq_ss, eq_bb, ne_ii, ne_ss, in_ss, int_i, int_b, int_s, cut_s, len_s, len_t, len_f, len_sc, str_i, str_s, tupof_f, lk_at, lk_s, lk_1, lk_2, lk_3, lk_4, lk_5, lk_6, put_rd, put_rd0, len_rd, mu_same, mu_mu, true_and, and_true, Bool.not_true, Bool.not_false, if_true, if_false, Bool.false_eq_true, decide_true, decide_false, Bool.true_eq_false, ite_true, ite_false, eq_self_iff_true]); (try simp only [fold_rd1, fold_rd])
                refine ⟨rcv_l eA2, x, v, by simp only [wD], hl, ?_⟩
                refine append_ok eA2 (by rw [List.length_map]; omega) ?_
                refine ⟨ms L, by simp [ms, itM, wt], F ++ [x], L, _, _, _, _, rfl, by rw [mu_same]; simp, by rw [mu_ne (Ne.symm hAB), mu_same], okL, ?_, ?_, fun b o e => by rw [mu_ne (mne e hA)]; exact kp2 b o e, rfl⟩
                · rw [← ht]; simp [fl, itT, txt]
                · have hx : 0 < x.length := by simpa [itT, txt] using hip
                  simp only [List.length_append, List.flatten_append, List.length_cons, List.length_nil, List.flatten_cons, List.flatten_nil, List.append_nil]
                  omega
              | t xs =>
                (try simp only [hd_e, hd_d, hd_0, hd_o, hd_c, hd_s, hd_in, List.head?_cons, List.head?_nil, List.isEmpty_cons, List.isEmpty_nil, List.cons_append, List.nil_append, beq_self_eq_true, gt, clsW, fldW, add_ii, add_ss, add_tt, add_ff, sub_ii, mul_ii, div_ii, mod_ii, pow_ii, neg_i, lt_ii, le_ii, gt_ii, ge_ii, eq_ii, eq_ss, eq_bb, ne_ii, ne_ss, in_ss, int_i, int_b, int_s, cut_s, len_s, len_t, len_f, len_sc, str_i, str_s, tupof_f, lk_at, lk_s, lk_1, lk_2, lk_3, lk_4, lk_5, lk_6, put_rd, put_rd0, len_rd, mu_same, mu_mu, true_and, and_true, Bool.not_true, Bool.not_false, if_true, if_false, Bool.false_eq_true, decide_true, decide_false, Bool.true_eq_false, ite_true, ite_false, eq_self_iff_true, tyD, show isTy "tuple" "tuple" = true from by decide]); (try simp only [fold_rd1, fold_rd])
                refine ⟨by decide, by decide, fun C hC => ?_⟩
                simp only [mFor, iT, mVar, gt, wD_t]
                have hCA : C ≠ A := fun e => by rw [e, eA2] at hC; cases hC
                have hCB : C ≠ B := fun e => by rw [e, mu_same] at hC; cases hC
                have hMC : M C = none := by
                  cases e : M C with
                  | none => rfl
                  | some o => have := kp2 C o e; rw [hC] at this; cases this
                have hxl : xs.length ≤ (txt (.t xs)).length := Nat.le_trans sibs_len txt_t_len
                have hxl2 : (txt (.t xs)).length ≤ 1000000 := by
                  have : (itT (.d (.t xs))).length = (txt (.t xs)).length := rfl
                  omega
                have oxs := okD_t.mp od1
                have hL2 : L.length ≤ 1000000 := by
                  have : (It.d (.t xs) :: L).length = L.length + 1 := rfl
                  omega
                refine turns_inv (fun ws ρ M2 => ∃ (ys zs : List D) (r : Option W), xs = ys ++ zs ∧ ws = zs.map wD ∧ ρ = [some (wD d0), some (.ref A), some (.ref B), some (.bl false), some (.tup (xs.map wD)), some (.ref C), r] ∧ M2 C = some (.lst (((It.w [40]) :: rowB ys).map itW)) ∧ M2 A = some (.lst (F.map fun x => W.str (mkS x))) ∧ M2 B = some (.lst (L.reverse.map itW)) ∧ (∀ b o, M b = some o → M2 b = some o)) ?h0 ?hs _ _ _ ⟨[], xs, r4, rfl, rfl, rfl, mu_same, by rw [mu_ne (Ne.symm hCA)]; exact eA2, by rw [mu_ne (Ne.symm hCB), mu_same], fun b o e => by rw [mu_ne (mne e hMC)]; exact kp2 b o e⟩
                case hs =>
                  rintro v ws ρ M2 ⟨ys, zs, r, exs, ews, rfl, e1, e2, e3, kp3⟩ G' hG'
                  cases zs with
                  | nil => cases ews
                  | cons z zs =>
                    simp only [List.map_cons, List.cons.injEq] at ews
                    obtain ⟨rfl, rfl⟩ := ews
                    have hyl : ys.length < xs.length := by rw [exs]; simp
                    simp only [mVar, gt, mC, mOp, mUn, mTest, mChain, mAnd, mOr, mNot, mAndV, mOrV, mNotV, mIf, mNil, mCons, mTup, mFl, mLst, mCB, mBM0, mBM, mSl, mPart, mNoPart, mSeq, mNext, mDrop, mCont, mBreak, mRet, mIfS, mAsg, nName, st, startW, mFld, mSetFld, mAugFld, mMeth, mCall, mRaise, List.map_cons, List.map_nil, List.length_cons, List.length_nil, List.replicate, List.cons_append, List.nil_append, Nat.zero_add, Nat.reduceAdd, Nat.reduceSub, Nat.sub_self, mWhile, add_ii, add_ss, add_tt, add_ff, sub_ii, mul_ii, div_ii, mod_ii, pow_ii, neg_i, lt_ii, le_ii, gt_ii, ge_ii, eq_ii, eq_ss, eq_bb, ne_ii, ne_ss, in_ss, int_i, int_b, int_s, cut_s, len_s, len_t, len_f, len_sc, str_i, str_s, tupof_f, mNeL, mEqL]
                    refine ⟨rcv_l e1, by decide, by decide, by decide, ?_⟩
                    refine extend_ok e1 rfl (by simp only [List.map_cons, List.length_cons, List.length_map, rowB_len, List.length_nil]; omega) ?_
                    refine hG' _ _ ⟨ys ++ [z], zs, _, by rw [exs]; simp, rfl, rfl, ?_, by rw [mu_ne (Ne.symm hCA)]; exact e2, by rw [mu_ne (Ne.symm hCB)]; exact e3, fun b o e => by rw [mu_ne (mne e hMC)]; exact kp3 b o e⟩
                    rw [mu_same, rowB_snoc]
                    simp only [List.map_cons, List.map_append, List.map_nil, List.cons_append]
                    rfl
                case h0 =>
                  rintro ρ M2 ⟨ys, zs, r, exs, ews, rfl, e1, e2, e3, kp3⟩
                  have ez : zs = [] := by cases zs with
                    | nil => rfl
                    | cons => cases ews
                  subst ez
                  rw [List.append_nil] at exs
                  subst exs
                  dsimp only
                  refine seq_have (fun ρ M3 => ∃ (B' : List It), ρ = [some (wD d0), some (.ref A), some (.ref B), some (.bl false), some (.tup (xs.map wD)), some (.ref C), r] ∧ M3 C = some (.lst (((It.w [40]) :: B').map itW)) ∧ M3 A = some (.lst (F.map fun x => W.str (mkS x))) ∧ M3 B = some (.lst (L.reverse.map itW)) ∧ (∀ b o, M b = some o → M3 b = some o) ∧ 40 :: (fl B' ++ [41]) = txt (.t xs) ∧ ms B' ≤ wts xs ∧ (∀ i ∈ B', itOk i) ∧ B'.length ≤ 2000000) ?k2 ?k1
                  case k1 =>
                    intro G' hG'
                    simp only [mVar, gt, mC, mOp, mUn, mTest, mChain, mAnd, mOr, mNot, mAndV, mOrV, mNotV, mIf, mNil, mCons, mTup, mFl, mLst, mCB, mBM0, mBM, mSl, mPart, mNoPart, mSeq, mNext, mDrop, mCont, mBreak, mRet, mIfS, mAsg, nName, st, startW, mFld, mSetFld, mAugFld, mMeth, mCall, mRaise, List.map_cons, List.map_nil, List.length_cons, List.length_nil, List.replicate, List.cons_append, List.nil_append, Nat.zero_add, Nat.reduceAdd, Nat.reduceSub, Nat.sub_self, mWhile, add_ii, add_ss, add_tt, add_ff, sub_ii, mul_ii, div_ii, mod_ii, pow_ii, neg_i, lt_ii, le_ii, gt_ii, ge_ii, eq_ii, eq_ss, eq_bb, ne_ii, ne_ss, in_ss, int_i, int_b, int_s, cut_s, len_s, len_t, len_f, len_sc, str_i, str_s, tupof_f, mNeL, mEqL]
                    refine ⟨by decide, ?_⟩
                    have nt : ∀ {R : MQ}, R (.bl (!xs.isEmpty)) M2 → mNe (.tup (xs.map wD)) (.tup []) M2 R := fun h => by rw [← wD_t]; exact neT od1 h
                    refine nt ?_
                    cases xs with
                    | nil =>
                      (try simp only [hd_e, hd_d, hd_0, hd_o, hd_c, hd_s, hd_in, List.head?_cons, List.head?_nil, List.isEmpty_cons, List.isEmpty_nil, List.cons_append, List.nil_append, beq_self_eq_true, gt, clsW, fldW, add_ii, add_ss, add_tt, add_ff, sub_ii, mul_ii, div_ii, mod_ii, pow_ii, neg_i, lt_ii, le_ii, gt_ii, ge_ii, eq_ii, eq_ss, eq_bb, ne_ii, ne_ss, in_ss, int_i, int_b, int_s, cut_s, len_s, len_t, len_f, len_sc, str_i, str_s, tupof_f, lk_at, lk_s, lk_1, lk_2, lk_3, lk_4, lk_5, lk_6, put_rd, put_rd0, len_rd, mu_same, mu_mu, true_and, and_true, Bool.not_true, Bool.not_false, if_true, if_false, Bool.false_eq_true, decide_true, decide_false, Bool.true_eq_false, ite_true, ite_false, eq_self_iff_true]); (try simp only [fold_rd1, fold_rd])
                      exact hG' _ _ ⟨[], rfl, e1, e2, e3, kp3, by simp [fl, txt, sibs], by simp [ms], by simp, by simp⟩
                    | cons x xs =>
                      obtain ⟨B', b1, b2, b3, b4⟩ := rowB_ne (d := x) (r := xs)
                      have e1' : M2 C = some (.lst (((It.w [40]) :: B').map itW ++ [itW (.w [32])])) := by rw [e1, b1]; simp
                      (try simp only [hd_e, hd_d, hd_0, hd_o, hd_c, hd_s, hd_in, List.head?_cons, List.head?_nil, List.isEmpty_cons, List.isEmpty_nil, List.cons_append, List.nil_append, beq_self_eq_true, gt, clsW, fldW, add_ii, add_ss, add_tt, add_ff, sub_ii, mul_ii, div_ii, mod_ii, pow_ii, neg_i, lt_ii, le_ii, gt_ii, ge_ii, eq_ii, eq_ss, eq_bb, ne_ii, ne_ss, in_ss, int_i, int_b, int_s, cut_s, len_s, len_t, len_f, len_sc, str_i, str_s, tupof_f, lk_at, lk_s, lk_1, lk_2, lk_3, lk_4, lk_5, lk_6, put_rd, put_rd0, len_rd, mu_same, mu_mu, true_and, and_true, Bool.not_true, Bool.not_false, if_true, if_false, Bool.false_eq_true, decide_true, decide_false, Bool.true_eq_false, ite_true, ite_false, eq_self_iff_true]); (try simp only [fold_rd1, fold_rd])
                      refine ⟨rcv_l e1', pop_ok e1' ?_⟩
                      have bl : B'.length ≤ 2 * (x :: xs).length := by
                        have := congrArg List.length b1
                        rw [rowB_len, List.length_append] at this
                        simp at this ⊢
                        omega
                      refine hG' _ _ ⟨B', rfl, mu_same, by rw [mu_ne (Ne.symm hCA)]; exact e2, by rw [mu_ne (Ne.symm hCB)]; exact e3, fun b o e => by rw [mu_ne (mne e hMC)]; exact kp3 b o e, by rw [b2, txt_cons]; simp, by omega, fun i hi => rowB_ok oxs i (b4 i hi), by omega⟩
                  case k2 =>
                    rintro ρ M3 ⟨B', rfl, e1, e2, e3, kp3, et, em, eo, el⟩
                    simp only [mVar, gt, mC, mOp, mUn, mTest, mChain, mAnd, mOr, mNot, mAndV, mOrV, mNotV, mIf, mNil, mCons, mTup, mFl, mLst, mCB, mBM0, mBM, mSl, mPart, mNoPart, mSeq, mNext, mDrop, mCont, mBreak, mRet, mIfS, mAsg, nName, st, startW, mFld, mSetFld, mAugFld, mMeth, mCall, mRaise, List.map_cons, List.map_nil, List.length_cons, List.length_nil, List.replicate, List.cons_append, List.nil_append, Nat.zero_add, Nat.reduceAdd, Nat.reduceSub, Nat.sub_self, mWhile, add_ii, add_ss, add_tt, add_ff, sub_ii, mul_ii, div_ii, mod_ii, pow_ii, neg_i, lt_ii, le_ii, gt_ii, ge_ii, eq_ii, eq_ss, eq_bb, ne_ii, ne_ss, in_ss, int_i, int_b, int_s, cut_s, len_s, len_t, len_f, len_sc, str_i, str_s, tupof_f, mNeL, mEqL]
                    refine ⟨rcv_l e3, by decide, append_ok e3 (by rw [List.length_map, List.length_reverse]; omega) ?_⟩
                    refine ⟨rcv_l mu_same, ?_⟩
                    have lC : lw (mu M3 B (.lst (L.reverse.map itW ++ [itW (.w [41])]))) (.ref C) = some (((It.w [40]) :: B').map itW) := by
                      simp only [lw, mu_ne hCB, e1]
                    have lC' : lw (mu M3 B (.lst (L.reverse.map itW ++ [.tup [.bl true, .str (Str.ofString ")")]]))) (.ref C) = some (((It.w [40]) :: B').map itW) := lC
                    simp only [mRev, mVar, gt, lC']
                    refine extend_ok mu_same rfl (by simp only [List.length_append, List.length_map, List.length_reverse, List.length_cons, List.length_nil]; omega) ?_
                    refine ⟨ms (It.w [40] :: B' ++ .w [41] :: L), ?_, F, It.w [40] :: B' ++ .w [41] :: L, _, _, _, _, rfl, by rw [mu_mu, mu_ne hAB]; exact e2, ?_, ?_, ?_, hF, fun b o e => by rw [mu_mu, mu_ne (mne e hMB)]; exact kp3 b o e, rfl⟩
                    · simp only [ms, List.map_cons, List.map_append, List.sum_cons, List.sum_append, itM, wt, List.cons_append] at em ⊢
                      omega
                    · rw [mu_same]
                      simp only [List.map_cons, List.map_append, List.reverse_append, List.reverse_cons, List.map_reverse, List.append_assoc, List.cons_append, List.nil_append]
                      rfl
                    · intro i hi
                      rcases List.mem_append.mp hi with hi | hi
                      · rcases List.mem_cons.mp hi with e | hi
                        · rw [e]; exact .inl rfl
                        · exact eo i hi
                      · rcases List.mem_cons.mp hi with e | hi
                        · rw [e]; exact .inr (.inl rfl)
                        · exact okL i hi
                    · rw [← ht]
                      have : fl (.d (.t xs) :: L) = txt (.t xs) ++ fl L := by simp [fl, itT]
                      rw [this, ← et]
                      simp [fl, itT]
        case h2 =>
          rintro ρ M1 ⟨fo, F, r1, r2, r3, r4, rfl, eA, hF, hFl, kp⟩
          simp only [mVar, gt, mC, mOp, mUn, mTest, mChain, mAnd, mOr, mNot, mAndV, mOrV, mNotV, mIf, mNil, mCons, mTup, mFl, mLst, mCB, mBM0, mBM, mSl, mPart, mNoPart, mSeq, mNext, mDrop, mCont, mBreak, mRet, mIfS, mAsg, nName, st, startW, mFld, mSetFld, mAugFld, mMeth, mCall, mRaise, List.map_cons, List.map_nil, List.length_cons, List.length_nil, List.replicate, List.cons_append, List.nil_append, Nat.zero_add, Nat.reduceAdd, Nat.reduceSub, Nat.sub_self, mWhile, add_ii, add_ss, add_tt, add_ff, sub_ii, mul_ii, div_ii, mod_ii, pow_ii, neg_i, lt_ii, le_ii, gt_ii, ge_ii, eq_ii, eq_ss, eq_bb, ne_ii, ne_ss, in_ss, int_i, int_b, int_s, cut_s, len_s, len_t, len_f, len_sc, str_i, str_s, tupof_f, mNeL, mEqL]
          have ej : pw M1 (.ref A) = some (F.map fun x => W.str (mkS x)) := by simp only [pw, lw, eA]
          refine ⟨rfl, ?_⟩
          simp only [mJoin, ej, allStr_mk]
          refine ⟨?_, M, kp, ?_⟩
          · rw [join_len, hF]
            have : (Str.ofString "").length = 0 := rfl
            rw [this]; omega
          · have : (Str.ofString "") = mkS [] := rfl
            rw [this, join_e, hF]
            exact q
theorem ok_data_text (T : Tx P w K mg base)  : FF P w K mg base (2) T.A_data_text ["value"] (sp_data_text T) := by
  obtain ⟨fd, F, hb, _⟩ := T.F_data_text
  exact ⟨⟨fd, fo_data_text T F , hb⟩, F.kp⟩

end Ri
set_option Elab.async false
set_option linter.all false
set_option maxRecDepth 100000
set_option maxHeartbeats 4000000

namespace Ri
open PySem L2 PySem.Calls PyProof.Rows

variable {P : Program} {w : World} {K : PySem.W.Frag} {mg : Str → Option Value} {base : Heap}
theorem ff_none {k : Nat} {f : Addr} {ps : List Str} {sp : MSp} {x q : Str} {s : Stmt} {p : FuncData → Prop} (h : ∃ fd, Fun K x q s f fd ∧ Binds K fd ps [] ∧ p fd) (no : ∀ ws M R RX, ¬ sp ws M R RX) : FF P w K mg base k f ps sp := by
  obtain ⟨fd, F, hb, _⟩ := h
  exact ⟨⟨fd, ⟨fun vs H Q E ⟨_, ws, M, R, RX, _, _, q, _, _⟩ => absurd q (no _ _ _ _), fun A outer s H args us vs Q E _ _ _ _ ⟨_, ws, M, R, RX, _, _, q, _, _⟩ => absurd q (no _ _ _ _)⟩, hb⟩, F.kp⟩
theorem ix_f {xs : List W} {i : Int} {M : MH} {R : MQ} : mIx (.fl xs) (.int i) M R = (match atI xs i with | some v => R v M | none => False) := rfl
theorem ix_t {xs : List W} {i : Int} {M : MH} {R : MQ} : mIx (.tup xs) (.int i) M R = (match atI xs i with | some v => R v M | none => False) := rfl
theorem ix_sc {xs : List W} {i : Int} {M : MH} {R : MQ} : mIx (.sc xs) (.int i) M R = (match atI xs i with | some v => R v M | none => False) := rfl
theorem atI_get {xs : List W} {i : Int} {n : Nat} {x : W} (hi : i = (n : Int)) (h : xs[n]? = some x) : atI xs i = some x := by
  subst hi
  have hn : n < xs.length := (List.getElem?_eq_some_iff.mp h).1
  unfold atI ixN
  rw [if_pos (by omega), if_pos (by omega)]
  simpa using h
def MAXB : Int := 10 ^ 700
theorem maxb : (10 : Int) ^ 700 < 2 ^ 5000 := by decide +kernel
theorem cmul {i j : Int} (h0 : 0 ≤ i) (h1 : i < 10 ^ 700) (h2 : 0 ≤ j) (h3 : j < 10 ^ 700) : CMulW i j := by
  have nat : ∀ {x : Int}, 0 ≤ x → x < 10 ^ 700 → x.natAbs < 2 ^ 5000 := fun {x} a b => by
    have c : x < 2 ^ 5000 := Int.lt_trans b maxb
    have d : ((x.natAbs : Nat) : Int) < ((2 ^ 5000 : Nat) : Int) := by
      rw [Int.natAbs_of_nonneg a]
      have e : ((2 ^ 5000 : Nat) : Int) = (2 : Int) ^ 5000 := by rw [Int.natCast_pow]; rfl
      rw [e]
      exact c
    exact Int.ofNat_lt.mp d
  exact wide_mul (a := 5000) (b := 5000) (nat h0 h1) (nat h2 h3) (by decide) (by decide) (by decide)
def sp__law_mixed (T : Tx P w K mg base) : MSp := fun ws M R _ => ∃ cell k, ws = [.int cell, .int k] ∧ 0 ≤ k ∧ k ≤ 100000000 ∧ ∀ r : Int, 0 ≤ r → r < 10 ^ 60 + 7 → R (.int r) M
def pu (v c k : Int) : MO := .lst [.int v, .int c, .int k]
theorem ix_p0 {M : MH} {p : Addr} {v c k : Int} {R : MQ} (h : M p = some (pu v c k)) : mIx (.ref p) (.int 0) M R = R (.int v) M := by simp only [mIx, pw, lw, h, pu]; rfl
theorem ix_p1 {M : MH} {p : Addr} {v c k : Int} {R : MQ} (h : M p = some (pu v c k)) : mIx (.ref p) (.int 1) M R = R (.int c) M := by simp only [mIx, pw, lw, h, pu]; rfl
theorem ix_p2 {M : MH} {p : Addr} {v c k : Int} {R : MQ} (h : M p = some (pu v c k)) : mIx (.ref p) (.int 2) M R = R (.int k) M := by simp only [mIx, pw, lw, h, pu]; rfl
theorem sub_p0 {M : MH} {p : Addr} {v c k x : Int} {ρ : MSt} {R : MSt → MH → Prop} (h : M p = some (pu v c k)) (q : R (some (.ref p) :: ρ) (mu M p (pu x c k))) : nSub (mVar 0) (mC (.int 0)) (.int x) (some (.ref p) :: ρ) M R := by
  simp only [nSub, mVar, mC, gt, h, pu]; exact q
theorem sub_p1 {M : MH} {p : Addr} {v c k x : Int} {ρ : MSt} {R : MSt → MH → Prop} (h : M p = some (pu v c k)) (q : R (some (.ref p) :: ρ) (mu M p (pu v x k))) : nSub (mVar 0) (mC (.int 1)) (.int x) (some (.ref p) :: ρ) M R := by
  simp only [nSub, mVar, mC, gt, h, pu]; exact q
structure Pok (v c k : Int) : Prop where
  v0 : 0 ≤ v
  v1 : v < 10 ^ 610
  c0 : 0 ≤ c
  c1 : c ≤ 1000000
def sp__law_purse (T : Tx P w K mg base) : MSp := fun ws M R _ => ∃ cell k, ws = [.int cell, .int k] ∧ 0 ≤ k ∧ k ≤ 1000 ∧ ∀ p v k, M p = none → Pok v 0 k → R (.ref p) (mu M p (pu v 0 k))
def sp__law_take (T : Tx P w K mg base) : MSp := fun ws M R _ => ∃ p v c k steps, ws = [.ref p, .int steps] ∧ M p = some (pu v c k) ∧ Pok v (c + 1) k ∧ 0 ≤ c ∧ 1 ≤ steps ∧ steps ≤ 1000000 ∧ ∀ got v' c', 0 ≤ got → got < steps → Pok v' c' k → c' ≤ c + 1 → R (.int got) (mu M p (pu v' c' k))
def sp__law_at (T : Tx P w K mg base) : MSp := fun ws M R _ => ∃ (ns : List Int) (k : Int), ws = [.sc (ns.map W.int), .int k] ∧ 0 ≤ k ∧ k ≤ 1000 ∧ ∀ n : Int, R (.int n) M

theorem fo__law_mixed {fd : FuncData} (T : Tx P w K mg base) (F : Fun K "_law_mixed" "_law_mixed" s__law_mixed T.A__law_mixed fd)  : FnOk P w K mg base (L2.CX P w) (1) T.A__law_mixed fd ["_law_cell", "_law_k"] (upS K (sp__law_mixed T)) := by
  refine fn_rich F sc__law_mixed (fun ws M R RX h => ?len) (fun cdv A outer s H E F0 ws M R RX hr hsp hx hp => ⟨_, (qss_cons (qs_set (i := 2) sc__law_mixed.nd rfl (by first | exact Or.inl rfl | exact Or.inr rfl) (qe_op q_add (qe_op q_add (qe_op q_mul (qe_op q_add (qe_op q_mod (qv 0) (qe_op q_add (qe_op q_pow qe_int qe_int) qe_int)) (qe_op q_mul qe_int (qv 1))) qe_int) (qe_op q_mul qe_int (qv 1))) qe_int))
      (qss_cons (qs_set (i := 2) sc__law_mixed.nd rfl (by first | exact Or.inl rfl | exact Or.inr rfl) (qe_op q_mod (qe_op q_mul (qv 2) (qv 2)) (qe_op q_add (qe_op q_pow qe_int qe_int) qe_int)))
      (qss_one (qs_ret (qe_op q_mod (qe_op q_mul (qe_op q_add (qv 2) qe_int) (qe_op q_add (qv 2) qe_int)) (qe_op q_add (qe_op q_pow qe_int qe_int) qe_int)))))), ?body⟩)
  case len => (unfold sp__law_mixed at h; first | (obtain ⟨_, rfl, _⟩ := h; rfl) | (obtain ⟨_, _, rfl, _⟩ := h; rfl) | (obtain ⟨_, _, _, rfl, _⟩ := h; rfl) | (obtain ⟨_, _, _, _, rfl, _⟩ := h; rfl) | (obtain ⟨_, _, _, _, _, rfl, _⟩ := h; rfl) | (obtain ⟨_, _, _, _, _, _, rfl, _⟩ := h; rfl) | (obtain ⟨_, _, _, _, _, _, _, rfl, _⟩ := h; rfl) | (obtain ⟨_, _, _, _, _, _, _, _, rfl, _⟩ := h; rfl))
  case body =>
    obtain ⟨cell, k, rfl, hk0, hk1, q⟩ := hsp
    simp only [mVar, gt, mC, mOp, mUn, mTest, mChain, mAnd, mOr, mNot, mAndV, mOrV, mNotV, mIf, mNil, mCons, mTup, mFl, mLst, mCB, mBM0, mBM, mSl, mPart, mNoPart, mSeq, mNext, mDrop, mCont, mBreak, mRet, mIfS, mAsg, nName, st, startW, mFld, mSetFld, mAugFld, mMeth, mCall, mRaise, List.map_cons, List.map_nil, List.length_cons, List.length_nil, List.replicate, List.cons_append, List.nil_append, Nat.zero_add, Nat.reduceAdd, Nat.reduceSub, Nat.sub_self, mWhile, add_ii, add_ss, add_tt, add_ff, sub_ii, mul_ii, div_ii, mod_ii, pow_ii, neg_i, lt_ii, le_ii, gt_ii, ge_ii, eq_ii, eq_ss, eq_bb, ne_ii, ne_ss, in_ss, int_i, int_b, int_s, cut_s, len_s, len_t, len_f, len_sc, str_i, str_s, tupof_f, mNeL, mEqL]
    have hm0 : (0 : Int) < 10 ^ 18 + 9 := by decide
    have hc0 := Int.emod_nonneg cell (Int.ne_of_gt hm0)
    have hc1 := Int.emod_lt_of_pos cell hm0
    have hM0 : (0 : Int) < 10 ^ 60 + 7 := by decide
    have e18 : (10 : Int) ^ (Int.toNat 18) = 10 ^ 18 := rfl
    have e60 : (10 : Int) ^ (Int.toNat 60) = 10 ^ 60 := rfl
    have big : ∀ x : Int, 0 ≤ x → x < 10 ^ 60 → x < 10 ^ 700 := fun x _ h => Int.lt_trans h (by decide +kernel)
    generalize hcc : cell % (10 ^ 18 + 9) = cc at hc0 hc1
    have b1 : 0 ≤ (cc + 7 * k) := by omega
    have b2 : (cc + 7 * k) < 10 ^ 20 := by omega
    have c1 : 0 ≤ (cc + 7 * k) * 739108512309184756019283746561 := Int.mul_nonneg b1 (by decide)
    have c2 : (cc + 7 * k) * 739108512309184756019283746561 < 10 ^ 20 * 739108512309184756019283746561 := by omega
    generalize hx : (cc + 7 * k) * 739108512309184756019283746561 = x at c1 c2
    have d1 : 0 ≤ x + 7919 * k + 1 := by omega
    have d2 : x + 7919 * k + 1 < 10 ^ 60 := by
      have : (10 : Int) ^ 20 * 739108512309184756019283746561 + 7919 * 100000000 + 1 < 10 ^ 60 := by decide
      omega
    have m1 : CMulW 7 k := cmul (by decide) (by decide +kernel) hk0 (big _ hk0 (Int.lt_of_le_of_lt hk1 (by decide)))
    have m2 : CMulW (cc + 7 * k) 739108512309184756019283746561 := cmul b1 (big _ b1 (Int.lt_trans b2 (by decide))) (by decide) (by decide +kernel)
    have m3 : CMulW 7919 k := cmul (by decide) (by decide +kernel) hk0 (big _ hk0 (Int.lt_of_le_of_lt hk1 (by decide)))
    have m4 : CMulW (x + 7919 * k + 1) (x + 7919 * k + 1) := cmul d1 (big _ d1 d2) d1 (big _ d1 d2)
    have n0 := Int.emod_nonneg ((x + 7919 * k + 1) * (x + 7919 * k + 1)) (Int.ne_of_gt hM0)
    have n1 := Int.emod_lt_of_pos ((x + 7919 * k + 1) * (x + 7919 * k + 1)) hM0
    generalize hn : (x + 7919 * k + 1) * (x + 7919 * k + 1) % (10 ^ 60 + 7) = n at n0 n1
    have bigN : n + 40503 < 10 ^ 700 ∧ n + 57 < 10 ^ 700 := by
      have h1 : (10 : Int) ^ 60 + 7 + 40503 < 10 ^ 700 := by decide +kernel
      exact ⟨Int.lt_trans (by omega) h1, Int.lt_trans (by omega) h1⟩
    have m5 : CMulW (n + 40503) (n + 57) := cmul (by omega) bigN.1 (by omega) bigN.2
    have r0 := Int.emod_nonneg ((n + 40503) * (n + 57)) (Int.ne_of_gt hM0)
    have r1 := Int.emod_lt_of_pos ((n + 40503) * (n + 57)) hM0
    simp only [e18, e60, hcc, hx, hn]
    exact ⟨by decide, by decide, hm0, m1, m2, m3, m4, by decide, by decide, hM0, m5, by decide, by decide, hM0, _, MSub.refl _, q _ r0 r1⟩
theorem ok__law_mixed (T : Tx P w K mg base)  : FF P w K mg base (1) T.A__law_mixed ["_law_cell", "_law_k"] (sp__law_mixed T) := by
  obtain ⟨fd, F, hb, _⟩ := T.F__law_mixed
  exact ⟨⟨fd, fo__law_mixed T F , hb⟩, F.kp⟩

theorem fo__law_purse {fd : FuncData} (T : Tx P w K mg base) (F : Fun K "_law_purse" "_law_purse" s__law_purse T.A__law_purse fd)  : FnOk P w K mg base (L2.CX P w) (2) T.A__law_purse fd ["_law_cell", "_law_k"] (upS K (sp__law_purse T)) := by
  refine fn_rich F sc__law_purse (fun ws M R RX h => ?len) (fun cdv A outer s H E F0 ws M R RX hr hsp hx hp => ⟨_, (qss_cons (qs_if (qt_cmp q_ge (qv 0) (qe_op q_pow qe_int qe_int) (nomark _)) (qss_one (qs_ret (qe_lst (qa_cons (qe_op q_mod (qe_op q_sub (qv 0) (qe_op q_pow qe_int qe_int)) (qe_op q_pow (qe_op q_pow qe_int qe_int) qe_int)) (qa_cons qe_int (qa_cons (qv 1) qa_nil)))))) qss_nil)
      (qss_one (qs_ret (qe_lst (qa_cons (qe_call (ok__law_mixed T) (hr.mono (by omega)) rfl T.m__law_mixed hx (qa_cons (qv 0) (qa_cons (qv 1) qa_nil))) (qa_cons qe_int (qa_cons (qe_op q_add (qe_op q_mod (qv 0) (qe_op q_add (qe_op q_pow qe_int qe_int) qe_int)) (qv 1)) qa_nil))))))), ?body⟩)
  case len => (unfold sp__law_purse at h; first | (obtain ⟨_, rfl, _⟩ := h; rfl) | (obtain ⟨_, _, rfl, _⟩ := h; rfl) | (obtain ⟨_, _, _, rfl, _⟩ := h; rfl) | (obtain ⟨_, _, _, _, rfl, _⟩ := h; rfl) | (obtain ⟨_, _, _, _, _, rfl, _⟩ := h; rfl) | (obtain ⟨_, _, _, _, _, _, rfl, _⟩ := h; rfl) | (obtain ⟨_, _, _, _, _, _, _, rfl, _⟩ := h; rfl) | (obtain ⟨_, _, _, _, _, _, _, _, rfl, _⟩ := h; rfl))
  case body =>
    obtain ⟨cell, k, rfl, hk0, hk1, q⟩ := hsp
    simp only [mVar, gt, mC, mOp, mUn, mTest, mChain, mAnd, mOr, mNot, mAndV, mOrV, mNotV, mIf, mNil, mCons, mTup, mFl, mLst, mCB, mBM0, mBM, mSl, mPart, mNoPart, mSeq, mNext, mDrop, mCont, mBreak, mRet, mIfS, mAsg, nName, st, startW, mFld, mSetFld, mAugFld, mMeth, mCall, mRaise, List.map_cons, List.map_nil, List.length_cons, List.length_nil, List.replicate, List.cons_append, List.nil_append, Nat.zero_add, Nat.reduceAdd, Nat.reduceSub, Nat.sub_self, mWhile, add_ii, add_ss, add_tt, add_ff, sub_ii, mul_ii, div_ii, mod_ii, pow_ii, neg_i, lt_ii, le_ii, gt_ii, ge_ii, eq_ii, eq_ss, eq_bb, ne_ii, ne_ss, in_ss, int_i, int_b, int_s, cut_s, len_s, len_t, len_f, len_sc, str_i, str_s, tupof_f, mNeL, mEqL]
    have e18 : (10 : Int) ^ (Int.toNat 18) = 10 ^ 18 := rfl
    have e60 : (10 : Int) ^ (Int.toNat 60) = 10 ^ 60 := rfl
    have e10 : ((10 : Int) ^ 60) ^ (Int.toNat 10) = 10 ^ 600 := by decide +kernel
    have hm0 : (0 : Int) < 10 ^ 18 + 9 := by decide
    have hM : (0 : Int) < 10 ^ 600 := by decide +kernel
    have r0 := Int.emod_nonneg (cell - 10 ^ 18) (Int.ne_of_gt hM)
    have r1 := Int.emod_lt_of_pos (cell - 10 ^ 18) hM
    have hb : (10 : Int) ^ 600 < 10 ^ 610 := by decide +kernel
    have hb2 : (10 : Int) ^ 60 + 7 < 10 ^ 610 := by decide +kernel
    refine ⟨by decide, by decide, ?_⟩
    cases hc : decide ((10 : Int) ^ (Int.toNat 18) ≤ cell) with
    | true =>
      (try simp only [hd_e, hd_d, hd_0, hd_o, hd_c, hd_s, hd_in, List.head?_cons, List.head?_nil, List.isEmpty_cons, List.isEmpty_nil, List.cons_append, List.nil_append, beq_self_eq_true, gt, clsW, fldW, add_ii, add_ss, add_tt, add_ff, sub_ii, mul_ii, div_ii, mod_ii, pow_ii, neg_i, lt_ii, le_ii, gt_ii, ge_ii, eq_ii, eq_ss, eq_bb, ne_ii, ne_ss, in_ss, int_i, int_b, int_s, cut_s, len_s, len_t, len_f, len_sc, str_i, str_s, tupof_f, lk_at, lk_s, lk_1, lk_2, lk_3, lk_4, lk_5, lk_6, put_rd, put_rd0, len_rd, mu_same, mu_mu, true_and, and_true, Bool.not_true, Bool.not_false, if_true, if_false, Bool.false_eq_true, decide_true, decide_false, Bool.true_eq_false, ite_true, ite_false, eq_self_iff_true]); (try simp only [fold_rd1, fold_rd])
      simp only [e18, e60, e10]
      exact ⟨by decide, by decide, by decide, by decide, by decide, by decide +kernel, hM, by decide, fun p hp => ⟨_, MSub.refl _, q p _ _ hp ⟨r0, Int.lt_trans r1 hb, by decide, by decide⟩⟩⟩
    | false =>
      (try simp only [hd_e, hd_d, hd_0, hd_o, hd_c, hd_s, hd_in, List.head?_cons, List.head?_nil, List.isEmpty_cons, List.isEmpty_nil, List.cons_append, List.nil_append, beq_self_eq_true, gt, clsW, fldW, add_ii, add_ss, add_tt, add_ff, sub_ii, mul_ii, div_ii, mod_ii, pow_ii, neg_i, lt_ii, le_ii, gt_ii, ge_ii, eq_ii, eq_ss, eq_bb, ne_ii, ne_ss, in_ss, int_i, int_b, int_s, cut_s, len_s, len_t, len_f, len_sc, str_i, str_s, tupof_f, lk_at, lk_s, lk_1, lk_2, lk_3, lk_4, lk_5, lk_6, put_rd, put_rd0, len_rd, mu_same, mu_mu, true_and, and_true, Bool.not_true, Bool.not_false, if_true, if_false, Bool.false_eq_true, decide_true, decide_false, Bool.true_eq_false, ite_true, ite_false, eq_self_iff_true]); (try simp only [fold_rd1, fold_rd])
      refine ⟨cell, k, rfl, hk0, by omega, fun r h0 h1 => ?_⟩
      simp only [e18]
      exact ⟨by decide, by decide, hm0, by decide, fun p hp => ⟨_, MSub.refl _, q p _ _ hp ⟨h0, Int.lt_trans h1 hb2, by decide, by decide⟩⟩⟩
theorem ok__law_purse (T : Tx P w K mg base)  : FF P w K mg base (2) T.A__law_purse ["_law_cell", "_law_k"] (sp__law_purse T) := by
  obtain ⟨fd, F, hb, _⟩ := T.F__law_purse
  exact ⟨⟨fd, fo__law_purse T F , hb⟩, F.kp⟩

theorem fo__law_at {fd : FuncData} (T : Tx P w K mg base) (F : Fun K "_law_at" "_law_at" s__law_at T.A__law_at fd)  : FnOk P w K mg base (L2.CX P w) (1) T.A__law_at fd ["_law_script", "_law_k"] (upS K (sp__law_at T)) := by
  refine fn_rich F sc__law_at (fun ws M R RX h => ?len) (fun cdv A outer s H E F0 ws M R RX hr hsp hx hp => ⟨_, (qss_cons (qs_if (qt_cmp q_lt (qv 1) (qe_callB c_len rfl T.z_len (by decide +kernel) (qa_cons (qv 0) qa_nil)) (nomark _)) (qss_one (qs_ret (qe_ix q_ix (qv 0) (qv 1) (fun _ _ => rfl)))) qss_nil)
      (qss_one (qs_ret (qe_op q_add (qe_op q_mul qe_int (qv 1)) qe_int)))), ?body⟩)
  case len => (unfold sp__law_at at h; first | (obtain ⟨_, rfl, _⟩ := h; rfl) | (obtain ⟨_, _, rfl, _⟩ := h; rfl) | (obtain ⟨_, _, _, rfl, _⟩ := h; rfl) | (obtain ⟨_, _, _, _, rfl, _⟩ := h; rfl) | (obtain ⟨_, _, _, _, _, rfl, _⟩ := h; rfl) | (obtain ⟨_, _, _, _, _, _, rfl, _⟩ := h; rfl) | (obtain ⟨_, _, _, _, _, _, _, rfl, _⟩ := h; rfl) | (obtain ⟨_, _, _, _, _, _, _, _, rfl, _⟩ := h; rfl))
  case body =>
    obtain ⟨ns, k, rfl, hk0, hk1, q⟩ := hsp
    simp only [mVar, gt, mC, mOp, mUn, mTest, mChain, mAnd, mOr, mNot, mAndV, mOrV, mNotV, mIf, mNil, mCons, mTup, mFl, mLst, mCB, mBM0, mBM, mSl, mPart, mNoPart, mSeq, mNext, mDrop, mCont, mBreak, mRet, mIfS, mAsg, nName, st, startW, mFld, mSetFld, mAugFld, mMeth, mCall, mRaise, List.map_cons, List.map_nil, List.length_cons, List.length_nil, List.replicate, List.cons_append, List.nil_append, Nat.zero_add, Nat.reduceAdd, Nat.reduceSub, Nat.sub_self, mWhile, add_ii, add_ss, add_tt, add_ff, sub_ii, mul_ii, div_ii, mod_ii, pow_ii, neg_i, lt_ii, le_ii, gt_ii, ge_ii, eq_ii, eq_ss, eq_bb, ne_ii, ne_ss, in_ss, int_i, int_b, int_s, cut_s, len_s, len_t, len_f, len_sc, str_i, str_s, tupof_f, mNeL, mEqL]
    rw [List.length_map]
    by_cases h : k < (ns.length : Int)
    · (try simp only [hd_e, hd_d, hd_0, hd_o, hd_c, hd_s, hd_in, List.head?_cons, List.head?_nil, List.isEmpty_cons, List.isEmpty_nil, List.cons_append, List.nil_append, beq_self_eq_true, gt, clsW, fldW, add_ii, add_ss, add_tt, add_ff, sub_ii, mul_ii, div_ii, mod_ii, pow_ii, neg_i, lt_ii, le_ii, gt_ii, ge_ii, eq_ii, eq_ss, eq_bb, ne_ii, ne_ss, in_ss, int_i, int_b, int_s, cut_s, len_s, len_t, len_f, len_sc, str_i, str_s, tupof_f, lk_at, lk_s, lk_1, lk_2, lk_3, lk_4, lk_5, lk_6, put_rd, put_rd0, len_rd, mu_same, mu_mu, true_and, and_true, Bool.not_true, Bool.not_false, if_true, if_false, Bool.false_eq_true, decide_true, decide_false, Bool.true_eq_false, ite_true, ite_false, eq_self_iff_true, decide_eq_true h]); (try simp only [fold_rd1, fold_rd])
      have hlt : k.toNat < ns.length := by omega
      have e : atI (ns.map W.int) k = some (.int (ns[k.toNat]'hlt)) := by
        refine atI_get (n := k.toNat) (by omega) ?_
        rw [List.getElem?_map, List.getElem?_eq_getElem hlt]
        rfl
      rw [ix_sc, e]
      exact ⟨_, MSub.refl _, q _⟩
    · (try simp only [hd_e, hd_d, hd_0, hd_o, hd_c, hd_s, hd_in, List.head?_cons, List.head?_nil, List.isEmpty_cons, List.isEmpty_nil, List.cons_append, List.nil_append, beq_self_eq_true, gt, clsW, fldW, add_ii, add_ss, add_tt, add_ff, sub_ii, mul_ii, div_ii, mod_ii, pow_ii, neg_i, lt_ii, le_ii, gt_ii, ge_ii, eq_ii, eq_ss, eq_bb, ne_ii, ne_ss, in_ss, int_i, int_b, int_s, cut_s, len_s, len_t, len_f, len_sc, str_i, str_s, tupof_f, lk_at, lk_s, lk_1, lk_2, lk_3, lk_4, lk_5, lk_6, put_rd, put_rd0, len_rd, mu_same, mu_mu, true_and, and_true, Bool.not_true, Bool.not_false, if_true, if_false, Bool.false_eq_true, decide_true, decide_false, Bool.true_eq_false, ite_true, ite_false, eq_self_iff_true, decide_eq_false h]); (try simp only [fold_rd1, fold_rd])
      exact ⟨cmul (by decide) (by decide +kernel) hk0 (Int.lt_of_le_of_lt hk1 (by decide +kernel)), _, MSub.refl _, q _⟩
theorem ok__law_at (T : Tx P w K mg base)  : FF P w K mg base (1) T.A__law_at ["_law_script", "_law_k"] (sp__law_at T) := by
  obtain ⟨fd, F, hb, _⟩ := T.F__law_at
  exact ⟨⟨fd, fo__law_at T F , hb⟩, F.kp⟩

theorem fo__law_take {fd : FuncData} (T : Tx P w K mg base) (F : Fun K "_law_take" "_law_take" s__law_take T.A__law_take fd)  : FnOk P w K mg base (L2.CX P w) (2) T.A__law_take fd ["_law_purse_here", "_law_steps"] (upS K (sp__law_take T)) := by
  refine fn_rich F sc__law_take (fun ws M R RX h => ?len) (fun cdv A outer s H E F0 ws M R RX hr hsp hx hp => ⟨_, (qss_cons (qs_if (qt_cmp q_lt (qe_ix q_ix (qv 0) qe_int (fun _ _ => rfl)) (qv 1) (nomark _)) (qss_cons (qs_asg (qe_op q_add (qe_ix q_ix (qv 0) qe_int (fun _ _ => rfl)) qe_int) (qg_sub (qv 0) qe_int))
      (qss_one (qs_asg (qe_op q_add (qe_ix q_ix (qv 0) qe_int (fun _ _ => rfl)) (qe_op q_mul (qv 1) (qe_call (ok__law_mixed T) (hr.mono (by omega)) rfl T.m__law_mixed hx (qa_cons (qe_ix q_ix (qv 0) qe_int (fun _ _ => rfl)) (qa_cons (qe_op q_add (qe_op q_mul qe_int (qe_ix q_ix (qv 0) qe_int (fun _ _ => rfl))) qe_int) qa_nil))))) (qg_sub (qv 0) qe_int)))) qss_nil)
      (qss_cons (qs_set (i := 2) sc__law_take.nd rfl (by first | exact Or.inl rfl | exact Or.inr rfl) (qe_op q_mod (qe_ix q_ix (qv 0) qe_int (fun _ _ => rfl)) (qv 1)))
      (qss_cons (qs_asg (qe_op q_div (qe_ix q_ix (qv 0) qe_int (fun _ _ => rfl)) (qv 1)) (qg_sub (qv 0) qe_int))
      (qss_one (qs_ret (qv 2)))))), ?body⟩)
  case len => (unfold sp__law_take at h; first | (obtain ⟨_, rfl, _⟩ := h; rfl) | (obtain ⟨_, _, rfl, _⟩ := h; rfl) | (obtain ⟨_, _, _, rfl, _⟩ := h; rfl) | (obtain ⟨_, _, _, _, rfl, _⟩ := h; rfl) | (obtain ⟨_, _, _, _, _, rfl, _⟩ := h; rfl) | (obtain ⟨_, _, _, _, _, _, rfl, _⟩ := h; rfl) | (obtain ⟨_, _, _, _, _, _, _, rfl, _⟩ := h; rfl) | (obtain ⟨_, _, _, _, _, _, _, _, rfl, _⟩ := h; rfl))
  case body =>
    obtain ⟨p, v, c, k, steps, rfl, hM, hP, hc, hs1, hs2, q⟩ := hsp
    have hv0 := hP.v0
    have hv1 := hP.v1
    have hc1 := hP.c1
    have hm1 : (10 : Int) ^ 610 < 10 ^ 700 := by decide +kernel
    have hm2 : (1000000 : Int) * (10 ^ 60 + 7) + 1000000 < 10 ^ 610 := by decide +kernel
    have fin : ∀ (v c' : Int) (M1 : MH), M1 = mu M p (pu v c' k) ∨ (M1 = M ∧ M p = some (pu v c' k)) → 0 ≤ v → v < 10 ^ 610 → 0 ≤ c' → c' ≤ c + 1 → mMod (.int v) (.int steps) M1 fun w M1 =>
                  mIx (W.ref p) (W.int 0) M1 fun x M1 =>
                    mDiv x (W.int steps) M1 fun w_1 M1 =>
                      nSub (mVar 0) (mC (W.int 0)) w_1 [some (W.ref p), some (W.int steps), some w] M1
                        (mRet (mVar 2) { nx := fun x M' => sh R W.non M', rt := sh R }) := fun v c' M1 hM1 h0 h1 h2 h3 => by
      have hp1 : M1 p = some (pu v c' k) := by
        rcases hM1 with e | ⟨e, e'⟩
        · rw [e, mu_same]
        · rw [e]; exact e'
      have hmu : ∀ o, mu M1 p o = mu M p o := fun o => by
        rcases hM1 with e | ⟨e, e'⟩
        · rw [e, mu_mu]
        · rw [e]
      rw [mod_ii]
      refine ⟨by omega, ?_⟩
      rw [ix_p0 hp1, div_ii]
      refine ⟨⟨by omega, ?_⟩, sub_p0 hp1 ?_⟩
      · have : steps.natAbs < 2 ^ 8999 := Nat.lt_trans (show steps.natAbs < 2 ^ 20 by omega) (by decide +kernel)
        exact PySem.Flt.log2_lt_of (by decide) (Nat.lt_trans this (by decide +kernel))
      · simp only [mVar, gt, mC, mOp, mUn, mTest, mChain, mAnd, mOr, mNot, mAndV, mOrV, mNotV, mIf, mNil, mCons, mTup, mFl, mLst, mCB, mBM0, mBM, mSl, mPart, mNoPart, mSeq, mNext, mDrop, mCont, mBreak, mRet, mIfS, mAsg, nName, st, startW, mFld, mSetFld, mAugFld, mMeth, mCall, mRaise, List.map_cons, List.map_nil, List.length_cons, List.length_nil, List.replicate, List.cons_append, List.nil_append, Nat.zero_add, Nat.reduceAdd, Nat.reduceSub, Nat.sub_self, mWhile, add_ii, add_ss, add_tt, add_ff, sub_ii, mul_ii, div_ii, mod_ii, pow_ii, neg_i, lt_ii, le_ii, gt_ii, ge_ii, eq_ii, eq_ss, eq_bb, ne_ii, ne_ss, in_ss, int_i, int_b, int_s, cut_s, len_s, len_t, len_f, len_sc, str_i, str_s, tupof_f, mNeL, mEqL]
        refine ⟨_, MSub.refl _, ?_⟩
        rw [hmu]
        have a1 : 0 ≤ v / steps := Int.ediv_nonneg h0 (by omega)
        have a2 : v / steps ≤ v := Int.ediv_le_self _ h0
        exact q _ _ _ (Int.emod_nonneg v (by omega)) (Int.emod_lt_of_pos v (by omega)) ⟨a1, Int.lt_of_le_of_lt a2 h1, h2, by omega⟩ h3
    simp only [mVar, gt, mC, mOp, mUn, mTest, mChain, mAnd, mOr, mNot, mAndV, mOrV, mNotV, mIf, mNil, mCons, mTup, mFl, mLst, mCB, mBM0, mBM, mSl, mPart, mNoPart, mSeq, mNext, mDrop, mCont, mBreak, mRet, mIfS, mAsg, nName, st, startW, mFld, mSetFld, mAugFld, mMeth, mCall, mRaise, List.map_cons, List.map_nil, List.length_cons, List.length_nil, List.replicate, List.cons_append, List.nil_append, Nat.zero_add, Nat.reduceAdd, Nat.reduceSub, Nat.sub_self, mWhile, add_ii, add_ss, add_tt, add_ff, sub_ii, mul_ii, div_ii, mod_ii, pow_ii, neg_i, lt_ii, le_ii, gt_ii, ge_ii, eq_ii, eq_ss, eq_bb, ne_ii, ne_ss, in_ss, int_i, int_b, int_s, cut_s, len_s, len_t, len_f, len_sc, str_i, str_s, tupof_f, mNeL, mEqL]
    rw [ix_p0 hM]
    (try simp only [hd_e, hd_d, hd_0, hd_o, hd_c, hd_s, hd_in, List.head?_cons, List.head?_nil, List.isEmpty_cons, List.isEmpty_nil, List.cons_append, List.nil_append, beq_self_eq_true, gt, clsW, fldW, add_ii, add_ss, add_tt, add_ff, sub_ii, mul_ii, div_ii, mod_ii, pow_ii, neg_i, lt_ii, le_ii, gt_ii, ge_ii, eq_ii, eq_ss, eq_bb, ne_ii, ne_ss, in_ss, int_i, int_b, int_s, cut_s, len_s, len_t, len_f, len_sc, str_i, str_s, tupof_f, lk_at, lk_s, lk_1, lk_2, lk_3, lk_4, lk_5, lk_6, put_rd, put_rd0, len_rd, mu_same, mu_mu, true_and, and_true, Bool.not_true, Bool.not_false, if_true, if_false, Bool.false_eq_true, decide_true, decide_false, Bool.true_eq_false, ite_true, ite_false, eq_self_iff_true]); (try simp only [fold_rd1, fold_rd])
    cases hlt : decide (v < steps) with
    | true =>
      (try simp only [hd_e, hd_d, hd_0, hd_o, hd_c, hd_s, hd_in, List.head?_cons, List.head?_nil, List.isEmpty_cons, List.isEmpty_nil, List.cons_append, List.nil_append, beq_self_eq_true, gt, clsW, fldW, add_ii, add_ss, add_tt, add_ff, sub_ii, mul_ii, div_ii, mod_ii, pow_ii, neg_i, lt_ii, le_ii, gt_ii, ge_ii, eq_ii, eq_ss, eq_bb, ne_ii, ne_ss, in_ss, int_i, int_b, int_s, cut_s, len_s, len_t, len_f, len_sc, str_i, str_s, tupof_f, lk_at, lk_s, lk_1, lk_2, lk_3, lk_4, lk_5, lk_6, put_rd, put_rd0, len_rd, mu_same, mu_mu, true_and, and_true, Bool.not_true, Bool.not_false, if_true, if_false, Bool.false_eq_true, decide_true, decide_false, Bool.true_eq_false, ite_true, ite_false, eq_self_iff_true]); (try simp only [fold_rd1, fold_rd])
      rw [ix_p1 hM, add_ii]
      refine sub_p1 hM ?_
      simp only [mVar, gt, mC, mOp, mUn, mTest, mChain, mAnd, mOr, mNot, mAndV, mOrV, mNotV, mIf, mNil, mCons, mTup, mFl, mLst, mCB, mBM0, mBM, mSl, mPart, mNoPart, mSeq, mNext, mDrop, mCont, mBreak, mRet, mIfS, mAsg, nName, st, startW, mFld, mSetFld, mAugFld, mMeth, mCall, mRaise, List.map_cons, List.map_nil, List.length_cons, List.length_nil, List.replicate, List.cons_append, List.nil_append, Nat.zero_add, Nat.reduceAdd, Nat.reduceSub, Nat.sub_self, mWhile, add_ii, add_ss, add_tt, add_ff, sub_ii, mul_ii, div_ii, mod_ii, pow_ii, neg_i, lt_ii, le_ii, gt_ii, ge_ii, eq_ii, eq_ss, eq_bb, ne_ii, ne_ss, in_ss, int_i, int_b, int_s, cut_s, len_s, len_t, len_f, len_sc, str_i, str_s, tupof_f, mNeL, mEqL]
      have hM2 : mu M p (pu v (c + 1) k) p = some (pu v (c + 1) k) := mu_same
      rw [ix_p0 hM2, ix_p2 hM2, ix_p1 hM2]
      (try simp only [hd_e, hd_d, hd_0, hd_o, hd_c, hd_s, hd_in, List.head?_cons, List.head?_nil, List.isEmpty_cons, List.isEmpty_nil, List.cons_append, List.nil_append, beq_self_eq_true, gt, clsW, fldW, add_ii, add_ss, add_tt, add_ff, sub_ii, mul_ii, div_ii, mod_ii, pow_ii, neg_i, lt_ii, le_ii, gt_ii, ge_ii, eq_ii, eq_ss, eq_bb, ne_ii, ne_ss, in_ss, int_i, int_b, int_s, cut_s, len_s, len_t, len_f, len_sc, str_i, str_s, tupof_f, lk_at, lk_s, lk_1, lk_2, lk_3, lk_4, lk_5, lk_6, put_rd, put_rd0, len_rd, mu_same, mu_mu, true_and, and_true, Bool.not_true, Bool.not_false, if_true, if_false, Bool.false_eq_true, decide_true, decide_false, Bool.true_eq_false, ite_true, ite_false, eq_self_iff_true]); (try simp only [fold_rd1, fold_rd])
      have hl := of_decide_eq_true hlt
      refine ⟨cmul (by decide) (by decide +kernel) (by omega) (Int.lt_trans (show c + 1 < 10 ^ 10 by omega) (by decide +kernel)), k, 11 * (c + 1) + 5, rfl, by omega, by omega, fun r r0 r1 => ?_⟩
      have rb : r < 10 ^ 700 := Int.lt_trans r1 (by decide +kernel)
      dsimp only
      rw [mul_ii]
      refine ⟨cmul (by omega) (Int.lt_of_le_of_lt hs2 (by decide +kernel)) r0 rb, ?_⟩
      rw [add_ii]
      refine sub_p0 hM2 ?_
      have hM3 : mu (mu M p (pu v (c + 1) k)) p (pu (v + steps * r) (c + 1) k) p = some (pu (v + steps * r) (c + 1) k) := mu_same
      simp only [mVar, gt, mC, mOp, mUn, mTest, mChain, mAnd, mOr, mNot, mAndV, mOrV, mNotV, mIf, mNil, mCons, mTup, mFl, mLst, mCB, mBM0, mBM, mSl, mPart, mNoPart, mSeq, mNext, mDrop, mCont, mBreak, mRet, mIfS, mAsg, nName, st, startW, mFld, mSetFld, mAugFld, mMeth, mCall, mRaise, List.map_cons, List.map_nil, List.length_cons, List.length_nil, List.replicate, List.cons_append, List.nil_append, Nat.zero_add, Nat.reduceAdd, Nat.reduceSub, Nat.sub_self, mWhile, add_ii, add_ss, add_tt, add_ff, sub_ii, mul_ii, div_ii, mod_ii, pow_ii, neg_i, lt_ii, le_ii, gt_ii, ge_ii, eq_ii, eq_ss, eq_bb, ne_ii, ne_ss, in_ss, int_i, int_b, int_s, cut_s, len_s, len_t, len_f, len_sc, str_i, str_s, tupof_f, mNeL, mEqL]
      rw [ix_p0 hM3]
      have t1 : 0 ≤ steps * r := Int.mul_nonneg (by omega) r0
      have t2 : steps * r ≤ 1000000 * (10 ^ 60 + 7) := Int.le_trans (Int.mul_le_mul_of_nonneg_right hs2 r0) (Int.mul_le_mul_of_nonneg_left (Int.le_of_lt r1) (by decide))
      refine fin (v + steps * r) (c + 1) _ (.inl (by rw [mu_mu])) (by omega) ?_ (by omega) (by omega)
      have : v + steps * r < 1000000 * (10 ^ 60 + 7) + 1000000 := by omega
      exact Int.lt_trans this hm2
    | false =>
      (try simp only [hd_e, hd_d, hd_0, hd_o, hd_c, hd_s, hd_in, List.head?_cons, List.head?_nil, List.isEmpty_cons, List.isEmpty_nil, List.cons_append, List.nil_append, beq_self_eq_true, gt, clsW, fldW, add_ii, add_ss, add_tt, add_ff, sub_ii, mul_ii, div_ii, mod_ii, pow_ii, neg_i, lt_ii, le_ii, gt_ii, ge_ii, eq_ii, eq_ss, eq_bb, ne_ii, ne_ss, in_ss, int_i, int_b, int_s, cut_s, len_s, len_t, len_f, len_sc, str_i, str_s, tupof_f, lk_at, lk_s, lk_1, lk_2, lk_3, lk_4, lk_5, lk_6, put_rd, put_rd0, len_rd, mu_same, mu_mu, true_and, and_true, Bool.not_true, Bool.not_false, if_true, if_false, Bool.false_eq_true, decide_true, decide_false, Bool.true_eq_false, ite_true, ite_false, eq_self_iff_true]); (try simp only [fold_rd1, fold_rd])
      rw [ix_p0 hM]
      exact fin v c _ (.inr ⟨rfl, hM⟩) hv0 hv1 hc (by omega)
theorem ok__law_take (T : Tx P w K mg base)  : FF P w K mg base (2) T.A__law_take ["_law_purse_here", "_law_steps"] (sp__law_take T) := by
  obtain ⟨fd, F, hb, _⟩ := T.F__law_take
  exact ⟨⟨fd, fo__law_take T F , hb⟩, F.kp⟩

end Ri
set_option Elab.async false
set_option linter.all false
set_option maxRecDepth 100000
set_option maxHeartbeats 4000000

namespace Ri
open PySem L2 PySem.Calls PyProof.Rows

variable {P : Program} {w : World} {K : PySem.W.Frag} {mg : Str → Option Value} {base : Heap}
def sp__law_leaf_text (T : Tx P w K mg base) : MSp := fun ws M R _ => ∃ x v, ws = [v] ∧ leafOk x v = true ∧ R (.str (mkS x)) M
def sp__law_said (T : Tx P w K mg base) (n : Nat) : MSp := fun ws M R _ => ∃ d, ws = [wD d] ∧ okD d ∧ dp d < n ∧ (txt d).length ≤ 1000000 ∧ R (.str (mkS (txt d))) M
theorem lcF_on {α : Type} {M : MH} {b : W → Option MSt} {te : ME} {R : MQ} {a c : α → W} {ws : List α} (h : ∀ w ∈ ws, ∃ ρ, b (a w) = some ρ ∧ ∀ (M' : MH) (R' : MQ), MSub M M' → R' (c w) M' → te ρ M' R') (q : R (.fl (ws.map c)) M) :
    ∀ D, M D = none → lcT D b mYes te (fun acc M2 => M2 D = some (.lst acc) ∧ R (.fl acc) (mdel M2 D)) (ws.map a) [] (mu M D (.lst [])) := fun D hD => by
  have gen : ∀ (xs : List α) (acc : List W) (M' : MH), (∀ w ∈ xs, w ∈ ws) → (∀ b, b ≠ D → M' b = M b) → M' D = some (.lst acc) → R (.fl (acc ++ xs.map c)) M → lcT D b mYes te (fun acc M2 => M2 D = some (.lst acc) ∧ R (.fl acc) (mdel M2 D)) (xs.map a) acc M' := by
    intro xs
    induction xs with
    | nil =>
      intro acc M' _ h1 h2 q
      unfold lcT
      refine ⟨h2, ?_⟩
      have e : mdel M' D = M := by
        funext c; unfold mdel
        by_cases hc : c = D
        · rw [if_pos hc, hc, hD]
        · rw [if_neg hc, h1 c hc]
      rw [e]
      simpa using q
    | cons x xs ih =>
      intro acc M' hm h1 h2 q
      rw [List.map_cons]
      unfold lcT
      obtain ⟨ρ, e, he⟩ := h x (hm x List.mem_cons_self)
      rw [e]
      dsimp only [mYes]
      rw [if_pos rfl]
      refine he M' _ (fun c o hc => by rw [h1 c (mne hc hD)]; exact hc) ⟨h2, ih (acc ++ [c x]) _ (fun w hw => hm w (List.mem_cons_of_mem _ hw)) (fun c hc => by rw [mu_ne hc, h1 c hc]) mu_same ?_⟩
      simpa using q
  exact gen ws [] _ (fun _ h => h) (fun c hc => mu_ne hc) mu_same (by simpa using q)
theorem lcF_at {α : Type} {M : MH} {ρ : MSt} {b : MSt → W → Option MSt} {ti : MI} {te : ME} {R : MQ} {a c : α → W} (ws : List α) (hi : ∀ Q : List W → MH → Prop, Q (ws.map a) M → ti ρ M Q) (hl : ws.length ≤ sizeLine) (h : ∀ w ∈ ws, ∃ ρ', b ρ (a w) = some ρ' ∧ ∀ (M' : MH) (R' : MQ), MSub M M' → R' (c w) M' → te ρ' M' R') (q : R (.fl (ws.map c)) M) : mLcF b ti mYes te ρ M R :=
  hi _ ⟨by rw [List.length_map]; exact hl, lcF_on h q⟩
theorem str_lits : Str.ofString "(" = mkS [40] ∧ Str.ofString ")" = mkS [41] ∧ Str.ofString " " = mkS [32] := ⟨rfl, rfl, rfl⟩
theorem app_mk {a b : List Nat} : mkS a ++ mkS b = mkS (a ++ b) := str_ext (by rw [tls_app]; rfl)
theorem join_s : ∀ {xs : List D}, Txt.join (mkS [32]) (xs.map fun d => mkS (txt d)) = mkS ((sibs xs).drop 1) := fun {xs} => by
  refine str_ext ?_
  rw [TL.join_eq]
  show TL.tl (Str.join (mkS [32]) (xs.map fun d => mkS (txt d))) = (sibs xs).drop 1
  rw [TL.tl_join]
  have e : (xs.map fun d => mkS (txt d)).map TL.tl = xs.map txt := by rw [List.map_map]; rfl
  rw [e]
  show TL.joinL [32] (xs.map txt) = _
  have gen : ∀ (d : D) (r : List D), TL.joinL [32] ((d :: r).map txt) = txt d ++ sibs r := by
    intro d r
    induction r generalizing d with
    | nil => simp [TL.joinL, sibs]
    | cons e r ih =>
      have := ih e
      simp only [List.map_cons] at this ⊢
      rw [TL.joinL, this]
      simp [sibs]
  cases xs with
  | nil => rfl
  | cons d r => rw [gen]; simp [sibs]
theorem sum_txt : ∀ {xs : List D}, ((xs.map fun d => mkS (txt d)).map (·.length)).sum ≤ (sibs xs).length
  | [] => Nat.le_refl _
  | d :: r => by
    have h := sum_txt (xs := r)
    simp only [List.map_cons, List.sum_cons, sibs, List.length_cons, List.length_append]
    have : (mkS (txt d)).length = (txt d).length := rfl
    omega
theorem allStr_txt : ∀ {xs : List D}, allStr (xs.map fun d => W.str (mkS (txt d))) = some (xs.map fun d => mkS (txt d))
  | [] => rfl
  | d :: r => by simp only [List.map_cons, allStr, allStr_txt (xs := r), Option.map_some]
theorem txt_part {xs : List D} {d : D} (h : d ∈ xs) : (txt d).length ≤ (sibs xs).length := by
  induction xs with
  | nil => cases h
  | cons e r ih =>
    simp only [sibs, List.length_cons, List.length_append]
    rcases List.mem_cons.mp h with rfl | h
    · omega
    · have := ih h; omega
theorem dp_part {xs : List D} {d : D} (h : d ∈ xs) : dp d < dp (.t xs) := by
  have := (dps_le (xs := xs) (n := dps xs)).mp (Nat.le_refl _) d h
  simp only [dp]; omega
theorem sibs_t {xs : List D} : (sibs xs).length ≤ (txt (.t xs)).length := txt_t_len

theorem fo__law_leaf_text {fd : FuncData} (T : Tx P w K mg base) (F : Fun K "_law_leaf_text" "_law_leaf_text" s__law_leaf_text T.A__law_leaf_text fd)  : FnOk P w K mg base (L2.CX P w) (1) T.A__law_leaf_text fd ["_law_item"] (upS K (sp__law_leaf_text T)) := by
  refine fn_rich F sc__law_leaf_text (fun ws M R RX h => ?len) (fun cdv A outer s H E F0 ws M R RX hr hsp hx hp => ⟨_, (qss_cons (qs_if (qt_val (qe_callB c_isi rfl T.z_isinstance (by decide +kernel) (qa_cons (qv 0) (qa_cons (qe_tyname (T := "list") rfl T.z_list (by decide +kernel)) qa_nil)))) (qss_cons (qs_if (qt_cmp (q_eq hr.units) (qe_ix q_ix (qv 0) qe_int (fun _ _ => rfl)) qe_str (nomark _)) (qss_one (qs_ret (qe_op q_add (qe_op q_add qe_str (qe_ix q_ix (qv 0) qe_int (fun _ _ => rfl))) qe_str))) qss_nil)
      (qss_one (qs_ret (qe_op q_add (qe_op q_add qe_str (qe_bm PySem.F.plainAttrs_str PySem.F.slot_str_join PySem.F.type_str_join m_join qe_str (qa_cons (qe_ix q_ix (qv 0) qe_int (fun _ _ => rfl)) qa_nil))) qe_str)))) qss_nil)
      (qss_cons (qs_if (qt_val (qe_callB c_isi rfl T.z_isinstance (by decide +kernel) (qa_cons (qv 0) (qa_cons (qe_tyname (T := "bool") rfl T.z_bool (by decide +kernel)) qa_nil)))) (qss_one (qs_ret (qe_ix q_ix (qe_fl (qa_cons qe_str (qa_cons qe_str qa_nil))) (qe_callTy c_int rfl T.z_int (by decide +kernel) (qa_cons (qv 0) qa_nil)) (fun _ _ => rfl)))) qss_nil)
      (qss_one (qs_ret (qe_callTy c_str rfl T.z_str (by decide +kernel) (qa_cons (qv 0) qa_nil)))))), ?body⟩)
  case len => (unfold sp__law_leaf_text at h; first | (obtain ⟨_, rfl, _⟩ := h; rfl) | (obtain ⟨_, _, rfl, _⟩ := h; rfl) | (obtain ⟨_, _, _, rfl, _⟩ := h; rfl) | (obtain ⟨_, _, _, _, rfl, _⟩ := h; rfl) | (obtain ⟨_, _, _, _, _, rfl, _⟩ := h; rfl) | (obtain ⟨_, _, _, _, _, _, rfl, _⟩ := h; rfl) | (obtain ⟨_, _, _, _, _, _, _, rfl, _⟩ := h; rfl) | (obtain ⟨_, _, _, _, _, _, _, _, rfl, _⟩ := h; rfl))
  case body =>
    obtain ⟨x, v, rfl, hl, q⟩ := hsp
    simp only [mVar, gt, mC, mOp, mUn, mTest, mChain, mAnd, mOr, mNot, mAndV, mOrV, mNotV, mIf, mNil, mCons, mTup, mFl, mLst, mCB, mBM0, mBM, mSl, mPart, mNoPart, mSeq, mNext, mDrop, mCont, mBreak, mRet, mIfS, mAsg, nName, st, startW, mFld, mSetFld, mAugFld, mMeth, mCall, mRaise, List.map_cons, List.map_nil, List.length_cons, List.length_nil, List.replicate, List.cons_append, List.nil_append, Nat.zero_add, Nat.reduceAdd, Nat.reduceSub, Nat.sub_self, mWhile, add_ii, add_ss, add_tt, add_ff, sub_ii, mul_ii, div_ii, mod_ii, pow_ii, neg_i, lt_ii, le_ii, gt_ii, ge_ii, eq_ii, eq_ss, eq_bb, ne_ii, ne_ss, in_ss, int_i, int_b, int_s, cut_s, len_s, len_t, len_f, len_sc, str_i, str_s, tupof_f, mNeL, mEqL]
    rcases leaf_cases hl with ⟨b, rfl, rfl⟩ | ⟨i, rfl, hn, ht, hl2⟩ | ⟨s, rfl, hw, hs, h1, h2⟩
    · refine isi_ty (t := "bool") rfl (by decide +kernel) ?_
      (try simp only [hd_e, hd_d, hd_0, hd_o, hd_c, hd_s, hd_in, List.head?_cons, List.head?_nil, List.isEmpty_cons, List.isEmpty_nil, List.cons_append, List.nil_append, beq_self_eq_true, gt, clsW, fldW, add_ii, add_ss, add_tt, add_ff, sub_ii, mul_ii, div_ii, mod_ii, pow_ii, neg_i, lt_ii, le_ii, gt_ii, ge_ii, eq_ii, eq_ss, eq_bb, ne_ii, ne_ss, in_ss, int_i, int_b, int_s, cut_s, len_s, len_t, len_f, len_sc, str_i, str_s, tupof_f, lk_at, lk_s, lk_1, lk_2, lk_3, lk_4, lk_5, lk_6, put_rd, put_rd0, len_rd, mu_same, mu_mu, true_and, and_true, Bool.not_true, Bool.not_false, if_true, if_false, Bool.false_eq_true, decide_true, decide_false, Bool.true_eq_false, ite_true, ite_false, eq_self_iff_true, show isTy "bool" "list" = false from by decide]); (try simp only [fold_rd1, fold_rd])
      refine isi_ty (t := "bool") rfl (by decide +kernel) ?_
      (try simp only [hd_e, hd_d, hd_0, hd_o, hd_c, hd_s, hd_in, List.head?_cons, List.head?_nil, List.isEmpty_cons, List.isEmpty_nil, List.cons_append, List.nil_append, beq_self_eq_true, gt, clsW, fldW, add_ii, add_ss, add_tt, add_ff, sub_ii, mul_ii, div_ii, mod_ii, pow_ii, neg_i, lt_ii, le_ii, gt_ii, ge_ii, eq_ii, eq_ss, eq_bb, ne_ii, ne_ss, in_ss, int_i, int_b, int_s, cut_s, len_s, len_t, len_f, len_sc, str_i, str_s, tupof_f, lk_at, lk_s, lk_1, lk_2, lk_3, lk_4, lk_5, lk_6, put_rd, put_rd0, len_rd, mu_same, mu_mu, true_and, and_true, Bool.not_true, Bool.not_false, if_true, if_false, Bool.false_eq_true, decide_true, decide_false, Bool.true_eq_false, ite_true, ite_false, eq_self_iff_true, show isTy "bool" "bool" = true from by decide]); (try simp only [fold_rd1, fold_rd])
      refine ⟨by decide, ?_⟩
      cases b with
      | true => exact ⟨_, MSub.refl _, q⟩
      | false => exact ⟨_, MSub.refl _, q⟩
    · refine isi_ty (t := "int") rfl (by decide +kernel) ?_
      (try simp only [hd_e, hd_d, hd_0, hd_o, hd_c, hd_s, hd_in, List.head?_cons, List.head?_nil, List.isEmpty_cons, List.isEmpty_nil, List.cons_append, List.nil_append, beq_self_eq_true, gt, clsW, fldW, add_ii, add_ss, add_tt, add_ff, sub_ii, mul_ii, div_ii, mod_ii, pow_ii, neg_i, lt_ii, le_ii, gt_ii, ge_ii, eq_ii, eq_ss, eq_bb, ne_ii, ne_ss, in_ss, int_i, int_b, int_s, cut_s, len_s, len_t, len_f, len_sc, str_i, str_s, tupof_f, lk_at, lk_s, lk_1, lk_2, lk_3, lk_4, lk_5, lk_6, put_rd, put_rd0, len_rd, mu_same, mu_mu, true_and, and_true, Bool.not_true, Bool.not_false, if_true, if_false, Bool.false_eq_true, decide_true, decide_false, Bool.true_eq_false, ite_true, ite_false, eq_self_iff_true, show isTy "int" "list" = false from by decide]); (try simp only [fold_rd1, fold_rd])
      refine isi_ty (t := "int") rfl (by decide +kernel) ?_
      (try simp only [hd_e, hd_d, hd_0, hd_o, hd_c, hd_s, hd_in, List.head?_cons, List.head?_nil, List.isEmpty_cons, List.isEmpty_nil, List.cons_append, List.nil_append, beq_self_eq_true, gt, clsW, fldW, add_ii, add_ss, add_tt, add_ff, sub_ii, mul_ii, div_ii, mod_ii, pow_ii, neg_i, lt_ii, le_ii, gt_ii, ge_ii, eq_ii, eq_ss, eq_bb, ne_ii, ne_ss, in_ss, int_i, int_b, int_s, cut_s, len_s, len_t, len_f, len_sc, str_i, str_s, tupof_f, lk_at, lk_s, lk_1, lk_2, lk_3, lk_4, lk_5, lk_6, put_rd, put_rd0, len_rd, mu_same, mu_mu, true_and, and_true, Bool.not_true, Bool.not_false, if_true, if_false, Bool.false_eq_true, decide_true, decide_false, Bool.true_eq_false, ite_true, ite_false, eq_self_iff_true, show isTy "int" "bool" = false from by decide]); (try simp only [fold_rd1, fold_rd])
      refine ⟨hl2, _, MSub.refl _, ?_⟩
      rw [← ht, mk_tls] at q
      exact q
    · refine isi_ty (t := "str") rfl (by decide +kernel) ?_
      (try simp only [hd_e, hd_d, hd_0, hd_o, hd_c, hd_s, hd_in, List.head?_cons, List.head?_nil, List.isEmpty_cons, List.isEmpty_nil, List.cons_append, List.nil_append, beq_self_eq_true, gt, clsW, fldW, add_ii, add_ss, add_tt, add_ff, sub_ii, mul_ii, div_ii, mod_ii, pow_ii, neg_i, lt_ii, le_ii, gt_ii, ge_ii, eq_ii, eq_ss, eq_bb, ne_ii, ne_ss, in_ss, int_i, int_b, int_s, cut_s, len_s, len_t, len_f, len_sc, str_i, str_s, tupof_f, lk_at, lk_s, lk_1, lk_2, lk_3, lk_4, lk_5, lk_6, put_rd, put_rd0, len_rd, mu_same, mu_mu, true_and, and_true, Bool.not_true, Bool.not_false, if_true, if_false, Bool.false_eq_true, decide_true, decide_false, Bool.true_eq_false, ite_true, ite_false, eq_self_iff_true, show isTy "str" "list" = false from by decide]); (try simp only [fold_rd1, fold_rd])
      refine isi_ty (t := "str") rfl (by decide +kernel) ?_
      (try simp only [hd_e, hd_d, hd_0, hd_o, hd_c, hd_s, hd_in, List.head?_cons, List.head?_nil, List.isEmpty_cons, List.isEmpty_nil, List.cons_append, List.nil_append, beq_self_eq_true, gt, clsW, fldW, add_ii, add_ss, add_tt, add_ff, sub_ii, mul_ii, div_ii, mod_ii, pow_ii, neg_i, lt_ii, le_ii, gt_ii, ge_ii, eq_ii, eq_ss, eq_bb, ne_ii, ne_ss, in_ss, int_i, int_b, int_s, cut_s, len_s, len_t, len_f, len_sc, str_i, str_s, tupof_f, lk_at, lk_s, lk_1, lk_2, lk_3, lk_4, lk_5, lk_6, put_rd, put_rd0, len_rd, mu_same, mu_mu, true_and, and_true, Bool.not_true, Bool.not_false, if_true, if_false, Bool.false_eq_true, decide_true, decide_false, Bool.true_eq_false, ite_true, ite_false, eq_self_iff_true, show isTy "str" "bool" = false from by decide]); (try simp only [fold_rd1, fold_rd])
      refine ⟨_, MSub.refl _, ?_⟩
      rw [← hs, mk_tls] at q
      exact q
theorem ok__law_leaf_text (T : Tx P w K mg base)  : FF P w K mg base (1) T.A__law_leaf_text ["_law_item"] (sp__law_leaf_text T) := by
  obtain ⟨fd, F, hb, _⟩ := T.F__law_leaf_text
  exact ⟨⟨fd, fo__law_leaf_text T F , hb⟩, F.kp⟩

theorem fo__law_said {fd : FuncData} (T : Tx P w K mg base) (F : Fun K "_law_said" "_law_said" s__law_said T.A__law_said fd) (n : Nat) (ih : FF P w K mg base (n + 1) T.A__law_said ["_law_item"] (sp__law_said T n)) : FnOk P w K mg base (L2.CX P w) (n + 1 + 1) T.A__law_said fd ["_law_item"] (upS K (sp__law_said T (n + 1))) := by
  refine fn_rich F sc__law_said (fun ws M R RX h => ?len) (fun cdv A outer s H E F0 ws M R RX hr hsp hx hp => ⟨_, (qss_cons (qs_if (qt_val (qe_callB c_isi rfl T.z_isinstance (by decide +kernel) (qa_cons (qv 0) (qa_cons (qe_tyname (T := "tuple") rfl T.z_tuple (by decide +kernel)) qa_nil)))) (qss_one (qs_ret (qe_op q_add (qe_op q_add qe_str (qe_bm PySem.F.plainAttrs_str PySem.F.slot_str_join PySem.F.type_str_join m_join qe_str (qa_cons (qe_lcF (own := [("_law_part", 1)]) rfl sc__law_said.nd (qi_tup (qv 0)) (blkOk_by (own := [("_law_part", 1)]) (N := N__law_said) (sc := defScope s__law_said) (by decide +kernel)) (bd_1 (i := 1)) (fun _ _ _ _ _ => pg_name (i := 1) sc__law_said.nd rfl (by first | exact Or.inl rfl | exact Or.inr rfl)) (fun _ _ _ _ _ => qts_nil) (fun _ _ _ _ _ => (qe_call ih (hr.mono (by omega)) rfl T.m__law_said QX.none (qa_cons (qv 1) qa_nil)))) qa_nil))) qe_str))) qss_nil)
      (qss_one (qs_ret (qe_call (ok__law_leaf_text T) (hr.mono (by omega)) rfl T.m__law_leaf_text hx (qa_cons (qv 0) qa_nil))))), ?body⟩)
  case len => (unfold sp__law_said at h; first | (obtain ⟨_, rfl, _⟩ := h; rfl) | (obtain ⟨_, _, rfl, _⟩ := h; rfl) | (obtain ⟨_, _, _, rfl, _⟩ := h; rfl) | (obtain ⟨_, _, _, _, rfl, _⟩ := h; rfl) | (obtain ⟨_, _, _, _, _, rfl, _⟩ := h; rfl) | (obtain ⟨_, _, _, _, _, _, rfl, _⟩ := h; rfl) | (obtain ⟨_, _, _, _, _, _, _, rfl, _⟩ := h; rfl) | (obtain ⟨_, _, _, _, _, _, _, _, rfl, _⟩ := h; rfl))
  case body =>
    obtain ⟨d, rfl, od, hn, hbig, q⟩ := hsp
    have hsz : sizeLine = 16777216 := sizeLine_eq
    simp only [mVar, gt, mC, mOp, mUn, mTest, mChain, mAnd, mOr, mNot, mAndV, mOrV, mNotV, mIf, mNil, mCons, mTup, mFl, mLst, mCB, mBM0, mBM, mSl, mPart, mNoPart, mSeq, mNext, mDrop, mCont, mBreak, mRet, mIfS, mAsg, nName, st, startW, mFld, mSetFld, mAugFld, mMeth, mCall, mRaise, List.map_cons, List.map_nil, List.length_cons, List.length_nil, List.replicate, List.cons_append, List.nil_append, Nat.zero_add, Nat.reduceAdd, Nat.reduceSub, Nat.sub_self, mWhile, add_ii, add_ss, add_tt, add_ff, sub_ii, mul_ii, div_ii, mod_ii, pow_ii, neg_i, lt_ii, le_ii, gt_ii, ge_ii, eq_ii, eq_ss, eq_bb, ne_ii, ne_ss, in_ss, int_i, int_b, int_s, cut_s, len_s, len_t, len_f, len_sc, str_i, str_s, tupof_f, mNeL, mEqL]
    refine isi_ty (ty_wD od) (kb_bool _ (tyD_mem od)).2.2.2.1 ?_
    cases d with
    | lf x v =>
      have hl : leafOk x v = true := by simpa [okD] using od
      have ety : isTy (tyD (.lf x v)) "tuple" = false := by
        rcases leaf_cases hl with ⟨b, rfl, _⟩ | ⟨i, rfl, _⟩ | ⟨s, rfl, _⟩ <;> (simp only [tyD]; decide)
      rw [ety]
      (try simp only [hd_e, hd_d, hd_0, hd_o, hd_c, hd_s, hd_in, List.head?_cons, List.head?_nil, List.isEmpty_cons, List.isEmpty_nil, List.cons_append, List.nil_append, beq_self_eq_true, gt, clsW, fldW, add_ii, add_ss, add_tt, add_ff, sub_ii, mul_ii, div_ii, mod_ii, pow_ii, neg_i, lt_ii, le_ii, gt_ii, ge_ii, eq_ii, eq_ss, eq_bb, ne_ii, ne_ss, in_ss, int_i, int_b, int_s, cut_s, len_s, len_t, len_f, len_sc, str_i, str_s, tupof_f, lk_at, lk_s, lk_1, lk_2, lk_3, lk_4, lk_5, lk_6, put_rd, put_rd0, len_rd, mu_same, mu_mu, true_and, and_true, Bool.not_true, Bool.not_false, if_true, if_false, Bool.false_eq_true, decide_true, decide_false, Bool.true_eq_false, ite_true, ite_false, eq_self_iff_true]); (try simp only [fold_rd1, fold_rd])
      exact ⟨x, v, by simp only [wD], hl, _, MSub.refl _, by simpa [txt] using q⟩
    | t xs =>
      have oxs := okD_t.mp od
      (try simp only [hd_e, hd_d, hd_0, hd_o, hd_c, hd_s, hd_in, List.head?_cons, List.head?_nil, List.isEmpty_cons, List.isEmpty_nil, List.cons_append, List.nil_append, beq_self_eq_true, gt, clsW, fldW, add_ii, add_ss, add_tt, add_ff, sub_ii, mul_ii, div_ii, mod_ii, pow_ii, neg_i, lt_ii, le_ii, gt_ii, ge_ii, eq_ii, eq_ss, eq_bb, ne_ii, ne_ss, in_ss, int_i, int_b, int_s, cut_s, len_s, len_t, len_f, len_sc, str_i, str_s, tupof_f, lk_at, lk_s, lk_1, lk_2, lk_3, lk_4, lk_5, lk_6, put_rd, put_rd0, len_rd, mu_same, mu_mu, true_and, and_true, Bool.not_true, Bool.not_false, if_true, if_false, Bool.false_eq_true, decide_true, decide_false, Bool.true_eq_false, ite_true, ite_false, eq_self_iff_true, tyD, show isTy "tuple" "tuple" = true from by decide]); (try simp only [fold_rd1, fold_rd])
      have hs1 := sibs_t (xs := xs)
      have hl := sibs_len (a := xs)
      refine ⟨rfl, lcF_at xs (a := wD) (c := fun d => W.str (mkS (txt d))) (fun Q hQ => by simp only [iT, mVar, gt, wD_t]; exact hQ) (by omega) ?_ ?_⟩
      · intro d hd
        refine ⟨_, rfl, fun M' R' _ hR => ?_⟩
        simp only [mCall, mCons, mNil, mVar, gt, st, stN]
        have h1 := txt_part hd
        have h2 := dp_part hd
        exact ⟨d, rfl, oxs d hd, by omega, by omega, hR⟩
      · have ep : pw M (.fl (xs.map fun d => W.str (mkS (txt d)))) = some (xs.map fun d => W.str (mkS (txt d))) := rfl
        have hs2 := sum_txt (xs := xs)
        simp only [mJoin, ep, allStr_txt, str_lits, join_s]
        refine ⟨?_, ?_⟩
        · rw [List.length_map]
          have : (mkS [32]).length = 1 := rfl
          rw [this]; omega
        · rw [add_ss]
          have e1 : (mkS [40]).length = 1 := rfl
          have e2 : (mkS ((sibs xs).drop 1)).length = (sibs xs).length - 1 := by
            show ((sibs xs).drop 1).toArray.size = _
            simp
          refine ⟨by omega, ?_⟩
          rw [add_ss, app_mk]
          have e3 : (mkS ([40] ++ (sibs xs).drop 1)).length = 1 + ((sibs xs).length - 1) := by
            show ([40] ++ (sibs xs).drop 1).toArray.size = _
            simp; omega
          have e4 : (mkS [41]).length = 1 := rfl
          refine ⟨by omega, _, MSub.refl _, ?_⟩
          rw [app_mk]
          have : [40] ++ (sibs xs).drop 1 ++ [41] = txt (.t xs) := by simp [txt]
          rw [this]
          exact q
theorem ok__law_said (T : Tx P w K mg base) (n : Nat) (ih : FF P w K mg base (n + 1) T.A__law_said ["_law_item"] (sp__law_said T n)) : FF P w K mg base (n + 1 + 1) T.A__law_said ["_law_item"] (sp__law_said T (n + 1)) := by
  obtain ⟨fd, F, hb, _⟩ := T.F__law_said
  exact ⟨⟨fd, fo__law_said T F n ih, hb⟩, F.kp⟩

theorem said_all (T : Tx P w K mg base) : ∀ n, FF P w K mg base (n + 1) T.A__law_said ["_law_item"] (sp__law_said T n)
  | 0 => ff_none T.F__law_said fun ws M R RX h => by
    unfold sp__law_said at h
    obtain ⟨_, _, _, h, _⟩ := h
    omega
  | n + 1 => (ok__law_said T n (said_all T n)).mono (by omega)

end Ri
set_option Elab.async false
set_option linter.all false
set_option maxRecDepth 100000
set_option maxHeartbeats 4000000

namespace Ri
open PySem L2 PySem.Calls PyProof.Rows

variable {P : Program} {w : World} {K : PySem.W.Frag} {mg : Str → Option Value} {base : Heap}
theorem mu_comm {M : MH} {a b : Addr} {x y : MO} (h : a ≠ b) : mu (mu M a x) b y = mu (mu M b y) a x := by
  funext c; unfold mu
  by_cases h1 : c = b
  · by_cases h2 : c = a
    · exact absurd (h2.symm.trans h1) h
    · simp [h1, h2, Ne.symm h]
  · simp [h1]
theorem lcT_inv {D : Addr} {b : W → Option MSt} {te : ME} {R : List W → MH → Prop} (I : List W → List W → MH → Prop) (h0 : ∀ acc M, I [] acc M → R acc M)
    (hs : ∀ v ws acc M, I (v :: ws) acc M → ∃ ρ, b v = some ρ ∧ ∀ G : W → MH → Prop, (∀ y M2, M2 D = some (.lst acc) → I ws (acc ++ [y]) (mu M2 D (.lst (acc ++ [y]))) → G y M2) → te ρ M G) : ∀ ws acc M, I ws acc M → lcT D b mYes te R ws acc M
  | [], acc, M, h => by unfold lcT; exact h0 acc M h
  | v :: ws, acc, M, h => by
    unfold lcT
    obtain ⟨ρ, e, ht⟩ := hs v ws acc M h
    rw [e]
    dsimp only [mYes]
    rw [if_pos rfl]
    exact ht _ fun y M2 h1 h2 => ⟨h1, lcT_inv I h0 hs ws _ _ h2⟩
def txtOf : W → List Nat
  | .bl true => yesT
  | .bl false => noT
  | .int i => tls (toString i)
  | .str s => tls s
  | _ => []
def leafsOk (L : List W) : Bool := L.all fun v => leafOk (txtOf v) v && decide ((txtOf v).length ≤ 42)
theorem leaf_ix {L : List W} {i : Int} {M : MH} {R : MQ} (hL : leafsOk L = true) (h0 : 0 ≤ i) (h1 : i < (L.length : Int)) (q : ∀ v x, leafOk x v = true → x.length ≤ 42 → R v M) : mIx (.fl L) (.int i) M R := by
  have hi : i.toNat < L.length := by omega
  rw [ix_f, atI_get (n := i.toNat) (x := L[i.toNat]) (by omega) (List.getElem?_eq_getElem hi)]
  have h := List.all_eq_true.mp hL _ (List.getElem_mem hi)
  rw [Bool.and_eq_true, decide_eq_true_eq] at h
  exact q _ _ h.1 h.2
def cbd : Nat → Int
  | 0 => 2
  | e + 1 => 2 + 3 * cbd e
def bnd : Nat → Nat
  | 0 => 42
  | e + 1 => 3 * bnd e + 8
theorem cbd_ge : ∀ e, 2 ≤ cbd e
  | 0 => by decide
  | e + 1 => by have := cbd_ge e; simp only [cbd]; omega
theorem bnd_ge : ∀ e, 42 ≤ bnd e
  | 0 => by decide
  | e + 1 => by have := bnd_ge e; simp only [bnd]; omega
def sp__law_datum (T : Tx P w K mg base) (n : Nat) : MSp := fun ws M R _ => ∃ (p : Addr) (v c k : Int) (e : Nat), ws = [.ref p, .int (e : Int)] ∧ e < n ∧ M p = some (pu v c k) ∧ Pok v (c + cbd e) k ∧ 0 ≤ c ∧ ∀ d v' c', okD d → dp d ≤ e → (txt d).length ≤ bnd e → Pok v' c' k → c' ≤ c + cbd e → R (wD d) (mu M p (pu v' c' k))
theorem sibs_bnd : ∀ {xs : List D} {b : Nat}, (∀ d ∈ xs, (txt d).length ≤ b) → (sibs xs).length ≤ xs.length * (b + 1)
  | [], _, _ => by simp [sibs]
  | d :: r, b, h => by
    have h1 := sibs_bnd (xs := r) fun x hx => h x (List.mem_cons_of_mem _ hx)
    have h2 := h d List.mem_cons_self
    simp only [sibs, List.length_cons, List.length_append, Nat.add_mul, Nat.one_mul]
    omega

theorem fo__law_datum {fd : FuncData} (T : Tx P w K mg base) (F : Fun K "_law_datum" "_law_datum" s__law_datum T.A__law_datum fd) (n : Nat) (ih : FF P w K mg base (n + 2) T.A__law_datum ["_law_purse_here", "_law_deep"] (sp__law_datum T n)) : FnOk P w K mg base (L2.CX P w) (n + 1 + 2) T.A__law_datum fd ["_law_purse_here", "_law_deep"] (upS K (sp__law_datum T (n + 1))) := by
  refine fn_rich F sc__law_datum (fun ws M R RX h => ?len) (fun cdv A outer s H E F0 ws M R RX hr hsp hx hp => ⟨_, (qss_cons (qs_set (i := 2) sc__law_datum.nd rfl (by first | exact Or.inl rfl | exact Or.inr rfl) (qe_call (ok__law_take T) (hr.mono (by omega)) rfl T.m__law_take hx (qa_cons (qv 0) (qa_cons qe_int qa_nil))))
      (qss_cons (qs_if (QW.qt (qw_and (qt_cmp q_gt (qv 1) qe_int (nomark _)) (qw_and1 (qt_cmp q_gt (qv 2) qe_int (nomark _))))) (qss_one (qs_ret (qe_callTy c_tuple rfl T.z_tuple (by decide +kernel) (qa_cons (qe_lcF (own := [("_law_k", 3)]) rfl sc__law_datum.nd (qi_range1 rfl T.z_range (qa_cons (qe_call (ok__law_take T) (hr.mono (by omega)) rfl T.m__law_take hx (qa_cons (qv 0) (qa_cons qe_int qa_nil))) qa_nil)) (blkOk_by (own := [("_law_k", 3)]) (N := N__law_datum) (sc := defScope s__law_datum) (by decide +kernel)) (bd_1 (i := 3)) (fun _ _ _ _ _ => pg_name (i := 3) sc__law_datum.nd rfl (by first | exact Or.inl rfl | exact Or.inr rfl)) (fun _ _ _ _ _ => qts_nil) (fun _ _ _ _ _ => (qe_call ih (hr.mono (by omega)) rfl T.m__law_datum QX.none (qa_cons (qv 0) (qa_cons (qe_op q_sub (qv 1) qe_int) qa_nil))))) qa_nil)))) qss_nil)
      (qss_cons (qs_if (qt_cmp (q_eq hr.units) (qv 2) qe_int (nomark _)) (qss_one (qs_ret (qe_cmp (q_eq hr.units) (qe_call (ok__law_take T) (hr.mono (by omega)) rfl T.m__law_take hx (qa_cons (qv 0) (qa_cons qe_int qa_nil))) qe_int (nomark _)))) qss_nil)
      (qss_cons (qs_if (qt_cmp (q_eq hr.units) (qv 2) qe_int (nomark _)) (qss_one (qs_ret (qe_ix q_ix (qe_fl (qa_cons qe_int (qa_cons qe_int (qa_cons (qe_un q_neg qe_int) (qa_cons (qe_op q_pow qe_int qe_int) (qa_cons (qe_op q_add (qe_op q_sub qe_int (qe_op q_pow qe_int qe_int)) qe_int) (qa_cons qe_int (qa_cons (qe_un q_neg qe_int) qa_nil)))))))) (qe_call (ok__law_take T) (hr.mono (by omega)) rfl T.m__law_take hx (qa_cons (qv 0) (qa_cons qe_int qa_nil))) (fun _ _ => rfl)))) qss_nil)
      (qss_cons (qs_if (qt_cmp (q_eq hr.units) (qv 2) qe_int (nomark _)) (qss_one (qs_ret (qe_ix q_ix (qe_fl (qa_cons qe_str (qa_cons qe_str (qa_cons qe_str (qa_cons qe_str (qa_cons qe_str (qa_cons qe_str (qa_cons qe_str (qa_cons qe_str (qa_cons qe_str qa_nil)))))))))) (qe_call (ok__law_take T) (hr.mono (by omega)) rfl T.m__law_take hx (qa_cons (qv 0) (qa_cons qe_int qa_nil))) (fun _ _ => rfl)))) qss_nil)
      (qss_one (qs_ret (qe_ix q_ix (qe_fl (qa_cons qe_str (qa_cons qe_str (qa_cons qe_str (qa_cons qe_str (qa_cons qe_str (qa_cons qe_str (qa_cons qe_str qa_nil)))))))) (qe_call (ok__law_take T) (hr.mono (by omega)) rfl T.m__law_take hx (qa_cons (qv 0) (qa_cons qe_int qa_nil))) (fun _ _ => rfl))))))))), ?body⟩)
  case len => (unfold sp__law_datum at h; first | (obtain ⟨_, rfl, _⟩ := h; rfl) | (obtain ⟨_, _, rfl, _⟩ := h; rfl) | (obtain ⟨_, _, _, rfl, _⟩ := h; rfl) | (obtain ⟨_, _, _, _, rfl, _⟩ := h; rfl) | (obtain ⟨_, _, _, _, _, rfl, _⟩ := h; rfl) | (obtain ⟨_, _, _, _, _, _, rfl, _⟩ := h; rfl) | (obtain ⟨_, _, _, _, _, _, _, rfl, _⟩ := h; rfl) | (obtain ⟨_, _, _, _, _, _, _, _, rfl, _⟩ := h; rfl))
  case body =>
    obtain ⟨p, v, c, k, e, rfl, hn, hM, hP, hc, q⟩ := hsp
    have hcb := cbd_ge e
    have hbn := bnd_ge e
    have hv0 := hP.v0
    have hv1 := hP.v1
    have hc1 := hP.c1
    simp only [mVar, gt, mC, mOp, mUn, mTest, mChain, mAnd, mOr, mNot, mAndV, mOrV, mNotV, mIf, mNil, mCons, mTup, mFl, mLst, mCB, mBM0, mBM, mSl, mPart, mNoPart, mSeq, mNext, mDrop, mCont, mBreak, mRet, mIfS, mAsg, nName, st, startW, mFld, mSetFld, mAugFld, mMeth, mCall, mRaise, List.map_cons, List.map_nil, List.length_cons, List.length_nil, List.replicate, List.cons_append, List.nil_append, Nat.zero_add, Nat.reduceAdd, Nat.reduceSub, Nat.sub_self, mWhile, add_ii, add_ss, add_tt, add_ff, sub_ii, mul_ii, div_ii, mod_ii, pow_ii, neg_i, lt_ii, le_ii, gt_ii, ge_ii, eq_ii, eq_ss, eq_bb, ne_ii, ne_ss, in_ss, int_i, int_b, int_s, cut_s, len_s, len_t, len_f, len_sc, str_i, str_s, tupof_f, mNeL, mEqL]
    refine ⟨p, v, c, k, 7, rfl, hM, ⟨hv0, hv1, by omega, by omega⟩, hc, by decide, by decide, fun way v1 c1 w0 w1 hP1 hc1' => ?_⟩
    have leaf : ∀ {x : List Nat} {u : W} {v2 c2 : Int} {M2 : MH}, leafOk x u = true → x.length ≤ 42 → M2 = mu M p (pu v2 c2 k) → Pok v2 c2 k → c2 ≤ c + 2 → sh R u M2 := fun {x u v2 c2 M2} h1 h2 h3 h4 h5 => by
      subst h3
      have := q (.lf x u) v2 c2 (by simpa [okD] using h1) (by simp [dp]) (by simp only [txt]; omega) h4 (by omega)
      exact ⟨_, MSub.refl _, by simpa only [wD] using this⟩
    have hp1 : mu M p (pu v1 c1 k) p = some (pu v1 c1 k) := mu_same
    have cc0 := hP1.c0
    have PP : Pok v1 (c1 + 1) k := ⟨hP1.v0, hP1.v1, by omega, by omega⟩
    have rest : ∀ {R2 : Prop}, True := trivial
    have e40 : (10 : Int) ^ (Int.toNat 40) = 10 ^ 40 := rfl
    (try simp only [hd_e, hd_d, hd_0, hd_o, hd_c, hd_s, hd_in, List.head?_cons, List.head?_nil, List.isEmpty_cons, List.isEmpty_nil, List.cons_append, List.nil_append, beq_self_eq_true, gt, clsW, fldW, add_ii, add_ss, add_tt, add_ff, sub_ii, mul_ii, div_ii, mod_ii, pow_ii, neg_i, lt_ii, le_ii, gt_ii, ge_ii, eq_ii, eq_ss, eq_bb, ne_ii, ne_ss, in_ss, int_i, int_b, int_s, cut_s, len_s, len_t, len_f, len_sc, str_i, str_s, tupof_f, lk_at, lk_s, lk_1, lk_2, lk_3, lk_4, lk_5, lk_6, put_rd, put_rd0, len_rd, mu_same, mu_mu, true_and, and_true, Bool.not_true, Bool.not_false, if_true, if_false, Bool.false_eq_true, decide_true, decide_false, Bool.true_eq_false, ite_true, ite_false, eq_self_iff_true]); (try simp only [fold_rd1, fold_rd])
    by_cases hd : 0 < (e : Int)
    · by_cases hw : 3 < way
      · (try simp only [hd_e, hd_d, hd_0, hd_o, hd_c, hd_s, hd_in, List.head?_cons, List.head?_nil, List.isEmpty_cons, List.isEmpty_nil, List.cons_append, List.nil_append, beq_self_eq_true, gt, clsW, fldW, add_ii, add_ss, add_tt, add_ff, sub_ii, mul_ii, div_ii, mod_ii, pow_ii, neg_i, lt_ii, le_ii, gt_ii, ge_ii, eq_ii, eq_ss, eq_bb, ne_ii, ne_ss, in_ss, int_i, int_b, int_s, cut_s, len_s, len_t, len_f, len_sc, str_i, str_s, tupof_f, lk_at, lk_s, lk_1, lk_2, lk_3, lk_4, lk_5, lk_6, put_rd, put_rd0, len_rd, mu_same, mu_mu, true_and, and_true, Bool.not_true, Bool.not_false, if_true, if_false, Bool.false_eq_true, decide_true, decide_false, Bool.true_eq_false, ite_true, ite_false, eq_self_iff_true, decide_eq_true hd, decide_eq_true hw]); (try simp only [fold_rd1, fold_rd])
        obtain ⟨e, rfl⟩ : ∃ e', e = e' + 1 := ⟨e - 1, by omega⟩
        have hcb2 := cbd_ge e
        simp only [cbd] at hcb hP q hc1
        simp only [bnd] at q hbn
        simp only [mLcF, iR1, mCons, mNil, mCall, mVar, gt, mC]
        refine ⟨p, v1, c1, k, 4, rfl, hp1, PP, cc0, by decide, by decide, fun cnt v2 c2 g0 g1 hP2 hc2 => ?_⟩
        have hlen : (intsFrom 0 cnt.toNat).length = cnt.toNat := by simp [intsFrom]
        have hsz : sizeLine = 16777216 := sizeLine_eq
        (try simp only [hd_e, hd_d, hd_0, hd_o, hd_c, hd_s, hd_in, List.head?_cons, List.head?_nil, List.isEmpty_cons, List.isEmpty_nil, List.cons_append, List.nil_append, beq_self_eq_true, gt, clsW, fldW, add_ii, add_ss, add_tt, add_ff, sub_ii, mul_ii, div_ii, mod_ii, pow_ii, neg_i, lt_ii, le_ii, gt_ii, ge_ii, eq_ii, eq_ss, eq_bb, ne_ii, ne_ss, in_ss, int_i, int_b, int_s, cut_s, len_s, len_t, len_f, len_sc, str_i, str_s, tupof_f, lk_at, lk_s, lk_1, lk_2, lk_3, lk_4, lk_5, lk_6, put_rd, put_rd0, len_rd, mu_same, mu_mu, true_and, and_true, Bool.not_true, Bool.not_false, if_true, if_false, Bool.false_eq_true, decide_true, decide_false, Bool.true_eq_false, ite_true, ite_false, eq_self_iff_true]); (try simp only [fold_rd1, fold_rd])
        refine ⟨by omega, by omega, by omega, fun A hA => ?_⟩
        have hpA : p ≠ A := fun e' => by rw [← e', mu_same] at hA; cases hA
        refine lcT_inv (fun ws acc M1 => ∃ (ds : List D) (v3 c3 : Int), acc = ds.map wD ∧ ds.length + ws.length ≤ 3 ∧ (∀ d ∈ ds, okD d ∧ dp d ≤ e ∧ (txt d).length ≤ bnd e) ∧ M1 = mu (mu M p (pu v3 c3 k)) A (.lst acc) ∧ 0 ≤ v3 ∧ v3 < 10 ^ 610 ∧ 0 ≤ c3 ∧ c3 + (ws.length : Int) * cbd e ≤ c + (2 + 3 * cbd e)) ?h0 ?hs _ _ _ ⟨[], v2, c2, rfl, by simp only [List.length_nil]; omega, by simp, rfl, hP2.v0, hP2.v1, hP2.c0, ?hi⟩
        case hi =>
          rw [hlen]
          have h3 : ((cnt.toNat : Nat) : Int) ≤ 3 := by omega
          have := Int.mul_le_mul_of_nonneg_right h3 (show (0 : Int) ≤ cbd e by omega)
          omega
        case h0 =>
          rintro acc M1 ⟨ds, v3, c3, rfl, hdl, hds, rfl, hv30, hv31, hc30, hct⟩
          refine ⟨mu_same, ?_⟩
          rw [mdel_mu (show mu M p (pu v3 c3 k) A = none by rw [mu_ne (Ne.symm hpA)] at hA ⊢; exact hA)]
          have od : okD (.t ds) := okD_t.mpr fun d hd => (hds d hd).1
          have hb := sibs_bnd (xs := ds) (b := bnd e) fun d hd => (hds d hd).2.2
          have hm : ds.length * (bnd e + 1) ≤ 3 * (bnd e + 1) := Nat.mul_le_mul_right _ (by simp only [List.length_nil] at hdl; omega)
          have := q (.t ds) v3 c3 od (by simp only [dp]; have := (dps_le (xs := ds) (n := e)).mpr fun d hd => (hds d hd).2.1; omega) (by simp only [txt, List.length_cons, List.length_append, List.length_drop, List.length_nil]; omega) ⟨hv30, hv31, hc30, by simp only [List.length_nil] at hct; omega⟩ (by simp only [List.length_nil] at hct; omega)
          rw [wD_t] at this
          exact ⟨_, MSub.refl _, this⟩
        case hs =>
          rintro x ws acc M1 ⟨ds, v3, c3, rfl, hdl, hds, rfl, hv30, hv31, hc30, hct⟩
          refine ⟨_, rfl, fun G hG => ?_⟩
          simp only [mCall, mCons, mNil, mVar, gt, st, stN, mOp, mC, sub_ii]
          have ee : (((e + 1 : Nat) : Int) - 1) = (e : Int) := by omega
          rw [ee]
          simp only [List.length_cons] at hdl
          have hexp : (((x :: ws).length : Nat) : Int) * cbd e = (ws.length : Int) * cbd e + cbd e := by
            rw [List.length_cons, Int.natCast_succ, Int.add_mul, Int.one_mul]
          rw [hexp] at hct
          have hnn : 0 ≤ (ws.length : Int) * cbd e := Int.mul_nonneg (by omega) (by omega)
          refine ⟨p, v3, c3, k, e, rfl, by omega, by rw [mu_ne hpA, mu_same], ⟨hv30, hv31, by omega, by omega⟩, hc30, fun d v4 c4 od4 hd4 ht4 hP4 hc4 => hG _ _ (by rw [mu_ne (Ne.symm hpA), mu_same]) ⟨ds ++ [d], v4, c4, by simp, by simp; omega, ?_, ?_, hP4.v0, hP4.v1, hP4.c0, by omega⟩⟩
          · intro d' hd'
            rcases List.mem_append.mp hd' with h | h
            · exact hds d' h
            · rw [List.mem_singleton.mp h]; exact ⟨od4, hd4, ht4⟩
          · rw [mu_comm (Ne.symm hpA), mu_mu, mu_mu]
      · (try simp only [hd_e, hd_d, hd_0, hd_o, hd_c, hd_s, hd_in, List.head?_cons, List.head?_nil, List.isEmpty_cons, List.isEmpty_nil, List.cons_append, List.nil_append, beq_self_eq_true, gt, clsW, fldW, add_ii, add_ss, add_tt, add_ff, sub_ii, mul_ii, div_ii, mod_ii, pow_ii, neg_i, lt_ii, le_ii, gt_ii, ge_ii, eq_ii, eq_ss, eq_bb, ne_ii, ne_ss, in_ss, int_i, int_b, int_s, cut_s, len_s, len_t, len_f, len_sc, str_i, str_s, tupof_f, lk_at, lk_s, lk_1, lk_2, lk_3, lk_4, lk_5, lk_6, put_rd, put_rd0, len_rd, mu_same, mu_mu, true_and, and_true, Bool.not_true, Bool.not_false, if_true, if_false, Bool.false_eq_true, decide_true, decide_false, Bool.true_eq_false, ite_true, ite_false, eq_self_iff_true, decide_eq_true hd, decide_eq_false hw]); (try simp only [fold_rd1, fold_rd])
        by_cases h0 : way = 0
        · (try simp only [hd_e, hd_d, hd_0, hd_o, hd_c, hd_s, hd_in, List.head?_cons, List.head?_nil, List.isEmpty_cons, List.isEmpty_nil, List.cons_append, List.nil_append, beq_self_eq_true, gt, clsW, fldW, add_ii, add_ss, add_tt, add_ff, sub_ii, mul_ii, div_ii, mod_ii, pow_ii, neg_i, lt_ii, le_ii, gt_ii, ge_ii, eq_ii, eq_ss, eq_bb, ne_ii, ne_ss, in_ss, int_i, int_b, int_s, cut_s, len_s, len_t, len_f, len_sc, str_i, str_s, tupof_f, lk_at, lk_s, lk_1, lk_2, lk_3, lk_4, lk_5, lk_6, put_rd, put_rd0, len_rd, mu_same, mu_mu, true_and, and_true, Bool.not_true, Bool.not_false, if_true, if_false, Bool.false_eq_true, decide_true, decide_false, Bool.true_eq_false, ite_true, ite_false, eq_self_iff_true, decide_eq_true h0]); (try simp only [fold_rd1, fold_rd])
          refine ⟨p, v1, c1, k, 2, rfl, hp1, PP, cc0, by decide, by decide, fun got v2 c2 g0 g1 hP2 hc2 => ?_⟩
          (try simp only [hd_e, hd_d, hd_0, hd_o, hd_c, hd_s, hd_in, List.head?_cons, List.head?_nil, List.isEmpty_cons, List.isEmpty_nil, List.cons_append, List.nil_append, beq_self_eq_true, gt, clsW, fldW, add_ii, add_ss, add_tt, add_ff, sub_ii, mul_ii, div_ii, mod_ii, pow_ii, neg_i, lt_ii, le_ii, gt_ii, ge_ii, eq_ii, eq_ss, eq_bb, ne_ii, ne_ss, in_ss, int_i, int_b, int_s, cut_s, len_s, len_t, len_f, len_sc, str_i, str_s, tupof_f, lk_at, lk_s, lk_1, lk_2, lk_3, lk_4, lk_5, lk_6, put_rd, put_rd0, len_rd, mu_same, mu_mu, true_and, and_true, Bool.not_true, Bool.not_false, if_true, if_false, Bool.false_eq_true, decide_true, decide_false, Bool.true_eq_false, ite_true, ite_false, eq_self_iff_true]); (try simp only [fold_rd1, fold_rd])
          cases hb : decide (got = 1) with
          | true => exact leaf (x := yesT) rfl (by decide) rfl hP2 (by omega)
          | false => exact leaf (x := noT) rfl (by decide) rfl hP2 (by omega)
        · (try simp only [hd_e, hd_d, hd_0, hd_o, hd_c, hd_s, hd_in, List.head?_cons, List.head?_nil, List.isEmpty_cons, List.isEmpty_nil, List.cons_append, List.nil_append, beq_self_eq_true, gt, clsW, fldW, add_ii, add_ss, add_tt, add_ff, sub_ii, mul_ii, div_ii, mod_ii, pow_ii, neg_i, lt_ii, le_ii, gt_ii, ge_ii, eq_ii, eq_ss, eq_bb, ne_ii, ne_ss, in_ss, int_i, int_b, int_s, cut_s, len_s, len_t, len_f, len_sc, str_i, str_s, tupof_f, lk_at, lk_s, lk_1, lk_2, lk_3, lk_4, lk_5, lk_6, put_rd, put_rd0, len_rd, mu_same, mu_mu, true_and, and_true, Bool.not_true, Bool.not_false, if_true, if_false, Bool.false_eq_true, decide_true, decide_false, Bool.true_eq_false, ite_true, ite_false, eq_self_iff_true, decide_eq_false h0]); (try simp only [fold_rd1, fold_rd])
          by_cases h1 : way = 1
          · (try simp only [hd_e, hd_d, hd_0, hd_o, hd_c, hd_s, hd_in, List.head?_cons, List.head?_nil, List.isEmpty_cons, List.isEmpty_nil, List.cons_append, List.nil_append, beq_self_eq_true, gt, clsW, fldW, add_ii, add_ss, add_tt, add_ff, sub_ii, mul_ii, div_ii, mod_ii, pow_ii, neg_i, lt_ii, le_ii, gt_ii, ge_ii, eq_ii, eq_ss, eq_bb, ne_ii, ne_ss, in_ss, int_i, int_b, int_s, cut_s, len_s, len_t, len_f, len_sc, str_i, str_s, tupof_f, lk_at, lk_s, lk_1, lk_2, lk_3, lk_4, lk_5, lk_6, put_rd, put_rd0, len_rd, mu_same, mu_mu, true_and, and_true, Bool.not_true, Bool.not_false, if_true, if_false, Bool.false_eq_true, decide_true, decide_false, Bool.true_eq_false, ite_true, ite_false, eq_self_iff_true, decide_eq_true h1]); (try simp only [fold_rd1, fold_rd])
            refine ⟨by decide, by decide, by decide, by decide, by decide, p, v1, c1, k, 7, rfl, hp1, PP, cc0, by decide, by decide, fun got v2 c2 g0 g1 hP2 hc2 => ?_⟩
            (try simp only [hd_e, hd_d, hd_0, hd_o, hd_c, hd_s, hd_in, List.head?_cons, List.head?_nil, List.isEmpty_cons, List.isEmpty_nil, List.cons_append, List.nil_append, beq_self_eq_true, gt, clsW, fldW, add_ii, add_ss, add_tt, add_ff, sub_ii, mul_ii, div_ii, mod_ii, pow_ii, neg_i, lt_ii, le_ii, gt_ii, ge_ii, eq_ii, eq_ss, eq_bb, ne_ii, ne_ss, in_ss, int_i, int_b, int_s, cut_s, len_s, len_t, len_f, len_sc, str_i, str_s, tupof_f, lk_at, lk_s, lk_1, lk_2, lk_3, lk_4, lk_5, lk_6, put_rd, put_rd0, len_rd, mu_same, mu_mu, true_and, and_true, Bool.not_true, Bool.not_false, if_true, if_false, Bool.false_eq_true, decide_true, decide_false, Bool.true_eq_false, ite_true, ite_false, eq_self_iff_true]); (try simp only [fold_rd1, fold_rd])
            exact leaf_ix (by decide +kernel) g0 g1 fun u x l1 l2 => leaf l1 l2 rfl hP2 (by omega)
          · (try simp only [hd_e, hd_d, hd_0, hd_o, hd_c, hd_s, hd_in, List.head?_cons, List.head?_nil, List.isEmpty_cons, List.isEmpty_nil, List.cons_append, List.nil_append, beq_self_eq_true, gt, clsW, fldW, add_ii, add_ss, add_tt, add_ff, sub_ii, mul_ii, div_ii, mod_ii, pow_ii, neg_i, lt_ii, le_ii, gt_ii, ge_ii, eq_ii, eq_ss, eq_bb, ne_ii, ne_ss, in_ss, int_i, int_b, int_s, cut_s, len_s, len_t, len_f, len_sc, str_i, str_s, tupof_f, lk_at, lk_s, lk_1, lk_2, lk_3, lk_4, lk_5, lk_6, put_rd, put_rd0, len_rd, mu_same, mu_mu, true_and, and_true, Bool.not_true, Bool.not_false, if_true, if_false, Bool.false_eq_true, decide_true, decide_false, Bool.true_eq_false, ite_true, ite_false, eq_self_iff_true, decide_eq_false h1]); (try simp only [fold_rd1, fold_rd])
            by_cases h2 : way = 2
            · (try simp only [hd_e, hd_d, hd_0, hd_o, hd_c, hd_s, hd_in, List.head?_cons, List.head?_nil, List.isEmpty_cons, List.isEmpty_nil, List.cons_append, List.nil_append, beq_self_eq_true, gt, clsW, fldW, add_ii, add_ss, add_tt, add_ff, sub_ii, mul_ii, div_ii, mod_ii, pow_ii, neg_i, lt_ii, le_ii, gt_ii, ge_ii, eq_ii, eq_ss, eq_bb, ne_ii, ne_ss, in_ss, int_i, int_b, int_s, cut_s, len_s, len_t, len_f, len_sc, str_i, str_s, tupof_f, lk_at, lk_s, lk_1, lk_2, lk_3, lk_4, lk_5, lk_6, put_rd, put_rd0, len_rd, mu_same, mu_mu, true_and, and_true, Bool.not_true, Bool.not_false, if_true, if_false, Bool.false_eq_true, decide_true, decide_false, Bool.true_eq_false, ite_true, ite_false, eq_self_iff_true, decide_eq_true h2]); (try simp only [fold_rd1, fold_rd])
              refine ⟨by decide, p, v1, c1, k, 9, rfl, hp1, PP, cc0, by decide, by decide, fun got v2 c2 g0 g1 hP2 hc2 => ?_⟩
              (try simp only [hd_e, hd_d, hd_0, hd_o, hd_c, hd_s, hd_in, List.head?_cons, List.head?_nil, List.isEmpty_cons, List.isEmpty_nil, List.cons_append, List.nil_append, beq_self_eq_true, gt, clsW, fldW, add_ii, add_ss, add_tt, add_ff, sub_ii, mul_ii, div_ii, mod_ii, pow_ii, neg_i, lt_ii, le_ii, gt_ii, ge_ii, eq_ii, eq_ss, eq_bb, ne_ii, ne_ss, in_ss, int_i, int_b, int_s, cut_s, len_s, len_t, len_f, len_sc, str_i, str_s, tupof_f, lk_at, lk_s, lk_1, lk_2, lk_3, lk_4, lk_5, lk_6, put_rd, put_rd0, len_rd, mu_same, mu_mu, true_and, and_true, Bool.not_true, Bool.not_false, if_true, if_false, Bool.false_eq_true, decide_true, decide_false, Bool.true_eq_false, ite_true, ite_false, eq_self_iff_true]); (try simp only [fold_rd1, fold_rd])
              exact leaf_ix (by decide +kernel) g0 g1 fun u x l1 l2 => leaf l1 l2 rfl hP2 (by omega)
            · (try simp only [hd_e, hd_d, hd_0, hd_o, hd_c, hd_s, hd_in, List.head?_cons, List.head?_nil, List.isEmpty_cons, List.isEmpty_nil, List.cons_append, List.nil_append, beq_self_eq_true, gt, clsW, fldW, add_ii, add_ss, add_tt, add_ff, sub_ii, mul_ii, div_ii, mod_ii, pow_ii, neg_i, lt_ii, le_ii, gt_ii, ge_ii, eq_ii, eq_ss, eq_bb, ne_ii, ne_ss, in_ss, int_i, int_b, int_s, cut_s, len_s, len_t, len_f, len_sc, str_i, str_s, tupof_f, lk_at, lk_s, lk_1, lk_2, lk_3, lk_4, lk_5, lk_6, put_rd, put_rd0, len_rd, mu_same, mu_mu, true_and, and_true, Bool.not_true, Bool.not_false, if_true, if_false, Bool.false_eq_true, decide_true, decide_false, Bool.true_eq_false, ite_true, ite_false, eq_self_iff_true, decide_eq_false h2]); (try simp only [fold_rd1, fold_rd])
              refine ⟨by decide, p, v1, c1, k, 7, rfl, hp1, PP, cc0, by decide, by decide, fun got v2 c2 g0 g1 hP2 hc2 => ?_⟩
              (try simp only [hd_e, hd_d, hd_0, hd_o, hd_c, hd_s, hd_in, List.head?_cons, List.head?_nil, List.isEmpty_cons, List.isEmpty_nil, List.cons_append, List.nil_append, beq_self_eq_true, gt, clsW, fldW, add_ii, add_ss, add_tt, add_ff, sub_ii, mul_ii, div_ii, mod_ii, pow_ii, neg_i, lt_ii, le_ii, gt_ii, ge_ii, eq_ii, eq_ss, eq_bb, ne_ii, ne_ss, in_ss, int_i, int_b, int_s, cut_s, len_s, len_t, len_f, len_sc, str_i, str_s, tupof_f, lk_at, lk_s, lk_1, lk_2, lk_3, lk_4, lk_5, lk_6, put_rd, put_rd0, len_rd, mu_same, mu_mu, true_and, and_true, Bool.not_true, Bool.not_false, if_true, if_false, Bool.false_eq_true, decide_true, decide_false, Bool.true_eq_false, ite_true, ite_false, eq_self_iff_true]); (try simp only [fold_rd1, fold_rd])
              exact leaf_ix (by decide +kernel) g0 g1 fun u x l1 l2 => leaf l1 l2 rfl hP2 (by omega)
    · (try simp only [hd_e, hd_d, hd_0, hd_o, hd_c, hd_s, hd_in, List.head?_cons, List.head?_nil, List.isEmpty_cons, List.isEmpty_nil, List.cons_append, List.nil_append, beq_self_eq_true, gt, clsW, fldW, add_ii, add_ss, add_tt, add_ff, sub_ii, mul_ii, div_ii, mod_ii, pow_ii, neg_i, lt_ii, le_ii, gt_ii, ge_ii, eq_ii, eq_ss, eq_bb, ne_ii, ne_ss, in_ss, int_i, int_b, int_s, cut_s, len_s, len_t, len_f, len_sc, str_i, str_s, tupof_f, lk_at, lk_s, lk_1, lk_2, lk_3, lk_4, lk_5, lk_6, put_rd, put_rd0, len_rd, mu_same, mu_mu, true_and, and_true, Bool.not_true, Bool.not_false, if_true, if_false, Bool.false_eq_true, decide_true, decide_false, Bool.true_eq_false, ite_true, ite_false, eq_self_iff_true, decide_eq_false hd]); (try simp only [fold_rd1, fold_rd])
      by_cases h0 : way = 0
      · (try simp only [hd_e, hd_d, hd_0, hd_o, hd_c, hd_s, hd_in, List.head?_cons, List.head?_nil, List.isEmpty_cons, List.isEmpty_nil, List.cons_append, List.nil_append, beq_self_eq_true, gt, clsW, fldW, add_ii, add_ss, add_tt, add_ff, sub_ii, mul_ii, div_ii, mod_ii, pow_ii, neg_i, lt_ii, le_ii, gt_ii, ge_ii, eq_ii, eq_ss, eq_bb, ne_ii, ne_ss, in_ss, int_i, int_b, int_s, cut_s, len_s, len_t, len_f, len_sc, str_i, str_s, tupof_f, lk_at, lk_s, lk_1, lk_2, lk_3, lk_4, lk_5, lk_6, put_rd, put_rd0, len_rd, mu_same, mu_mu, true_and, and_true, Bool.not_true, Bool.not_false, if_true, if_false, Bool.false_eq_true, decide_true, decide_false, Bool.true_eq_false, ite_true, ite_false, eq_self_iff_true, decide_eq_true h0]); (try simp only [fold_rd1, fold_rd])
        refine ⟨p, v1, c1, k, 2, rfl, hp1, PP, cc0, by decide, by decide, fun got v2 c2 g0 g1 hP2 hc2 => ?_⟩
        (try simp only [hd_e, hd_d, hd_0, hd_o, hd_c, hd_s, hd_in, List.head?_cons, List.head?_nil, List.isEmpty_cons, List.isEmpty_nil, List.cons_append, List.nil_append, beq_self_eq_true, gt, clsW, fldW, add_ii, add_ss, add_tt, add_ff, sub_ii, mul_ii, div_ii, mod_ii, pow_ii, neg_i, lt_ii, le_ii, gt_ii, ge_ii, eq_ii, eq_ss, eq_bb, ne_ii, ne_ss, in_ss, int_i, int_b, int_s, cut_s, len_s, len_t, len_f, len_sc, str_i, str_s, tupof_f, lk_at, lk_s, lk_1, lk_2, lk_3, lk_4, lk_5, lk_6, put_rd, put_rd0, len_rd, mu_same, mu_mu, true_and, and_true, Bool.not_true, Bool.not_false, if_true, if_false, Bool.false_eq_true, decide_true, decide_false, Bool.true_eq_false, ite_true, ite_false, eq_self_iff_true]); (try simp only [fold_rd1, fold_rd])
        cases hb : decide (got = 1) with
        | true => exact leaf (x := yesT) rfl (by decide) rfl hP2 (by omega)
        | false => exact leaf (x := noT) rfl (by decide) rfl hP2 (by omega)
      · (try simp only [hd_e, hd_d, hd_0, hd_o, hd_c, hd_s, hd_in, List.head?_cons, List.head?_nil, List.isEmpty_cons, List.isEmpty_nil, List.cons_append, List.nil_append, beq_self_eq_true, gt, clsW, fldW, add_ii, add_ss, add_tt, add_ff, sub_ii, mul_ii, div_ii, mod_ii, pow_ii, neg_i, lt_ii, le_ii, gt_ii, ge_ii, eq_ii, eq_ss, eq_bb, ne_ii, ne_ss, in_ss, int_i, int_b, int_s, cut_s, len_s, len_t, len_f, len_sc, str_i, str_s, tupof_f, lk_at, lk_s, lk_1, lk_2, lk_3, lk_4, lk_5, lk_6, put_rd, put_rd0, len_rd, mu_same, mu_mu, true_and, and_true, Bool.not_true, Bool.not_false, if_true, if_false, Bool.false_eq_true, decide_true, decide_false, Bool.true_eq_false, ite_true, ite_false, eq_self_iff_true, decide_eq_false h0]); (try simp only [fold_rd1, fold_rd])
        by_cases h1 : way = 1
        · (try simp only [hd_e, hd_d, hd_0, hd_o, hd_c, hd_s, hd_in, List.head?_cons, List.head?_nil, List.isEmpty_cons, List.isEmpty_nil, List.cons_append, List.nil_append, beq_self_eq_true, gt, clsW, fldW, add_ii, add_ss, add_tt, add_ff, sub_ii, mul_ii, div_ii, mod_ii, pow_ii, neg_i, lt_ii, le_ii, gt_ii, ge_ii, eq_ii, eq_ss, eq_bb, ne_ii, ne_ss, in_ss, int_i, int_b, int_s, cut_s, len_s, len_t, len_f, len_sc, str_i, str_s, tupof_f, lk_at, lk_s, lk_1, lk_2, lk_3, lk_4, lk_5, lk_6, put_rd, put_rd0, len_rd, mu_same, mu_mu, true_and, and_true, Bool.not_true, Bool.not_false, if_true, if_false, Bool.false_eq_true, decide_true, decide_false, Bool.true_eq_false, ite_true, ite_false, eq_self_iff_true, decide_eq_true h1]); (try simp only [fold_rd1, fold_rd])
          refine ⟨by decide, by decide, by decide, by decide, by decide, p, v1, c1, k, 7, rfl, hp1, PP, cc0, by decide, by decide, fun got v2 c2 g0 g1 hP2 hc2 => ?_⟩
          (try simp only [hd_e, hd_d, hd_0, hd_o, hd_c, hd_s, hd_in, List.head?_cons, List.head?_nil, List.isEmpty_cons, List.isEmpty_nil, List.cons_append, List.nil_append, beq_self_eq_true, gt, clsW, fldW, add_ii, add_ss, add_tt, add_ff, sub_ii, mul_ii, div_ii, mod_ii, pow_ii, neg_i, lt_ii, le_ii, gt_ii, ge_ii, eq_ii, eq_ss, eq_bb, ne_ii, ne_ss, in_ss, int_i, int_b, int_s, cut_s, len_s, len_t, len_f, len_sc, str_i, str_s, tupof_f, lk_at, lk_s, lk_1, lk_2, lk_3, lk_4, lk_5, lk_6, put_rd, put_rd0, len_rd, mu_same, mu_mu, true_and, and_true, Bool.not_true, Bool.not_false, if_true, if_false, Bool.false_eq_true, decide_true, decide_false, Bool.true_eq_false, ite_true, ite_false, eq_self_iff_true]); (try simp only [fold_rd1, fold_rd])
          exact leaf_ix (by decide +kernel) g0 g1 fun u x l1 l2 => leaf l1 l2 rfl hP2 (by omega)
        · (try simp only [hd_e, hd_d, hd_0, hd_o, hd_c, hd_s, hd_in, List.head?_cons, List.head?_nil, List.isEmpty_cons, List.isEmpty_nil, List.cons_append, List.nil_append, beq_self_eq_true, gt, clsW, fldW, add_ii, add_ss, add_tt, add_ff, sub_ii, mul_ii, div_ii, mod_ii, pow_ii, neg_i, lt_ii, le_ii, gt_ii, ge_ii, eq_ii, eq_ss, eq_bb, ne_ii, ne_ss, in_ss, int_i, int_b, int_s, cut_s, len_s, len_t, len_f, len_sc, str_i, str_s, tupof_f, lk_at, lk_s, lk_1, lk_2, lk_3, lk_4, lk_5, lk_6, put_rd, put_rd0, len_rd, mu_same, mu_mu, true_and, and_true, Bool.not_true, Bool.not_false, if_true, if_false, Bool.false_eq_true, decide_true, decide_false, Bool.true_eq_false, ite_true, ite_false, eq_self_iff_true, decide_eq_false h1]); (try simp only [fold_rd1, fold_rd])
          by_cases h2 : way = 2
          · (try simp only [hd_e, hd_d, hd_0, hd_o, hd_c, hd_s, hd_in, List.head?_cons, List.head?_nil, List.isEmpty_cons, List.isEmpty_nil, List.cons_append, List.nil_append, beq_self_eq_true, gt, clsW, fldW, add_ii, add_ss, add_tt, add_ff, sub_ii, mul_ii, div_ii, mod_ii, pow_ii, neg_i, lt_ii, le_ii, gt_ii, ge_ii, eq_ii, eq_ss, eq_bb, ne_ii, ne_ss, in_ss, int_i, int_b, int_s, cut_s, len_s, len_t, len_f, len_sc, str_i, str_s, tupof_f, lk_at, lk_s, lk_1, lk_2, lk_3, lk_4, lk_5, lk_6, put_rd, put_rd0, len_rd, mu_same, mu_mu, true_and, and_true, Bool.not_true, Bool.not_false, if_true, if_false, Bool.false_eq_true, decide_true, decide_false, Bool.true_eq_false, ite_true, ite_false, eq_self_iff_true, decide_eq_true h2]); (try simp only [fold_rd1, fold_rd])
            refine ⟨by decide, p, v1, c1, k, 9, rfl, hp1, PP, cc0, by decide, by decide, fun got v2 c2 g0 g1 hP2 hc2 => ?_⟩
            (try simp only [hd_e, hd_d, hd_0, hd_o, hd_c, hd_s, hd_in, List.head?_cons, List.head?_nil, List.isEmpty_cons, List.isEmpty_nil, List.cons_append, List.nil_append, beq_self_eq_true, gt, clsW, fldW, add_ii, add_ss, add_tt, add_ff, sub_ii, mul_ii, div_ii, mod_ii, pow_ii, neg_i, lt_ii, le_ii, gt_ii, ge_ii, eq_ii, eq_ss, eq_bb, ne_ii, ne_ss, in_ss, int_i, int_b, int_s, cut_s, len_s, len_t, len_f, len_sc, str_i, str_s, tupof_f, lk_at, lk_s, lk_1, lk_2, lk_3, lk_4, lk_5, lk_6, put_rd, put_rd0, len_rd, mu_same, mu_mu, true_and, and_true, Bool.not_true, Bool.not_false, if_true, if_false, Bool.false_eq_true, decide_true, decide_false, Bool.true_eq_false, ite_true, ite_false, eq_self_iff_true]); (try simp only [fold_rd1, fold_rd])
            exact leaf_ix (by decide +kernel) g0 g1 fun u x l1 l2 => leaf l1 l2 rfl hP2 (by omega)
          · (try simp only [hd_e, hd_d, hd_0, hd_o, hd_c, hd_s, hd_in, List.head?_cons, List.head?_nil, List.isEmpty_cons, List.isEmpty_nil, List.cons_append, List.nil_append, beq_self_eq_true, gt, clsW, fldW, add_ii, add_ss, add_tt, add_ff, sub_ii, mul_ii, div_ii, mod_ii, pow_ii, neg_i, lt_ii, le_ii, gt_ii, ge_ii, eq_ii, eq_ss, eq_bb, ne_ii, ne_ss, in_ss, int_i, int_b, int_s, cut_s, len_s, len_t, len_f, len_sc, str_i, str_s, tupof_f, lk_at, lk_s, lk_1, lk_2, lk_3, lk_4, lk_5, lk_6, put_rd, put_rd0, len_rd, mu_same, mu_mu, true_and, and_true, Bool.not_true, Bool.not_false, if_true, if_false, Bool.false_eq_true, decide_true, decide_false, Bool.true_eq_false, ite_true, ite_false, eq_self_iff_true, decide_eq_false h2]); (try simp only [fold_rd1, fold_rd])
            refine ⟨by decide, p, v1, c1, k, 7, rfl, hp1, PP, cc0, by decide, by decide, fun got v2 c2 g0 g1 hP2 hc2 => ?_⟩
            (try simp only [hd_e, hd_d, hd_0, hd_o, hd_c, hd_s, hd_in, List.head?_cons, List.head?_nil, List.isEmpty_cons, List.isEmpty_nil, List.cons_append, List.nil_append, beq_self_eq_true, gt, clsW, fldW, add_ii, add_ss, add_tt, add_ff, sub_ii, mul_ii, div_ii, mod_ii, pow_ii, neg_i, lt_ii, le_ii, gt_ii, ge_ii, eq_ii, eq_ss, eq_bb, ne_ii, ne_ss, in_ss, int_i, int_b, int_s, cut_s, len_s, len_t, len_f, len_sc, str_i, str_s, tupof_f, lk_at, lk_s, lk_1, lk_2, lk_3, lk_4, lk_5, lk_6, put_rd, put_rd0, len_rd, mu_same, mu_mu, true_and, and_true, Bool.not_true, Bool.not_false, if_true, if_false, Bool.false_eq_true, decide_true, decide_false, Bool.true_eq_false, ite_true, ite_false, eq_self_iff_true]); (try simp only [fold_rd1, fold_rd])
            exact leaf_ix (by decide +kernel) g0 g1 fun u x l1 l2 => leaf l1 l2 rfl hP2 (by omega)
theorem ok__law_datum (T : Tx P w K mg base) (n : Nat) (ih : FF P w K mg base (n + 2) T.A__law_datum ["_law_purse_here", "_law_deep"] (sp__law_datum T n)) : FF P w K mg base (n + 1 + 2) T.A__law_datum ["_law_purse_here", "_law_deep"] (sp__law_datum T (n + 1)) := by
  obtain ⟨fd, F, hb, _⟩ := T.F__law_datum
  exact ⟨⟨fd, fo__law_datum T F n ih, hb⟩, F.kp⟩

theorem datum_all (T : Tx P w K mg base) : ∀ n, FF P w K mg base (n + 2) T.A__law_datum ["_law_purse_here", "_law_deep"] (sp__law_datum T n)
  | 0 => ff_none T.F__law_datum fun ws M R RX h => by
    unfold sp__law_datum at h
    obtain ⟨_, _, _, _, _, _, h, _⟩ := h
    omega
  | n + 1 => (ok__law_datum T n (datum_all T n)).mono (by omega)

end Ri
set_option Elab.async false
set_option linter.all false
set_option maxRecDepth 100000
set_option maxHeartbeats 4000000

namespace Ri
open PySem L2 PySem.Calls PyProof.Rows

variable {P : Program} {w : World} {K : PySem.W.Frag} {mg : Str → Option Value} {base : Heap}
def asc (z : Str) : Prop := ∀ c ∈ tls z, c < 128
theorem dig_one : ∀ c : Nat, c < 128 → Txt.isdigit (mkS [c]) = digP c ∧ Txt.islower (mkS [c]) = lowP c := by decide +kernel
def h1P (p : Nat → Bool) : List Nat → Bool
  | c :: _ => p c
  | [] => false
theorem isd {l : List Nat} (h : ∀ c ∈ l, c < 128) : Txt.isdigit (hd1 l) = h1P digP l := by
  cases l with
  | nil => rfl
  | cons c r => exact (dig_one c (h c List.mem_cons_self)).1
theorem isl {l : List Nat} (h : ∀ c ∈ l, c < 128) : Txt.islower (hd1 l) = h1P lowP l := by
  cases l with
  | nil => decide +kernel
  | cons c r => exact (dig_one c (h c List.mem_cons_self)).2
theorem cut1 {z : Str} {n : Nat} : cutS z (some (n : Int)) (some ((n : Int) + 1)) = hd1 ((tls z).drop n) := cut_next
theorem asc_drop {z : Str} (h : asc z) (n : Nat) : ∀ c ∈ (tls z).drop n, c < 128 := fun c hc => h c (List.mem_of_mem_drop hc)
theorem cut2 {z : Str} {n : Nat} : cutS z (some ((n : Int) + 1)) (some ((n : Int) + 1 + 1)) = hd1 ((tls z).drop (n + 1)) := cut_next (n := n + 1)
theorem cut3 {z : Str} {n : Nat} : cutS z (some ((n : Int) + 0)) (some ((n : Int) + 0 + 1)) = hd1 ((tls z).drop n) := by rw [Int.add_zero]; exact cut_next
def leafW (n : Nat) : (List Nat × W) ⊕ Nat → W
  | .inl (x, _) => .fl [.int ((n + x.length : Nat) : Int), .non]
  | .inr k => .fl [.non, .int ((n + k : Nat) : Int)]
def sp__law_leaf_end (T : Tx P w K mg base) : MSp := fun ws M R _ => ∃ (z : Str) (n : Nat), ws = [.str z, .int (n : Int)] ∧ z.length ≤ sizeLine ∧ asc z ∧ R (leafW n (leafR ((tls z).drop n))) M
theorem rcv_s {z : Str} {M : MH} : rcv M "str" (.str z) = True := by simp [rcv]
theorem dig_bm {a : Str} {M : MH} {R : MQ} : mDigit (.str a) [] M R = R (.bl (Txt.isdigit a)) M := rfl
theorem low_bm {a : Str} {M : MH} {R : MQ} : mLower (.str a) [] M R = R (.bl (Txt.islower a)) M := rfl
theorem run_go {p : Nat → Bool} {m k : Nat} {l : List Nat} (h : k < (run p m l).length) : ∃ c r, l.drop k = c :: r ∧ p c = true ∧ k < m := by
  obtain ⟨r, h1, h2, h3, _⟩ := run_split p m l
  have hk : k < l.length := by have := congrArg List.length h1; rw [List.length_append] at this; omega
  refine ⟨l[k], l.drop (k + 1), List.drop_eq_getElem_cons hk, ?_, by omega⟩
  have e : l[k] = (run p m l)[k] := by
    have : l[k]? = (run p m l ++ r)[k]? := by rw [← h1]
    rw [List.getElem?_append_left h, List.getElem?_eq_getElem hk, List.getElem?_eq_getElem h] at this
    exact Option.some.inj this
  rw [e]
  exact h3 _ (List.getElem_mem h)
theorem run_end {p : Nat → Bool} {m : Nat} {l : List Nat} : h1P p (l.drop (run p m l).length) = false ∨ (run p m l).length = m := by
  obtain ⟨r, h1, h2, h3, h4⟩ := run_split p m l
  rcases h4 with h4 | h4
  · exact .inr h4
  · left
    have : l.drop (run p m l).length = r := by
      have e : l.drop (run p m l).length = (run p m l ++ r).drop (run p m l).length := by rw [← h1]
      rw [e]; simp
    rw [this]
    cases r with
    | nil => rfl
    | cons c r => exact h4 c rfl

theorem fo__law_leaf_end {fd : FuncData} (T : Tx P w K mg base) (F : Fun K "_law_leaf_end" "_law_leaf_end" s__law_leaf_end T.A__law_leaf_end fd)  : FnOk P w K mg base (L2.CX P w) (1) T.A__law_leaf_end fd ["_law_line", "_law_at_here"] (upS K (sp__law_leaf_end T)) := by
  refine fn_rich F sc__law_leaf_end (fun ws M R RX h => ?len) (fun cdv A outer s H E F0 ws M R RX hr hsp hx hp => ⟨_, (qss_cons (qs_set (i := 2) sc__law_leaf_end.nd rfl (by first | exact Or.inl rfl | exact Or.inr rfl) (qe_slice q_cut (qv 0) (qo_some (qv 1)) (qo_some (qe_op q_add (qv 1) qe_int))))
      (qss_cons (qs_if (QW.qt (qw_or (qt_cmp (q_eq hr.units) (qv 2) qe_str (nomark _)) (qw_or1 (qt_val (qe_bm0 PySem.F.plainAttrs_str PySem.F.slot_str_isdigit PySem.F.type_str_isdigit m_isdigit (qv 2)))))) (qss_cons (qs_set (i := 3) sc__law_leaf_end.nd rfl (by first | exact Or.inl rfl | exact Or.inr rfl) (qe_op q_add (qv 1) (qe_callTy c_int rfl T.z_int (by decide +kernel) (qa_cons (qe_cmp (q_eq hr.units) (qv 2) qe_str (nomark _)) qa_nil))))
      (qss_cons (qs_set (i := 4) sc__law_leaf_end.nd rfl (by first | exact Or.inl rfl | exact Or.inr rfl) (qe_slice q_cut (qv 0) (qo_some (qv 3)) (qo_some (qe_op q_add (qv 3) qe_int))))
      (qss_cons (qs_if (QW.qt (qw_or (QW.qt (qw_and (qt_cmp (q_eq hr.units) (qv 4) qe_str (nomark _)) (qw_and1 (qt_cmp (q_eq hr.units) (qv 2) qe_str (nomark _))))) (qw_or1 (qt_not (qt_val (qe_bm0 PySem.F.plainAttrs_str PySem.F.slot_str_isdigit PySem.F.type_str_isdigit m_isdigit (qv 4))))))) (qss_one (qs_ret (qe_fl (qa_cons qe_non (qa_cons (qv 3) qa_nil))))) qss_nil)
      (qss_cons (qs_if (qt_cmp (q_eq hr.units) (qv 4) qe_str (nomark _)) (qss_one (qs_ret (qe_fl (qa_cons (qe_op q_add (qv 3) qe_int) (qa_cons qe_non qa_nil))))) qss_nil)
      (qss_cons (qs_set (i := 5) sc__law_leaf_end.nd rfl (by first | exact Or.inl rfl | exact Or.inr rfl) (qv 3))
      (qss_cons (qs_while hp (QW.qt (qw_and (qt_val (qe_bm0 PySem.F.plainAttrs_str PySem.F.slot_str_isdigit PySem.F.type_str_isdigit m_isdigit (qe_slice q_cut (qv 0) (qo_some (qv 5)) (qo_some (qe_op q_add (qv 5) qe_int))))) (qw_and1 (qt_cmp q_lt (qv 5) (qe_op q_add (qv 3) qe_int) (nomark _))))) (qss_one (qs_set (i := 5) sc__law_leaf_end.nd rfl (by first | exact Or.inl rfl | exact Or.inr rfl) (qe_op q_add (qv 5) qe_int))))
      (qss_one (qs_ret (qe_fl (qa_cons (qv 5) (qa_cons qe_non qa_nil))))))))))) qss_nil)
      (qss_cons (qs_set (i := 5) sc__law_leaf_end.nd rfl (by first | exact Or.inl rfl | exact Or.inr rfl) (qv 1))
      (qss_cons (qs_while hp (QW.qt (qw_and (qt_val (qe_bm0 PySem.F.plainAttrs_str PySem.F.slot_str_islower PySem.F.type_str_islower m_islower (qe_slice q_cut (qv 0) (qo_some (qv 5)) (qo_some (qe_op q_add (qv 5) qe_int))))) (qw_and1 (qt_cmp q_lt (qv 5) (qe_op q_add (qv 1) qe_int) (nomark _))))) (qss_one (qs_set (i := 5) sc__law_leaf_end.nd rfl (by first | exact Or.inl rfl | exact Or.inr rfl) (qe_op q_add (qv 5) qe_int))))
      (qss_cons (qs_if (qt_cmp (q_eq hr.units) (qv 5) (qv 1) (nomark _)) (qss_one (qs_ret (qe_fl (qa_cons qe_non (qa_cons (qv 1) qa_nil))))) qss_nil)
      (qss_one (qs_ret (qe_fl (qa_cons (qv 5) (qa_cons qe_non qa_nil)))))))))), ?body⟩)
  case len => (unfold sp__law_leaf_end at h; first | (obtain ⟨_, rfl, _⟩ := h; rfl) | (obtain ⟨_, _, rfl, _⟩ := h; rfl) | (obtain ⟨_, _, _, rfl, _⟩ := h; rfl) | (obtain ⟨_, _, _, _, rfl, _⟩ := h; rfl) | (obtain ⟨_, _, _, _, _, rfl, _⟩ := h; rfl) | (obtain ⟨_, _, _, _, _, _, rfl, _⟩ := h; rfl) | (obtain ⟨_, _, _, _, _, _, _, rfl, _⟩ := h; rfl) | (obtain ⟨_, _, _, _, _, _, _, _, rfl, _⟩ := h; rfl))
  case body =>
    obtain ⟨z, n, rfl, hz, ha, q⟩ := hsp
    generalize hl : (tls z).drop n = l at q
    have hal : ∀ c ∈ l, c < 128 := by rw [← hl]; exact asc_drop ha n
    simp only [mVar, gt, mC, mOp, mUn, mTest, mChain, mAnd, mOr, mNot, mAndV, mOrV, mNotV, mIf, mNil, mCons, mTup, mFl, mLst, mCB, mBM0, mBM, mSl, mPart, mNoPart, mSeq, mNext, mDrop, mCont, mBreak, mRet, mIfS, mAsg, nName, st, startW, mFld, mSetFld, mAugFld, mMeth, mCall, mRaise, List.map_cons, List.map_nil, List.length_cons, List.length_nil, List.replicate, List.cons_append, List.nil_append, Nat.zero_add, Nat.reduceAdd, Nat.reduceSub, Nat.sub_self, mWhile, add_ii, add_ss, add_tt, add_ff, sub_ii, mul_ii, div_ii, mod_ii, pow_ii, neg_i, lt_ii, le_ii, gt_ii, ge_ii, eq_ii, eq_ss, eq_bb, ne_ii, ne_ss, in_ss, int_i, int_b, int_s, cut_s, len_s, len_t, len_f, len_sc, str_i, str_s, tupof_f, mNeL, mEqL, rcv_s, dig_bm, low_bm, true_and]
    refine ⟨hz, ?_⟩
    rw [cut1, hl]
    by_cases h45 : l.head? = some 45
    · cases l with
      | nil => cases h45
      | cons c r =>
        simp only [List.head?_cons, Option.some.injEq] at h45
        subst h45
        have hr : (tls z).drop (n + 1) = r := by rw [← List.drop_drop, hl]; rfl
        have har : ∀ c ∈ r, c < 128 := fun c hc => hal c (List.mem_cons_of_mem _ hc)
        (try simp only [hd_e, hd_d, hd_0, hd_o, hd_c, hd_s, hd_in, List.head?_cons, List.head?_nil, List.isEmpty_cons, List.isEmpty_nil, List.cons_append, List.nil_append, beq_self_eq_true, gt, clsW, fldW, add_ii, add_ss, add_tt, add_ff, sub_ii, mul_ii, div_ii, mod_ii, pow_ii, neg_i, lt_ii, le_ii, gt_ii, ge_ii, eq_ii, eq_ss, eq_bb, ne_ii, ne_ss, in_ss, int_i, int_b, int_s, cut_s, len_s, len_t, len_f, len_sc, str_i, str_s, tupof_f, lk_at, lk_s, lk_1, lk_2, lk_3, lk_4, lk_5, lk_6, put_rd, put_rd0, len_rd, mu_same, mu_mu, true_and, and_true, Bool.not_true, Bool.not_false, if_true, if_false, Bool.false_eq_true, decide_true, decide_false, Bool.true_eq_false, ite_true, ite_false, eq_self_iff_true, rcv_s, dig_bm, low_bm, cut2, hr]); (try simp only [fold_rd1, fold_rd])
        refine ⟨hz, ?_⟩
        by_cases h48 : r.head? = some 48
        · have e48 : (r.head? == some 48) = true := by rw [h48]; rfl
          cases r with
          | nil => cases h48
          | cons c r =>
            simp only [List.head?_cons, Option.some.injEq] at h48
            subst h48
            (try simp only [hd_e, hd_d, hd_0, hd_o, hd_c, hd_s, hd_in, List.head?_cons, List.head?_nil, List.isEmpty_cons, List.isEmpty_nil, List.cons_append, List.nil_append, beq_self_eq_true, gt, clsW, fldW, add_ii, add_ss, add_tt, add_ff, sub_ii, mul_ii, div_ii, mod_ii, pow_ii, neg_i, lt_ii, le_ii, gt_ii, ge_ii, eq_ii, eq_ss, eq_bb, ne_ii, ne_ss, in_ss, int_i, int_b, int_s, cut_s, len_s, len_t, len_f, len_sc, str_i, str_s, tupof_f, lk_at, lk_s, lk_1, lk_2, lk_3, lk_4, lk_5, lk_6, put_rd, put_rd0, len_rd, mu_same, mu_mu, true_and, and_true, Bool.not_true, Bool.not_false, if_true, if_false, Bool.false_eq_true, decide_true, decide_false, Bool.true_eq_false, ite_true, ite_false, eq_self_iff_true, rcv_s, dig_bm, low_bm]); (try simp only [fold_rd1, fold_rd])
            exact ⟨by decide, _, MSub.refl _, q⟩
        · have e48 : (r.head? == some 48) = false := by simpa using h48
          have en : numR (45 :: r) = (if (run digP 40 r).isEmpty then .inr 1 else .inl (-(dval (run digP 40 r)), 1 + (run digP 40 r).length)) := by
            rw [numR]
            intro r2 e2
            cases e2
            exact h48 rfl
          (try simp only [hd_e, hd_d, hd_0, hd_o, hd_c, hd_s, hd_in, List.head?_cons, List.head?_nil, List.isEmpty_cons, List.isEmpty_nil, List.cons_append, List.nil_append, beq_self_eq_true, gt, clsW, fldW, add_ii, add_ss, add_tt, add_ff, sub_ii, mul_ii, div_ii, mod_ii, pow_ii, neg_i, lt_ii, le_ii, gt_ii, ge_ii, eq_ii, eq_ss, eq_bb, ne_ii, ne_ss, in_ss, int_i, int_b, int_s, cut_s, len_s, len_t, len_f, len_sc, str_i, str_s, tupof_f, lk_at, lk_s, lk_1, lk_2, lk_3, lk_4, lk_5, lk_6, put_rd, put_rd0, len_rd, mu_same, mu_mu, true_and, and_true, Bool.not_true, Bool.not_false, if_true, if_false, Bool.false_eq_true, decide_true, decide_false, Bool.true_eq_false, ite_true, ite_false, eq_self_iff_true, rcv_s, dig_bm, low_bm, e48, isd har]); (try simp only [fold_rd1, fold_rd])
          cases hdg : h1P digP r with
          | false =>
            have hemp : run digP 40 r = [] := by
              cases r with
              | nil => rfl
              | cons c r => rw [run, if_neg (by rw [show digP c = false from hdg]; simp)]
            have el : leafR (45 :: r) = .inr 1 := by
              unfold leafR
              rw [if_pos (show numHead (45 :: r) = true from rfl), en, hemp]
              rfl
            rw [el] at q
            (try simp only [hd_e, hd_d, hd_0, hd_o, hd_c, hd_s, hd_in, List.head?_cons, List.head?_nil, List.isEmpty_cons, List.isEmpty_nil, List.cons_append, List.nil_append, beq_self_eq_true, gt, clsW, fldW, add_ii, add_ss, add_tt, add_ff, sub_ii, mul_ii, div_ii, mod_ii, pow_ii, neg_i, lt_ii, le_ii, gt_ii, ge_ii, eq_ii, eq_ss, eq_bb, ne_ii, ne_ss, in_ss, int_i, int_b, int_s, cut_s, len_s, len_t, len_f, len_sc, str_i, str_s, tupof_f, lk_at, lk_s, lk_1, lk_2, lk_3, lk_4, lk_5, lk_6, put_rd, put_rd0, len_rd, mu_same, mu_mu, true_and, and_true, Bool.not_true, Bool.not_false, if_true, if_false, Bool.false_eq_true, decide_true, decide_false, Bool.true_eq_false, ite_true, ite_false, eq_self_iff_true, rcv_s, dig_bm, low_bm]); (try simp only [fold_rd1, fold_rd])
            exact ⟨by decide, _, MSub.refl _, q⟩
          | true =>
            have hne : run digP 40 r ≠ [] := by
              cases r with
              | nil => cases hdg
              | cons c r => rw [run, if_pos (show digP c = true from hdg)]; simp
            have el : leafR (45 :: r) = .inl ((45 :: r).take (1 + (run digP 40 r).length), .int (-(dval (run digP 40 r)))) := by
              unfold leafR
              rw [if_pos (show numHead (45 :: r) = true from rfl), en]
              have : (run digP 40 r).isEmpty = false := by
                cases e : run digP 40 r with
                | nil => exact absurd e hne
                | cons => rfl
              rw [this]
              rfl
            rw [el] at q
            have elen : ((45 :: r).take (1 + (run digP 40 r).length)).length = 1 + (run digP 40 r).length := by
              obtain ⟨r2, h1, _⟩ := run_split digP 40 r
              have := congrArg List.length h1
              rw [List.length_append] at this
              rw [List.length_take, List.length_cons]
              omega
            have q' : R (.fl [.int ((n + (1 + (run digP 40 r).length) : Nat) : Int), .non]) M := by
              have q2 := q
              simp only [leafW, elen] at q2
              exact q2
            (try simp only [hd_e, hd_d, hd_0, hd_o, hd_c, hd_s, hd_in, List.head?_cons, List.head?_nil, List.isEmpty_cons, List.isEmpty_nil, List.cons_append, List.nil_append, beq_self_eq_true, gt, clsW, fldW, add_ii, add_ss, add_tt, add_ff, sub_ii, mul_ii, div_ii, mod_ii, pow_ii, neg_i, lt_ii, le_ii, gt_ii, ge_ii, eq_ii, eq_ss, eq_bb, ne_ii, ne_ss, in_ss, int_i, int_b, int_s, cut_s, len_s, len_t, len_f, len_sc, str_i, str_s, tupof_f, lk_at, lk_s, lk_1, lk_2, lk_3, lk_4, lk_5, lk_6, put_rd, put_rd0, len_rd, mu_same, mu_mu, true_and, and_true, Bool.not_true, Bool.not_false, if_true, if_false, Bool.false_eq_true, decide_true, decide_false, Bool.true_eq_false, ite_true, ite_false, eq_self_iff_true, rcv_s, dig_bm, low_bm]); (try simp only [fold_rd1, fold_rd])
            refine ⟨fun m ρ M1 => ∃ k, k ≤ (run digP 40 r).length ∧ m = (run digP 40 r).length - k ∧ ρ = [some (.str z), some (.int (n : Int)), some (.str (hd1 (45 :: r))), some (.int ((n : Int) + 1)), some (.str (hd1 r)), some (.int (((n + 1) + k : Nat) : Int))] ∧ M1 = M, ⟨_, 0, Nat.zero_le _, rfl, rfl, rfl⟩, ?_⟩
            rintro m ρ M1 ⟨k, hk, rfl, rfl, rfl⟩
            (try simp only [hd_e, hd_d, hd_0, hd_o, hd_c, hd_s, hd_in, List.head?_cons, List.head?_nil, List.isEmpty_cons, List.isEmpty_nil, List.cons_append, List.nil_append, beq_self_eq_true, gt, clsW, fldW, add_ii, add_ss, add_tt, add_ff, sub_ii, mul_ii, div_ii, mod_ii, pow_ii, neg_i, lt_ii, le_ii, gt_ii, ge_ii, eq_ii, eq_ss, eq_bb, ne_ii, ne_ss, in_ss, int_i, int_b, int_s, cut_s, len_s, len_t, len_f, len_sc, str_i, str_s, tupof_f, lk_at, lk_s, lk_1, lk_2, lk_3, lk_4, lk_5, lk_6, put_rd, put_rd0, len_rd, mu_same, mu_mu, true_and, and_true, Bool.not_true, Bool.not_false, if_true, if_false, Bool.false_eq_true, decide_true, decide_false, Bool.true_eq_false, ite_true, ite_false, eq_self_iff_true, rcv_s, dig_bm, low_bm, true_and]); (try simp only [fold_rd1, fold_rd])
            refine ⟨hz, ?_⟩
            rw [cut1, isd (asc_drop ha _)]
            rcases Nat.lt_or_ge k (run digP 40 r).length with hlt | hge
            · obtain ⟨c, r2, e1, e2, e3⟩ := run_go hlt
              have e4 : (tls z).drop ((n + 1) + k) = c :: r2 := by rw [← List.drop_drop, hr]; exact e1
              have e5 : h1P digP ((tls z).drop ((n + 1) + k)) = true := by rw [e4]; exact e2
              have e6 : decide ((((n + 1) + k : Nat) : Int) < (n : Int) + 1 + 40) = true := decide_eq_true (by omega)
              (try simp only [hd_e, hd_d, hd_0, hd_o, hd_c, hd_s, hd_in, List.head?_cons, List.head?_nil, List.isEmpty_cons, List.isEmpty_nil, List.cons_append, List.nil_append, beq_self_eq_true, gt, clsW, fldW, add_ii, add_ss, add_tt, add_ff, sub_ii, mul_ii, div_ii, mod_ii, pow_ii, neg_i, lt_ii, le_ii, gt_ii, ge_ii, eq_ii, eq_ss, eq_bb, ne_ii, ne_ss, in_ss, int_i, int_b, int_s, cut_s, len_s, len_t, len_f, len_sc, str_i, str_s, tupof_f, lk_at, lk_s, lk_1, lk_2, lk_3, lk_4, lk_5, lk_6, put_rd, put_rd0, len_rd, mu_same, mu_mu, true_and, and_true, Bool.not_true, Bool.not_false, if_true, if_false, Bool.false_eq_true, decide_true, decide_false, Bool.true_eq_false, ite_true, ite_false, eq_self_iff_true, rcv_s, dig_bm, low_bm, e5, e6]); (try simp only [fold_rd1, fold_rd])
              exact ⟨_, by omega, k + 1, hlt, rfl, rfl⟩
            · have ek : k = (run digP 40 r).length := by omega
              subst ek
              have e7 : h1P digP ((tls z).drop ((n + 1) + (run digP 40 r).length)) = false ∨ (run digP 40 r).length = 40 := by
                rw [← List.drop_drop, hr]; exact run_end
              have e8 : h1P digP ((tls z).drop ((n + 1) + (run digP 40 r).length)) = true → decide ((((n + 1) + (run digP 40 r).length : Nat) : Int) < (n : Int) + 1 + 40) = false := fun h => by
                rcases e7 with e | e
                · rw [h] at e; cases e
                · exact decide_eq_false (by omega)
              cases e9 : h1P digP ((tls z).drop ((n + 1) + (run digP 40 r).length)) with
              | true =>
                (try simp only [hd_e, hd_d, hd_0, hd_o, hd_c, hd_s, hd_in, List.head?_cons, List.head?_nil, List.isEmpty_cons, List.isEmpty_nil, List.cons_append, List.nil_append, beq_self_eq_true, gt, clsW, fldW, add_ii, add_ss, add_tt, add_ff, sub_ii, mul_ii, div_ii, mod_ii, pow_ii, neg_i, lt_ii, le_ii, gt_ii, ge_ii, eq_ii, eq_ss, eq_bb, ne_ii, ne_ss, in_ss, int_i, int_b, int_s, cut_s, len_s, len_t, len_f, len_sc, str_i, str_s, tupof_f, lk_at, lk_s, lk_1, lk_2, lk_3, lk_4, lk_5, lk_6, put_rd, put_rd0, len_rd, mu_same, mu_mu, true_and, and_true, Bool.not_true, Bool.not_false, if_true, if_false, Bool.false_eq_true, decide_true, decide_false, Bool.true_eq_false, ite_true, ite_false, eq_self_iff_true, rcv_s, dig_bm, low_bm, e8 e9]); (try simp only [fold_rd1, fold_rd])
                have e : n + 1 + (run digP 40 r).length = n + (1 + (run digP 40 r).length) := by omega
                rw [e]
                exact ⟨by decide, _, MSub.refl _, q'⟩
              | false =>
                (try simp only [hd_e, hd_d, hd_0, hd_o, hd_c, hd_s, hd_in, List.head?_cons, List.head?_nil, List.isEmpty_cons, List.isEmpty_nil, List.cons_append, List.nil_append, beq_self_eq_true, gt, clsW, fldW, add_ii, add_ss, add_tt, add_ff, sub_ii, mul_ii, div_ii, mod_ii, pow_ii, neg_i, lt_ii, le_ii, gt_ii, ge_ii, eq_ii, eq_ss, eq_bb, ne_ii, ne_ss, in_ss, int_i, int_b, int_s, cut_s, len_s, len_t, len_f, len_sc, str_i, str_s, tupof_f, lk_at, lk_s, lk_1, lk_2, lk_3, lk_4, lk_5, lk_6, put_rd, put_rd0, len_rd, mu_same, mu_mu, true_and, and_true, Bool.not_true, Bool.not_false, if_true, if_false, Bool.false_eq_true, decide_true, decide_false, Bool.true_eq_false, ite_true, ite_false, eq_self_iff_true, rcv_s, dig_bm, low_bm]); (try simp only [fold_rd1, fold_rd])
                have e : n + 1 + (run digP 40 r).length = n + (1 + (run digP 40 r).length) := by omega
                rw [e]
                exact ⟨by decide, _, MSub.refl _, q'⟩
    · have e45 : (l.head? == some 45) = false := by simpa using h45
      (try simp only [hd_e, hd_d, hd_0, hd_o, hd_c, hd_s, hd_in, List.head?_cons, List.head?_nil, List.isEmpty_cons, List.isEmpty_nil, List.cons_append, List.nil_append, beq_self_eq_true, gt, clsW, fldW, add_ii, add_ss, add_tt, add_ff, sub_ii, mul_ii, div_ii, mod_ii, pow_ii, neg_i, lt_ii, le_ii, gt_ii, ge_ii, eq_ii, eq_ss, eq_bb, ne_ii, ne_ss, in_ss, int_i, int_b, int_s, cut_s, len_s, len_t, len_f, len_sc, str_i, str_s, tupof_f, lk_at, lk_s, lk_1, lk_2, lk_3, lk_4, lk_5, lk_6, put_rd, put_rd0, len_rd, mu_same, mu_mu, true_and, and_true, Bool.not_true, Bool.not_false, if_true, if_false, Bool.false_eq_true, decide_true, decide_false, Bool.true_eq_false, ite_true, ite_false, eq_self_iff_true, rcv_s, dig_bm, low_bm, e45, isd hal]); (try simp only [fold_rd1, fold_rd])
      cases hdg : h1P digP l with
      | true =>
        cases l with
        | nil => cases hdg
        | cons c r =>
          have hdc : digP c = true := hdg
          have hnh : numHead (c :: r) = true := by simp [numHead, hdc]
          have e45' : (some c == some 45) = false := e45
          (try simp only [hd_e, hd_d, hd_0, hd_o, hd_c, hd_s, hd_in, List.head?_cons, List.head?_nil, List.isEmpty_cons, List.isEmpty_nil, List.cons_append, List.nil_append, beq_self_eq_true, gt, clsW, fldW, add_ii, add_ss, add_tt, add_ff, sub_ii, mul_ii, div_ii, mod_ii, pow_ii, neg_i, lt_ii, le_ii, gt_ii, ge_ii, eq_ii, eq_ss, eq_bb, ne_ii, ne_ss, in_ss, int_i, int_b, int_s, cut_s, len_s, len_t, len_f, len_sc, str_i, str_s, tupof_f, lk_at, lk_s, lk_1, lk_2, lk_3, lk_4, lk_5, lk_6, put_rd, put_rd0, len_rd, mu_same, mu_mu, true_and, and_true, Bool.not_true, Bool.not_false, if_true, if_false, Bool.false_eq_true, decide_true, decide_false, Bool.true_eq_false, ite_true, ite_false, eq_self_iff_true, rcv_s, dig_bm, low_bm, e45', cut3, Int.add_zero, cut1, hl]); (try simp only [fold_rd1, fold_rd])
          refine ⟨hz, ?_⟩
          by_cases h48 : c = 48
          · subst h48
            have el : leafR (48 :: r) = .inl ([48], .int 0) := by
              unfold leafR
              rw [if_pos hnh]
              rfl
            rw [el] at q
            (try simp only [hd_e, hd_d, hd_0, hd_o, hd_c, hd_s, hd_in, List.head?_cons, List.head?_nil, List.isEmpty_cons, List.isEmpty_nil, List.cons_append, List.nil_append, beq_self_eq_true, gt, clsW, fldW, add_ii, add_ss, add_tt, add_ff, sub_ii, mul_ii, div_ii, mod_ii, pow_ii, neg_i, lt_ii, le_ii, gt_ii, ge_ii, eq_ii, eq_ss, eq_bb, ne_ii, ne_ss, in_ss, int_i, int_b, int_s, cut_s, len_s, len_t, len_f, len_sc, str_i, str_s, tupof_f, lk_at, lk_s, lk_1, lk_2, lk_3, lk_4, lk_5, lk_6, put_rd, put_rd0, len_rd, mu_same, mu_mu, true_and, and_true, Bool.not_true, Bool.not_false, if_true, if_false, Bool.false_eq_true, decide_true, decide_false, Bool.true_eq_false, ite_true, ite_false, eq_self_iff_true, rcv_s, dig_bm, low_bm, e45', isd hal, hdg]); (try simp only [fold_rd1, fold_rd])
            exact ⟨by decide, _, MSub.refl _, q⟩
          · have e48 : (some c == some 48) = false := by simpa using h48
            (try simp only [hd_e, hd_d, hd_0, hd_o, hd_c, hd_s, hd_in, List.head?_cons, List.head?_nil, List.isEmpty_cons, List.isEmpty_nil, List.cons_append, List.nil_append, beq_self_eq_true, gt, clsW, fldW, add_ii, add_ss, add_tt, add_ff, sub_ii, mul_ii, div_ii, mod_ii, pow_ii, neg_i, lt_ii, le_ii, gt_ii, ge_ii, eq_ii, eq_ss, eq_bb, ne_ii, ne_ss, in_ss, int_i, int_b, int_s, cut_s, len_s, len_t, len_f, len_sc, str_i, str_s, tupof_f, lk_at, lk_s, lk_1, lk_2, lk_3, lk_4, lk_5, lk_6, put_rd, put_rd0, len_rd, mu_same, mu_mu, true_and, and_true, Bool.not_true, Bool.not_false, if_true, if_false, Bool.false_eq_true, decide_true, decide_false, Bool.true_eq_false, ite_true, ite_false, eq_self_iff_true, rcv_s, dig_bm, low_bm, e48, isd hal, hdg]); (try simp only [fold_rd1, fold_rd])
            have en : numR (c :: r) = (if (run digP 40 (c :: r)).isEmpty then .inr 0 else .inl (dval (run digP 40 (c :: r)), (run digP 40 (c :: r)).length)) := by
              rw [numR]
              · intro r2 e2; cases e2; exact h45 rfl
              · intro r2 e2; cases e2; exact h45 rfl
              · intro r2 e2; cases e2; exact h48 rfl
            have hne : (run digP 40 (c :: r)).isEmpty = false := by rw [run, if_pos hdc]; rfl
            have el : leafR (c :: r) = .inl ((c :: r).take (run digP 40 (c :: r)).length, .int (dval (run digP 40 (c :: r)))) := by
              unfold leafR
              rw [if_pos hnh, en, hne]
              rfl
            rw [el] at q
            have q' : R (.fl [.int ((n + (run digP 40 (c :: r)).length : Nat) : Int), .non]) M := by
              have q2 := q
              simp only [leafW, take_run] at q2
              exact q2
            refine ⟨fun m ρ M1 => ∃ k, k ≤ (run digP 40 (c :: r)).length ∧ m = (run digP 40 (c :: r)).length - k ∧ ρ = [some (.str z), some (.int (n : Int)), some (.str (hd1 (c :: r))), some (.int (n : Int)), some (.str (hd1 (c :: r))), some (.int ((n + k : Nat) : Int))] ∧ M1 = M, ⟨_, 0, Nat.zero_le _, rfl, rfl, rfl⟩, ?_⟩
            rintro m ρ M1 ⟨k, hk, rfl, rfl, rfl⟩
            (try simp only [hd_e, hd_d, hd_0, hd_o, hd_c, hd_s, hd_in, List.head?_cons, List.head?_nil, List.isEmpty_cons, List.isEmpty_nil, List.cons_append, List.nil_append, beq_self_eq_true, gt, clsW, fldW, add_ii, add_ss, add_tt, add_ff, sub_ii, mul_ii, div_ii, mod_ii, pow_ii, neg_i, lt_ii, le_ii, gt_ii, ge_ii, eq_ii, eq_ss, eq_bb, ne_ii, ne_ss, in_ss, int_i, int_b, int_s, cut_s, len_s, len_t, len_f, len_sc, str_i, str_s, tupof_f, lk_at, lk_s, lk_1, lk_2, lk_3, lk_4, lk_5, lk_6, put_rd, put_rd0, len_rd, mu_same, mu_mu, true_and, and_true, Bool.not_true, Bool.not_false, if_true, if_false, Bool.false_eq_true, decide_true, decide_false, Bool.true_eq_false, ite_true, ite_false, eq_self_iff_true, rcv_s, dig_bm, low_bm, true_and]); (try simp only [fold_rd1, fold_rd])
            refine ⟨hz, ?_⟩
            rw [cut1, isd (asc_drop ha _)]
            rcases Nat.lt_or_ge k (run digP 40 (c :: r)).length with hlt | hge
            · obtain ⟨c, r2, e1, e2, e3⟩ := run_go hlt
              have e4 : (tls z).drop (n + k) = c :: r2 := by rw [← List.drop_drop, hl]; exact e1
              have e5 : h1P digP ((tls z).drop (n + k)) = true := by rw [e4]; exact e2
              have e6 : decide (((n + k : Nat) : Int) < (n : Int) + 40) = true := decide_eq_true (by omega)
              (try simp only [hd_e, hd_d, hd_0, hd_o, hd_c, hd_s, hd_in, List.head?_cons, List.head?_nil, List.isEmpty_cons, List.isEmpty_nil, List.cons_append, List.nil_append, beq_self_eq_true, gt, clsW, fldW, add_ii, add_ss, add_tt, add_ff, sub_ii, mul_ii, div_ii, mod_ii, pow_ii, neg_i, lt_ii, le_ii, gt_ii, ge_ii, eq_ii, eq_ss, eq_bb, ne_ii, ne_ss, in_ss, int_i, int_b, int_s, cut_s, len_s, len_t, len_f, len_sc, str_i, str_s, tupof_f, lk_at, lk_s, lk_1, lk_2, lk_3, lk_4, lk_5, lk_6, put_rd, put_rd0, len_rd, mu_same, mu_mu, true_and, and_true, Bool.not_true, Bool.not_false, if_true, if_false, Bool.false_eq_true, decide_true, decide_false, Bool.true_eq_false, ite_true, ite_false, eq_self_iff_true, rcv_s, dig_bm, low_bm, e5, e6]); (try simp only [fold_rd1, fold_rd])
              exact ⟨_, by omega, k + 1, hlt, rfl, rfl⟩
            · have ek : k = (run digP 40 (c :: r)).length := by omega
              subst ek
              have e7 : h1P digP ((tls z).drop (n + (run digP 40 (c :: r)).length)) = false ∨ (run digP 40 (c :: r)).length = 40 := by
                rw [← List.drop_drop, hl]; exact run_end
              have e8 : h1P digP ((tls z).drop (n + (run digP 40 (c :: r)).length)) = true → decide (((n + (run digP 40 (c :: r)).length : Nat) : Int) < (n : Int) + 40) = false := fun h => by
                rcases e7 with e | e
                · rw [h] at e; cases e
                · exact decide_eq_false (by omega)
              cases e9 : h1P digP ((tls z).drop (n + (run digP 40 (c :: r)).length)) with
              | true =>
                (try simp only [hd_e, hd_d, hd_0, hd_o, hd_c, hd_s, hd_in, List.head?_cons, List.head?_nil, List.isEmpty_cons, List.isEmpty_nil, List.cons_append, List.nil_append, beq_self_eq_true, gt, clsW, fldW, add_ii, add_ss, add_tt, add_ff, sub_ii, mul_ii, div_ii, mod_ii, pow_ii, neg_i, lt_ii, le_ii, gt_ii, ge_ii, eq_ii, eq_ss, eq_bb, ne_ii, ne_ss, in_ss, int_i, int_b, int_s, cut_s, len_s, len_t, len_f, len_sc, str_i, str_s, tupof_f, lk_at, lk_s, lk_1, lk_2, lk_3, lk_4, lk_5, lk_6, put_rd, put_rd0, len_rd, mu_same, mu_mu, true_and, and_true, Bool.not_true, Bool.not_false, if_true, if_false, Bool.false_eq_true, decide_true, decide_false, Bool.true_eq_false, ite_true, ite_false, eq_self_iff_true, rcv_s, dig_bm, low_bm, e8 e9]); (try simp only [fold_rd1, fold_rd])
                exact ⟨by decide, _, MSub.refl _, q'⟩
              | false =>
                (try simp only [hd_e, hd_d, hd_0, hd_o, hd_c, hd_s, hd_in, List.head?_cons, List.head?_nil, List.isEmpty_cons, List.isEmpty_nil, List.cons_append, List.nil_append, beq_self_eq_true, gt, clsW, fldW, add_ii, add_ss, add_tt, add_ff, sub_ii, mul_ii, div_ii, mod_ii, pow_ii, neg_i, lt_ii, le_ii, gt_ii, ge_ii, eq_ii, eq_ss, eq_bb, ne_ii, ne_ss, in_ss, int_i, int_b, int_s, cut_s, len_s, len_t, len_f, len_sc, str_i, str_s, tupof_f, lk_at, lk_s, lk_1, lk_2, lk_3, lk_4, lk_5, lk_6, put_rd, put_rd0, len_rd, mu_same, mu_mu, true_and, and_true, Bool.not_true, Bool.not_false, if_true, if_false, Bool.false_eq_true, decide_true, decide_false, Bool.true_eq_false, ite_true, ite_false, eq_self_iff_true, rcv_s, dig_bm, low_bm]); (try simp only [fold_rd1, fold_rd])
                exact ⟨by decide, _, MSub.refl _, q'⟩
      | false =>
        have hnh : numHead l = false := by
          cases l with
          | nil => rfl
          | cons c r =>
            have h1 : digP c = false := hdg
            have h2 : c ≠ 45 := fun e => h45 (by rw [e]; rfl)
            simp [numHead, h1, h2]
        unfold leafR at q
        rw [if_neg (by rw [hnh]; simp)] at q
        (try simp only [hd_e, hd_d, hd_0, hd_o, hd_c, hd_s, hd_in, List.head?_cons, List.head?_nil, List.isEmpty_cons, List.isEmpty_nil, List.cons_append, List.nil_append, beq_self_eq_true, gt, clsW, fldW, add_ii, add_ss, add_tt, add_ff, sub_ii, mul_ii, div_ii, mod_ii, pow_ii, neg_i, lt_ii, le_ii, gt_ii, ge_ii, eq_ii, eq_ss, eq_bb, ne_ii, ne_ss, in_ss, int_i, int_b, int_s, cut_s, len_s, len_t, len_f, len_sc, str_i, str_s, tupof_f, lk_at, lk_s, lk_1, lk_2, lk_3, lk_4, lk_5, lk_6, put_rd, put_rd0, len_rd, mu_same, mu_mu, true_and, and_true, Bool.not_true, Bool.not_false, if_true, if_false, Bool.false_eq_true, decide_true, decide_false, Bool.true_eq_false, ite_true, ite_false, eq_self_iff_true, rcv_s, dig_bm, low_bm]); (try simp only [fold_rd1, fold_rd])
        refine ⟨fun m ρ M1 => ∃ k, k ≤ (run lowP 12 l).length ∧ m = (run lowP 12 l).length - k ∧ ρ = [some (.str z), some (.int (n : Int)), some (.str (hd1 l)), none, none, some (.int ((n + k : Nat) : Int))] ∧ M1 = M, ⟨_, 0, Nat.zero_le _, rfl, rfl, rfl⟩, ?_⟩
        rintro m ρ M1 ⟨k, hk, rfl, rfl, rfl⟩
        (try simp only [hd_e, hd_d, hd_0, hd_o, hd_c, hd_s, hd_in, List.head?_cons, List.head?_nil, List.isEmpty_cons, List.isEmpty_nil, List.cons_append, List.nil_append, beq_self_eq_true, gt, clsW, fldW, add_ii, add_ss, add_tt, add_ff, sub_ii, mul_ii, div_ii, mod_ii, pow_ii, neg_i, lt_ii, le_ii, gt_ii, ge_ii, eq_ii, eq_ss, eq_bb, ne_ii, ne_ss, in_ss, int_i, int_b, int_s, cut_s, len_s, len_t, len_f, len_sc, str_i, str_s, tupof_f, lk_at, lk_s, lk_1, lk_2, lk_3, lk_4, lk_5, lk_6, put_rd, put_rd0, len_rd, mu_same, mu_mu, true_and, and_true, Bool.not_true, Bool.not_false, if_true, if_false, Bool.false_eq_true, decide_true, decide_false, Bool.true_eq_false, ite_true, ite_false, eq_self_iff_true, rcv_s, dig_bm, low_bm, true_and]); (try simp only [fold_rd1, fold_rd])
        refine ⟨hz, ?_⟩
        rw [cut1, isl (asc_drop ha _)]
        rcases Nat.lt_or_ge k (run lowP 12 l).length with hlt | hge
        · obtain ⟨c, r2, e1, e2, e3⟩ := run_go hlt
          have e4 : (tls z).drop (n + k) = c :: r2 := by rw [← List.drop_drop, hl]; exact e1
          have e5 : h1P lowP ((tls z).drop (n + k)) = true := by rw [e4]; exact e2
          have e6 : decide (((n + k : Nat) : Int) < (n : Int) + 12) = true := decide_eq_true (by omega)
          (try simp only [hd_e, hd_d, hd_0, hd_o, hd_c, hd_s, hd_in, List.head?_cons, List.head?_nil, List.isEmpty_cons, List.isEmpty_nil, List.cons_append, List.nil_append, beq_self_eq_true, gt, clsW, fldW, add_ii, add_ss, add_tt, add_ff, sub_ii, mul_ii, div_ii, mod_ii, pow_ii, neg_i, lt_ii, le_ii, gt_ii, ge_ii, eq_ii, eq_ss, eq_bb, ne_ii, ne_ss, in_ss, int_i, int_b, int_s, cut_s, len_s, len_t, len_f, len_sc, str_i, str_s, tupof_f, lk_at, lk_s, lk_1, lk_2, lk_3, lk_4, lk_5, lk_6, put_rd, put_rd0, len_rd, mu_same, mu_mu, true_and, and_true, Bool.not_true, Bool.not_false, if_true, if_false, Bool.false_eq_true, decide_true, decide_false, Bool.true_eq_false, ite_true, ite_false, eq_self_iff_true, rcv_s, dig_bm, low_bm, e5, e6]); (try simp only [fold_rd1, fold_rd])
          exact ⟨_, by omega, k + 1, hlt, rfl, rfl⟩
        · have ek : k = (run lowP 12 l).length := by omega
          subst ek
          have e7 : h1P lowP ((tls z).drop (n + (run lowP 12 l).length)) = false ∨ (run lowP 12 l).length = 12 := by
            rw [← List.drop_drop, hl]; exact run_end
          have e8 : h1P lowP ((tls z).drop (n + (run lowP 12 l).length)) = true → decide (((n + (run lowP 12 l).length : Nat) : Int) < (n : Int) + 12) = false := fun h => by
            rcases e7 with e | e
            · rw [h] at e; cases e
            · exact decide_eq_false (by omega)
          cases e9 : h1P lowP ((tls z).drop (n + (run lowP 12 l).length)) with
          | true =>
            (try simp only [hd_e, hd_d, hd_0, hd_o, hd_c, hd_s, hd_in, List.head?_cons, List.head?_nil, List.isEmpty_cons, List.isEmpty_nil, List.cons_append, List.nil_append, beq_self_eq_true, gt, clsW, fldW, add_ii, add_ss, add_tt, add_ff, sub_ii, mul_ii, div_ii, mod_ii, pow_ii, neg_i, lt_ii, le_ii, gt_ii, ge_ii, eq_ii, eq_ss, eq_bb, ne_ii, ne_ss, in_ss, int_i, int_b, int_s, cut_s, len_s, len_t, len_f, len_sc, str_i, str_s, tupof_f, lk_at, lk_s, lk_1, lk_2, lk_3, lk_4, lk_5, lk_6, put_rd, put_rd0, len_rd, mu_same, mu_mu, true_and, and_true, Bool.not_true, Bool.not_false, if_true, if_false, Bool.false_eq_true, decide_true, decide_false, Bool.true_eq_false, ite_true, ite_false, eq_self_iff_true, rcv_s, dig_bm, low_bm, e8 e9]); (try simp only [fold_rd1, fold_rd])
            by_cases hx0 : run lowP 12 l = []
            · have ne : decide (((n + (run lowP 12 l).length : Nat) : Int) = (n : Int)) = true := decide_eq_true (by rw [hx0]; simp)
              rw [hx0] at q
              (try simp only [hd_e, hd_d, hd_0, hd_o, hd_c, hd_s, hd_in, List.head?_cons, List.head?_nil, List.isEmpty_cons, List.isEmpty_nil, List.cons_append, List.nil_append, beq_self_eq_true, gt, clsW, fldW, add_ii, add_ss, add_tt, add_ff, sub_ii, mul_ii, div_ii, mod_ii, pow_ii, neg_i, lt_ii, le_ii, gt_ii, ge_ii, eq_ii, eq_ss, eq_bb, ne_ii, ne_ss, in_ss, int_i, int_b, int_s, cut_s, len_s, len_t, len_f, len_sc, str_i, str_s, tupof_f, lk_at, lk_s, lk_1, lk_2, lk_3, lk_4, lk_5, lk_6, put_rd, put_rd0, len_rd, mu_same, mu_mu, true_and, and_true, Bool.not_true, Bool.not_false, if_true, if_false, Bool.false_eq_true, decide_true, decide_false, Bool.true_eq_false, ite_true, ite_false, eq_self_iff_true, rcv_s, dig_bm, low_bm, ne]); (try simp only [fold_rd1, fold_rd])
              exact ⟨by decide, _, MSub.refl _, q⟩
            · have ne : decide (((n + (run lowP 12 l).length : Nat) : Int) = (n : Int)) = false := decide_eq_false (by have := List.length_pos_iff.mpr hx0; omega)
              have he : (run lowP 12 l).isEmpty = false := by
                cases e : run lowP 12 l with
                | nil => exact absurd e hx0
                | cons => rfl
              rw [he] at q
              (try simp only [hd_e, hd_d, hd_0, hd_o, hd_c, hd_s, hd_in, List.head?_cons, List.head?_nil, List.isEmpty_cons, List.isEmpty_nil, List.cons_append, List.nil_append, beq_self_eq_true, gt, clsW, fldW, add_ii, add_ss, add_tt, add_ff, sub_ii, mul_ii, div_ii, mod_ii, pow_ii, neg_i, lt_ii, le_ii, gt_ii, ge_ii, eq_ii, eq_ss, eq_bb, ne_ii, ne_ss, in_ss, int_i, int_b, int_s, cut_s, len_s, len_t, len_f, len_sc, str_i, str_s, tupof_f, lk_at, lk_s, lk_1, lk_2, lk_3, lk_4, lk_5, lk_6, put_rd, put_rd0, len_rd, mu_same, mu_mu, true_and, and_true, Bool.not_true, Bool.not_false, if_true, if_false, Bool.false_eq_true, decide_true, decide_false, Bool.true_eq_false, ite_true, ite_false, eq_self_iff_true, rcv_s, dig_bm, low_bm, ne]); (try simp only [fold_rd1, fold_rd])
              exact ⟨by decide, _, MSub.refl _, q⟩
          | false =>
            (try simp only [hd_e, hd_d, hd_0, hd_o, hd_c, hd_s, hd_in, List.head?_cons, List.head?_nil, List.isEmpty_cons, List.isEmpty_nil, List.cons_append, List.nil_append, beq_self_eq_true, gt, clsW, fldW, add_ii, add_ss, add_tt, add_ff, sub_ii, mul_ii, div_ii, mod_ii, pow_ii, neg_i, lt_ii, le_ii, gt_ii, ge_ii, eq_ii, eq_ss, eq_bb, ne_ii, ne_ss, in_ss, int_i, int_b, int_s, cut_s, len_s, len_t, len_f, len_sc, str_i, str_s, tupof_f, lk_at, lk_s, lk_1, lk_2, lk_3, lk_4, lk_5, lk_6, put_rd, put_rd0, len_rd, mu_same, mu_mu, true_and, and_true, Bool.not_true, Bool.not_false, if_true, if_false, Bool.false_eq_true, decide_true, decide_false, Bool.true_eq_false, ite_true, ite_false, eq_self_iff_true, rcv_s, dig_bm, low_bm]); (try simp only [fold_rd1, fold_rd])
            by_cases hx0 : run lowP 12 l = []
            · have ne : decide (((n + (run lowP 12 l).length : Nat) : Int) = (n : Int)) = true := decide_eq_true (by rw [hx0]; simp)
              rw [hx0] at q
              (try simp only [hd_e, hd_d, hd_0, hd_o, hd_c, hd_s, hd_in, List.head?_cons, List.head?_nil, List.isEmpty_cons, List.isEmpty_nil, List.cons_append, List.nil_append, beq_self_eq_true, gt, clsW, fldW, add_ii, add_ss, add_tt, add_ff, sub_ii, mul_ii, div_ii, mod_ii, pow_ii, neg_i, lt_ii, le_ii, gt_ii, ge_ii, eq_ii, eq_ss, eq_bb, ne_ii, ne_ss, in_ss, int_i, int_b, int_s, cut_s, len_s, len_t, len_f, len_sc, str_i, str_s, tupof_f, lk_at, lk_s, lk_1, lk_2, lk_3, lk_4, lk_5, lk_6, put_rd, put_rd0, len_rd, mu_same, mu_mu, true_and, and_true, Bool.not_true, Bool.not_false, if_true, if_false, Bool.false_eq_true, decide_true, decide_false, Bool.true_eq_false, ite_true, ite_false, eq_self_iff_true, rcv_s, dig_bm, low_bm, ne]); (try simp only [fold_rd1, fold_rd])
              exact ⟨by decide, _, MSub.refl _, q⟩
            · have ne : decide (((n + (run lowP 12 l).length : Nat) : Int) = (n : Int)) = false := decide_eq_false (by have := List.length_pos_iff.mpr hx0; omega)
              have he : (run lowP 12 l).isEmpty = false := by
                cases e : run lowP 12 l with
                | nil => exact absurd e hx0
                | cons => rfl
              rw [he] at q
              (try simp only [hd_e, hd_d, hd_0, hd_o, hd_c, hd_s, hd_in, List.head?_cons, List.head?_nil, List.isEmpty_cons, List.isEmpty_nil, List.cons_append, List.nil_append, beq_self_eq_true, gt, clsW, fldW, add_ii, add_ss, add_tt, add_ff, sub_ii, mul_ii, div_ii, mod_ii, pow_ii, neg_i, lt_ii, le_ii, gt_ii, ge_ii, eq_ii, eq_ss, eq_bb, ne_ii, ne_ss, in_ss, int_i, int_b, int_s, cut_s, len_s, len_t, len_f, len_sc, str_i, str_s, tupof_f, lk_at, lk_s, lk_1, lk_2, lk_3, lk_4, lk_5, lk_6, put_rd, put_rd0, len_rd, mu_same, mu_mu, true_and, and_true, Bool.not_true, Bool.not_false, if_true, if_false, Bool.false_eq_true, decide_true, decide_false, Bool.true_eq_false, ite_true, ite_false, eq_self_iff_true, rcv_s, dig_bm, low_bm, ne]); (try simp only [fold_rd1, fold_rd])
              exact ⟨by decide, _, MSub.refl _, q⟩
theorem ok__law_leaf_end (T : Tx P w K mg base)  : FF P w K mg base (1) T.A__law_leaf_end ["_law_line", "_law_at_here"] (sp__law_leaf_end T) := by
  obtain ⟨fd, F, hb, _⟩ := T.F__law_leaf_end
  exact ⟨⟨fd, fo__law_leaf_end T F , hb⟩, F.kp⟩

end Ri
set_option Elab.async false
set_option linter.all false
set_option maxRecDepth 100000
set_option maxHeartbeats 4000000

namespace Ri
open PySem L2 PySem.Calls PyProof.Rows

variable {P : Program} {w : World} {K : PySem.W.Frag} {mg : Str → Option Value} {base : Heap}
def wrongW : Res → W
  | .ok _ [] _ => .non
  | .ok _ (_ :: _) m => .int (m : Int)
  | .bad k => .int (k : Int)
def sp__law_wrong_at (T : Tx P w K mg base) : MSp := fun ws M R _ => ∃ z res, ws = [.str z] ∧ z.length ≤ sizeLine ∧ asc z ∧ Run [] (tls z) 0 none res ∧ R (wrongW res) M
theorem is_n {x : W} {M : MH} {R : MQ} : mIs x .non M R = R (.bl (isNon x)) M := rfl
def Fl (sk : List (List D)) (l : List Nat) (n : Nat) (res : Res) (still : Int) (wants : Bool) : Prop :=
  (wants = true ∧ still = (sk.length : Int) ∧ Run sk l n none res) ∨ (wants = false ∧ still = (sk.length : Int) ∧ ∃ d, Run sk l n (some d) res) ∨
  (wants = false ∧ still = (sk.length : Int) + 1 ∧ ∃ r, l = 41 :: r ∧ Run sk r (n + 1) (some (.t [])) res)

theorem fo__law_wrong_at {fd : FuncData} (T : Tx P w K mg base) (F : Fun K "_law_wrong_at" "_law_wrong_at" s__law_wrong_at T.A__law_wrong_at fd)  : FnOk P w K mg base (L2.CX P w) (2) T.A__law_wrong_at fd ["_law_line"] (upS K (sp__law_wrong_at T)) := by
  refine fn_rich F sc__law_wrong_at (fun ws M R RX h => ?len) (fun cdv A outer s H E F0 ws M R RX hr hsp hx hp => ⟨_, (qss_cons (qs_set (i := 1) sc__law_wrong_at.nd rfl (by first | exact Or.inl rfl | exact Or.inr rfl) qe_int)
      (qss_cons (qs_set (i := 2) sc__law_wrong_at.nd rfl (by first | exact Or.inl rfl | exact Or.inr rfl) qe_int)
      (qss_cons (qs_set (i := 3) sc__law_wrong_at.nd rfl (by first | exact Or.inl rfl | exact Or.inr rfl) qe_bl)
      (qss_cons (qs_while hp (QW.qt (qw_or (qt_val (qv 3)) (qw_or1 (qt_cmp q_gt (qv 1) qe_int (nomark _))))) (qss_cons (qs_set (i := 4) sc__law_wrong_at.nd rfl (by first | exact Or.inl rfl | exact Or.inr rfl) (qe_slice q_cut (qv 0) (qo_some (qv 2)) (qo_some (qe_op q_add (qv 2) qe_int))))
      (qss_one (qs_if (QW.qt (qw_and (qt_val (qv 3)) (qw_and1 (qt_cmp (q_eq hr.units) (qv 4) qe_str (nomark _))))) (qss_cons (qs_set (i := 1) sc__law_wrong_at.nd rfl (by first | exact Or.inl rfl | exact Or.inr rfl) (qe_op q_add (qv 1) qe_int))
      (qss_cons (qs_set (i := 2) sc__law_wrong_at.nd rfl (by first | exact Or.inl rfl | exact Or.inr rfl) (qe_op q_add (qv 2) qe_int))
      (qss_one (qs_set (i := 3) sc__law_wrong_at.nd rfl (by first | exact Or.inl rfl | exact Or.inr rfl) (qe_cmp (q_ne hr.units) (qe_slice q_cut (qv 0) (qo_some (qv 2)) (qo_some (qe_op q_add (qv 2) qe_int))) qe_str (nomark _)))))) (qss_one (qs_if (qt_val (qv 3)) (qss_cons (qs_asg (qe_call (ok__law_leaf_end T) (hr.mono (by omega)) rfl T.m__law_leaf_end hx (qa_cons (qv 0) (qa_cons (qv 2) qa_nil))) (qg_lst (n := 2) rfl (qgs_cons (qg_name (i := 2) sc__law_wrong_at.nd rfl (by first | exact Or.inl rfl | exact Or.inr rfl)) (qgs_cons (qg_name (i := 5) sc__law_wrong_at.nd rfl (by first | exact Or.inl rfl | exact Or.inr rfl)) qgs_nil))))
      (qss_cons (qs_if (qt_cmp q_is (qv 2) qe_non (nomark _)) (qss_one (qs_ret (qv 5))) qss_nil)
      (qss_one (qs_set (i := 3) sc__law_wrong_at.nd rfl (by first | exact Or.inl rfl | exact Or.inr rfl) qe_bl)))) (qss_one (qs_if (qt_cmp (q_eq hr.units) (qv 4) qe_str (nomark _)) (qss_cons (qs_set (i := 1) sc__law_wrong_at.nd rfl (by first | exact Or.inl rfl | exact Or.inr rfl) (qe_op q_sub (qv 1) qe_int))
      (qss_one (qs_set (i := 2) sc__law_wrong_at.nd rfl (by first | exact Or.inl rfl | exact Or.inr rfl) (qe_op q_add (qv 2) qe_int)))) (qss_one (qs_if (qt_cmp (q_eq hr.units) (qv 4) qe_str (nomark _)) (qss_cons (qs_set (i := 2) sc__law_wrong_at.nd rfl (by first | exact Or.inl rfl | exact Or.inr rfl) (qe_op q_add (qv 2) qe_int))
      (qss_one (qs_set (i := 3) sc__law_wrong_at.nd rfl (by first | exact Or.inl rfl | exact Or.inr rfl) qe_bl))) (qss_one (qs_ret (qv 2)))))))))))))
      (qss_one (qs_ret (qe_ix q_ix (qe_fl (qa_cons qe_non (qa_cons (qv 2) qa_nil))) (qe_callTy c_int rfl T.z_int (by decide +kernel) (qa_cons (qe_cmp q_lt (qv 2) (qe_callB c_len rfl T.z_len (by decide +kernel) (qa_cons (qv 0) qa_nil)) (nomark _)) qa_nil)) (fun _ _ => rfl)))))))), ?body⟩)
  case len => (unfold sp__law_wrong_at at h; first | (obtain ⟨_, rfl, _⟩ := h; rfl) | (obtain ⟨_, _, rfl, _⟩ := h; rfl) | (obtain ⟨_, _, _, rfl, _⟩ := h; rfl) | (obtain ⟨_, _, _, _, rfl, _⟩ := h; rfl) | (obtain ⟨_, _, _, _, _, rfl, _⟩ := h; rfl) | (obtain ⟨_, _, _, _, _, _, rfl, _⟩ := h; rfl) | (obtain ⟨_, _, _, _, _, _, _, rfl, _⟩ := h; rfl) | (obtain ⟨_, _, _, _, _, _, _, _, rfl, _⟩ := h; rfl))
  case body =>
    obtain ⟨z, res, rfl, hz, ha, hrun, q⟩ := hsp
    have hzl : z.length = (tls z).length := len_tls z
    refine seq_have (fun ρ M1 => ρ = [some (.str z), some (.int 0), none, none, none, none] ∧ M1 = M) ?a2 ?a1
    case a1 =>
      intro G hG
      simp only [mVar, gt, mC, mOp, mUn, mTest, mChain, mAnd, mOr, mNot, mAndV, mOrV, mNotV, mIf, mNil, mCons, mTup, mFl, mLst, mCB, mBM0, mBM, mSl, mPart, mNoPart, mSeq, mNext, mDrop, mCont, mBreak, mRet, mIfS, mAsg, nName, st, startW, mFld, mSetFld, mAugFld, mMeth, mCall, mRaise, List.map_cons, List.map_nil, List.length_cons, List.length_nil, List.replicate, List.cons_append, List.nil_append, Nat.zero_add, Nat.reduceAdd, Nat.reduceSub, Nat.sub_self, mWhile, add_ii, add_ss, add_tt, add_ff, sub_ii, mul_ii, div_ii, mod_ii, pow_ii, neg_i, lt_ii, le_ii, gt_ii, ge_ii, eq_ii, eq_ss, eq_bb, ne_ii, ne_ss, in_ss, int_i, int_b, int_s, cut_s, len_s, len_t, len_f, len_sc, str_i, str_s, tupof_f, mNeL, mEqL, rcv_s, dig_bm, low_bm, true_and]
      exact hG _ _ ⟨rfl, rfl⟩
    case a2 =>
      rintro ρ M1 ⟨rfl, rfl⟩
      refine seq_have (fun ρ M2 => ρ = [some (.str z), some (.int 0), some (.int 0), none, none, none] ∧ M2 = M1) ?b2 ?b1
      case b1 =>
        intro G hG
        simp only [mVar, gt, mC, mOp, mUn, mTest, mChain, mAnd, mOr, mNot, mAndV, mOrV, mNotV, mIf, mNil, mCons, mTup, mFl, mLst, mCB, mBM0, mBM, mSl, mPart, mNoPart, mSeq, mNext, mDrop, mCont, mBreak, mRet, mIfS, mAsg, nName, st, startW, mFld, mSetFld, mAugFld, mMeth, mCall, mRaise, List.map_cons, List.map_nil, List.length_cons, List.length_nil, List.replicate, List.cons_append, List.nil_append, Nat.zero_add, Nat.reduceAdd, Nat.reduceSub, Nat.sub_self, mWhile, add_ii, add_ss, add_tt, add_ff, sub_ii, mul_ii, div_ii, mod_ii, pow_ii, neg_i, lt_ii, le_ii, gt_ii, ge_ii, eq_ii, eq_ss, eq_bb, ne_ii, ne_ss, in_ss, int_i, int_b, int_s, cut_s, len_s, len_t, len_f, len_sc, str_i, str_s, tupof_f, mNeL, mEqL, rcv_s, dig_bm, low_bm, true_and]
        exact hG _ _ ⟨rfl, rfl⟩
      case b2 =>
        rintro ρ M2 ⟨rfl, rfl⟩
        refine seq_have (fun ρ M3 => ρ = [some (.str z), some (.int 0), some (.int 0), some (.bl true), none, none] ∧ M3 = M2) ?c2 ?c1
        case c1 =>
          intro G hG
          simp only [mVar, gt, mC, mOp, mUn, mTest, mChain, mAnd, mOr, mNot, mAndV, mOrV, mNotV, mIf, mNil, mCons, mTup, mFl, mLst, mCB, mBM0, mBM, mSl, mPart, mNoPart, mSeq, mNext, mDrop, mCont, mBreak, mRet, mIfS, mAsg, nName, st, startW, mFld, mSetFld, mAugFld, mMeth, mCall, mRaise, List.map_cons, List.map_nil, List.length_cons, List.length_nil, List.replicate, List.cons_append, List.nil_append, Nat.zero_add, Nat.reduceAdd, Nat.reduceSub, Nat.sub_self, mWhile, add_ii, add_ss, add_tt, add_ff, sub_ii, mul_ii, div_ii, mod_ii, pow_ii, neg_i, lt_ii, le_ii, gt_ii, ge_ii, eq_ii, eq_ss, eq_bb, ne_ii, ne_ss, in_ss, int_i, int_b, int_s, cut_s, len_s, len_t, len_f, len_sc, str_i, str_s, tupof_f, mNeL, mEqL, rcv_s, dig_bm, low_bm, true_and]
          exact hG _ _ ⟨rfl, rfl⟩
        case c2 =>
          rintro ρ M3 ⟨rfl, rfl⟩
          refine seq_have (fun ρ M4 => M4 = M3 ∧ ∃ s d l n a b, ρ = [some (.str z), s, some (.int ((n : Nat) : Int)), some (.bl false), a, b] ∧ n ≤ (tls z).length ∧ (tls z).drop n = l ∧ res = .ok d l n) ?d2 ?d1
          case d1 =>
            intro G hG
            unfold mWhile
            refine ⟨fun m ρ M4 => M4 = M3 ∧ ∃ sk l n still wants a b, ρ = [some (.str z), some (.int still), some (.int ((n : Nat) : Int)), some (.bl wants), a, b] ∧ n ≤ (tls z).length ∧ (tls z).drop n = l ∧ Fl sk l n res still wants ∧ m = l.length, ⟨_, rfl, [], tls z, 0, 0, true, none, none, rfl, Nat.zero_le _, rfl, .inl ⟨rfl, rfl, hrun⟩, rfl⟩, ?_⟩
            rintro m ρ M4 ⟨rfl, sk, l, n, still, wants, a, b, rfl, hnz, hn, hf, rfl⟩
            have hal : ∀ c ∈ l, c < 128 := by rw [← hn]; exact asc_drop ha n
            simp only [mVar, gt, mC, mOp, mUn, mTest, mChain, mAnd, mOr, mNot, mAndV, mOrV, mNotV, mIf, mNil, mCons, mTup, mFl, mLst, mCB, mBM0, mBM, mSl, mPart, mNoPart, mSeq, mNext, mDrop, mCont, mBreak, mRet, mIfS, mAsg, nName, st, startW, mFld, mSetFld, mAugFld, mMeth, mCall, mRaise, List.map_cons, List.map_nil, List.length_cons, List.length_nil, List.replicate, List.cons_append, List.nil_append, Nat.zero_add, Nat.reduceAdd, Nat.reduceSub, Nat.sub_self, mWhile, add_ii, add_ss, add_tt, add_ff, sub_ii, mul_ii, div_ii, mod_ii, pow_ii, neg_i, lt_ii, le_ii, gt_ii, ge_ii, eq_ii, eq_ss, eq_bb, ne_ii, ne_ss, in_ss, int_i, int_b, int_s, cut_s, len_s, len_t, len_f, len_sc, str_i, str_s, tupof_f, mNeL, mEqL, rcv_s, dig_bm, low_bm, true_and]
            rcases hf with ⟨rfl, rfl, hr⟩ | ⟨rfl, rfl, d, hr⟩ | ⟨rfl, rfl, r, rfl, hr⟩
            · (try simp only [hd_e, hd_d, hd_0, hd_o, hd_c, hd_s, hd_in, List.head?_cons, List.head?_nil, List.isEmpty_cons, List.isEmpty_nil, List.cons_append, List.nil_append, beq_self_eq_true, gt, clsW, fldW, add_ii, add_ss, add_tt, add_ff, sub_ii, mul_ii, div_ii, mod_ii, pow_ii, neg_i, lt_ii, le_ii, gt_ii, ge_ii, eq_ii, eq_ss, eq_bb, ne_ii, ne_ss, in_ss, int_i, int_b, int_s, cut_s, len_s, len_t, len_f, len_sc, str_i, str_s, tupof_f, lk_at, lk_s, lk_1, lk_2, lk_3, lk_4, lk_5, lk_6, put_rd, put_rd0, len_rd, mu_same, mu_mu, true_and, and_true, Bool.not_true, Bool.not_false, if_true, if_false, Bool.false_eq_true, decide_true, decide_false, Bool.true_eq_false, ite_true, ite_false, eq_self_iff_true, rcv_s, dig_bm, low_bm]); (try simp only [fold_rd1, fold_rd])
              refine ⟨hz, ?_⟩
              rw [cut1, hn]
              by_cases h40 : l.head? = some 40
              · cases l with
                | nil => cases h40
                | cons c r =>
                  simp only [List.head?_cons, Option.some.injEq] at h40
                  subst h40
                  have hr1 : (tls z).drop (n + 1) = r := by rw [← List.drop_drop, hn]; rfl
                  have le1 := le_drop1 hn
                  (try simp only [hd_e, hd_d, hd_0, hd_o, hd_c, hd_s, hd_in, List.head?_cons, List.head?_nil, List.isEmpty_cons, List.isEmpty_nil, List.cons_append, List.nil_append, beq_self_eq_true, gt, clsW, fldW, add_ii, add_ss, add_tt, add_ff, sub_ii, mul_ii, div_ii, mod_ii, pow_ii, neg_i, lt_ii, le_ii, gt_ii, ge_ii, eq_ii, eq_ss, eq_bb, ne_ii, ne_ss, in_ss, int_i, int_b, int_s, cut_s, len_s, len_t, len_f, len_sc, str_i, str_s, tupof_f, lk_at, lk_s, lk_1, lk_2, lk_3, lk_4, lk_5, lk_6, put_rd, put_rd0, len_rd, mu_same, mu_mu, true_and, and_true, Bool.not_true, Bool.not_false, if_true, if_false, Bool.false_eq_true, decide_true, decide_false, Bool.true_eq_false, ite_true, ite_false, eq_self_iff_true, rcv_s, dig_bm, low_bm, cut2, hr1]); (try simp only [fold_rd1, fold_rd])
                  refine ⟨hz, ?_⟩
                  by_cases h41 : r.head? = some 41
                  · cases r with
                    | nil => cases h41
                    | cons c r =>
                      simp only [List.head?_cons, Option.some.injEq] at h41
                      subst h41
                      (try simp only [hd_e, hd_d, hd_0, hd_o, hd_c, hd_s, hd_in, List.head?_cons, List.head?_nil, List.isEmpty_cons, List.isEmpty_nil, List.cons_append, List.nil_append, beq_self_eq_true, gt, clsW, fldW, add_ii, add_ss, add_tt, add_ff, sub_ii, mul_ii, div_ii, mod_ii, pow_ii, neg_i, lt_ii, le_ii, gt_ii, ge_ii, eq_ii, eq_ss, eq_bb, ne_ii, ne_ss, in_ss, int_i, int_b, int_s, cut_s, len_s, len_t, len_f, len_sc, str_i, str_s, tupof_f, lk_at, lk_s, lk_1, lk_2, lk_3, lk_4, lk_5, lk_6, put_rd, put_rd0, len_rd, mu_same, mu_mu, true_and, and_true, Bool.not_true, Bool.not_false, if_true, if_false, Bool.false_eq_true, decide_true, decide_false, Bool.true_eq_false, ite_true, ite_false, eq_self_iff_true, rcv_s, dig_bm, low_bm]); (try simp only [fold_rd1, fold_rd])
                      cases hr with
                      | opn0 h => exact ⟨_, by simp, sk, 41 :: r, n + 1, _, _, _, _, rfl, le1, hr1, .inr (.inr ⟨rfl, rfl, r, rfl, h⟩), rfl⟩
                      | opn h41 _ => exact absurd rfl h41
                      | leaf h40 _ _ => exact absurd rfl h40
                      | bleaf h40 _ => exact absurd rfl h40
                  · have e41 : (r.head? == some 41) = false := by simpa using h41
                    (try simp only [hd_e, hd_d, hd_0, hd_o, hd_c, hd_s, hd_in, List.head?_cons, List.head?_nil, List.isEmpty_cons, List.isEmpty_nil, List.cons_append, List.nil_append, beq_self_eq_true, gt, clsW, fldW, add_ii, add_ss, add_tt, add_ff, sub_ii, mul_ii, div_ii, mod_ii, pow_ii, neg_i, lt_ii, le_ii, gt_ii, ge_ii, eq_ii, eq_ss, eq_bb, ne_ii, ne_ss, in_ss, int_i, int_b, int_s, cut_s, len_s, len_t, len_f, len_sc, str_i, str_s, tupof_f, lk_at, lk_s, lk_1, lk_2, lk_3, lk_4, lk_5, lk_6, put_rd, put_rd0, len_rd, mu_same, mu_mu, true_and, and_true, Bool.not_true, Bool.not_false, if_true, if_false, Bool.false_eq_true, decide_true, decide_false, Bool.true_eq_false, ite_true, ite_false, eq_self_iff_true, rcv_s, dig_bm, low_bm, e41]); (try simp only [fold_rd1, fold_rd])
                    cases hr with
                    | opn0 _ => exact absurd rfl h41
                    | opn _ h => exact ⟨_, by simp, [] :: sk, r, n + 1, _, _, _, _, rfl, le1, hr1, .inl ⟨rfl, by simp, h⟩, rfl⟩
                    | leaf h40 _ _ => exact absurd rfl h40
                    | bleaf h40 _ => exact absurd rfl h40
              · have e40 : (l.head? == some 40) = false := by simpa using h40
                (try simp only [hd_e, hd_d, hd_0, hd_o, hd_c, hd_s, hd_in, List.head?_cons, List.head?_nil, List.isEmpty_cons, List.isEmpty_nil, List.cons_append, List.nil_append, beq_self_eq_true, gt, clsW, fldW, add_ii, add_ss, add_tt, add_ff, sub_ii, mul_ii, div_ii, mod_ii, pow_ii, neg_i, lt_ii, le_ii, gt_ii, ge_ii, eq_ii, eq_ss, eq_bb, ne_ii, ne_ss, in_ss, int_i, int_b, int_s, cut_s, len_s, len_t, len_f, len_sc, str_i, str_s, tupof_f, lk_at, lk_s, lk_1, lk_2, lk_3, lk_4, lk_5, lk_6, put_rd, put_rd0, len_rd, mu_same, mu_mu, true_and, and_true, Bool.not_true, Bool.not_false, if_true, if_false, Bool.false_eq_true, decide_true, decide_false, Bool.true_eq_false, ite_true, ite_false, eq_self_iff_true, rcv_s, dig_bm, low_bm, e40]); (try simp only [fold_rd1, fold_rd])
                refine ⟨z, n, rfl, hz, ha, ?_⟩
                rw [hn]
                cases hr with
                | opn0 _ => exact absurd rfl h40
                | opn _ _ => exact absurd rfl h40
                | @leaf _ _ x v _ _ _ hl h =>
                  obtain ⟨k1, k2, k3⟩ := leafR_ok hl
                  have hle : x.length ≤ l.length := by rw [k3, List.length_take]; omega
                  have hp : 0 < x.length := List.length_pos_iff.mpr k2
                  have hll : l.length = (tls z).length - n := by rw [← hn, List.length_drop]
                  rw [hl]
                  simp only [leafW, nLstT, lw, nCons, nNil]
                  refine ⟨rfl, ?_⟩
                  simp only [mVar, gt, mC, mOp, mUn, mTest, mChain, mAnd, mOr, mNot, mAndV, mOrV, mNotV, mIf, mNil, mCons, mTup, mFl, mLst, mCB, mBM0, mBM, mSl, mPart, mNoPart, mSeq, mNext, mDrop, mCont, mBreak, mRet, mIfS, mAsg, nName, st, startW, mFld, mSetFld, mAugFld, mMeth, mCall, mRaise, List.map_cons, List.map_nil, List.length_cons, List.length_nil, List.replicate, List.cons_append, List.nil_append, Nat.zero_add, Nat.reduceAdd, Nat.reduceSub, Nat.sub_self, mWhile, add_ii, add_ss, add_tt, add_ff, sub_ii, mul_ii, div_ii, mod_ii, pow_ii, neg_i, lt_ii, le_ii, gt_ii, ge_ii, eq_ii, eq_ss, eq_bb, ne_ii, ne_ss, in_ss, int_i, int_b, int_s, cut_s, len_s, len_t, len_f, len_sc, str_i, str_s, tupof_f, mNeL, mEqL, rcv_s, dig_bm, low_bm, true_and]
                  (try simp only [hd_e, hd_d, hd_0, hd_o, hd_c, hd_s, hd_in, List.head?_cons, List.head?_nil, List.isEmpty_cons, List.isEmpty_nil, List.cons_append, List.nil_append, beq_self_eq_true, gt, clsW, fldW, add_ii, add_ss, add_tt, add_ff, sub_ii, mul_ii, div_ii, mod_ii, pow_ii, neg_i, lt_ii, le_ii, gt_ii, ge_ii, eq_ii, eq_ss, eq_bb, ne_ii, ne_ss, in_ss, int_i, int_b, int_s, cut_s, len_s, len_t, len_f, len_sc, str_i, str_s, tupof_f, lk_at, lk_s, lk_1, lk_2, lk_3, lk_4, lk_5, lk_6, put_rd, put_rd0, len_rd, mu_same, mu_mu, true_and, and_true, Bool.not_true, Bool.not_false, if_true, if_false, Bool.false_eq_true, decide_true, decide_false, Bool.true_eq_false, ite_true, ite_false, eq_self_iff_true, rcv_s, dig_bm, low_bm, is_n, isNon]); (try simp only [fold_rd1, fold_rd])
                  exact ⟨_, by rw [List.length_drop]; omega, sk, l.drop x.length, n + x.length, _, _, _, _, rfl, by omega, by rw [← List.drop_drop, hn], .inr (.inl ⟨rfl, rfl, _, h⟩), rfl⟩
                | bleaf _ hl =>
                  rw [hl]
                  simp only [leafW, nLstT, lw, nCons, nNil]
                  refine ⟨rfl, ?_⟩
                  simp only [mVar, gt, mC, mOp, mUn, mTest, mChain, mAnd, mOr, mNot, mAndV, mOrV, mNotV, mIf, mNil, mCons, mTup, mFl, mLst, mCB, mBM0, mBM, mSl, mPart, mNoPart, mSeq, mNext, mDrop, mCont, mBreak, mRet, mIfS, mAsg, nName, st, startW, mFld, mSetFld, mAugFld, mMeth, mCall, mRaise, List.map_cons, List.map_nil, List.length_cons, List.length_nil, List.replicate, List.cons_append, List.nil_append, Nat.zero_add, Nat.reduceAdd, Nat.reduceSub, Nat.sub_self, mWhile, add_ii, add_ss, add_tt, add_ff, sub_ii, mul_ii, div_ii, mod_ii, pow_ii, neg_i, lt_ii, le_ii, gt_ii, ge_ii, eq_ii, eq_ss, eq_bb, ne_ii, ne_ss, in_ss, int_i, int_b, int_s, cut_s, len_s, len_t, len_f, len_sc, str_i, str_s, tupof_f, mNeL, mEqL, rcv_s, dig_bm, low_bm, true_and]
                  (try simp only [hd_e, hd_d, hd_0, hd_o, hd_c, hd_s, hd_in, List.head?_cons, List.head?_nil, List.isEmpty_cons, List.isEmpty_nil, List.cons_append, List.nil_append, beq_self_eq_true, gt, clsW, fldW, add_ii, add_ss, add_tt, add_ff, sub_ii, mul_ii, div_ii, mod_ii, pow_ii, neg_i, lt_ii, le_ii, gt_ii, ge_ii, eq_ii, eq_ss, eq_bb, ne_ii, ne_ss, in_ss, int_i, int_b, int_s, cut_s, len_s, len_t, len_f, len_sc, str_i, str_s, tupof_f, lk_at, lk_s, lk_1, lk_2, lk_3, lk_4, lk_5, lk_6, put_rd, put_rd0, len_rd, mu_same, mu_mu, true_and, and_true, Bool.not_true, Bool.not_false, if_true, if_false, Bool.false_eq_true, decide_true, decide_false, Bool.true_eq_false, ite_true, ite_false, eq_self_iff_true, rcv_s, dig_bm, low_bm, is_n, isNon]); (try simp only [fold_rd1, fold_rd])
                  exact ⟨_, MSub.refl _, q⟩
            · cases sk with
              | nil =>
                have e0 : decide ((0 : Int) < (([] : List (List D)).length : Int)) = false := rfl
                (try simp only [hd_e, hd_d, hd_0, hd_o, hd_c, hd_s, hd_in, List.head?_cons, List.head?_nil, List.isEmpty_cons, List.isEmpty_nil, List.cons_append, List.nil_append, beq_self_eq_true, gt, clsW, fldW, add_ii, add_ss, add_tt, add_ff, sub_ii, mul_ii, div_ii, mod_ii, pow_ii, neg_i, lt_ii, le_ii, gt_ii, ge_ii, eq_ii, eq_ss, eq_bb, ne_ii, ne_ss, in_ss, int_i, int_b, int_s, cut_s, len_s, len_t, len_f, len_sc, str_i, str_s, tupof_f, lk_at, lk_s, lk_1, lk_2, lk_3, lk_4, lk_5, lk_6, put_rd, put_rd0, len_rd, mu_same, mu_mu, true_and, and_true, Bool.not_true, Bool.not_false, if_true, if_false, Bool.false_eq_true, decide_true, decide_false, Bool.true_eq_false, ite_true, ite_false, eq_self_iff_true, rcv_s, dig_bm, low_bm, e0]); (try simp only [fold_rd1, fold_rd])
                cases hr with
                | done => exact hG _ _ ⟨rfl, _, _, _, _, _, _, rfl, hnz, hn, rfl⟩
              | cons fr sk =>
                have e0 : decide ((0 : Int) < ((fr :: sk).length : Int)) = true := decide_eq_true (by simp only [List.length_cons]; omega)
                (try simp only [hd_e, hd_d, hd_0, hd_o, hd_c, hd_s, hd_in, List.head?_cons, List.head?_nil, List.isEmpty_cons, List.isEmpty_nil, List.cons_append, List.nil_append, beq_self_eq_true, gt, clsW, fldW, add_ii, add_ss, add_tt, add_ff, sub_ii, mul_ii, div_ii, mod_ii, pow_ii, neg_i, lt_ii, le_ii, gt_ii, ge_ii, eq_ii, eq_ss, eq_bb, ne_ii, ne_ss, in_ss, int_i, int_b, int_s, cut_s, len_s, len_t, len_f, len_sc, str_i, str_s, tupof_f, lk_at, lk_s, lk_1, lk_2, lk_3, lk_4, lk_5, lk_6, put_rd, put_rd0, len_rd, mu_same, mu_mu, true_and, and_true, Bool.not_true, Bool.not_false, if_true, if_false, Bool.false_eq_true, decide_true, decide_false, Bool.true_eq_false, ite_true, ite_false, eq_self_iff_true, rcv_s, dig_bm, low_bm, e0]); (try simp only [fold_rd1, fold_rd])
                refine ⟨hz, ?_⟩
                rw [cut1, hn]
                by_cases h41 : l.head? = some 41
                · cases l with
                  | nil => cases h41
                  | cons c r =>
                    simp only [List.head?_cons, Option.some.injEq] at h41
                    subst h41
                    have hr1 : (tls z).drop (n + 1) = r := by rw [← List.drop_drop, hn]; rfl
                    have le1 := le_drop1 hn
                    (try simp only [hd_e, hd_d, hd_0, hd_o, hd_c, hd_s, hd_in, List.head?_cons, List.head?_nil, List.isEmpty_cons, List.isEmpty_nil, List.cons_append, List.nil_append, beq_self_eq_true, gt, clsW, fldW, add_ii, add_ss, add_tt, add_ff, sub_ii, mul_ii, div_ii, mod_ii, pow_ii, neg_i, lt_ii, le_ii, gt_ii, ge_ii, eq_ii, eq_ss, eq_bb, ne_ii, ne_ss, in_ss, int_i, int_b, int_s, cut_s, len_s, len_t, len_f, len_sc, str_i, str_s, tupof_f, lk_at, lk_s, lk_1, lk_2, lk_3, lk_4, lk_5, lk_6, put_rd, put_rd0, len_rd, mu_same, mu_mu, true_and, and_true, Bool.not_true, Bool.not_false, if_true, if_false, Bool.false_eq_true, decide_true, decide_false, Bool.true_eq_false, ite_true, ite_false, eq_self_iff_true, rcv_s, dig_bm, low_bm]); (try simp only [fold_rd1, fold_rd])
                    cases hr with
                    | clos h => exact ⟨_, by simp, sk, r, n + 1, _, _, _, _, rfl, le1, hr1, .inr (.inl ⟨rfl, by simp, _, h⟩), rfl⟩
                    | bad _ h41 => exact absurd rfl h41
                · have e41 : (l.head? == some 41) = false := by simpa using h41
                  (try simp only [hd_e, hd_d, hd_0, hd_o, hd_c, hd_s, hd_in, List.head?_cons, List.head?_nil, List.isEmpty_cons, List.isEmpty_nil, List.cons_append, List.nil_append, beq_self_eq_true, gt, clsW, fldW, add_ii, add_ss, add_tt, add_ff, sub_ii, mul_ii, div_ii, mod_ii, pow_ii, neg_i, lt_ii, le_ii, gt_ii, ge_ii, eq_ii, eq_ss, eq_bb, ne_ii, ne_ss, in_ss, int_i, int_b, int_s, cut_s, len_s, len_t, len_f, len_sc, str_i, str_s, tupof_f, lk_at, lk_s, lk_1, lk_2, lk_3, lk_4, lk_5, lk_6, put_rd, put_rd0, len_rd, mu_same, mu_mu, true_and, and_true, Bool.not_true, Bool.not_false, if_true, if_false, Bool.false_eq_true, decide_true, decide_false, Bool.true_eq_false, ite_true, ite_false, eq_self_iff_true, rcv_s, dig_bm, low_bm, e41]); (try simp only [fold_rd1, fold_rd])
                  by_cases h32 : l.head? = some 32
                  · cases l with
                    | nil => cases h32
                    | cons c r =>
                      simp only [List.head?_cons, Option.some.injEq] at h32
                      subst h32
                      have hr1 : (tls z).drop (n + 1) = r := by rw [← List.drop_drop, hn]; rfl
                      have le1 := le_drop1 hn
                      (try simp only [hd_e, hd_d, hd_0, hd_o, hd_c, hd_s, hd_in, List.head?_cons, List.head?_nil, List.isEmpty_cons, List.isEmpty_nil, List.cons_append, List.nil_append, beq_self_eq_true, gt, clsW, fldW, add_ii, add_ss, add_tt, add_ff, sub_ii, mul_ii, div_ii, mod_ii, pow_ii, neg_i, lt_ii, le_ii, gt_ii, ge_ii, eq_ii, eq_ss, eq_bb, ne_ii, ne_ss, in_ss, int_i, int_b, int_s, cut_s, len_s, len_t, len_f, len_sc, str_i, str_s, tupof_f, lk_at, lk_s, lk_1, lk_2, lk_3, lk_4, lk_5, lk_6, put_rd, put_rd0, len_rd, mu_same, mu_mu, true_and, and_true, Bool.not_true, Bool.not_false, if_true, if_false, Bool.false_eq_true, decide_true, decide_false, Bool.true_eq_false, ite_true, ite_false, eq_self_iff_true, rcv_s, dig_bm, low_bm]); (try simp only [fold_rd1, fold_rd])
                      cases hr with
                      | next h => exact ⟨_, by simp, (fr ++ [d]) :: sk, r, n + 1, _, _, _, _, rfl, le1, hr1, .inl ⟨rfl, rfl, h⟩, rfl⟩
                      | bad h32 _ => exact absurd rfl h32
                  · have e32 : (l.head? == some 32) = false := by simpa using h32
                    (try simp only [hd_e, hd_d, hd_0, hd_o, hd_c, hd_s, hd_in, List.head?_cons, List.head?_nil, List.isEmpty_cons, List.isEmpty_nil, List.cons_append, List.nil_append, beq_self_eq_true, gt, clsW, fldW, add_ii, add_ss, add_tt, add_ff, sub_ii, mul_ii, div_ii, mod_ii, pow_ii, neg_i, lt_ii, le_ii, gt_ii, ge_ii, eq_ii, eq_ss, eq_bb, ne_ii, ne_ss, in_ss, int_i, int_b, int_s, cut_s, len_s, len_t, len_f, len_sc, str_i, str_s, tupof_f, lk_at, lk_s, lk_1, lk_2, lk_3, lk_4, lk_5, lk_6, put_rd, put_rd0, len_rd, mu_same, mu_mu, true_and, and_true, Bool.not_true, Bool.not_false, if_true, if_false, Bool.false_eq_true, decide_true, decide_false, Bool.true_eq_false, ite_true, ite_false, eq_self_iff_true, rcv_s, dig_bm, low_bm, e32]); (try simp only [fold_rd1, fold_rd])
                    cases hr with
                    | next _ => exact absurd rfl h32
                    | clos _ => exact absurd rfl h41
                    | bad _ _ => exact ⟨_, MSub.refl _, q⟩
            · have e0 : decide ((0 : Int) < ((sk.length : Nat) : Int) + 1) = true := decide_eq_true (by omega)
              have hr1 : (tls z).drop (n + 1) = r := by rw [← List.drop_drop, hn]; rfl
              have le1 := le_drop1 hn
              (try simp only [hd_e, hd_d, hd_0, hd_o, hd_c, hd_s, hd_in, List.head?_cons, List.head?_nil, List.isEmpty_cons, List.isEmpty_nil, List.cons_append, List.nil_append, beq_self_eq_true, gt, clsW, fldW, add_ii, add_ss, add_tt, add_ff, sub_ii, mul_ii, div_ii, mod_ii, pow_ii, neg_i, lt_ii, le_ii, gt_ii, ge_ii, eq_ii, eq_ss, eq_bb, ne_ii, ne_ss, in_ss, int_i, int_b, int_s, cut_s, len_s, len_t, len_f, len_sc, str_i, str_s, tupof_f, lk_at, lk_s, lk_1, lk_2, lk_3, lk_4, lk_5, lk_6, put_rd, put_rd0, len_rd, mu_same, mu_mu, true_and, and_true, Bool.not_true, Bool.not_false, if_true, if_false, Bool.false_eq_true, decide_true, decide_false, Bool.true_eq_false, ite_true, ite_false, eq_self_iff_true, rcv_s, dig_bm, low_bm, e0]); (try simp only [fold_rd1, fold_rd])
              refine ⟨hz, ?_⟩
              rw [cut1, hn]
              (try simp only [hd_e, hd_d, hd_0, hd_o, hd_c, hd_s, hd_in, List.head?_cons, List.head?_nil, List.isEmpty_cons, List.isEmpty_nil, List.cons_append, List.nil_append, beq_self_eq_true, gt, clsW, fldW, add_ii, add_ss, add_tt, add_ff, sub_ii, mul_ii, div_ii, mod_ii, pow_ii, neg_i, lt_ii, le_ii, gt_ii, ge_ii, eq_ii, eq_ss, eq_bb, ne_ii, ne_ss, in_ss, int_i, int_b, int_s, cut_s, len_s, len_t, len_f, len_sc, str_i, str_s, tupof_f, lk_at, lk_s, lk_1, lk_2, lk_3, lk_4, lk_5, lk_6, put_rd, put_rd0, len_rd, mu_same, mu_mu, true_and, and_true, Bool.not_true, Bool.not_false, if_true, if_false, Bool.false_eq_true, decide_true, decide_false, Bool.true_eq_false, ite_true, ite_false, eq_self_iff_true, rcv_s, dig_bm, low_bm, show (some 41 == some 40) = false from rfl]); (try simp only [fold_rd1, fold_rd])
              exact ⟨_, by simp, sk, r, n + 1, _, _, _, _, rfl, le1, hr1, .inr (.inl ⟨rfl, by omega, _, hr⟩), rfl⟩
          case d2 =>
            rintro ρ M4 ⟨rfl, s, d, l, n, a, b, rfl, hnz, hn, rfl⟩
            simp only [mVar, gt, mC, mOp, mUn, mTest, mChain, mAnd, mOr, mNot, mAndV, mOrV, mNotV, mIf, mNil, mCons, mTup, mFl, mLst, mCB, mBM0, mBM, mSl, mPart, mNoPart, mSeq, mNext, mDrop, mCont, mBreak, mRet, mIfS, mAsg, nName, st, startW, mFld, mSetFld, mAugFld, mMeth, mCall, mRaise, List.map_cons, List.map_nil, List.length_cons, List.length_nil, List.replicate, List.cons_append, List.nil_append, Nat.zero_add, Nat.reduceAdd, Nat.reduceSub, Nat.sub_self, mWhile, add_ii, add_ss, add_tt, add_ff, sub_ii, mul_ii, div_ii, mod_ii, pow_ii, neg_i, lt_ii, le_ii, gt_ii, ge_ii, eq_ii, eq_ss, eq_bb, ne_ii, ne_ss, in_ss, int_i, int_b, int_s, cut_s, len_s, len_t, len_f, len_sc, str_i, str_s, tupof_f, mNeL, mEqL, rcv_s, dig_bm, low_bm, true_and]
            have hll : l.length = (tls z).length - n := by rw [← hn, List.length_drop]
            refine ⟨by decide, hz, ?_⟩
            cases l with
            | nil =>
              have hlt : decide (((n : Nat) : Int) < (z.length : Int)) = false := decide_eq_false (by simp only [List.length_nil] at hll; omega)
              (try simp only [hd_e, hd_d, hd_0, hd_o, hd_c, hd_s, hd_in, List.head?_cons, List.head?_nil, List.isEmpty_cons, List.isEmpty_nil, List.cons_append, List.nil_append, beq_self_eq_true, gt, clsW, fldW, add_ii, add_ss, add_tt, add_ff, sub_ii, mul_ii, div_ii, mod_ii, pow_ii, neg_i, lt_ii, le_ii, gt_ii, ge_ii, eq_ii, eq_ss, eq_bb, ne_ii, ne_ss, in_ss, int_i, int_b, int_s, cut_s, len_s, len_t, len_f, len_sc, str_i, str_s, tupof_f, lk_at, lk_s, lk_1, lk_2, lk_3, lk_4, lk_5, lk_6, put_rd, put_rd0, len_rd, mu_same, mu_mu, true_and, and_true, Bool.not_true, Bool.not_false, if_true, if_false, Bool.false_eq_true, decide_true, decide_false, Bool.true_eq_false, ite_true, ite_false, eq_self_iff_true, rcv_s, dig_bm, low_bm, hlt]); (try simp only [fold_rd1, fold_rd])
              exact ⟨_, MSub.refl _, q⟩
            | cons c r =>
              have hlt : decide (((n : Nat) : Int) < (z.length : Int)) = true := decide_eq_true (by simp only [List.length_cons] at hll; omega)
              (try simp only [hd_e, hd_d, hd_0, hd_o, hd_c, hd_s, hd_in, List.head?_cons, List.head?_nil, List.isEmpty_cons, List.isEmpty_nil, List.cons_append, List.nil_append, beq_self_eq_true, gt, clsW, fldW, add_ii, add_ss, add_tt, add_ff, sub_ii, mul_ii, div_ii, mod_ii, pow_ii, neg_i, lt_ii, le_ii, gt_ii, ge_ii, eq_ii, eq_ss, eq_bb, ne_ii, ne_ss, in_ss, int_i, int_b, int_s, cut_s, len_s, len_t, len_f, len_sc, str_i, str_s, tupof_f, lk_at, lk_s, lk_1, lk_2, lk_3, lk_4, lk_5, lk_6, put_rd, put_rd0, len_rd, mu_same, mu_mu, true_and, and_true, Bool.not_true, Bool.not_false, if_true, if_false, Bool.false_eq_true, decide_true, decide_false, Bool.true_eq_false, ite_true, ite_false, eq_self_iff_true, rcv_s, dig_bm, low_bm, hlt]); (try simp only [fold_rd1, fold_rd])
              exact ⟨_, MSub.refl _, q⟩
theorem ok__law_wrong_at (T : Tx P w K mg base)  : FF P w K mg base (2) T.A__law_wrong_at ["_law_line"] (sp__law_wrong_at T) := by
  obtain ⟨fd, F, hb, _⟩ := T.F__law_wrong_at
  exact ⟨⟨fd, fo__law_wrong_at T F , hb⟩, F.kp⟩

end Ri
set_option Elab.async false
set_option linter.all false
set_option maxRecDepth 100000
set_option maxHeartbeats 4000000

namespace Ri
open PySem L2 PySem.Calls PyProof.Rows

variable {P : Program} {w : World} {K : PySem.W.Frag} {mg : Str → Option Value} {base : Heap}
theorem asc_cut {z : Str} (h : asc z) (lo hi : Option Int) : asc (cutS z lo hi) := fun c hc => by
  unfold cutS at hc
  exact h c (List.mem_of_mem_drop (List.mem_of_mem_take hc))
theorem asc_app {x y : Str} (h : asc x) (h' : asc y) : asc (x ++ y) := fun c hc => by
  rw [tls_app] at hc
  rcases List.mem_append.mp hc with hc | hc
  · exact h c hc
  · exact h' c hc
theorem len_app {x y : Str} : (x ++ y).length = x.length + y.length := by rw [len_tls, len_tls x, len_tls y, tls_app, List.length_append]
theorem ix_s {z : Str} {i : Int} {M : MH} {R : MQ} (hz : z.length ≤ sizeLine) (h0 : 0 ≤ i) (h1 : i < (z.length : Int)) (q : ∀ c ∈ tls z, R (.str (mkS [c])) M) : mIx (.str z) (.int i) M R := by
  have hi : i.toNat < (tls z).length := by have := len_tls z; omega
  have e : atI (tls z) i = some ((tls z)[i.toNat]) := by
    have hc : i = ((i.toNat : Nat) : Int) := by omega
    unfold atI ixN
    rw [if_pos h0, if_pos (by have := len_tls z; omega)]
    exact List.getElem?_eq_getElem hi
  have e' : atI z.cps.toList i = some ((tls z)[i.toNat]) := e
  simp only [mIx, e']
  exact ⟨hz, q _ (List.getElem_mem hi)⟩
theorem min_ii {i j : Int} {M : MH} {R : MQ} : mMin2 [.int i, .int j] M R = R (.int (if j < i then j else i)) M := rfl
def sp__law_bent (T : Tx P w K mg base) : MSp := fun ws M R _ => ∃ p v c k z, ws = [.ref p, .str z] ∧ M p = some (pu v c k) ∧ Pok v (c + 4) k ∧ 0 ≤ c ∧ z.length ≤ 100000 ∧ asc z ∧ ∀ y v' c', asc y → y.length ≤ 3 * z.length + 2 → Pok v' c' k → c' ≤ c + 4 → R (.str y) (mu M p (pu v' c' k))
theorem asc_lit : asc (Str.ofString "(") ∧ asc (Str.ofString ")") ∧ asc (Str.ofString "() -0123abzyAe+") := by
  refine ⟨?_, ?_, ?_⟩ <;> (intro c hc; revert c; decide +kernel)

theorem fo__law_bent {fd : FuncData} (T : Tx P w K mg base) (F : Fun K "_law_bent" "_law_bent" s__law_bent T.A__law_bent fd)  : FnOk P w K mg base (L2.CX P w) (3) T.A__law_bent fd ["_law_purse_here", "_law_line"] (upS K (sp__law_bent T)) := by
  refine fn_rich F sc__law_bent (fun ws M R RX h => ?len) (fun cdv A outer s H E F0 ws M R RX hr hsp hx hp => ⟨_, (qss_cons (qs_set (i := 2) sc__law_bent.nd rfl (by first | exact Or.inl rfl | exact Or.inr rfl) (qe_call (ok__law_take T) (hr.mono (by omega)) rfl T.m__law_take hx (qa_cons (qv 0) (qa_cons qe_int qa_nil))))
      (qss_cons (qs_set (i := 3) sc__law_bent.nd rfl (by first | exact Or.inl rfl | exact Or.inr rfl) (qe_call (ok__law_take T) (hr.mono (by omega)) rfl T.m__law_take hx (qa_cons (qv 0) (qa_cons (qe_op q_add (qe_callB c_len rfl T.z_len (by decide +kernel) (qa_cons (qv 1) qa_nil)) qe_int) qa_nil))))
      (qss_cons (qs_set (i := 4) sc__law_bent.nd rfl (by first | exact Or.inl rfl | exact Or.inr rfl) (qe_callB (c_min2 rfl) rfl T.z_min (by decide +kernel) (qa_cons (qe_callB c_len rfl T.z_len (by decide +kernel) (qa_cons (qv 1) qa_nil)) (qa_cons (qe_op q_add (qe_op q_add (qv 3) qe_int) (qe_call (ok__law_take T) (hr.mono (by omega)) rfl T.m__law_take hx (qa_cons (qv 0) (qa_cons qe_int qa_nil)))) qa_nil))))
      (qss_cons (qs_set (i := 5) sc__law_bent.nd rfl (by first | exact Or.inl rfl | exact Or.inr rfl) (qe_ix q_ix qe_str (qe_call (ok__law_take T) (hr.mono (by omega)) rfl T.m__law_take hx (qa_cons (qv 0) (qa_cons qe_int qa_nil))) (fun _ _ => rfl)))
      (qss_cons (qs_if (qt_cmp (q_eq hr.units) (qv 2) qe_int (nomark _)) (qss_one (qs_ret (qe_op q_add (qe_slice q_cut (qv 1) qo_none (qo_some (qv 3))) (qe_slice q_cut (qv 1) (qo_some (qe_op q_add (qv 3) qe_int)) qo_none)))) qss_nil)
      (qss_cons (qs_if (qt_cmp (q_eq hr.units) (qv 2) qe_int (nomark _)) (qss_one (qs_ret (qe_op q_add (qe_op q_add (qe_slice q_cut (qv 1) qo_none (qo_some (qv 3))) (qv 5)) (qe_slice q_cut (qv 1) (qo_some (qv 3)) qo_none)))) qss_nil)
      (qss_cons (qs_if (qt_cmp (q_eq hr.units) (qv 2) qe_int (nomark _)) (qss_one (qs_ret (qe_op q_add (qe_op q_add (qe_slice q_cut (qv 1) qo_none (qo_some (qv 3))) (qv 5)) (qe_slice q_cut (qv 1) (qo_some (qe_op q_add (qv 3) qe_int)) qo_none)))) qss_nil)
      (qss_cons (qs_if (qt_cmp (q_eq hr.units) (qv 2) qe_int (nomark _)) (qss_one (qs_ret (qe_op q_add (qe_op q_add (qe_op q_add (qe_op q_add (qe_slice q_cut (qv 1) qo_none (qo_some (qv 3))) qe_str) (qe_slice q_cut (qv 1) (qo_some (qv 3)) (qo_some (qv 4)))) qe_str) (qe_slice q_cut (qv 1) (qo_some (qv 4)) qo_none)))) qss_nil)
      (qss_cons (qs_if (qt_cmp (q_eq hr.units) (qv 2) qe_int (nomark _)) (qss_one (qs_ret (qe_op q_add (qe_slice q_cut (qv 1) qo_none (qo_some (qv 4))) (qe_slice q_cut (qv 1) (qo_some (qv 3)) qo_none)))) qss_nil)
      (qss_one (qs_ret (qe_op q_add (qe_slice q_cut (qv 1) qo_none (qo_some (qv 3))) (qe_slice q_cut (qv 1) (qo_some (qv 4)) qo_none))))))))))))), ?body⟩)
  case len => (unfold sp__law_bent at h; first | (obtain ⟨_, rfl, _⟩ := h; rfl) | (obtain ⟨_, _, rfl, _⟩ := h; rfl) | (obtain ⟨_, _, _, rfl, _⟩ := h; rfl) | (obtain ⟨_, _, _, _, rfl, _⟩ := h; rfl) | (obtain ⟨_, _, _, _, _, rfl, _⟩ := h; rfl) | (obtain ⟨_, _, _, _, _, _, rfl, _⟩ := h; rfl) | (obtain ⟨_, _, _, _, _, _, _, rfl, _⟩ := h; rfl) | (obtain ⟨_, _, _, _, _, _, _, _, rfl, _⟩ := h; rfl))
  case body =>
    obtain ⟨p, v, c, k, z, rfl, hM, hP, hc, hzb, ha, q⟩ := hsp
    have hsz : sizeLine = 16777216 := sizeLine_eq
    have hz : z.length ≤ sizeLine := by omega
    have hv0 := hP.v0
    have hv1 := hP.v1
    have hc1 := hP.c1
    simp only [mVar, gt, mC, mOp, mUn, mTest, mChain, mAnd, mOr, mNot, mAndV, mOrV, mNotV, mIf, mNil, mCons, mTup, mFl, mLst, mCB, mBM0, mBM, mSl, mPart, mNoPart, mSeq, mNext, mDrop, mCont, mBreak, mRet, mIfS, mAsg, nName, st, startW, mFld, mSetFld, mAugFld, mMeth, mCall, mRaise, List.map_cons, List.map_nil, List.length_cons, List.length_nil, List.replicate, List.cons_append, List.nil_append, Nat.zero_add, Nat.reduceAdd, Nat.reduceSub, Nat.sub_self, mWhile, add_ii, add_ss, add_tt, add_ff, sub_ii, mul_ii, div_ii, mod_ii, pow_ii, neg_i, lt_ii, le_ii, gt_ii, ge_ii, eq_ii, eq_ss, eq_bb, ne_ii, ne_ss, in_ss, int_i, int_b, int_s, cut_s, len_s, len_t, len_f, len_sc, str_i, str_s, tupof_f, mNeL, mEqL, rcv_s, dig_bm, low_bm, true_and]
    refine ⟨p, v, c, k, 6, rfl, hM, ⟨hv0, hv1, by omega, by omega⟩, hc, by decide, by decide, fun way v1 c1 g0 g1 hP1 k1 => ?_⟩
    have c10 := hP1.c0
    (try simp only [hd_e, hd_d, hd_0, hd_o, hd_c, hd_s, hd_in, List.head?_cons, List.head?_nil, List.isEmpty_cons, List.isEmpty_nil, List.cons_append, List.nil_append, beq_self_eq_true, gt, clsW, fldW, add_ii, add_ss, add_tt, add_ff, sub_ii, mul_ii, div_ii, mod_ii, pow_ii, neg_i, lt_ii, le_ii, gt_ii, ge_ii, eq_ii, eq_ss, eq_bb, ne_ii, ne_ss, in_ss, int_i, int_b, int_s, cut_s, len_s, len_t, len_f, len_sc, str_i, str_s, tupof_f, lk_at, lk_s, lk_1, lk_2, lk_3, lk_4, lk_5, lk_6, put_rd, put_rd0, len_rd, mu_same, mu_mu, true_and, and_true, Bool.not_true, Bool.not_false, if_true, if_false, Bool.false_eq_true, decide_true, decide_false, Bool.true_eq_false, ite_true, ite_false, eq_self_iff_true, rcv_s, dig_bm, low_bm]); (try simp only [fold_rd1, fold_rd])
    refine ⟨hz, p, v1, c1, k, _, rfl, mu_same, ⟨hP1.v0, hP1.v1, by omega, by omega⟩, c10, by omega, by omega, fun at_ v2 c2 g2 g3 hP2 k2 => ?_⟩
    have c20 := hP2.c0
    (try simp only [hd_e, hd_d, hd_0, hd_o, hd_c, hd_s, hd_in, List.head?_cons, List.head?_nil, List.isEmpty_cons, List.isEmpty_nil, List.cons_append, List.nil_append, beq_self_eq_true, gt, clsW, fldW, add_ii, add_ss, add_tt, add_ff, sub_ii, mul_ii, div_ii, mod_ii, pow_ii, neg_i, lt_ii, le_ii, gt_ii, ge_ii, eq_ii, eq_ss, eq_bb, ne_ii, ne_ss, in_ss, int_i, int_b, int_s, cut_s, len_s, len_t, len_f, len_sc, str_i, str_s, tupof_f, lk_at, lk_s, lk_1, lk_2, lk_3, lk_4, lk_5, lk_6, put_rd, put_rd0, len_rd, mu_same, mu_mu, true_and, and_true, Bool.not_true, Bool.not_false, if_true, if_false, Bool.false_eq_true, decide_true, decide_false, Bool.true_eq_false, ite_true, ite_false, eq_self_iff_true, rcv_s, dig_bm, low_bm]); (try simp only [fold_rd1, fold_rd])
    refine ⟨hz, p, v2, c2, k, 5, rfl, mu_same, ⟨hP2.v0, hP2.v1, by omega, by omega⟩, c20, by decide, by decide, fun e3 v3 c3 g4 g5 hP3 k3 => ?_⟩
    have c30 := hP3.c0
    (try simp only [hd_e, hd_d, hd_0, hd_o, hd_c, hd_s, hd_in, List.head?_cons, List.head?_nil, List.isEmpty_cons, List.isEmpty_nil, List.cons_append, List.nil_append, beq_self_eq_true, gt, clsW, fldW, add_ii, add_ss, add_tt, add_ff, sub_ii, mul_ii, div_ii, mod_ii, pow_ii, neg_i, lt_ii, le_ii, gt_ii, ge_ii, eq_ii, eq_ss, eq_bb, ne_ii, ne_ss, in_ss, int_i, int_b, int_s, cut_s, len_s, len_t, len_f, len_sc, str_i, str_s, tupof_f, lk_at, lk_s, lk_1, lk_2, lk_3, lk_4, lk_5, lk_6, put_rd, put_rd0, len_rd, mu_same, mu_mu, true_and, and_true, Bool.not_true, Bool.not_false, if_true, if_false, Bool.false_eq_true, decide_true, decide_false, Bool.true_eq_false, ite_true, ite_false, eq_self_iff_true, rcv_s, dig_bm, low_bm, min_ii]); (try simp only [fold_rd1, fold_rd])
    generalize (if at_ + 1 + e3 < (z.length : Int) then at_ + 1 + e3 else (z.length : Int)) = en
    refine ⟨p, v3, c3, k, 15, rfl, mu_same, ⟨hP3.v0, hP3.v1, by omega, by omega⟩, c30, by decide, by decide, fun sg v4 c4 g6 g7 hP4 k4 => ?_⟩
    refine ix_s (by decide) g6 (by exact g7) fun ch hch => ?_
    have hsg : asc (mkS [ch]) := fun x hx => by
      have : x = ch := by simpa [mkS] using hx
      rw [this]; exact asc_lit.2.2 ch hch
    have hl1 : (mkS [ch]).length = 1 := rfl
    have fin : ∀ y : Str, asc y → y.length ≤ 3 * z.length + 2 → sh R (.str y) (mu M p (pu v4 c4 k)) := fun y h1 h2 => ⟨_, MSub.refl _, q y v4 c4 h1 h2 hP4 (by omega)⟩
    have lc : ∀ lo hi, (cutS z lo hi).length ≤ z.length := fun lo hi => cutS_length z lo hi
    have ac : ∀ lo hi, asc (cutS z lo hi) := fun lo hi => asc_cut ha lo hi
    have lo1 : (Str.ofString "(").length = 1 := rfl
    have lo2 : (Str.ofString ")").length = 1 := rfl
    (try simp only [hd_e, hd_d, hd_0, hd_o, hd_c, hd_s, hd_in, List.head?_cons, List.head?_nil, List.isEmpty_cons, List.isEmpty_nil, List.cons_append, List.nil_append, beq_self_eq_true, gt, clsW, fldW, add_ii, add_ss, add_tt, add_ff, sub_ii, mul_ii, div_ii, mod_ii, pow_ii, neg_i, lt_ii, le_ii, gt_ii, ge_ii, eq_ii, eq_ss, eq_bb, ne_ii, ne_ss, in_ss, int_i, int_b, int_s, cut_s, len_s, len_t, len_f, len_sc, str_i, str_s, tupof_f, lk_at, lk_s, lk_1, lk_2, lk_3, lk_4, lk_5, lk_6, put_rd, put_rd0, len_rd, mu_same, mu_mu, true_and, and_true, Bool.not_true, Bool.not_false, if_true, if_false, Bool.false_eq_true, decide_true, decide_false, Bool.true_eq_false, ite_true, ite_false, eq_self_iff_true, rcv_s, dig_bm, low_bm]); (try simp only [fold_rd1, fold_rd])
    split
    · refine ⟨hz, hz, ?_, fin _ (asc_app (ac _ _) (ac _ _)) ?_⟩
      · have h1 := lc none (some at_); have h2 := lc (some (at_ + 1)) none; omega
      · have h1 := lc none (some at_); have h2 := lc (some (at_ + 1)) none; rw [len_app]; omega
    split
    · have h1 := lc none (some at_)
      have h2 := lc (some at_) none
      refine ⟨hz, ?_, hz, ?_, fin _ (asc_app (asc_app (ac _ _) hsg) (ac _ _)) ?_⟩
      · omega
      · rw [len_app]; omega
      · rw [len_app, len_app]; omega
    split
    · have h1 := lc none (some at_)
      have h2 := lc (some (at_ + 1)) none
      refine ⟨hz, ?_, hz, ?_, fin _ (asc_app (asc_app (ac _ _) hsg) (ac _ _)) ?_⟩
      · omega
      · rw [len_app]; omega
      · rw [len_app, len_app]; omega
    split
    · have h1 := lc none (some at_)
      have h2 := lc (some at_) (some en)
      have h3 := lc (some en) none
      refine ⟨hz, ?_, hz, ?_, ?_, hz, ?_, fin _ (asc_app (asc_app (asc_app (asc_app (ac _ _) asc_lit.1) (ac _ _)) asc_lit.2.1) (ac _ _)) ?_⟩
      · omega
      · rw [len_app]; omega
      · rw [len_app, len_app]; omega
      · rw [len_app, len_app, len_app]; omega
      · rw [len_app, len_app, len_app, len_app]; omega
    split
    · have h1 := lc none (some en)
      have h2 := lc (some at_) none
      refine ⟨hz, hz, ?_, fin _ (asc_app (ac _ _) (ac _ _)) ?_⟩
      · omega
      · rw [len_app]; omega
    · have h1 := lc none (some at_)
      have h2 := lc (some en) none
      refine ⟨hz, hz, ?_, fin _ (asc_app (ac _ _) (ac _ _)) ?_⟩
      · omega
      · rw [len_app]; omega
theorem ok__law_bent (T : Tx P w K mg base)  : FF P w K mg base (3) T.A__law_bent ["_law_purse_here", "_law_line"] (sp__law_bent T) := by
  obtain ⟨fd, F, hb, _⟩ := T.F__law_bent
  exact ⟨⟨fd, fo__law_bent T F , hb⟩, F.kp⟩

end Ri
set_option Elab.async false
set_option linter.all false
set_option maxRecDepth 100000
set_option maxHeartbeats 4000000

namespace Ri
open PySem L2 PySem.Calls PyProof.Rows

variable {P : Program} {w : World} {K : PySem.W.Frag} {mg : Str → Option Value} {base : Heap}
theorem isx {C D : Addr} {ns : List Str} {xs : List W} {b : Bool} {M : MH} {R : MQ} (h : PySem.W.kitOne K (.ref C) (.ref D) = some b) (E : ExcC K C) (q : R (.bl b) M) : mIsX K [.exc C ns xs, .ref D] M R := ⟨b, E, h, q⟩
theorem isxt {C : Addr} {T : String} {ns : List Str} {xs : List W} {b : Bool} {M : MH} {R : MQ} (h : PySem.W.kitOne K (.ref C) (.type T) = some b) (E : ExcC K C) (q : R (.bl b) M) : mIsX K [.exc C ns xs, .ty T] M R := ⟨b, E, h, q⟩
def sp__law_alone (T : Tx P w K mg base) : MSp := fun ws M R _ => ∃ ns xs, ws = [.exc T.C_BadText ns xs] ∧ R (.bl true) M
def sp__law_right (T : Tx P w K mg base) : MSp := fun ws M R _ => ∃ v, ws = [v] ∧ ((∃ z, v = .str z ∧ z.length ≤ 1000000 ∧ asc z) ∨ ∃ t, tyW M v = some t ∧ kitB t "str" = some false ∧ isTy t "str" = false) ∧ R (.bl true) M
theorem isnot_n {x : W} {M : MH} {R : MQ} : mIsNot x .non M R = R (.bl (!isNon x)) M := rfl

theorem fo__law_alone {fd : FuncData} (T : Tx P w K mg base) (F : Fun K "_law_alone" "_law_alone" s__law_alone T.A__law_alone fd)  : FnOk P w K mg base (L2.CX P w) (1) T.A__law_alone fd ["_law_error"] (upS K (sp__law_alone T)) := by
  refine fn_rich F sc__law_alone (fun ws M R RX h => ?len) (fun cdv A outer s H E F0 ws M R RX hr hsp hx hp => ⟨_, (qss_cons (qs_set (i := 1) sc__law_alone.nd rfl (by first | exact Or.inl rfl | exact Or.inr rfl) (qe_fl (qa_cons (qe_callB c_isX rfl T.z_isinstance (by decide +kernel) (qa_cons (qv 0) (qa_cons (qe_glob (w := .ref T.C_Fault) (v := .ref _) rfl T.c_Fault rfl (fun _ => ref_rw)) qa_nil))) (qa_cons (qe_callB c_isX rfl T.z_isinstance (by decide +kernel) (qa_cons (qv 0) (qa_cons (qe_glob (w := .ref T.C_NoBack) (v := .ref _) rfl T.c_NoBack rfl (fun _ => ref_rw)) qa_nil))) (qa_cons (qe_callB c_isX rfl T.z_isinstance (by decide +kernel) (qa_cons (qv 0) (qa_cons (qe_glob (w := .ref T.C_NoKind) (v := .ref _) rfl T.c_NoKind rfl (fun _ => ref_rw)) qa_nil))) (qa_cons (qe_callB c_isX rfl T.z_isinstance (by decide +kernel) (qa_cons (qv 0) (qa_cons (qe_glob (w := .ref T.C_NoLevel) (v := .ref _) rfl T.c_NoLevel rfl (fun _ => ref_rw)) qa_nil))) qa_nil))))))
      (qss_cons (qs_set (i := 1) sc__law_alone.nd rfl (by first | exact Or.inl rfl | exact Or.inr rfl) (qe_op q_addL (qv 1) (qe_fl (qa_cons (qe_callB c_isX rfl T.z_isinstance (by decide +kernel) (qa_cons (qv 0) (qa_cons (qe_glob (w := .ref T.C_NoLine) (v := .ref _) rfl T.c_NoLine rfl (fun _ => ref_rw)) qa_nil))) (qa_cons (qe_callB c_isX rfl T.z_isinstance (by decide +kernel) (qa_cons (qv 0) (qa_cons (qe_glob (w := .ref T.C_NoName) (v := .ref _) rfl T.c_NoName rfl (fun _ => ref_rw)) qa_nil))) (qa_cons (qe_callB c_isX rfl T.z_isinstance (by decide +kernel) (qa_cons (qv 0) (qa_cons (qe_glob (w := .ref T.C_TooHigh) (v := .ref _) rfl T.c_TooHigh rfl (fun _ => ref_rw)) qa_nil))) qa_nil))))))
      (qss_cons (qs_expr (qe_bm PySem.F.plainAttrs_list PySem.F.slot_list_append PySem.F.type_list_append m_append (qv 1) (qa_cons (qe_callB c_isX rfl T.z_isinstance (by decide +kernel) (qa_cons (qv 0) (qa_cons (qe_glob (w := .ref T.C_TooLong) (v := .ref _) rfl T.c_TooLong rfl (fun _ => ref_rw)) qa_nil))) qa_nil)))
      (qss_one (qs_ret (qe_and (qe_callB c_isX rfl T.z_isinstance (by decide +kernel) (qa_cons (qv 0) (qa_cons (qe_glob (w := .ref T.C_BadText) (v := .ref _) rfl T.c_BadText rfl (fun _ => ref_rw)) qa_nil))) (qe_and (qe_callB c_isX rfl T.z_isinstance (by decide +kernel) (qa_cons (qv 0) (qa_cons (qe_tyname (T := "ValueError") rfl T.z_ValueError (by decide +kernel)) qa_nil))) (qe_one (qe_cmp q_nin qe_bl (qv 1) (by rfl)))))))))), ?body⟩)
  case len => (unfold sp__law_alone at h; first | (obtain ⟨_, rfl, _⟩ := h; rfl) | (obtain ⟨_, _, rfl, _⟩ := h; rfl) | (obtain ⟨_, _, _, rfl, _⟩ := h; rfl) | (obtain ⟨_, _, _, _, rfl, _⟩ := h; rfl) | (obtain ⟨_, _, _, _, _, rfl, _⟩ := h; rfl) | (obtain ⟨_, _, _, _, _, _, rfl, _⟩ := h; rfl) | (obtain ⟨_, _, _, _, _, _, _, rfl, _⟩ := h; rfl) | (obtain ⟨_, _, _, _, _, _, _, _, rfl, _⟩ := h; rfl))
  case body =>
    obtain ⟨ns, xs, rfl, q⟩ := hsp
    simp only [mVar, gt, mC, mOp, mUn, mTest, mChain, mAnd, mOr, mNot, mAndV, mOrV, mNotV, mIf, mNil, mCons, mTup, mFl, mLst, mCB, mBM0, mBM, mSl, mPart, mNoPart, mSeq, mNext, mDrop, mCont, mBreak, mRet, mIfS, mAsg, nName, st, startW, mFld, mSetFld, mAugFld, mMeth, mCall, mRaise, List.map_cons, List.map_nil, List.length_cons, List.length_nil, List.replicate, List.cons_append, List.nil_append, Nat.zero_add, Nat.reduceAdd, Nat.reduceSub, Nat.sub_self, mWhile, add_ii, add_ss, add_tt, add_ff, sub_ii, mul_ii, div_ii, mod_ii, pow_ii, neg_i, lt_ii, le_ii, gt_ii, ge_ii, eq_ii, eq_ss, eq_bb, ne_ii, ne_ss, in_ss, int_i, int_b, int_s, cut_s, len_s, len_t, len_f, len_sc, str_i, str_s, tupof_f, mNeL, mEqL, rcv_s, dig_bm, low_bm, true_and]
    refine isx T.q_Fault T.e_BadText (isx T.q_NoBack T.e_BadText (isx T.q_NoKind T.e_BadText (isx T.q_NoLevel T.e_BadText ?_)))
    refine ⟨by decide, ?_⟩
    refine isx T.q_NoLine T.e_BadText (isx T.q_NoName T.e_BadText (isx T.q_TooHigh T.e_BadText ?_))
    refine ⟨by decide, ?_⟩
    refine ⟨by decide, fun p hp => ?_⟩
    (try simp only [hd_e, hd_d, hd_0, hd_o, hd_c, hd_s, hd_in, List.head?_cons, List.head?_nil, List.isEmpty_cons, List.isEmpty_nil, List.cons_append, List.nil_append, beq_self_eq_true, gt, clsW, fldW, add_ii, add_ss, add_tt, add_ff, sub_ii, mul_ii, div_ii, mod_ii, pow_ii, neg_i, lt_ii, le_ii, gt_ii, ge_ii, eq_ii, eq_ss, eq_bb, ne_ii, ne_ss, in_ss, int_i, int_b, int_s, cut_s, len_s, len_t, len_f, len_sc, str_i, str_s, tupof_f, lk_at, lk_s, lk_1, lk_2, lk_3, lk_4, lk_5, lk_6, put_rd, put_rd0, len_rd, mu_same, mu_mu, true_and, and_true, Bool.not_true, Bool.not_false, if_true, if_false, Bool.false_eq_true, decide_true, decide_false, Bool.true_eq_false, ite_true, ite_false, eq_self_iff_true, rcv_s, dig_bm, low_bm]); (try simp only [fold_rd1, fold_rd])
    refine ⟨rcv_l mu_same, isx T.q_TooLong T.e_BadText ?_⟩
    refine append_ok mu_same (by decide) ?_
    refine isx T.q_BadText T.e_BadText ?_
    (try simp only [hd_e, hd_d, hd_0, hd_o, hd_c, hd_s, hd_in, List.head?_cons, List.head?_nil, List.isEmpty_cons, List.isEmpty_nil, List.cons_append, List.nil_append, beq_self_eq_true, gt, clsW, fldW, add_ii, add_ss, add_tt, add_ff, sub_ii, mul_ii, div_ii, mod_ii, pow_ii, neg_i, lt_ii, le_ii, gt_ii, ge_ii, eq_ii, eq_ss, eq_bb, ne_ii, ne_ss, in_ss, int_i, int_b, int_s, cut_s, len_s, len_t, len_f, len_sc, str_i, str_s, tupof_f, lk_at, lk_s, lk_1, lk_2, lk_3, lk_4, lk_5, lk_6, put_rd, put_rd0, len_rd, mu_same, mu_mu, true_and, and_true, Bool.not_true, Bool.not_false, if_true, if_false, Bool.false_eq_true, decide_true, decide_false, Bool.true_eq_false, ite_true, ite_false, eq_self_iff_true, rcv_s, dig_bm, low_bm]); (try simp only [fold_rd1, fold_rd])
    refine isxt T.q_ValueError T.e_BadText ?_
    (try simp only [hd_e, hd_d, hd_0, hd_o, hd_c, hd_s, hd_in, List.head?_cons, List.head?_nil, List.isEmpty_cons, List.isEmpty_nil, List.cons_append, List.nil_append, beq_self_eq_true, gt, clsW, fldW, add_ii, add_ss, add_tt, add_ff, sub_ii, mul_ii, div_ii, mod_ii, pow_ii, neg_i, lt_ii, le_ii, gt_ii, ge_ii, eq_ii, eq_ss, eq_bb, ne_ii, ne_ss, in_ss, int_i, int_b, int_s, cut_s, len_s, len_t, len_f, len_sc, str_i, str_s, tupof_f, lk_at, lk_s, lk_1, lk_2, lk_3, lk_4, lk_5, lk_6, put_rd, put_rd0, len_rd, mu_same, mu_mu, true_and, and_true, Bool.not_true, Bool.not_false, if_true, if_false, Bool.false_eq_true, decide_true, decide_false, Bool.true_eq_false, ite_true, ite_false, eq_self_iff_true, rcv_s, dig_bm, low_bm]); (try simp only [fold_rd1, fold_rd])
    simp only [mIn, pw, lw, mu_same]
    exact ⟨rfl, rfl, M, MSub.mu hp, q⟩
theorem ok__law_alone (T : Tx P w K mg base)  : FF P w K mg base (1) T.A__law_alone ["_law_error"] (sp__law_alone T) := by
  obtain ⟨fd, F, hb, _⟩ := T.F__law_alone
  exact ⟨⟨fd, fo__law_alone T F , hb⟩, F.kp⟩

theorem fo__law_right {fd : FuncData} (T : Tx P w K mg base) (F : Fun K "_law_right" "_law_right" s__law_right T.A__law_right fd)  : FnOk P w K mg base (L2.CX P w) (9) T.A__law_right fd ["_law_line"] (upS K (sp__law_right T)) := by
  refine fn_rich F sc__law_right (fun ws M R RX h => ?len) (fun cdv A outer s H E F0 ws M R RX hr hsp hx hp => ⟨_, (qss_cons (qs_set (i := 1) sc__law_right.nd rfl (by first | exact Or.inl rfl | exact Or.inr rfl) qe_non)
      (qss_cons (qs_set (i := 2) sc__law_right.nd rfl (by first | exact Or.inl rfl | exact Or.inr rfl) qe_non)
      (qss_cons (qs_try (c := .ref T.C_StairError) (i := 3) rfl rfl rfl sc__law_right.nd rfl rfl ⟨rfl, by decide, .inl T.c_StairError⟩ (fun F1 RX pn xe hx hp => (qss_one (qs_set (i := 2) sc__law_right.nd rfl (by first | exact Or.inl rfl | exact Or.inr rfl) (qe_call (ok_read_data T) (hr.mono (by omega)) rfl T.m_read_data hx (qa_cons (qv 0) qa_nil))))) (fun a pn => (qss_one (qs_set (i := 1) sc__law_right.nd rfl (by first | exact Or.inl rfl | exact Or.inr rfl) (qv 3)))))
      (qss_cons (qs_set (i := 4) sc__law_right.nd rfl (by first | exact Or.inl rfl | exact Or.inr rfl) qe_int)
      (qss_cons (qs_if (qt_val (qe_callB c_isi rfl T.z_isinstance (by decide +kernel) (qa_cons (qv 0) (qa_cons (qe_tyname (T := "str") rfl T.z_str (by decide +kernel)) qa_nil)))) (qss_one (qs_set (i := 4) sc__law_right.nd rfl (by first | exact Or.inl rfl | exact Or.inr rfl) (qe_call (ok__law_wrong_at T) (hr.mono (by omega)) rfl T.m__law_wrong_at hx (qa_cons (qv 0) qa_nil)))) qss_nil)
      (qss_cons (qs_if (qt_cmp q_is (qv 4) qe_non (nomark _)) (qss_one (qs_ret (qe_and (qe_cmp q_is (qv 1) qe_non (nomark _)) (qe_one (qe_cmp (q_eq hr.units) (qe_call (ok_data_text T) (hr.mono (by omega)) rfl T.m_data_text hx (qa_cons (qv 2) qa_nil)) (qv 0) (nomark _)))))) qss_nil)
      (qss_one (qs_ret (qe_and (qe_cmp q_isnot (qv 1) qe_non (nomark _)) (qe_and (qe_call (ok__law_alone T) (hr.mono (by omega)) rfl T.m__law_alone hx (qa_cons (qv 1) qa_nil)) (qe_and (qe_cmp (q_eq hr.units) (qe_xf (Cs := fun C => C = T.C_BadText) (qv 1) (by rintro _ rfl; exact T.f_BadText)) (qv 4) (nomark _)) (qe_one (qe_not (qe_callB c_isi rfl T.z_isinstance (by decide +kernel) (qa_cons (qe_xf (Cs := fun C => C = T.C_BadText) (qv 1) (by rintro _ rfl; exact T.f_BadText)) (qa_cons (qe_tyname (T := "bool") rfl T.z_bool (by decide +kernel)) qa_nil)))))))))))))))), ?body⟩)
  case len => (unfold sp__law_right at h; first | (obtain ⟨_, rfl, _⟩ := h; rfl) | (obtain ⟨_, _, rfl, _⟩ := h; rfl) | (obtain ⟨_, _, _, rfl, _⟩ := h; rfl) | (obtain ⟨_, _, _, _, rfl, _⟩ := h; rfl) | (obtain ⟨_, _, _, _, _, rfl, _⟩ := h; rfl) | (obtain ⟨_, _, _, _, _, _, rfl, _⟩ := h; rfl) | (obtain ⟨_, _, _, _, _, _, _, rfl, _⟩ := h; rfl) | (obtain ⟨_, _, _, _, _, _, _, _, rfl, _⟩ := h; rfl))
  case body =>
    obtain ⟨v, rfl, hv, q⟩ := hsp
    refine seq_have (fun ρ M1 => ρ = [some v, some .non, none, none, none] ∧ M1 = M) ?a2 ?a1
    case a1 =>
      intro G hG
      simp only [mVar, gt, mC, mOp, mUn, mTest, mChain, mAnd, mOr, mNot, mAndV, mOrV, mNotV, mIf, mNil, mCons, mTup, mFl, mLst, mCB, mBM0, mBM, mSl, mPart, mNoPart, mSeq, mNext, mDrop, mCont, mBreak, mRet, mIfS, mAsg, nName, st, startW, mFld, mSetFld, mAugFld, mMeth, mCall, mRaise, List.map_cons, List.map_nil, List.length_cons, List.length_nil, List.replicate, List.cons_append, List.nil_append, Nat.zero_add, Nat.reduceAdd, Nat.reduceSub, Nat.sub_self, mWhile, add_ii, add_ss, add_tt, add_ff, sub_ii, mul_ii, div_ii, mod_ii, pow_ii, neg_i, lt_ii, le_ii, gt_ii, ge_ii, eq_ii, eq_ss, eq_bb, ne_ii, ne_ss, in_ss, int_i, int_b, int_s, cut_s, len_s, len_t, len_f, len_sc, str_i, str_s, tupof_f, mNeL, mEqL, rcv_s, dig_bm, low_bm, true_and]
      exact hG _ _ ⟨rfl, rfl⟩
    case a2 =>
      rintro ρ M1 ⟨rfl, rfl⟩
      refine seq_have (fun ρ M2 => ρ = [some v, some .non, some .non, none, none] ∧ M2 = M1) ?b2 ?b1
      case b1 =>
        intro G hG
        simp only [mVar, gt, mC, mOp, mUn, mTest, mChain, mAnd, mOr, mNot, mAndV, mOrV, mNotV, mIf, mNil, mCons, mTup, mFl, mLst, mCB, mBM0, mBM, mSl, mPart, mNoPart, mSeq, mNext, mDrop, mCont, mBreak, mRet, mIfS, mAsg, nName, st, startW, mFld, mSetFld, mAugFld, mMeth, mCall, mRaise, List.map_cons, List.map_nil, List.length_cons, List.length_nil, List.replicate, List.cons_append, List.nil_append, Nat.zero_add, Nat.reduceAdd, Nat.reduceSub, Nat.sub_self, mWhile, add_ii, add_ss, add_tt, add_ff, sub_ii, mul_ii, div_ii, mod_ii, pow_ii, neg_i, lt_ii, le_ii, gt_ii, ge_ii, eq_ii, eq_ss, eq_bb, ne_ii, ne_ss, in_ss, int_i, int_b, int_s, cut_s, len_s, len_t, len_f, len_sc, str_i, str_s, tupof_f, mNeL, mEqL, rcv_s, dig_bm, low_bm, true_and]
        exact hG _ _ ⟨rfl, rfl⟩
      case b2 =>
        rintro ρ M2 ⟨rfl, rfl⟩
        refine seq_have (fun ρ M3 => M3 = M2 ∧ ∃ e t, ρ = [some v, some e, some t, none, none] ∧ ((∃ z d m, v = .str z ∧ z.length ≤ 1000000 ∧ asc z ∧ Run [] (tls z) 0 none (.ok d [] m) ∧ e = .non ∧ t = wD d) ∨
          (∃ z res k, v = .str z ∧ z.length ≤ 1000000 ∧ asc z ∧ Run [] (tls z) 0 none res ∧ wrongW res = .int ((k : Nat) : Int) ∧ e = .exc T.C_BadText ["at"] [.int (k : Int)]) ∨
          (∃ t0, tyW M2 v = some t0 ∧ kitB t0 "str" = some false ∧ isTy t0 "str" = false ∧ e = .exc T.C_BadText ["at"] [.int ((0 : Nat) : Int)]))) ?c2 ?c1
        case c1 =>
          intro G hG
          simp only [mTry, mAsg, mCall, mCons, mNil, mVar, gt, nName, st, stN]
          rcases hv with ⟨z, rfl, hz, ha⟩ | ⟨t0, h1, h2, h3⟩
          · obtain ⟨res, hrun⟩ := run_total _ [] (tls z) 0 none (Nat.le_refl _)
            refine ⟨_, rfl, .inl ⟨z, res, rfl, by rw [sizeLine_eq]; omega, hrun, ?_⟩⟩
            cases res with
            | bad k => exact ⟨T.h_StairError, by simp, hG _ _ ⟨rfl, _, _, rfl, .inr (.inl ⟨z, _, k, rfl, hz, ha, hrun, rfl, rfl⟩)⟩⟩
            | ok d rest m =>
              cases rest with
              | nil => exact ⟨fun _ => hG _ _ ⟨rfl, _, _, rfl, .inl ⟨z, d, m, rfl, hz, ha, hrun, rfl, rfl⟩⟩, fun h => absurd rfl h⟩
              | cons c r => exact ⟨fun h => absurd h (by simp), fun _ => ⟨T.h_StairError, by simp, hG _ _ ⟨rfl, _, _, rfl, .inr (.inl ⟨z, _, m, rfl, hz, ha, hrun, rfl, rfl⟩)⟩⟩⟩
          · exact ⟨_, rfl, .inr ⟨t0, h1, h2, h3, T.h_StairError, by simp, hG _ _ ⟨rfl, _, _, rfl, .inr (.inr ⟨t0, h1, h2, h3, rfl⟩)⟩⟩⟩
        case c2 =>
          rintro ρ M3 ⟨rfl, e, t, rfl, h⟩
          simp only [mVar, gt, mC, mOp, mUn, mTest, mChain, mAnd, mOr, mNot, mAndV, mOrV, mNotV, mIf, mNil, mCons, mTup, mFl, mLst, mCB, mBM0, mBM, mSl, mPart, mNoPart, mSeq, mNext, mDrop, mCont, mBreak, mRet, mIfS, mAsg, nName, st, startW, mFld, mSetFld, mAugFld, mMeth, mCall, mRaise, List.map_cons, List.map_nil, List.length_cons, List.length_nil, List.replicate, List.cons_append, List.nil_append, Nat.zero_add, Nat.reduceAdd, Nat.reduceSub, Nat.sub_self, mWhile, add_ii, add_ss, add_tt, add_ff, sub_ii, mul_ii, div_ii, mod_ii, pow_ii, neg_i, lt_ii, le_ii, gt_ii, ge_ii, eq_ii, eq_ss, eq_bb, ne_ii, ne_ss, in_ss, int_i, int_b, int_s, cut_s, len_s, len_t, len_f, len_sc, str_i, str_s, tupof_f, mNeL, mEqL, rcv_s, dig_bm, low_bm, true_and]
          have lk : ∀ k : Int, List.lookup (Str.ofString "at") (List.zip [Str.ofString "at"] [W.int k]) = some (.int k) := fun k => rfl
          rcases h with ⟨z, d, m, rfl, hz, ha, hrun, rfl, rfl⟩ | ⟨z, res, k, rfl, hz, ha, hrun, hw, rfl⟩ | ⟨t0, h1, h2, h3, rfl⟩
          · refine isi_ty (t := "str") rfl (by decide +kernel) ?_
            (try simp only [hd_e, hd_d, hd_0, hd_o, hd_c, hd_s, hd_in, List.head?_cons, List.head?_nil, List.isEmpty_cons, List.isEmpty_nil, List.cons_append, List.nil_append, beq_self_eq_true, gt, clsW, fldW, add_ii, add_ss, add_tt, add_ff, sub_ii, mul_ii, div_ii, mod_ii, pow_ii, neg_i, lt_ii, le_ii, gt_ii, ge_ii, eq_ii, eq_ss, eq_bb, ne_ii, ne_ss, in_ss, int_i, int_b, int_s, cut_s, len_s, len_t, len_f, len_sc, str_i, str_s, tupof_f, lk_at, lk_s, lk_1, lk_2, lk_3, lk_4, lk_5, lk_6, put_rd, put_rd0, len_rd, mu_same, mu_mu, true_and, and_true, Bool.not_true, Bool.not_false, if_true, if_false, Bool.false_eq_true, decide_true, decide_false, Bool.true_eq_false, ite_true, ite_false, eq_self_iff_true, rcv_s, dig_bm, low_bm, show isTy "str" "str" = true from by decide]); (try simp only [fold_rd1, fold_rd])
            refine ⟨z, _, rfl, by rw [sizeLine_eq]; omega, ha, hrun, ?_⟩
            obtain ⟨od, ht, _⟩ := run_text hrun (by simp) (by simp) d [] m rfl
            have ht2 : txt d = tls z := by simpa [ctxT, preT] using ht.symm
            (try simp only [hd_e, hd_d, hd_0, hd_o, hd_c, hd_s, hd_in, List.head?_cons, List.head?_nil, List.isEmpty_cons, List.isEmpty_nil, List.cons_append, List.nil_append, beq_self_eq_true, gt, clsW, fldW, add_ii, add_ss, add_tt, add_ff, sub_ii, mul_ii, div_ii, mod_ii, pow_ii, neg_i, lt_ii, le_ii, gt_ii, ge_ii, eq_ii, eq_ss, eq_bb, ne_ii, ne_ss, in_ss, int_i, int_b, int_s, cut_s, len_s, len_t, len_f, len_sc, str_i, str_s, tupof_f, lk_at, lk_s, lk_1, lk_2, lk_3, lk_4, lk_5, lk_6, put_rd, put_rd0, len_rd, mu_same, mu_mu, true_and, and_true, Bool.not_true, Bool.not_false, if_true, if_false, Bool.false_eq_true, decide_true, decide_false, Bool.true_eq_false, ite_true, ite_false, eq_self_iff_true, rcv_s, dig_bm, low_bm, wrongW, is_n, isNon]); (try simp only [fold_rd1, fold_rd])
            refine ⟨d, rfl, od, by rw [ht2, ← len_tls]; exact hz, ?_⟩
            have he : decide (mkS (txt d) = z) = true := decide_eq_true (by rw [ht2, mk_tls])
            (try simp only [hd_e, hd_d, hd_0, hd_o, hd_c, hd_s, hd_in, List.head?_cons, List.head?_nil, List.isEmpty_cons, List.isEmpty_nil, List.cons_append, List.nil_append, beq_self_eq_true, gt, clsW, fldW, add_ii, add_ss, add_tt, add_ff, sub_ii, mul_ii, div_ii, mod_ii, pow_ii, neg_i, lt_ii, le_ii, gt_ii, ge_ii, eq_ii, eq_ss, eq_bb, ne_ii, ne_ss, in_ss, int_i, int_b, int_s, cut_s, len_s, len_t, len_f, len_sc, str_i, str_s, tupof_f, lk_at, lk_s, lk_1, lk_2, lk_3, lk_4, lk_5, lk_6, put_rd, put_rd0, len_rd, mu_same, mu_mu, true_and, and_true, Bool.not_true, Bool.not_false, if_true, if_false, Bool.false_eq_true, decide_true, decide_false, Bool.true_eq_false, ite_true, ite_false, eq_self_iff_true, rcv_s, dig_bm, low_bm, he]); (try simp only [fold_rd1, fold_rd])
            exact ⟨_, MSub.refl _, q⟩
          · refine isi_ty (t := "str") rfl (by decide +kernel) ?_
            (try simp only [hd_e, hd_d, hd_0, hd_o, hd_c, hd_s, hd_in, List.head?_cons, List.head?_nil, List.isEmpty_cons, List.isEmpty_nil, List.cons_append, List.nil_append, beq_self_eq_true, gt, clsW, fldW, add_ii, add_ss, add_tt, add_ff, sub_ii, mul_ii, div_ii, mod_ii, pow_ii, neg_i, lt_ii, le_ii, gt_ii, ge_ii, eq_ii, eq_ss, eq_bb, ne_ii, ne_ss, in_ss, int_i, int_b, int_s, cut_s, len_s, len_t, len_f, len_sc, str_i, str_s, tupof_f, lk_at, lk_s, lk_1, lk_2, lk_3, lk_4, lk_5, lk_6, put_rd, put_rd0, len_rd, mu_same, mu_mu, true_and, and_true, Bool.not_true, Bool.not_false, if_true, if_false, Bool.false_eq_true, decide_true, decide_false, Bool.true_eq_false, ite_true, ite_false, eq_self_iff_true, rcv_s, dig_bm, low_bm, show isTy "str" "str" = true from by decide]); (try simp only [fold_rd1, fold_rd])
            refine ⟨z, _, rfl, by rw [sizeLine_eq]; omega, ha, hrun, ?_⟩
            rw [hw]
            (try simp only [hd_e, hd_d, hd_0, hd_o, hd_c, hd_s, hd_in, List.head?_cons, List.head?_nil, List.isEmpty_cons, List.isEmpty_nil, List.cons_append, List.nil_append, beq_self_eq_true, gt, clsW, fldW, add_ii, add_ss, add_tt, add_ff, sub_ii, mul_ii, div_ii, mod_ii, pow_ii, neg_i, lt_ii, le_ii, gt_ii, ge_ii, eq_ii, eq_ss, eq_bb, ne_ii, ne_ss, in_ss, int_i, int_b, int_s, cut_s, len_s, len_t, len_f, len_sc, str_i, str_s, tupof_f, lk_at, lk_s, lk_1, lk_2, lk_3, lk_4, lk_5, lk_6, put_rd, put_rd0, len_rd, mu_same, mu_mu, true_and, and_true, Bool.not_true, Bool.not_false, if_true, if_false, Bool.false_eq_true, decide_true, decide_false, Bool.true_eq_false, ite_true, ite_false, eq_self_iff_true, rcv_s, dig_bm, low_bm, is_n, isNon, isnot_n]); (try simp only [fold_rd1, fold_rd])
            refine ⟨_, _, rfl, ?_⟩
            simp only [mXf, mVar, gt, lk]
            (try simp only [hd_e, hd_d, hd_0, hd_o, hd_c, hd_s, hd_in, List.head?_cons, List.head?_nil, List.isEmpty_cons, List.isEmpty_nil, List.cons_append, List.nil_append, beq_self_eq_true, gt, clsW, fldW, add_ii, add_ss, add_tt, add_ff, sub_ii, mul_ii, div_ii, mod_ii, pow_ii, neg_i, lt_ii, le_ii, gt_ii, ge_ii, eq_ii, eq_ss, eq_bb, ne_ii, ne_ss, in_ss, int_i, int_b, int_s, cut_s, len_s, len_t, len_f, len_sc, str_i, str_s, tupof_f, lk_at, lk_s, lk_1, lk_2, lk_3, lk_4, lk_5, lk_6, put_rd, put_rd0, len_rd, mu_same, mu_mu, true_and, and_true, Bool.not_true, Bool.not_false, if_true, if_false, Bool.false_eq_true, decide_true, decide_false, Bool.true_eq_false, ite_true, ite_false, eq_self_iff_true, rcv_s, dig_bm, low_bm, lk]); (try simp only [fold_rd1, fold_rd])
            refine isi_ty (t := "int") rfl (by decide +kernel) ?_
            (try simp only [hd_e, hd_d, hd_0, hd_o, hd_c, hd_s, hd_in, List.head?_cons, List.head?_nil, List.isEmpty_cons, List.isEmpty_nil, List.cons_append, List.nil_append, beq_self_eq_true, gt, clsW, fldW, add_ii, add_ss, add_tt, add_ff, sub_ii, mul_ii, div_ii, mod_ii, pow_ii, neg_i, lt_ii, le_ii, gt_ii, ge_ii, eq_ii, eq_ss, eq_bb, ne_ii, ne_ss, in_ss, int_i, int_b, int_s, cut_s, len_s, len_t, len_f, len_sc, str_i, str_s, tupof_f, lk_at, lk_s, lk_1, lk_2, lk_3, lk_4, lk_5, lk_6, put_rd, put_rd0, len_rd, mu_same, mu_mu, true_and, and_true, Bool.not_true, Bool.not_false, if_true, if_false, Bool.false_eq_true, decide_true, decide_false, Bool.true_eq_false, ite_true, ite_false, eq_self_iff_true, rcv_s, dig_bm, low_bm, show isTy "int" "bool" = false from by decide]); (try simp only [fold_rd1, fold_rd])
            exact ⟨_, MSub.refl _, q⟩
          · refine isi_ty h1 (by rw [h2, h3]) ?_
            (try simp only [hd_e, hd_d, hd_0, hd_o, hd_c, hd_s, hd_in, List.head?_cons, List.head?_nil, List.isEmpty_cons, List.isEmpty_nil, List.cons_append, List.nil_append, beq_self_eq_true, gt, clsW, fldW, add_ii, add_ss, add_tt, add_ff, sub_ii, mul_ii, div_ii, mod_ii, pow_ii, neg_i, lt_ii, le_ii, gt_ii, ge_ii, eq_ii, eq_ss, eq_bb, ne_ii, ne_ss, in_ss, int_i, int_b, int_s, cut_s, len_s, len_t, len_f, len_sc, str_i, str_s, tupof_f, lk_at, lk_s, lk_1, lk_2, lk_3, lk_4, lk_5, lk_6, put_rd, put_rd0, len_rd, mu_same, mu_mu, true_and, and_true, Bool.not_true, Bool.not_false, if_true, if_false, Bool.false_eq_true, decide_true, decide_false, Bool.true_eq_false, ite_true, ite_false, eq_self_iff_true, rcv_s, dig_bm, low_bm, h3, is_n, isNon, isnot_n]); (try simp only [fold_rd1, fold_rd])
            refine ⟨_, _, rfl, ?_⟩
            have z0 : ((0 : Nat) : Int) = 0 := rfl
            simp only [mXf, mVar, gt, lk, z0]
            (try simp only [hd_e, hd_d, hd_0, hd_o, hd_c, hd_s, hd_in, List.head?_cons, List.head?_nil, List.isEmpty_cons, List.isEmpty_nil, List.cons_append, List.nil_append, beq_self_eq_true, gt, clsW, fldW, add_ii, add_ss, add_tt, add_ff, sub_ii, mul_ii, div_ii, mod_ii, pow_ii, neg_i, lt_ii, le_ii, gt_ii, ge_ii, eq_ii, eq_ss, eq_bb, ne_ii, ne_ss, in_ss, int_i, int_b, int_s, cut_s, len_s, len_t, len_f, len_sc, str_i, str_s, tupof_f, lk_at, lk_s, lk_1, lk_2, lk_3, lk_4, lk_5, lk_6, put_rd, put_rd0, len_rd, mu_same, mu_mu, true_and, and_true, Bool.not_true, Bool.not_false, if_true, if_false, Bool.false_eq_true, decide_true, decide_false, Bool.true_eq_false, ite_true, ite_false, eq_self_iff_true, rcv_s, dig_bm, low_bm, lk, z0]); (try simp only [fold_rd1, fold_rd])
            refine isi_ty (t := "int") rfl (by decide +kernel) ?_
            (try simp only [hd_e, hd_d, hd_0, hd_o, hd_c, hd_s, hd_in, List.head?_cons, List.head?_nil, List.isEmpty_cons, List.isEmpty_nil, List.cons_append, List.nil_append, beq_self_eq_true, gt, clsW, fldW, add_ii, add_ss, add_tt, add_ff, sub_ii, mul_ii, div_ii, mod_ii, pow_ii, neg_i, lt_ii, le_ii, gt_ii, ge_ii, eq_ii, eq_ss, eq_bb, ne_ii, ne_ss, in_ss, int_i, int_b, int_s, cut_s, len_s, len_t, len_f, len_sc, str_i, str_s, tupof_f, lk_at, lk_s, lk_1, lk_2, lk_3, lk_4, lk_5, lk_6, put_rd, put_rd0, len_rd, mu_same, mu_mu, true_and, and_true, Bool.not_true, Bool.not_false, if_true, if_false, Bool.false_eq_true, decide_true, decide_false, Bool.true_eq_false, ite_true, ite_false, eq_self_iff_true, rcv_s, dig_bm, low_bm, show isTy "int" "bool" = false from by decide]); (try simp only [fold_rd1, fold_rd])
            exact ⟨_, MSub.refl _, q⟩
theorem ok__law_right (T : Tx P w K mg base)  : FF P w K mg base (9) T.A__law_right ["_law_line"] (sp__law_right T) := by
  obtain ⟨fd, F, hb, _⟩ := T.F__law_right
  exact ⟨⟨fd, fo__law_right T F , hb⟩, F.kp⟩

end Ri
set_option Elab.async false
set_option linter.all false
set_option maxRecDepth 100000
set_option maxHeartbeats 4000000

namespace Ri
open PySem L2 PySem.Calls PyProof.Rows

variable {P : Program} {w : World} {K : PySem.W.Frag} {mg : Str → Option Value} {base : Heap}
theorem cut_mem {xs : List W} {lo hi : Option Int} {x : W} (h : x ∈ cutW xs lo hi) : x ∈ xs := List.mem_of_mem_drop (List.mem_of_mem_take h)
theorem cut_le {xs : List W} {lo hi : Option Int} : (cutW xs lo hi).length ≤ xs.length := by
  unfold cutW
  rw [List.length_take, List.length_drop]
  omega
theorem cutsc {xs : List W} {lo hi : Option Int} {M : MH} {R : MQ} : mCut (.sc xs) lo hi M R = R (.fl (cutW xs lo hi)) M := rfl
theorem small_e {e : Nat} (h : e < 5) : cbd e ≤ 242 ∧ bnd e ≤ 3722 := by
  have : e = 0 ∨ e = 1 ∨ e = 2 ∨ e = 3 ∨ e = 4 := by omega
  rcases this with rfl | rfl | rfl | rfl | rfl <;> decide
theorem muls_si {z : Str} {n : Int} {M : MH} {R : MQ} : mMulS (.str z) (.int n) M R = (MulOk z n ∧ R (.str (Txt.mul z n)) M) := rfl
def mulB (ch n : Nat) : Bool := ((Txt.mul (mkS [ch]) n).cps.toList.all (fun c => decide (c < 128))) && decide ((Txt.mul (mkS [ch]) n).length ≤ 100)
theorem mul_all : ∀ ch ∈ [55, 49, 57, 98, 99], ∀ n ∈ List.range 43, mulB ch n = true := by decide +kernel
theorem mul_one {ch : Nat} (hc : ch ∈ [55, 49, 57, 98, 99]) {i : Int} (h0 : 1 ≤ i) (h1 : i ≤ 42) : MulOk (mkS [ch]) i ∧ asc (Txt.mul (mkS [ch]) i) ∧ (Txt.mul (mkS [ch]) i).length ≤ 100 := by
  obtain ⟨n, rfl⟩ := Int.eq_ofNat_of_zero_le (show 0 ≤ i by omega)
  have h := mul_all ch hc n (List.mem_range.mpr (by omega))
  unfold mulB at h
  rw [Bool.and_eq_true, decide_eq_true_eq, List.all_eq_true] at h
  refine ⟨?_, fun c hc' => of_decide_eq_true (h.1 c hc'), h.2⟩
  have hl : (mkS [ch]).length = 1 := rfl
  refine ⟨?_, fun _ _ => ?_, fun _ _ => ?_⟩
  · rw [decide_eq_false (by omega), decide_eq_false (by omega)]; rfl
  · rw [hl]
    have : 1 ≤ ((2 : Int) ^ 63 - 1) / (n : Int) := by
      rw [Int.le_ediv_iff_mul_le (by omega)]
      omega
    omega
  · rw [hl, Int.toNat_natCast]
    first
      | (exact decide_eq_false (by rw [sizeLine_eq]; omega))
      | (simp [sizeLine_eq]; omega)
      | (simp; omega)
mutual
theorem asc_txt : ∀ {d : D}, okD d → ∀ c ∈ txt d, c < 128
  | .lf x v, h, c, hc => by
    have hl : leafOk x v = true := by simpa [okD] using h
    have hc' : c ∈ x := by simpa [txt] using hc
    rcases leaf_cases hl with ⟨b, rfl, rfl⟩ | ⟨i, rfl, hn, _⟩ | ⟨s, rfl, hw, _⟩
    · cases b <;> (simp [yesT, noT] at hc'; omega)
    · rcases num_cases hn with ⟨rfl, _⟩ | ⟨hg, _⟩ | ⟨ds, rfl, hg, _⟩
      · simp at hc'; omega
      · have := (digs_all hg).1 c hc'
        rw [lit_fig] at this
        simp at this
        omega
      · rcases List.mem_cons.mp hc' with rfl | hc'
        · decide
        · have := (digs_all hg).1 c hc'
          rw [lit_fig] at this
          simp at this
          omega
    · have := (word_all hw).1 c hc'
      rw [lit_let] at this
      simp at this
      omega
  | .t xs, h, c, hc => by
    have hx : okDs xs := by simpa [okD] using h
    simp only [txt, List.mem_cons, List.mem_append, List.not_mem_nil, or_false] at hc
    rcases hc with rfl | hc | rfl
    · decide
    · exact asc_sibs hx c (List.mem_of_mem_drop hc)
    · decide
theorem asc_sibs : ∀ {xs : List D}, okDs xs → ∀ c ∈ sibs xs, c < 128
  | [], _, c, hc => by simp [sibs] at hc
  | d :: r, h, c, hc => by
    simp only [okDs] at h
    simp only [sibs, List.mem_cons, List.mem_append] at hc
    rcases hc with rfl | hc | hc
    · decide
    · exact asc_txt h.1 c hc
    · exact asc_sibs h.2 c hc
end
def Bnd3 : Nat → Nat
  | 3 => 3722
  | 2 => 11168
  | 1 => 33506
  | _ => 100520
def thing (v : W) : Prop := (∃ z, v = .str z ∧ z.length ≤ 1000000 ∧ asc z) ∨ ∃ t, ∀ M : MH, tyW M v = some t ∧ kitB t "str" = some false ∧ isTy t "str" = false
def okT : W → Bool
  | .str z => decide (z.length ≤ 1000) && z.cps.toList.all fun c => decide (c < 128)
  | .non => true
  | .int _ => true
  | .bl _ => true
  | .tup _ => true
  | .fl _ => true
  | _ => false
theorem okT_of {v : W} {M : MH} (h : okT v = true) : (∃ z, v = .str z ∧ z.length ≤ 1000000 ∧ asc z) ∨ ∃ t, tyW M v = some t ∧ kitB t "str" = some false ∧ isTy t "str" = false := by
  cases v with
  | str z =>
    simp only [okT, Bool.and_eq_true, decide_eq_true_eq, List.all_eq_true] at h
    exact .inl ⟨z, rfl, by omega, h.2⟩
  | non => exact .inr ⟨"NoneType", rfl, by decide +kernel, by decide⟩
  | int i => exact .inr ⟨"int", rfl, by decide +kernel, by decide⟩
  | bl i => exact .inr ⟨"bool", rfl, by decide +kernel, by decide⟩
  | tup i => exact .inr ⟨"tuple", rfl, by decide +kernel, by decide⟩
  | fl i => exact .inr ⟨"list", rfl, by decide +kernel, by decide⟩
  | _ => simp [okT] at h
def spLaw : MSp := fun ws M R _ => ∃ ns : List Int, ws = [.sc (ns.map .int)] ∧ ns.length ≤ 63 ∧ R (.bl true) M

theorem fo_law {fd : FuncData} (T : Tx P w K mg base) (F : Fun K "law" "law" s_law T.A_law fd)  : FnOk P w K mg base (L2.CX P w) (200) T.A_law fd ["_law_script"] (upS K (spLaw)) := by
  refine fn_rich F sc_law (fun ws M R RX h => ?len) (fun cdv A outer s H E F0 ws M R RX hr hsp hx hp => ⟨_, (qss_cons (qs_for hp rfl (qi_lst (qe_op q_add (qe_slice q_cut (qv 0) qo_none (qo_some qe_int)) (qe_fl (qa_cons (qe_call (ok__law_at T) (hr.mono (by omega)) rfl T.m__law_at hx (qa_cons (qv 0) (qa_cons qe_int qa_nil))) qa_nil)))) (qg_name (i := 1) sc_law.nd rfl (by first | exact Or.inl rfl | exact Or.inr rfl)) (qss_cons (qs_set (i := 2) sc_law.nd rfl (by first | exact Or.inl rfl | exact Or.inr rfl) (qe_call (ok__law_purse T) (hr.mono (by omega)) rfl T.m__law_purse hx (qa_cons (qv 1) (qa_cons qe_int qa_nil))))
      (qss_cons (qs_set (i := 3) sc_law.nd rfl (by first | exact Or.inl rfl | exact Or.inr rfl) (qe_call (said_all T 60) (hr.mono (by omega)) rfl T.m__law_said hx (qa_cons (qe_call (datum_all T 60) (hr.mono (by omega)) rfl T.m__law_datum hx (qa_cons (qv 2) (qa_cons (qe_call (ok__law_take T) (hr.mono (by omega)) rfl T.m__law_take hx (qa_cons (qv 2) (qa_cons qe_int qa_nil))) qa_nil))) qa_nil)))
      (qss_cons (qs_for hp rfl (qi_range1 rfl T.z_range (qa_cons (qe_op q_add qe_int (qe_call (ok__law_take T) (hr.mono (by omega)) rfl T.m__law_take hx (qa_cons (qv 2) (qa_cons qe_int qa_nil)))) qa_nil)) (qg_name (i := 4) sc_law.nd rfl (by first | exact Or.inl rfl | exact Or.inr rfl)) (qss_one (qs_set (i := 3) sc_law.nd rfl (by first | exact Or.inl rfl | exact Or.inr rfl) (qe_call (ok__law_bent T) (hr.mono (by omega)) rfl T.m__law_bent hx (qa_cons (qv 2) (qa_cons (qv 3) qa_nil))))))
      (qss_cons (qs_if (qt_not (qt_val (qe_call (ok__law_right T) (hr.mono (by omega)) rfl T.m__law_right hx (qa_cons (qv 3) qa_nil)))) (qss_one (qs_ret qe_bl)) qss_nil)
      (qss_cons (qs_set (i := 5) sc_law.nd rfl (by first | exact Or.inl rfl | exact Or.inr rfl) (qe_op q_add qe_int (qe_call (ok__law_take T) (hr.mono (by omega)) rfl T.m__law_take hx (qa_cons (qv 2) (qa_cons qe_int qa_nil)))))
      (qss_cons (qs_set (i := 6) sc_law.nd rfl (by first | exact Or.inl rfl | exact Or.inr rfl) (qe_fl (qa_cons (qe_op q_muls qe_str (qv 5)) (qa_cons (qe_op q_add qe_str (qe_op q_muls qe_str (qv 5))) (qa_cons (qe_op q_add (qe_op q_add qe_str (qe_op q_muls qe_str (qv 5))) qe_str) (qa_cons (qe_op q_muls qe_str (qe_op q_sub (qv 5) qe_int)) qa_nil))))))
      (qss_one (qs_for hp rfl (qi_lst (qe_op q_add (qv 6) (qe_fl (qa_cons (qe_op q_add qe_str (qe_op q_muls qe_str (qe_op q_sub (qv 5) qe_int))) qa_nil)))) (qg_name (i := 7) sc_law.nd rfl (by first | exact Or.inl rfl | exact Or.inr rfl)) (qss_one (qs_if (qt_not (qt_val (qe_call (ok__law_right T) (hr.mono (by omega)) rfl T.m__law_right hx (qa_cons (qv 7) qa_nil)))) (qss_one (qs_ret qe_bl)) qss_nil)))))))))))
      (qss_cons (qs_set (i := 6) sc_law.nd rfl (by first | exact Or.inl rfl | exact Or.inr rfl) (qe_fl (qa_cons qe_str (qa_cons qe_str (qa_cons qe_str (qa_cons qe_str (qa_cons qe_str (qa_cons qe_str (qa_cons qe_str (qa_cons qe_str (qa_cons qe_str (qa_cons qe_str (qa_cons qe_str (qa_cons qe_str (qa_cons qe_str (qa_cons qe_str qa_nil))))))))))))))))
      (qss_cons (qs_set (i := 6) sc_law.nd rfl (by first | exact Or.inl rfl | exact Or.inr rfl) (qe_op q_add (qv 6) (qe_fl (qa_cons qe_str (qa_cons qe_str (qa_cons qe_str (qa_cons qe_str (qa_cons qe_str (qa_cons qe_str qa_nil)))))))))
      (qss_cons (qs_for hp rfl (qi_lst (qe_op q_add (qv 6) (qe_fl (qa_cons qe_str (qa_cons qe_str (qa_cons qe_non (qa_cons qe_int (qa_cons qe_bl (qa_cons (qe_tup (qa_cons qe_str qa_nil)) (qa_cons (qe_fl (qa_cons qe_str qa_nil)) qa_nil)))))))))) (qg_name (i := 8) sc_law.nd rfl (by first | exact Or.inl rfl | exact Or.inr rfl)) (qss_one (qs_if (qt_not (qt_val (qe_call (ok__law_right T) (hr.mono (by omega)) rfl T.m__law_right hx (qa_cons (qv 8) qa_nil)))) (qss_one (qs_ret qe_bl)) qss_nil)))
      (qss_one (qs_ret qe_bl)))))), ?body⟩)
  case len => (unfold spLaw at h; first | (obtain ⟨_, rfl, _⟩ := h; rfl) | (obtain ⟨_, _, rfl, _⟩ := h; rfl) | (obtain ⟨_, _, _, rfl, _⟩ := h; rfl) | (obtain ⟨_, _, _, _, rfl, _⟩ := h; rfl) | (obtain ⟨_, _, _, _, _, rfl, _⟩ := h; rfl) | (obtain ⟨_, _, _, _, _, _, rfl, _⟩ := h; rfl) | (obtain ⟨_, _, _, _, _, _, _, rfl, _⟩ := h; rfl) | (obtain ⟨_, _, _, _, _, _, _, _, rfl, _⟩ := h; rfl))
  case body =>
    obtain ⟨ns, rfl, hns, q⟩ := hsp
    have hsz : sizeLine = 16777216 := sizeLine_eq
    refine seq_have (fun ρ M1 => MSub M M1 ∧ ∃ a b c d e f g h, ρ = [some (.sc (ns.map .int)), a, b, c, d, e, f, g, h]) ?p2 ?p1
    case p1 =>
      intro G0 hG0
      simp only [mFor, iL, mOp, mSl, mVar, gt, mNoPart, mPart, mC, mFl, mCons, mNil, mCall, cutsc, startW, List.map_cons, List.map_nil, List.length_cons, List.length_nil, List.replicate, List.cons_append, List.nil_append]
      refine ⟨ns, 4, rfl, by decide, by decide, fun nn => ?_⟩
      dsimp only
      rw [add_ff]
      have hcl := cut_le (xs := ns.map W.int) (lo := none) (hi := some 10)
      rw [List.length_map] at hcl
      refine ⟨by show 1 ≤ sizeLine; decide, by simp only [List.length_cons, List.length_nil]; omega, ?_⟩
      dsimp only
      refine turns_inv (fun ws ρ M2 => MSub M M2 ∧ (∀ v ∈ ws, ∃ i : Int, v = .int i) ∧ ∃ a b c d e f g h, ρ = [some (.sc (ns.map .int)), a, b, c, d, e, f, g, h]) ?g0 ?g1 _ _ _ ⟨MSub.refl _, ?gi, _, _, _, _, _, _, _, _, rfl⟩
      case gi =>
        intro v hv
        rcases List.mem_append.mp hv with h | h
        · have := cut_mem h
          obtain ⟨i, _, rfl⟩ := List.mem_map.mp this
          exact ⟨i, rfl⟩
        · rw [List.mem_singleton.mp h]; exact ⟨nn, rfl⟩
      case g0 =>
        rintro ρ M2 ⟨hM, _, a, b, c, d, e, f, g, h, rfl⟩
        exact hG0 _ _ ⟨hM, _, _, _, _, _, _, _, _, rfl⟩
      case g1 =>
        rintro v ws ρ M2 ⟨hM, hv, a, b, c, d, e, f, g, h, rfl⟩ G hG
        have hws : ∀ v ∈ ws, ∃ i : Int, v = .int i := fun x hx => hv x (List.mem_cons_of_mem _ hx)
        obtain ⟨i, rfl⟩ := hv v List.mem_cons_self
        simp only [mVar, gt, mC, mOp, mUn, mTest, mChain, mAnd, mOr, mNot, mAndV, mOrV, mNotV, mIf, mNil, mCons, mTup, mFl, mLst, mCB, mBM0, mBM, mSl, mPart, mNoPart, mSeq, mNext, mDrop, mCont, mBreak, mRet, mIfS, mAsg, nName, st, startW, mFld, mSetFld, mAugFld, mMeth, mCall, mRaise, List.map_cons, List.map_nil, List.length_cons, List.length_nil, List.replicate, List.cons_append, List.nil_append, Nat.zero_add, Nat.reduceAdd, Nat.reduceSub, Nat.sub_self, mWhile, add_ii, add_ss, add_tt, add_ff, sub_ii, mul_ii, div_ii, mod_ii, pow_ii, neg_i, lt_ii, le_ii, gt_ii, ge_ii, eq_ii, eq_ss, eq_bb, ne_ii, ne_ss, in_ss, int_i, int_b, int_s, cut_s, len_s, len_t, len_f, len_sc, str_i, str_s, tupof_f, mNeL, mEqL, rcv_s, dig_bm, low_bm, true_and]
        refine ⟨i, 2, rfl, by decide, by decide, fun p v0 k hp hP => ?_⟩
        have hMp : ∀ v c, MSub M (mu M2 p (pu v c k)) := fun v c b o e => by rw [mu_ne (mne (hM b o e) hp)]; exact hM b o e
        refine ⟨p, v0, 0, k, 4, rfl, mu_same, ⟨hP.v0, hP.v1, by decide, by decide⟩, by decide, by decide, by decide, fun dp0 v1 c1 g0 g1 hP1 hc1 => ?_⟩
        have c10 := hP1.c0
        obtain ⟨e1, rfl⟩ := Int.eq_ofNat_of_zero_le g0
        have hse := small_e (show e1 < 5 by omega)
        have hcg := cbd_ge e1
        refine ⟨p, v1, c1, k, e1, rfl, by omega, mu_same, ⟨hP1.v0, hP1.v1, by omega, by omega⟩, c10, fun d0 v2 c2 od hdp htx hP2 hc2 => ?_⟩
        have c20 := hP2.c0
        refine ⟨d0, rfl, od, by omega, by omega, ?_⟩
        simp only [mFor, iR1, mOp, mVar, gt, mC, mCons, mNil, mCall, mu_mu]
        refine ⟨p, v2, c2, k, 3, rfl, mu_same, ⟨hP2.v0, hP2.v1, by omega, by omega⟩, c20, by decide, by decide, fun cnt v3 c3 g2 g3 hP3 hc3 => ?_⟩
        have c30 := hP3.c0
        dsimp only
        rw [add_ii]
        dsimp only
        have hlen : (intsFrom 0 (1 + cnt).toNat).length ≤ 3 := by simp [intsFrom]; omega
        refine ⟨by omega, by omega, ?_⟩
        refine turns_inv (fun ws' ρ M' => ∃ (y : Str) (v c : Int) (t : Option W), ρ = [some (.sc (ns.map .int)), some (.int i), some (.ref p), some (.str y), t, e, f, g, h] ∧ M' = mu M2 p (pu v c k) ∧ asc y ∧ ws'.length ≤ 3 ∧ y.length ≤ Bnd3 ws'.length ∧ 0 ≤ v ∧ v < 10 ^ 610 ∧ 0 ≤ c ∧ c + 4 * (ws'.length : Int) ≤ 1000) ?k0 ?k1 _ _ _ ⟨mkS (txt d0), v3, c3, d, rfl, by rw [mu_mu], fun c hc => asc_txt od c hc, hlen, ?i1, hP3.v0, hP3.v1, c30, by omega⟩
        case i1 =>
          have hl : (mkS (txt d0)).length = (txt d0).length := by show (txt d0).toArray.size = _; simp
          rw [hl]
          generalize (intsFrom 0 (1 + cnt).toNat).length = len at hlen
          have : len = 0 ∨ len = 1 ∨ len = 2 ∨ len = 3 := by omega
          rcases this with rfl | rfl | rfl | rfl <;> (simp only [Bnd3]; omega)
        case k1 =>
          rintro x ws' ρ M' ⟨y, v, c, t, rfl, rfl, hy, hl3, hyl, hv0, hv1, hc0, hcc⟩ G2 hG2
          simp only [List.length_cons] at hl3 hyl hcc
          have hyl2 : y.length ≤ 100000 ∧ 3 * y.length + 2 ≤ Bnd3 ws'.length := by
            have : ws'.length = 0 ∨ ws'.length = 1 ∨ ws'.length = 2 := by omega
            rcases this with h | h | h <;> (rw [h] at hyl ⊢; simp only [Bnd3] at hyl ⊢; omega)
          simp only [mVar, gt, mC, mOp, mUn, mTest, mChain, mAnd, mOr, mNot, mAndV, mOrV, mNotV, mIf, mNil, mCons, mTup, mFl, mLst, mCB, mBM0, mBM, mSl, mPart, mNoPart, mSeq, mNext, mDrop, mCont, mBreak, mRet, mIfS, mAsg, nName, st, startW, mFld, mSetFld, mAugFld, mMeth, mCall, mRaise, List.map_cons, List.map_nil, List.length_cons, List.length_nil, List.replicate, List.cons_append, List.nil_append, Nat.zero_add, Nat.reduceAdd, Nat.reduceSub, Nat.sub_self, mWhile, add_ii, add_ss, add_tt, add_ff, sub_ii, mul_ii, div_ii, mod_ii, pow_ii, neg_i, lt_ii, le_ii, gt_ii, ge_ii, eq_ii, eq_ss, eq_bb, ne_ii, ne_ss, in_ss, int_i, int_b, int_s, cut_s, len_s, len_t, len_f, len_sc, str_i, str_s, tupof_f, mNeL, mEqL, rcv_s, dig_bm, low_bm, true_and]
          refine ⟨p, v, c, k, y, rfl, mu_same, ⟨hv0, hv1, by omega, by omega⟩, hc0, hyl2.1, hy, fun y2 v' c' a1 a2 a3 a4 => ?_⟩
          exact hG2 _ _ ⟨y2, v', c', _, rfl, by rw [mu_mu], a1, by omega, by omega, a3.v0, a3.v1, a3.c0, by omega⟩
        case k0 =>
          rintro ρ M' ⟨y, v, c, t, rfl, rfl, hy, hl3, hyl, hv0, hv1, hc0, hcc⟩
          simp only [mVar, gt, mC, mOp, mUn, mTest, mChain, mAnd, mOr, mNot, mAndV, mOrV, mNotV, mIf, mNil, mCons, mTup, mFl, mLst, mCB, mBM0, mBM, mSl, mPart, mNoPart, mSeq, mNext, mDrop, mCont, mBreak, mRet, mIfS, mAsg, nName, st, startW, mFld, mSetFld, mAugFld, mMeth, mCall, mRaise, List.map_cons, List.map_nil, List.length_cons, List.length_nil, List.replicate, List.cons_append, List.nil_append, Nat.zero_add, Nat.reduceAdd, Nat.reduceSub, Nat.sub_self, mWhile, add_ii, add_ss, add_tt, add_ff, sub_ii, mul_ii, div_ii, mod_ii, pow_ii, neg_i, lt_ii, le_ii, gt_ii, ge_ii, eq_ii, eq_ss, eq_bb, ne_ii, ne_ss, in_ss, int_i, int_b, int_s, cut_s, len_s, len_t, len_f, len_sc, str_i, str_s, tupof_f, mNeL, mEqL, rcv_s, dig_bm, low_bm, true_and]
          refine ⟨.str y, rfl, .inl ⟨y, rfl, by simp only [List.length_nil, Bnd3] at hyl; omega, hy⟩, ?_⟩
          (try simp only [hd_e, hd_d, hd_0, hd_o, hd_c, hd_s, hd_in, List.head?_cons, List.head?_nil, List.isEmpty_cons, List.isEmpty_nil, List.cons_append, List.nil_append, beq_self_eq_true, gt, clsW, fldW, add_ii, add_ss, add_tt, add_ff, sub_ii, mul_ii, div_ii, mod_ii, pow_ii, neg_i, lt_ii, le_ii, gt_ii, ge_ii, eq_ii, eq_ss, eq_bb, ne_ii, ne_ss, in_ss, int_i, int_b, int_s, cut_s, len_s, len_t, len_f, len_sc, str_i, str_s, tupof_f, lk_at, lk_s, lk_1, lk_2, lk_3, lk_4, lk_5, lk_6, put_rd, put_rd0, len_rd, mu_same, mu_mu, true_and, and_true, Bool.not_true, Bool.not_false, if_true, if_false, Bool.false_eq_true, decide_true, decide_false, Bool.true_eq_false, ite_true, ite_false, eq_self_iff_true, rcv_s, dig_bm, low_bm]); (try simp only [fold_rd1, fold_rd])
          refine ⟨p, v, c, k, 5, rfl, mu_same, ⟨hv0, hv1, by omega, by simp only [List.length_nil] at hcc; omega⟩, hc0, by decide, by decide, fun st5 v5 c5 b0 b1 hP5 hc5 => ?_⟩
          (try simp only [hd_e, hd_d, hd_0, hd_o, hd_c, hd_s, hd_in, List.head?_cons, List.head?_nil, List.isEmpty_cons, List.isEmpty_nil, List.cons_append, List.nil_append, beq_self_eq_true, gt, clsW, fldW, add_ii, add_ss, add_tt, add_ff, sub_ii, mul_ii, div_ii, mod_ii, pow_ii, neg_i, lt_ii, le_ii, gt_ii, ge_ii, eq_ii, eq_ss, eq_bb, ne_ii, ne_ss, in_ss, int_i, int_b, int_s, cut_s, len_s, len_t, len_f, len_sc, str_i, str_s, tupof_f, lk_at, lk_s, lk_1, lk_2, lk_3, lk_4, lk_5, lk_6, put_rd, put_rd0, len_rd, mu_same, mu_mu, true_and, and_true, Bool.not_true, Bool.not_false, if_true, if_false, Bool.false_eq_true, decide_true, decide_false, Bool.true_eq_false, ite_true, ite_false, eq_self_iff_true, rcv_s, dig_bm, low_bm, muls_si]); (try simp only [fold_rd1, fold_rd])
          have m7 : MulOk (Str.ofString "7") (38 + st5) ∧ asc (Txt.mul (Str.ofString "7") (38 + st5)) ∧ (Txt.mul (Str.ofString "7") (38 + st5)).length ≤ 100 := mul_one (ch := 55) (by decide) (by omega) (by omega)
          have m1 : MulOk (Str.ofString "1") (38 + st5) ∧ asc (Txt.mul (Str.ofString "1") (38 + st5)) ∧ (Txt.mul (Str.ofString "1") (38 + st5)).length ≤ 100 := mul_one (ch := 49) (by decide) (by omega) (by omega)
          have m9 : MulOk (Str.ofString "9") (38 + st5) ∧ asc (Txt.mul (Str.ofString "9") (38 + st5)) ∧ (Txt.mul (Str.ofString "9") (38 + st5)).length ≤ 100 := mul_one (ch := 57) (by decide) (by omega) (by omega)
          have mb : MulOk (Str.ofString "b") (38 + st5 - 28) ∧ asc (Txt.mul (Str.ofString "b") (38 + st5 - 28)) ∧ (Txt.mul (Str.ofString "b") (38 + st5 - 28)).length ≤ 100 := mul_one (ch := 98) (by decide) (by omega) (by omega)
          have mc : MulOk (Str.ofString "c") (38 + st5 - 28) ∧ asc (Txt.mul (Str.ofString "c") (38 + st5 - 28)) ∧ (Txt.mul (Str.ofString "c") (38 + st5 - 28)).length ≤ 100 := mul_one (ch := 99) (by decide) (by omega) (by omega)
          have l1 : (Str.ofString "-").length = 1 := rfl
          have l2 : (Str.ofString "(a ").length = 3 := rfl
          have l3 : (Str.ofString ")").length = 1 := rfl
          have l4 : (Str.ofString "(").length = 1 := rfl
          have a1 : asc (Str.ofString "-") := by intro c hc; revert c; decide +kernel
          have a2 : asc (Str.ofString "(a ") := by intro c hc; revert c; decide +kernel
          refine ⟨m7.1, m1.1, by omega, m9.1, by omega, by rw [len_app]; omega, mb.1, by decide, ?_⟩
          simp only [mFor, iL, mOp, mVar, gt, mFl, mCons, mNil, mC, sub_ii, muls_si]
          refine ⟨mc.1, ?_⟩
          rw [add_ss]
          refine ⟨by omega, by show 1 ≤ sizeLine; decide, ?_⟩
          rw [add_ff]
          refine ⟨by show 5 ≤ sizeLine; decide, ?_⟩
          dsimp only
          refine turns_inv (fun ws'' ρ M' => ∃ (a b c d e f g : Option W), ρ = [some (.sc (ns.map .int)), a, b, c, d, e, f, g, h] ∧ M' = mu M2 p (pu v5 c5 k) ∧ ∀ v ∈ ws'', ∃ z, v = .str z ∧ z.length ≤ 1000000 ∧ asc z) ?q0 ?q1 _ _ _ ⟨_, _, _, _, _, _, _, rfl, rfl, ?qi⟩
          case qi =>
            intro v hv
            simp only [List.cons_append, List.nil_append, List.mem_cons, List.not_mem_nil, or_false] at hv
            rcases hv with rfl | rfl | rfl | rfl | rfl
            · exact ⟨_, rfl, by omega, m7.2.1⟩
            · exact ⟨_, rfl, by rw [len_app]; omega, asc_app a1 m1.2.1⟩
            · exact ⟨_, rfl, by rw [len_app, len_app]; omega, asc_app (asc_app a2 m9.2.1) asc_lit.2.1⟩
            · exact ⟨_, rfl, by omega, mb.2.1⟩
            · exact ⟨_, rfl, by rw [len_app]; omega, asc_app asc_lit.1 mc.2.1⟩
          case q0 =>
            rintro ρ M' ⟨a, b, c, d, e, f, g, rfl, rfl, _⟩
            exact hG _ _ ⟨hMp _ _, hws, _, _, _, _, _, _, _, _, rfl⟩
          case q1 =>
            rintro x ws'' ρ M' ⟨a, b, c, d, e, f, g, rfl, rfl, hx⟩ G2 hG2
            obtain ⟨z, rfl, z1, z2⟩ := hx x List.mem_cons_self
            simp only [mVar, gt, mC, mOp, mUn, mTest, mChain, mAnd, mOr, mNot, mAndV, mOrV, mNotV, mIf, mNil, mCons, mTup, mFl, mLst, mCB, mBM0, mBM, mSl, mPart, mNoPart, mSeq, mNext, mDrop, mCont, mBreak, mRet, mIfS, mAsg, nName, st, startW, mFld, mSetFld, mAugFld, mMeth, mCall, mRaise, List.map_cons, List.map_nil, List.length_cons, List.length_nil, List.replicate, List.cons_append, List.nil_append, Nat.zero_add, Nat.reduceAdd, Nat.reduceSub, Nat.sub_self, mWhile, add_ii, add_ss, add_tt, add_ff, sub_ii, mul_ii, div_ii, mod_ii, pow_ii, neg_i, lt_ii, le_ii, gt_ii, ge_ii, eq_ii, eq_ss, eq_bb, ne_ii, ne_ss, in_ss, int_i, int_b, int_s, cut_s, len_s, len_t, len_f, len_sc, str_i, str_s, tupof_f, mNeL, mEqL, rcv_s, dig_bm, low_bm, true_and]
            refine ⟨.str z, rfl, .inl ⟨z, rfl, z1, z2⟩, ?_⟩
            (try simp only [hd_e, hd_d, hd_0, hd_o, hd_c, hd_s, hd_in, List.head?_cons, List.head?_nil, List.isEmpty_cons, List.isEmpty_nil, List.cons_append, List.nil_append, beq_self_eq_true, gt, clsW, fldW, add_ii, add_ss, add_tt, add_ff, sub_ii, mul_ii, div_ii, mod_ii, pow_ii, neg_i, lt_ii, le_ii, gt_ii, ge_ii, eq_ii, eq_ss, eq_bb, ne_ii, ne_ss, in_ss, int_i, int_b, int_s, cut_s, len_s, len_t, len_f, len_sc, str_i, str_s, tupof_f, lk_at, lk_s, lk_1, lk_2, lk_3, lk_4, lk_5, lk_6, put_rd, put_rd0, len_rd, mu_same, mu_mu, true_and, and_true, Bool.not_true, Bool.not_false, if_true, if_false, Bool.false_eq_true, decide_true, decide_false, Bool.true_eq_false, ite_true, ite_false, eq_self_iff_true, rcv_s, dig_bm, low_bm]); (try simp only [fold_rd1, fold_rd])
            exact hG2 _ _ ⟨_, _, _, _, _, _, _, rfl, rfl, fun v hv => hx v (List.mem_cons_of_mem _ hv)⟩
    case p2 =>
      rintro ρ M1 ⟨hM, a, b, c, d, e, f, g, h, rfl⟩
      simp only [mSeq, mAsg, mFl, mCons, mNil, mC, nName, st, mOp, mVar, gt]
      refine ⟨by decide, by decide, ?_⟩
      rw [add_ff]
      refine ⟨by decide, ?_⟩
      simp only [mFor, iL, mOp, mVar, gt, mFl, mCons, mNil, mC, mTup]
      refine ⟨by decide, by decide, by decide, ?_⟩
      rw [add_ff]
      refine ⟨by decide, ?_⟩
      dsimp only
      refine turns_inv (fun ws ρ M2 => M2 = M1 ∧ (∀ v ∈ ws, okT v = true) ∧ ∃ a b c d e f g h, ρ = [some (.sc (ns.map .int)), a, b, c, d, e, f, g, h]) ?r0 ?r1 _ _ _ ⟨rfl, List.all_eq_true.mp (by decide +kernel), _, _, _, _, _, _, _, _, rfl⟩
      case r0 =>
        rintro ρ M2 ⟨rfl, _, a, b, c, d, e, f, g, h, rfl⟩
        simp only [mVar, gt, mC, mOp, mUn, mTest, mChain, mAnd, mOr, mNot, mAndV, mOrV, mNotV, mIf, mNil, mCons, mTup, mFl, mLst, mCB, mBM0, mBM, mSl, mPart, mNoPart, mSeq, mNext, mDrop, mCont, mBreak, mRet, mIfS, mAsg, nName, st, startW, mFld, mSetFld, mAugFld, mMeth, mCall, mRaise, List.map_cons, List.map_nil, List.length_cons, List.length_nil, List.replicate, List.cons_append, List.nil_append, Nat.zero_add, Nat.reduceAdd, Nat.reduceSub, Nat.sub_self, mWhile, add_ii, add_ss, add_tt, add_ff, sub_ii, mul_ii, div_ii, mod_ii, pow_ii, neg_i, lt_ii, le_ii, gt_ii, ge_ii, eq_ii, eq_ss, eq_bb, ne_ii, ne_ss, in_ss, int_i, int_b, int_s, cut_s, len_s, len_t, len_f, len_sc, str_i, str_s, tupof_f, mNeL, mEqL, rcv_s, dig_bm, low_bm, true_and]
        exact ⟨M, hM, q⟩
      case r1 =>
        rintro x ws ρ M2 ⟨rfl, hv, a, b, c, d, e, f, g, h, rfl⟩ G2 hG2
        simp only [mVar, gt, mC, mOp, mUn, mTest, mChain, mAnd, mOr, mNot, mAndV, mOrV, mNotV, mIf, mNil, mCons, mTup, mFl, mLst, mCB, mBM0, mBM, mSl, mPart, mNoPart, mSeq, mNext, mDrop, mCont, mBreak, mRet, mIfS, mAsg, nName, st, startW, mFld, mSetFld, mAugFld, mMeth, mCall, mRaise, List.map_cons, List.map_nil, List.length_cons, List.length_nil, List.replicate, List.cons_append, List.nil_append, Nat.zero_add, Nat.reduceAdd, Nat.reduceSub, Nat.sub_self, mWhile, add_ii, add_ss, add_tt, add_ff, sub_ii, mul_ii, div_ii, mod_ii, pow_ii, neg_i, lt_ii, le_ii, gt_ii, ge_ii, eq_ii, eq_ss, eq_bb, ne_ii, ne_ss, in_ss, int_i, int_b, int_s, cut_s, len_s, len_t, len_f, len_sc, str_i, str_s, tupof_f, mNeL, mEqL, rcv_s, dig_bm, low_bm, true_and]
        refine ⟨x, rfl, okT_of (hv x List.mem_cons_self), ?_⟩
        (try simp only [hd_e, hd_d, hd_0, hd_o, hd_c, hd_s, hd_in, List.head?_cons, List.head?_nil, List.isEmpty_cons, List.isEmpty_nil, List.cons_append, List.nil_append, beq_self_eq_true, gt, clsW, fldW, add_ii, add_ss, add_tt, add_ff, sub_ii, mul_ii, div_ii, mod_ii, pow_ii, neg_i, lt_ii, le_ii, gt_ii, ge_ii, eq_ii, eq_ss, eq_bb, ne_ii, ne_ss, in_ss, int_i, int_b, int_s, cut_s, len_s, len_t, len_f, len_sc, str_i, str_s, tupof_f, lk_at, lk_s, lk_1, lk_2, lk_3, lk_4, lk_5, lk_6, put_rd, put_rd0, len_rd, mu_same, mu_mu, true_and, and_true, Bool.not_true, Bool.not_false, if_true, if_false, Bool.false_eq_true, decide_true, decide_false, Bool.true_eq_false, ite_true, ite_false, eq_self_iff_true, rcv_s, dig_bm, low_bm]); (try simp only [fold_rd1, fold_rd])
        exact hG2 _ _ ⟨rfl, fun v hv' => hv v (List.mem_cons_of_mem _ hv'), _, _, _, _, _, _, _, _, rfl⟩

end Ri
set_option Elab.async false
set_option linter.all false
set_option maxRecDepth 100000
set_option maxHeartbeats 4000000

namespace Ri
open PySem L2 PySem.Calls PyProof.Rows
theorem all_mk {l : PySem.W.OpenLaw} {w : World} {K : PySem.W.Frag} {h : Heap} {mg : Str → Option Value} {fa f1 f2 f3 f4 f5 f6 f7 f8 f9 f10 f11 f12 f13 f14 f15 f16 f17 f18 f19 f20 f21 f22 f23 f24 f25 f26 f27 f28 f29 f30 f31 f32 f33 f34 f35 f36 f37 : Addr} (X : K.In h) (G : h.Ns mainGlobals mg) (hfa : mg "law" = some (.ref fa))
    {od1 an1 : Option Addr} {sl1 : Array (Option Value)} {oc1 kV1 dc1 pm1 cd1 ct1 : Value}
    {od2 an2 : Option Addr} {sl2 : Array (Option Value)} {oc2 kV2 dc2 pm2 cd2 ct2 : Value}
    {od3 an3 : Option Addr} {sl3 : Array (Option Value)} {oc3 kV3 dc3 pm3 cd3 ct3 : Value}
    {od4 an4 : Option Addr} {sl4 : Array (Option Value)} {oc4 kV4 dc4 pm4 cd4 ct4 : Value}
    {od5 an5 : Option Addr} {sl5 : Array (Option Value)} {oc5 kV5 dc5 pm5 cd5 ct5 : Value}
    {od6 an6 : Option Addr} {sl6 : Array (Option Value)} {oc6 kV6 dc6 pm6 cd6 ct6 : Value}
    {od7 an7 : Option Addr} {sl7 : Array (Option Value)} {oc7 kV7 dc7 pm7 cd7 ct7 : Value}
    {od8 an8 : Option Addr} {sl8 : Array (Option Value)} {oc8 kV8 dc8 pm8 cd8 ct8 : Value}
    {od9 an9 : Option Addr} {sl9 : Array (Option Value)} {oc9 kV9 dc9 pm9 cd9 ct9 : Value}
    {od10 an10 : Option Addr} {sl10 : Array (Option Value)} {oc10 kV10 dc10 pm10 cd10 ct10 : Value}
    {od11 an11 : Option Addr} {sl11 : Array (Option Value)} {oc11 kV11 dc11 pm11 cd11 ct11 : Value}
    {od12 an12 : Option Addr} {sl12 : Array (Option Value)} {oc12 kV12 dc12 pm12 cd12 ct12 : Value}
    {od13 an13 : Option Addr} {sl13 : Array (Option Value)} {oc13 kV13 dc13 pm13 cd13 ct13 : Value}
    {od14 an14 : Option Addr} {sl14 : Array (Option Value)} {oc14 kV14 dc14 pm14 cd14 ct14 : Value}
    {od15 an15 : Option Addr} {sl15 : Array (Option Value)} {oc15 kV15 dc15 pm15 cd15 ct15 : Value}
    {od16 an16 : Option Addr} {sl16 : Array (Option Value)} {oc16 kV16 dc16 pm16 cd16 ct16 : Value}
    {od30 an30 : Option Addr} {sl30 : Array (Option Value)} {oc30 kV30 dc30 pm30 cd30 ct30 : Value}
    {od31 an31 : Option Addr} {sl31 : Array (Option Value)} {oc31 kV31 dc31 pm31 cd31 ct31 : Value}
    {od32 an32 : Option Addr} {sl32 : Array (Option Value)} {oc32 kV32 dc32 pm32 cd32 ct32 : Value}
    {od33 an33 : Option Addr} {sl33 : Array (Option Value)} {oc33 kV33 dc33 pm33 cd33 ct33 : Value}
    {od34 an34 : Option Addr} {sl34 : Array (Option Value)} {oc34 kV34 dc34 pm34 cd34 ct34 : Value}
    {od35 an35 : Option Addr} {sl35 : Array (Option Value)} {oc35 kV35 dc35 pm35 cd35 ct35 : Value}
    {od36 an36 : Option Addr} {sl36 : Array (Option Value)} {oc36 kV36 dc36 pm36 cd36 ct36 : Value}
    {od37 an37 : Option Addr} {sl37 : Array (Option Value)} {oc37 kV37 dc37 pm37 cd37 ct37 : Value}
    {nm37 qn37 : Str} {N37 : Addr} {bs37 bm37 : List Value} {sn37 : List Str} {sb37 : List Value} {ab37 : Bool} {co37 : Option Bool} {dd37 : Option Addr} {x037 x137 x237 x337 x537 : Option Value}
    {t_FIGURES : Tok}
    {t_LETTERS : Tok}
    {t_MOST_FIGURES : Tok}
    {t_MOST_LETTERS : Tok}
    {D_TRUTHS : Addr} {n_TRUTHS : Nat} {es_TRUTHS : Array DictEntry}
    (a1 : PySem.W.nsIn K mainGlobals "read_data" = some (some (.ref f1)))
    (l1 : K.lookup f1 = some ⟨oc1, od1, .func (PySem.W.fnOf "read_data" "read_data" (defArgs s_read_data) (defBody s_read_data) (defScope s_read_data) .none kV1 dc1 pm1 an1 cd1 ct1), sl1⟩)
    (c1 : PySem.W.codeIn K cd1 "read_data" = true)
    (k1 : PySem.W.keepIn K (.ref f1) = true)
    (a2 : PySem.W.nsIn K mainGlobals "leaf_text" = some (some (.ref f2)))
    (l2 : K.lookup f2 = some ⟨oc2, od2, .func (PySem.W.fnOf "leaf_text" "leaf_text" (defArgs s_leaf_text) (defBody s_leaf_text) (defScope s_leaf_text) .none kV2 dc2 pm2 an2 cd2 ct2), sl2⟩)
    (c2 : PySem.W.codeIn K cd2 "leaf_text" = true)
    (k2 : PySem.W.keepIn K (.ref f2) = true)
    (a3 : PySem.W.nsIn K mainGlobals "data_text" = some (some (.ref f3)))
    (l3 : K.lookup f3 = some ⟨oc3, od3, .func (PySem.W.fnOf "data_text" "data_text" (defArgs s_data_text) (defBody s_data_text) (defScope s_data_text) .none kV3 dc3 pm3 an3 cd3 ct3), sl3⟩)
    (c3 : PySem.W.codeIn K cd3 "data_text" = true)
    (k3 : PySem.W.keepIn K (.ref f3) = true)
    (a4 : PySem.W.nsIn K mainGlobals "_law_mixed" = some (some (.ref f4)))
    (l4 : K.lookup f4 = some ⟨oc4, od4, .func (PySem.W.fnOf "_law_mixed" "_law_mixed" (defArgs s__law_mixed) (defBody s__law_mixed) (defScope s__law_mixed) .none kV4 dc4 pm4 an4 cd4 ct4), sl4⟩)
    (c4 : PySem.W.codeIn K cd4 "_law_mixed" = true)
    (k4 : PySem.W.keepIn K (.ref f4) = true)
    (a5 : PySem.W.nsIn K mainGlobals "_law_purse" = some (some (.ref f5)))
    (l5 : K.lookup f5 = some ⟨oc5, od5, .func (PySem.W.fnOf "_law_purse" "_law_purse" (defArgs s__law_purse) (defBody s__law_purse) (defScope s__law_purse) .none kV5 dc5 pm5 an5 cd5 ct5), sl5⟩)
    (c5 : PySem.W.codeIn K cd5 "_law_purse" = true)
    (k5 : PySem.W.keepIn K (.ref f5) = true)
    (a6 : PySem.W.nsIn K mainGlobals "_law_take" = some (some (.ref f6)))
    (l6 : K.lookup f6 = some ⟨oc6, od6, .func (PySem.W.fnOf "_law_take" "_law_take" (defArgs s__law_take) (defBody s__law_take) (defScope s__law_take) .none kV6 dc6 pm6 an6 cd6 ct6), sl6⟩)
    (c6 : PySem.W.codeIn K cd6 "_law_take" = true)
    (k6 : PySem.W.keepIn K (.ref f6) = true)
    (a7 : PySem.W.nsIn K mainGlobals "_law_at" = some (some (.ref f7)))
    (l7 : K.lookup f7 = some ⟨oc7, od7, .func (PySem.W.fnOf "_law_at" "_law_at" (defArgs s__law_at) (defBody s__law_at) (defScope s__law_at) .none kV7 dc7 pm7 an7 cd7 ct7), sl7⟩)
    (c7 : PySem.W.codeIn K cd7 "_law_at" = true)
    (k7 : PySem.W.keepIn K (.ref f7) = true)
    (a8 : PySem.W.nsIn K mainGlobals "_law_leaf_text" = some (some (.ref f8)))
    (l8 : K.lookup f8 = some ⟨oc8, od8, .func (PySem.W.fnOf "_law_leaf_text" "_law_leaf_text" (defArgs s__law_leaf_text) (defBody s__law_leaf_text) (defScope s__law_leaf_text) .none kV8 dc8 pm8 an8 cd8 ct8), sl8⟩)
    (c8 : PySem.W.codeIn K cd8 "_law_leaf_text" = true)
    (k8 : PySem.W.keepIn K (.ref f8) = true)
    (a9 : PySem.W.nsIn K mainGlobals "_law_said" = some (some (.ref f9)))
    (l9 : K.lookup f9 = some ⟨oc9, od9, .func (PySem.W.fnOf "_law_said" "_law_said" (defArgs s__law_said) (defBody s__law_said) (defScope s__law_said) .none kV9 dc9 pm9 an9 cd9 ct9), sl9⟩)
    (c9 : PySem.W.codeIn K cd9 "_law_said" = true)
    (k9 : PySem.W.keepIn K (.ref f9) = true)
    (a10 : PySem.W.nsIn K mainGlobals "_law_datum" = some (some (.ref f10)))
    (l10 : K.lookup f10 = some ⟨oc10, od10, .func (PySem.W.fnOf "_law_datum" "_law_datum" (defArgs s__law_datum) (defBody s__law_datum) (defScope s__law_datum) .none kV10 dc10 pm10 an10 cd10 ct10), sl10⟩)
    (c10 : PySem.W.codeIn K cd10 "_law_datum" = true)
    (k10 : PySem.W.keepIn K (.ref f10) = true)
    (a11 : PySem.W.nsIn K mainGlobals "_law_leaf_end" = some (some (.ref f11)))
    (l11 : K.lookup f11 = some ⟨oc11, od11, .func (PySem.W.fnOf "_law_leaf_end" "_law_leaf_end" (defArgs s__law_leaf_end) (defBody s__law_leaf_end) (defScope s__law_leaf_end) .none kV11 dc11 pm11 an11 cd11 ct11), sl11⟩)
    (c11 : PySem.W.codeIn K cd11 "_law_leaf_end" = true)
    (k11 : PySem.W.keepIn K (.ref f11) = true)
    (a12 : PySem.W.nsIn K mainGlobals "_law_wrong_at" = some (some (.ref f12)))
    (l12 : K.lookup f12 = some ⟨oc12, od12, .func (PySem.W.fnOf "_law_wrong_at" "_law_wrong_at" (defArgs s__law_wrong_at) (defBody s__law_wrong_at) (defScope s__law_wrong_at) .none kV12 dc12 pm12 an12 cd12 ct12), sl12⟩)
    (c12 : PySem.W.codeIn K cd12 "_law_wrong_at" = true)
    (k12 : PySem.W.keepIn K (.ref f12) = true)
    (a13 : PySem.W.nsIn K mainGlobals "_law_bent" = some (some (.ref f13)))
    (l13 : K.lookup f13 = some ⟨oc13, od13, .func (PySem.W.fnOf "_law_bent" "_law_bent" (defArgs s__law_bent) (defBody s__law_bent) (defScope s__law_bent) .none kV13 dc13 pm13 an13 cd13 ct13), sl13⟩)
    (c13 : PySem.W.codeIn K cd13 "_law_bent" = true)
    (k13 : PySem.W.keepIn K (.ref f13) = true)
    (a14 : PySem.W.nsIn K mainGlobals "_law_alone" = some (some (.ref f14)))
    (l14 : K.lookup f14 = some ⟨oc14, od14, .func (PySem.W.fnOf "_law_alone" "_law_alone" (defArgs s__law_alone) (defBody s__law_alone) (defScope s__law_alone) .none kV14 dc14 pm14 an14 cd14 ct14), sl14⟩)
    (c14 : PySem.W.codeIn K cd14 "_law_alone" = true)
    (k14 : PySem.W.keepIn K (.ref f14) = true)
    (a15 : PySem.W.nsIn K mainGlobals "_law_right" = some (some (.ref f15)))
    (l15 : K.lookup f15 = some ⟨oc15, od15, .func (PySem.W.fnOf "_law_right" "_law_right" (defArgs s__law_right) (defBody s__law_right) (defScope s__law_right) .none kV15 dc15 pm15 an15 cd15 ct15), sl15⟩)
    (c15 : PySem.W.codeIn K cd15 "_law_right" = true)
    (k15 : PySem.W.keepIn K (.ref f15) = true)
    (a16 : PySem.W.nsIn K mainGlobals "law" = some (some (.ref f16)))
    (l16 : K.lookup f16 = some ⟨oc16, od16, .func (PySem.W.fnOf "law" "law" (defArgs s_law) (defBody s_law) (defScope s_law) .none kV16 dc16 pm16 an16 cd16 ct16), sl16⟩)
    (c16 : PySem.W.codeIn K cd16 "law" = true)
    (k16 : PySem.W.keepIn K (.ref f16) = true)
    (a17 : PySem.W.nsIn K mainGlobals "Function" = some (some (.ref f17)))
    (a18 : PySem.W.nsIn K mainGlobals "BuiltIn" = some (some (.ref f18)))
    (a19 : PySem.W.nsIn K mainGlobals "Reader" = some (some (.ref f19)))
    (a20 : PySem.W.nsIn K mainGlobals "BadText" = some (some (.ref f20)))
    (a21 : PySem.W.nsIn K mainGlobals "Fault" = some (some (.ref f21)))
    (a22 : PySem.W.nsIn K mainGlobals "NoBack" = some (some (.ref f22)))
    (a23 : PySem.W.nsIn K mainGlobals "NoKind" = some (some (.ref f23)))
    (a24 : PySem.W.nsIn K mainGlobals "NoLevel" = some (some (.ref f24)))
    (a25 : PySem.W.nsIn K mainGlobals "NoLine" = some (some (.ref f25)))
    (a26 : PySem.W.nsIn K mainGlobals "NoName" = some (some (.ref f26)))
    (a27 : PySem.W.nsIn K mainGlobals "TooHigh" = some (some (.ref f27)))
    (a28 : PySem.W.nsIn K mainGlobals "TooLong" = some (some (.ref f28)))
    (a29 : PySem.W.nsIn K mainGlobals "StairError" = some (some (.ref f29)))
    (pg17 : PySem.W.plainGet K f17 Str.empty = true)
    (hd17 : PySem.W.hasDictIn K f17 = true)
    (po17 : PySem.W.plainOver K f17 = true)
    (sa17 : PySem.W.findIn K (.ref f17) "__setattr__" = some (some (.builtin "object.__setattr__")))
    (na17_0 : PySem.W.findIn K (.ref f17) "words" = some none)
    (pg18 : PySem.W.plainGet K f18 Str.empty = true)
    (hd18 : PySem.W.hasDictIn K f18 = true)
    (po18 : PySem.W.plainOver K f18 = true)
    (sa18 : PySem.W.findIn K (.ref f18) "__setattr__" = some (some (.builtin "object.__setattr__")))
    (na18_0 : PySem.W.findIn K (.ref f18) "word" = some none)
    (pg19 : PySem.W.plainGet K f19 Str.empty = true)
    (hd19 : PySem.W.hasDictIn K f19 = true)
    (po19 : PySem.W.plainOver K f19 = true)
    (sa19 : PySem.W.findIn K (.ref f19) "__setattr__" = some (some (.builtin "object.__setattr__")))
    (na19_0 : PySem.W.findIn K (.ref f19) "signs" = some none)
    (na19_1 : PySem.W.findIn K (.ref f19) "at" = some none)
    (a30 : PySem.W.findIn K (.ref f19) "__init__" = some (some (.ref f30)))
    (l30 : K.lookup f30 = some ⟨oc30, od30, .func (PySem.W.fnOf "__init__" "Reader.__init__" (defArgs s_Reader___init__) (defBody s_Reader___init__) (defScope s_Reader___init__) .none kV30 dc30 pm30 an30 cd30 ct30), sl30⟩)
    (c30 : PySem.W.codeIn K cd30 "Reader.__init__" = true)
    (k30 : PySem.W.keepIn K (.ref f30) = true)
    (i30 : PySem.W.isFn K (.ref f30) = true)
    (mi30 : PySem.W.makesIn K f19 = true)
    (kc30 : PySem.W.keepIn K (.ref f19) = true)
    (a31 : PySem.W.findIn K (.ref f19) "next_sign" = some (some (.ref f31)))
    (l31 : K.lookup f31 = some ⟨oc31, od31, .func (PySem.W.fnOf "next_sign" "Reader.next_sign" (defArgs s_Reader_next_sign) (defBody s_Reader_next_sign) (defScope s_Reader_next_sign) .none kV31 dc31 pm31 an31 cd31 ct31), sl31⟩)
    (c31 : PySem.W.codeIn K cd31 "Reader.next_sign" = true)
    (k31 : PySem.W.keepIn K (.ref f31) = true)
    (i31 : PySem.W.isFn K (.ref f31) = true)
    (a32 : PySem.W.findIn K (.ref f19) "wants" = some (some (.ref f32)))
    (l32 : K.lookup f32 = some ⟨oc32, od32, .func (PySem.W.fnOf "wants" "Reader.wants" (defArgs s_Reader_wants) (defBody s_Reader_wants) (defScope s_Reader_wants) .none kV32 dc32 pm32 an32 cd32 ct32), sl32⟩)
    (c32 : PySem.W.codeIn K cd32 "Reader.wants" = true)
    (k32 : PySem.W.keepIn K (.ref f32) = true)
    (i32 : PySem.W.isFn K (.ref f32) = true)
    (a33 : PySem.W.findIn K (.ref f19) "row_of" = some (some (.ref f33)))
    (l33 : K.lookup f33 = some ⟨oc33, od33, .func (PySem.W.fnOf "row_of" "Reader.row_of" (defArgs s_Reader_row_of) (defBody s_Reader_row_of) (defScope s_Reader_row_of) .none kV33 dc33 pm33 an33 cd33 ct33), sl33⟩)
    (c33 : PySem.W.codeIn K cd33 "Reader.row_of" = true)
    (k33 : PySem.W.keepIn K (.ref f33) = true)
    (i33 : PySem.W.isFn K (.ref f33) = true)
    (a34 : PySem.W.findIn K (.ref f19) "a_number" = some (some (.ref f34)))
    (l34 : K.lookup f34 = some ⟨oc34, od34, .func (PySem.W.fnOf "a_number" "Reader.a_number" (defArgs s_Reader_a_number) (defBody s_Reader_a_number) (defScope s_Reader_a_number) .none kV34 dc34 pm34 an34 cd34 ct34), sl34⟩)
    (c34 : PySem.W.codeIn K cd34 "Reader.a_number" = true)
    (k34 : PySem.W.keepIn K (.ref f34) = true)
    (i34 : PySem.W.isFn K (.ref f34) = true)
    (a35 : PySem.W.findIn K (.ref f19) "a_leaf" = some (some (.ref f35)))
    (l35 : K.lookup f35 = some ⟨oc35, od35, .func (PySem.W.fnOf "a_leaf" "Reader.a_leaf" (defArgs s_Reader_a_leaf) (defBody s_Reader_a_leaf) (defScope s_Reader_a_leaf) .none kV35 dc35 pm35 an35 cd35 ct35), sl35⟩)
    (c35 : PySem.W.codeIn K cd35 "Reader.a_leaf" = true)
    (k35 : PySem.W.keepIn K (.ref f35) = true)
    (i35 : PySem.W.isFn K (.ref f35) = true)
    (a36 : PySem.W.findIn K (.ref f19) "a_datum" = some (some (.ref f36)))
    (l36 : K.lookup f36 = some ⟨oc36, od36, .func (PySem.W.fnOf "a_datum" "Reader.a_datum" (defArgs s_Reader_a_datum) (defBody s_Reader_a_datum) (defScope s_Reader_a_datum) .none kV36 dc36 pm36 an36 cd36 ct36), sl36⟩)
    (c36 : PySem.W.codeIn K cd36 "Reader.a_datum" = true)
    (k36 : PySem.W.keepIn K (.ref f36) = true)
    (i36 : PySem.W.isFn K (.ref f36) = true)
    (xl37 : K.lookup f20 = some (excClassObj nm37 qn37 f20 N37 bs37 bm37 true sn37 sb37 ab37 co37 dd37 x037 x137 x237 x337 x537 "ValueError.__new__"))
    (xr37 : PySem.HandSPX.refsVE bm37 = true)
    (xs37 : PySem.W.findIn K (.ref f20) "__setattr__" = some (some (.builtin "object.__setattr__")))
    (xe37 : PySem.W.subIn K (.ref f20) (.type "BaseException") = some true)
    (xt37 : PySem.W.typeIn K (.ref f20) = some (.type "type"))
    (xk37 : PySem.W.keepIn K (.ref f20) = true)
    (xn37 : PySem.W.findIn K (.ref f20) "at" = some none)
    (a37 : PySem.W.findIn K (.ref f20) "__init__" = some (some (.ref f37)))
    (t37 : PySem.W.typeIn K (.ref f37) = some (.type "function"))
    (l37 : K.lookup f37 = some ⟨oc37, od37, .func (PySem.W.fnOf "__init__" "BadText.__init__" (defArgs s_BadText___init__) (defBody s_BadText___init__) (defScope s_BadText___init__) .none kV37 dc37 pm37 an37 cd37 ct37), sl37⟩)
    (c37 : PySem.W.codeIn K cd37 "BadText.__init__" = true)
    (k37 : PySem.W.keepIn K (.ref f37) = true)
    (z_ValueError : PySem.W.nsIn K mainGlobals "ValueError" = some none)
    (z_bool : PySem.W.nsIn K mainGlobals "bool" = some none)
    (z_int : PySem.W.nsIn K mainGlobals "int" = some none)
    (z_isinstance : PySem.W.nsIn K mainGlobals "isinstance" = some none)
    (z_len : PySem.W.nsIn K mainGlobals "len" = some none)
    (z_list : PySem.W.nsIn K mainGlobals "list" = some none)
    (z_min : PySem.W.nsIn K mainGlobals "min" = some none)
    (z_range : PySem.W.nsIn K mainGlobals "range" = some none)
    (z_str : PySem.W.nsIn K mainGlobals "str" = some none)
    (z_tuple : PySem.W.nsIn K mainGlobals "tuple" = some none)
    (g_FIGURES : PySem.W.nsIn K mainGlobals "FIGURES" = some (some (.str "0123456789" t_FIGURES)))
    (g_LETTERS : PySem.W.nsIn K mainGlobals "LETTERS" = some (some (.str "abcdefghijklmnopqrstuvwxyz" t_LETTERS)))
    (g_MOST_FIGURES : PySem.W.nsIn K mainGlobals "MOST_FIGURES" = some (some (.int 40 t_MOST_FIGURES)))
    (g_MOST_LETTERS : PySem.W.nsIn K mainGlobals "MOST_LETTERS" = some (some (.int 12 t_MOST_LETTERS)))
    (g_TRUTHS : PySem.W.nsIn K mainGlobals "TRUTHS" = some (some (.ref D_TRUTHS)))
    (l_TRUTHS : K.lookup D_TRUTHS = some ⟨.type "dict", none, .dict es_TRUTHS n_TRUTHS, #[]⟩)
    (s_TRUTHS : (D_TRUTHS == sysModules) = false)
    (e_TRUTHS : KDEs K w es_TRUTHS.toList w_TRUTHS)
    (eg : PySem.W.findIn K (.ref f20) "__getattribute__" = some (some (.builtin "BaseException.__getattribute__")))
    (ek : PySem.W.findIn K (.ref f20) "__getattr__" = some none)
    (es : PySem.W.subIn K (.ref f20) (.type "BaseException") = some true)
    (ed : PySem.W.hasDictIn K f20 = true)
    (ea : PySem.W.findIn K (.ref f20) "__class__" = some (some (.builtin "object.__class__")))
    (en : PySem.W.specialIn K (.builtin "object.__class__") "__get__" = some (some (.builtin "getset_descriptor.__get__")))
    (et : PySem.W.takesIn K (.builtin "object.__class__") = some true)
    (em : PySem.W.mroIn K f20 (.type "object") = some true)
    (ef : PySem.W.findIn K (.ref f20) "at" = some none)
    (q_Fault : PySem.W.kitOne K (.ref f20) (.ref f21) = some false)
    (q_NoBack : PySem.W.kitOne K (.ref f20) (.ref f22) = some false)
    (q_NoKind : PySem.W.kitOne K (.ref f20) (.ref f23) = some false)
    (q_NoLevel : PySem.W.kitOne K (.ref f20) (.ref f24) = some false)
    (q_NoLine : PySem.W.kitOne K (.ref f20) (.ref f25) = some false)
    (q_NoName : PySem.W.kitOne K (.ref f20) (.ref f26) = some false)
    (q_TooHigh : PySem.W.kitOne K (.ref f20) (.ref f27) = some false)
    (q_TooLong : PySem.W.kitOne K (.ref f20) (.ref f28) = some false)
    (q_BadText : PySem.W.kitOne K (.ref f20) (.ref f20) = some true)
    (q_ValueError : PySem.W.kitOne K (.ref f20) (.type "ValueError") = some true)
    (h1_StairError : PySem.W.subIn K (.ref f29) (.type "BaseException") = some true)
    (h2_StairError : PySem.W.hasDictIn K f29 = true)
    (h3_StairError : PySem.W.typeIn K (.ref f29) = some (.type "type"))
    (h4_StairError : PySem.W.subIn K (.ref f20) (.ref f29) = some true)
    (i_bool_Function : PySem.W.kitOne K (.type "bool") (.ref f17) = some false)
    (i_int_Function : PySem.W.kitOne K (.type "int") (.ref f17) = some false)
    (i_str_Function : PySem.W.kitOne K (.type "str") (.ref f17) = some false)
    (i_bool_BuiltIn : PySem.W.kitOne K (.type "bool") (.ref f18) = some false)
    (i_int_BuiltIn : PySem.W.kitOne K (.type "int") (.ref f18) = some false)
    (i_str_BuiltIn : PySem.W.kitOne K (.type "str") (.ref f18) = some false) :
    ∃ fd : FuncData, (∀ (s : Shared) (v : Value), BindsTo s fd ⟨[v], []⟩ [("_law_script", v)]) ∧ ∀ base : Heap, K.In base → base.Ns mainGlobals mg → FnOk l.prog w K mg base (L2.CX l.prog w) 200 fa fd ["_law_script"] (upS K spLaw) := by
  have e := hfa.symm.trans (PySem.W.mg_of X G a16)
  cases e
  have F1 := fun_mk (st := s_read_data) l1 c1 k1
  have b1 := F1.binds (ps := ["text"]) fun _ _ _ _ _ _ us hl => match us, hl with | [_], _ => rfl
  have F2 := fun_mk (st := s_leaf_text) l2 c2 k2
  have b2 := F2.binds (ps := ["value"]) fun _ _ _ _ _ _ us hl => match us, hl with | [_], _ => rfl
  have F3 := fun_mk (st := s_data_text) l3 c3 k3
  have b3 := F3.binds (ps := ["value"]) fun _ _ _ _ _ _ us hl => match us, hl with | [_], _ => rfl
  have F4 := fun_mk (st := s__law_mixed) l4 c4 k4
  have b4 := F4.binds (ps := ["_law_cell", "_law_k"]) fun _ _ _ _ _ _ us hl => match us, hl with | [_, _], _ => rfl
  have F5 := fun_mk (st := s__law_purse) l5 c5 k5
  have b5 := F5.binds (ps := ["_law_cell", "_law_k"]) fun _ _ _ _ _ _ us hl => match us, hl with | [_, _], _ => rfl
  have F6 := fun_mk (st := s__law_take) l6 c6 k6
  have b6 := F6.binds (ps := ["_law_purse_here", "_law_steps"]) fun _ _ _ _ _ _ us hl => match us, hl with | [_, _], _ => rfl
  have F7 := fun_mk (st := s__law_at) l7 c7 k7
  have b7 := F7.binds (ps := ["_law_script", "_law_k"]) fun _ _ _ _ _ _ us hl => match us, hl with | [_, _], _ => rfl
  have F8 := fun_mk (st := s__law_leaf_text) l8 c8 k8
  have b8 := F8.binds (ps := ["_law_item"]) fun _ _ _ _ _ _ us hl => match us, hl with | [_], _ => rfl
  have F9 := fun_mk (st := s__law_said) l9 c9 k9
  have b9 := F9.binds (ps := ["_law_item"]) fun _ _ _ _ _ _ us hl => match us, hl with | [_], _ => rfl
  have F10 := fun_mk (st := s__law_datum) l10 c10 k10
  have b10 := F10.binds (ps := ["_law_purse_here", "_law_deep"]) fun _ _ _ _ _ _ us hl => match us, hl with | [_, _], _ => rfl
  have F11 := fun_mk (st := s__law_leaf_end) l11 c11 k11
  have b11 := F11.binds (ps := ["_law_line", "_law_at_here"]) fun _ _ _ _ _ _ us hl => match us, hl with | [_, _], _ => rfl
  have F12 := fun_mk (st := s__law_wrong_at) l12 c12 k12
  have b12 := F12.binds (ps := ["_law_line"]) fun _ _ _ _ _ _ us hl => match us, hl with | [_], _ => rfl
  have F13 := fun_mk (st := s__law_bent) l13 c13 k13
  have b13 := F13.binds (ps := ["_law_purse_here", "_law_line"]) fun _ _ _ _ _ _ us hl => match us, hl with | [_, _], _ => rfl
  have F14 := fun_mk (st := s__law_alone) l14 c14 k14
  have b14 := F14.binds (ps := ["_law_error"]) fun _ _ _ _ _ _ us hl => match us, hl with | [_], _ => rfl
  have F15 := fun_mk (st := s__law_right) l15 c15 k15
  have b15 := F15.binds (ps := ["_law_line"]) fun _ _ _ _ _ _ us hl => match us, hl with | [_], _ => rfl
  have F16 := fun_mk (st := s_law) l16 c16 k16
  have b16 := F16.binds (ps := ["_law_script"]) fun _ _ _ _ _ _ us hl => match us, hl with | [_], _ => rfl
  have F30 := fun_mk (st := s_Reader___init__) l30 c30 k30
  have b30 := F30.binds (ps := ["self", "text"]) fun _ _ _ _ _ _ us hl => match us, hl with | [_, _], _ => rfl
  have F31 := fun_mk (st := s_Reader_next_sign) l31 c31 k31
  have b31 := F31.binds (ps := ["self"]) fun _ _ _ _ _ _ us hl => match us, hl with | [_], _ => rfl
  have F32 := fun_mk (st := s_Reader_wants) l32 c32 k32
  have b32 := F32.binds (ps := ["self", "sign"]) fun _ _ _ _ _ _ us hl => match us, hl with | [_, _], _ => rfl
  have F33 := fun_mk (st := s_Reader_row_of) l33 c33 k33
  have b33 := F33.binds (ps := ["self", "signs", "most"]) fun _ _ _ _ _ _ us hl => match us, hl with | [_, _, _], _ => rfl
  have F34 := fun_mk (st := s_Reader_a_number) l34 c34 k34
  have b34 := F34.binds (ps := ["self"]) fun _ _ _ _ _ _ us hl => match us, hl with | [_], _ => rfl
  have F35 := fun_mk (st := s_Reader_a_leaf) l35 c35 k35
  have b35 := F35.binds (ps := ["self"]) fun _ _ _ _ _ _ us hl => match us, hl with | [_], _ => rfl
  have F36 := fun_mk (st := s_Reader_a_datum) l36 c36 k36
  have b36 := F36.binds (ps := ["self"]) fun _ _ _ _ _ _ us hl => match us, hl with | [_], _ => rfl
  have F37 := fun_mk (st := s_BadText___init__) l37 c37 k37
  have b37 := F37.binds (ps := ["self", "at"]) fun _ _ _ _ _ _ us hl => match us, hl with | [_, _], _ => rfl
  have X37 : OexC K f20 := ⟨⟨_, _, _, _, _, _, _, _, _, _, _, _, _, _, _, xl37, xr37⟩, xs37, xe37, xt37, xk37⟩
  refine ⟨PySem.W.fnOf "law" "law" (defArgs s_law) (defBody s_law) (defScope s_law) .none kV16 dc16 pm16 an16 cd16 ct16, fun s v => .of_eq rfl, fun base _ _ => ?_⟩
  let T : Tx l.prog w K mg base := {
    A_read_data := f1
    m_read_data := PySem.W.mg_of X G a1
    F_read_data := ⟨_, F1, b1, trivial⟩
    A_leaf_text := f2
    m_leaf_text := PySem.W.mg_of X G a2
    F_leaf_text := ⟨_, F2, b2, trivial⟩
    A_data_text := f3
    m_data_text := PySem.W.mg_of X G a3
    F_data_text := ⟨_, F3, b3, trivial⟩
    A__law_mixed := f4
    m__law_mixed := PySem.W.mg_of X G a4
    F__law_mixed := ⟨_, F4, b4, trivial⟩
    A__law_purse := f5
    m__law_purse := PySem.W.mg_of X G a5
    F__law_purse := ⟨_, F5, b5, trivial⟩
    A__law_take := f6
    m__law_take := PySem.W.mg_of X G a6
    F__law_take := ⟨_, F6, b6, trivial⟩
    A__law_at := f7
    m__law_at := PySem.W.mg_of X G a7
    F__law_at := ⟨_, F7, b7, trivial⟩
    A__law_leaf_text := f8
    m__law_leaf_text := PySem.W.mg_of X G a8
    F__law_leaf_text := ⟨_, F8, b8, trivial⟩
    A__law_said := f9
    m__law_said := PySem.W.mg_of X G a9
    F__law_said := ⟨_, F9, b9, trivial⟩
    A__law_datum := f10
    m__law_datum := PySem.W.mg_of X G a10
    F__law_datum := ⟨_, F10, b10, trivial⟩
    A__law_leaf_end := f11
    m__law_leaf_end := PySem.W.mg_of X G a11
    F__law_leaf_end := ⟨_, F11, b11, trivial⟩
    A__law_wrong_at := f12
    m__law_wrong_at := PySem.W.mg_of X G a12
    F__law_wrong_at := ⟨_, F12, b12, trivial⟩
    A__law_bent := f13
    m__law_bent := PySem.W.mg_of X G a13
    F__law_bent := ⟨_, F13, b13, trivial⟩
    A__law_alone := f14
    m__law_alone := PySem.W.mg_of X G a14
    F__law_alone := ⟨_, F14, b14, trivial⟩
    A__law_right := f15
    m__law_right := PySem.W.mg_of X G a15
    F__law_right := ⟨_, F15, b15, trivial⟩
    A_law := fa
    m_law := PySem.W.mg_of X G a16
    F_law := ⟨_, F16, b16, trivial⟩
    C_Function := f17
    c_Function := PySem.W.mg_of X G a17
    cl_Function := ⟨pg17, hd17, po17, sa17⟩
    fl_Function_words := ⟨⟨pg17, hd17, po17, sa17⟩, na17_0⟩
    C_BuiltIn := f18
    c_BuiltIn := PySem.W.mg_of X G a18
    cl_BuiltIn := ⟨pg18, hd18, po18, sa18⟩
    fl_BuiltIn_word := ⟨⟨pg18, hd18, po18, sa18⟩, na18_0⟩
    C_Reader := f19
    c_Reader := PySem.W.mg_of X G a19
    cl_Reader := ⟨pg19, hd19, po19, sa19⟩
    fl_Reader_signs := ⟨⟨pg19, hd19, po19, sa19⟩, na19_0⟩
    fl_Reader_at := ⟨⟨pg19, hd19, po19, sa19⟩, na19_1⟩
    A_Reader___init__ := f30
    F_Reader___init__ := ⟨_, F30, b30, trivial⟩
    mk_Reader := ⟨mi30, a30, i30, kc30⟩
    A_Reader_next_sign := f31
    F_Reader_next_sign := ⟨_, F31, b31, trivial⟩
    mt_Reader_next_sign := ⟨a31, i31, k31⟩
    A_Reader_wants := f32
    F_Reader_wants := ⟨_, F32, b32, trivial⟩
    mt_Reader_wants := ⟨a32, i32, k32⟩
    A_Reader_row_of := f33
    F_Reader_row_of := ⟨_, F33, b33, trivial⟩
    mt_Reader_row_of := ⟨a33, i33, k33⟩
    A_Reader_a_number := f34
    F_Reader_a_number := ⟨_, F34, b34, trivial⟩
    mt_Reader_a_number := ⟨a34, i34, k34⟩
    A_Reader_a_leaf := f35
    F_Reader_a_leaf := ⟨_, F35, b35, trivial⟩
    mt_Reader_a_leaf := ⟨a35, i35, k35⟩
    A_Reader_a_datum := f36
    F_Reader_a_datum := ⟨_, F36, b36, trivial⟩
    mt_Reader_a_datum := ⟨a36, i36, k36⟩
    C_BadText := f20
    c_BadText := PySem.W.mg_of X G a20
    x_BadText := ⟨X37, f37, _, _, a37, t37, okI_BadText F37 X37 xn37, b37⟩
    z_ValueError := PySem.W.mg_none_of X G z_ValueError
    z_bool := PySem.W.mg_none_of X G z_bool
    z_int := PySem.W.mg_none_of X G z_int
    z_isinstance := PySem.W.mg_none_of X G z_isinstance
    z_len := PySem.W.mg_none_of X G z_len
    z_list := PySem.W.mg_none_of X G z_list
    z_min := PySem.W.mg_none_of X G z_min
    z_range := PySem.W.mg_none_of X G z_range
    z_str := PySem.W.mg_none_of X G z_str
    z_tuple := PySem.W.mg_none_of X G z_tuple
    t_FIGURES := _
    g_FIGURES := PySem.W.mg_of X G g_FIGURES
    t_LETTERS := _
    g_LETTERS := PySem.W.mg_of X G g_LETTERS
    t_MOST_FIGURES := _
    g_MOST_FIGURES := PySem.W.mg_of X G g_MOST_FIGURES
    t_MOST_LETTERS := _
    g_MOST_LETTERS := PySem.W.mg_of X G g_MOST_LETTERS
    D_TRUTHS := D_TRUTHS
    g_TRUTHS := PySem.W.mg_of X G g_TRUTHS
    k_TRUTHS := ⟨_, _, l_TRUTHS, s_TRUTHS, e_TRUTHS⟩
    C_Fault := f21
    c_Fault := PySem.W.mg_of X G a21
    C_NoBack := f22
    c_NoBack := PySem.W.mg_of X G a22
    C_NoKind := f23
    c_NoKind := PySem.W.mg_of X G a23
    C_NoLevel := f24
    c_NoLevel := PySem.W.mg_of X G a24
    C_NoLine := f25
    c_NoLine := PySem.W.mg_of X G a25
    C_NoName := f26
    c_NoName := PySem.W.mg_of X G a26
    C_TooHigh := f27
    c_TooHigh := PySem.W.mg_of X G a27
    C_TooLong := f28
    c_TooLong := PySem.W.mg_of X G a28
    C_StairError := f29
    c_StairError := PySem.W.mg_of X G a29
    e_BadText := ⟨eg, ek, es, ed, ea, en, et, em⟩
    f_BadText := ⟨⟨eg, ek, es, ed⟩, ef⟩
    q_Fault := q_Fault
    q_NoBack := q_NoBack
    q_NoKind := q_NoKind
    q_NoLevel := q_NoLevel
    q_NoLine := q_NoLine
    q_NoName := q_NoName
    q_TooHigh := q_TooHigh
    q_TooLong := q_TooLong
    q_BadText := q_BadText
    q_ValueError := q_ValueError
    h_StairError := PySem.W.exm_ref h1_StairError h2_StairError h3_StairError h4_StairError
    i_bool_Function := i_bool_Function
    i_int_Function := i_int_Function
    i_str_Function := i_str_Function
    i_bool_BuiltIn := i_bool_BuiltIn
    i_int_BuiltIn := i_int_BuiltIn
    i_str_BuiltIn := i_str_BuiltIn }
  exact fo_law T F16
theorem relW_ints {K : PySem.W.Frag} {F : Hp} : ∀ ns : List Int, RelWs K F (ns.map W.int) (ns.map V.int)
  | [] => .nil
  | n :: ns => .cons int_rw (relW_ints ns)
theorem law_sp {K : PySem.W.Frag} {H : Hp} {a : Addr} {ns : List Int} (hl : ns.length ≤ 63) (hS : SqL K H a (ns.map V.int)) : upS K spLaw [.ref a] H (fun v _ => v = .bl true) fun _ _ _ => False := by
  refine ⟨H, [.sc (ns.map .int)], fun _ => none, fun w _ => w = .bl true, fun _ _ _ => False, ⟨Same.refl _, fun _ _ h => by cases h⟩, .cons (by simp only [RelW]; exact ⟨a, _, rfl, hS, relW_ints ns⟩) .nil, ⟨ns, rfl, hl, rfl⟩, fun F' w M' v H' _ _ r e => ?_, fun _ _ _ _ _ _ _ _ _ z => z⟩
  subst e
  exact rw_bl r
theorem walk {l : PySem.W.OpenLaw} {q : Program} {loose : List Str} {XP : (Str → Option Value) → Heap → Prop} {YP : World → Heap → Prop} {d : DefRec} {K : Params → PySem.W.Frag} (hn : l.most = some 63) (hdf : d.params.defaults = [])
    (hY : ∀ (w : World) (h : Heap), YP w h → (K w.params).In h)
    (F : ∀ (w : World) (mg : Str → Option Value) (fa : Addr) (h : Heap), (K w.params).In h → h.Ns mainGlobals mg → mg d.name = some (.ref fa) →
      ∃ fd : FuncData, (∀ (s : Shared) (u : Value), BindsTo s fd ⟨[u], []⟩ [("_law_script", u)]) ∧ ∀ base : Heap, (K w.params).In base → base.Ns mainGlobals mg → FnOk l.prog w (K w.params) mg base (L2.CX l.prog w) 200 fa fd ["_law_script"] (upS (K w.params) spLaw)) :
    PySem.W.WalkO q loose XP YP l.row.toRowW d [] (fun f vs => PySem.call f vs) :=
  L2.walk_of (n := 63) (k := 200) (x := "_law_script") (CX := fun w => L2.CX l.prog w) (sp := fun w => upS (K w.params) spLaw) hn (by decide) hdf ⟨rfl, by decide, by decide⟩ hY F (fun _ _ a ns hl _ hS => law_sp hl hS) fun _ _ _ _ _ z => by
    obtain ⟨_, _, _, _, _, _, _, _, _, _, _, _, z⟩ := z
    exact z
end Ri
open PySem PySem.W PyProof.Rows
set_option maxRecDepth 100000 in
set_option maxHeartbeats 0 in
theorem PySem.Challenge.cw_mirrorstair_k02_what_is_no_datum_holds : PySem.Challenge.rw_mirrorstair_k02_what_is_no_datum.Holds := by
  w_on; o_law; k_head; (case hw => w_witness2)
  k_fill
  refine Ri.walk (l := PySem.Challenge.rw_mirrorstair_k02_what_is_no_datum) rfl rfl (fun w h Y => PySem.W.kIn_of Y) ?F
  case F =>
    intro w mg fa h KX G hmg
    refine' Ri.all_mk (l := PySem.Challenge.rw_mirrorstair_k02_what_is_no_datum) KX G hmg ?a1 ?l1 ?c1 ?k1 ?a2 ?l2 ?c2 ?k2 ?a3 ?l3 ?c3 ?k3 ?a4 ?l4 ?c4 ?k4 ?a5 ?l5 ?c5 ?k5 ?a6 ?l6 ?c6 ?k6 ?a7 ?l7 ?c7 ?k7 ?a8 ?l8 ?c8 ?k8 ?a9 ?l9 ?c9 ?k9 ?a10 ?l10 ?c10 ?k10 ?a11 ?l11 ?c11 ?k11 ?a12 ?l12 ?c12 ?k12 ?a13 ?l13 ?c13 ?k13 ?a14 ?l14 ?c14 ?k14 ?a15 ?l15 ?c15 ?k15 ?a16 ?l16 ?c16 ?k16 ?a17 ?a18 ?a19 ?a20 ?a21 ?a22 ?a23 ?a24 ?a25 ?a26 ?a27 ?a28 ?a29 ?pg17 ?hd17 ?po17 ?sa17 ?na17_0 ?pg18 ?hd18 ?po18 ?sa18 ?na18_0 ?pg19 ?hd19 ?po19 ?sa19 ?na19_0 ?na19_1 ?a30 ?l30 ?c30 ?k30 ?i30 ?mi30 ?kc30 ?a31 ?l31 ?c31 ?k31 ?i31 ?a32 ?l32 ?c32 ?k32 ?i32 ?a33 ?l33 ?c33 ?k33 ?i33 ?a34 ?l34 ?c34 ?k34 ?i34 ?a35 ?l35 ?c35 ?k35 ?i35 ?a36 ?l36 ?c36 ?k36 ?i36 ?xl37 ?xr37 ?xs37 ?xe37 ?xt37 ?xk37 ?xn37 ?a37 ?t37 ?l37 ?c37 ?k37 ?z_ValueError ?z_bool ?z_int ?z_isinstance ?z_len ?z_list ?z_min ?z_range ?z_str ?z_tuple ?g_FIGURES ?g_LETTERS ?g_MOST_FIGURES ?g_MOST_LETTERS ?g_TRUTHS ?l_TRUTHS ?s_TRUTHS ?e_TRUTHS ?eg ?ek ?es ?ed ?ea ?en ?et ?em ?ef ?q_Fault ?q_NoBack ?q_NoKind ?q_NoLevel ?q_NoLine ?q_NoName ?q_TooHigh ?q_TooLong ?q_BadText ?q_ValueError ?h1_StairError ?h2_StairError ?h3_StairError ?h4_StairError ?i_bool_Function ?i_int_Function ?i_str_Function ?i_bool_BuiltIn ?i_int_BuiltIn ?i_str_BuiltIn
    (case a1 => k_is)
    (case l1 => k_is)
    (case c1 => k_is)
    (case k1 => k_is)
    (case a2 => k_is)
    (case l2 => k_is)
    (case c2 => k_is)
    (case k2 => k_is)
    (case a3 => k_is)
    (case l3 => k_is)
    (case c3 => k_is)
    (case k3 => k_is)
    (case a4 => k_is)
    (case l4 => k_is)
    (case c4 => k_is)
    (case k4 => k_is)
    (case a5 => k_is)
    (case l5 => k_is)
    (case c5 => k_is)
    (case k5 => k_is)
    (case a6 => k_is)
    (case l6 => k_is)
    (case c6 => k_is)
    (case k6 => k_is)
    (case a7 => k_is)
    (case l7 => k_is)
    (case c7 => k_is)
    (case k7 => k_is)
    (case a8 => k_is)
    (case l8 => k_is)
    (case c8 => k_is)
    (case k8 => k_is)
    (case a9 => k_is)
    (case l9 => k_is)
    (case c9 => k_is)
    (case k9 => k_is)
    (case a10 => k_is)
    (case l10 => k_is)
    (case c10 => k_is)
    (case k10 => k_is)
    (case a11 => k_is)
    (case l11 => k_is)
    (case c11 => k_is)
    (case k11 => k_is)
    (case a12 => k_is)
    (case l12 => k_is)
    (case c12 => k_is)
    (case k12 => k_is)
    (case a13 => k_is)
    (case l13 => k_is)
    (case c13 => k_is)
    (case k13 => k_is)
    (case a14 => k_is)
    (case l14 => k_is)
    (case c14 => k_is)
    (case k14 => k_is)
    (case a15 => k_is)
    (case l15 => k_is)
    (case c15 => k_is)
    (case k15 => k_is)
    (case a16 => k_is)
    (case l16 => k_is)
    (case c16 => k_is)
    (case k16 => k_is)
    (case a17 => k_is)
    (case a18 => k_is)
    (case a19 => k_is)
    (case a20 => k_is)
    (case a21 => k_is)
    (case a22 => k_is)
    (case a23 => k_is)
    (case a24 => k_is)
    (case a25 => k_is)
    (case a26 => k_is)
    (case a27 => k_is)
    (case a28 => k_is)
    (case a29 => k_is)
    (case pg17 => k_is)
    (case hd17 => k_is)
    (case po17 => k_is)
    (case sa17 => k_is)
    (case na17_0 => k_is)
    (case pg18 => k_is)
    (case hd18 => k_is)
    (case po18 => k_is)
    (case sa18 => k_is)
    (case na18_0 => k_is)
    (case pg19 => k_is)
    (case hd19 => k_is)
    (case po19 => k_is)
    (case sa19 => k_is)
    (case na19_0 => k_is)
    (case na19_1 => k_is)
    (case a30 => k_is)
    (case l30 => k_is)
    (case c30 => k_is)
    (case k30 => k_is)
    (case i30 => k_is)
    (case mi30 => k_is)
    (case kc30 => k_is)
    (case a31 => k_is)
    (case l31 => k_is)
    (case c31 => k_is)
    (case k31 => k_is)
    (case i31 => k_is)
    (case a32 => k_is)
    (case l32 => k_is)
    (case c32 => k_is)
    (case k32 => k_is)
    (case i32 => k_is)
    (case a33 => k_is)
    (case l33 => k_is)
    (case c33 => k_is)
    (case k33 => k_is)
    (case i33 => k_is)
    (case a34 => k_is)
    (case l34 => k_is)
    (case c34 => k_is)
    (case k34 => k_is)
    (case i34 => k_is)
    (case a35 => k_is)
    (case l35 => k_is)
    (case c35 => k_is)
    (case k35 => k_is)
    (case i35 => k_is)
    (case a36 => k_is)
    (case l36 => k_is)
    (case c36 => k_is)
    (case k36 => k_is)
    (case i36 => k_is)
    (case xl37 => k_is)
    (case xr37 => first | rfl | decide +kernel)
    (case xs37 => k_is)
    (case xe37 => k_is)
    (case xt37 => k_is)
    (case xk37 => k_is)
    (case xn37 => k_is)
    (case a37 => k_is)
    (case t37 => k_is)
    (case l37 => k_is)
    (case c37 => k_is)
    (case k37 => k_is)
    (case z_ValueError => k_is)
    (case z_bool => k_is)
    (case z_int => k_is)
    (case z_isinstance => k_is)
    (case z_len => k_is)
    (case z_list => k_is)
    (case z_min => k_is)
    (case z_range => k_is)
    (case z_str => k_is)
    (case z_tuple => k_is)
    (case g_FIGURES => k_is)
    (case g_LETTERS => k_is)
    (case g_MOST_FIGURES => k_is)
    (case g_MOST_LETTERS => k_is)
    (case g_TRUTHS => k_is)
    (case l_TRUTHS => k_is)
    (case s_TRUTHS => first | rfl | decide +kernel)
    (case e_TRUTHS => exact ⟨⟨_, .bl true, rfl, rfl, rfl, fun _ => Ri.bl_rw⟩, ⟨_, .bl false, rfl, rfl, rfl, fun _ => Ri.bl_rw⟩, trivial⟩)
    (case eg => k_is)
    (case ek => k_is)
    (case es => k_is)
    (case ed => k_is)
    (case ea => k_is)
    (case en => k_is)
    (case et => k_is)
    (case em => k_is)
    (case ef => k_is)
    (case q_Fault => first | kit_is | k_is)
    (case q_NoBack => first | kit_is | k_is)
    (case q_NoKind => first | kit_is | k_is)
    (case q_NoLevel => first | kit_is | k_is)
    (case q_NoLine => first | kit_is | k_is)
    (case q_NoName => first | kit_is | k_is)
    (case q_TooHigh => first | kit_is | k_is)
    (case q_TooLong => first | kit_is | k_is)
    (case q_BadText => first | kit_is | k_is)
    (case q_ValueError => first | kit_is | k_is)
    (case h1_StairError => k_is)
    (case h2_StairError => k_is)
    (case h3_StairError => k_is)
    (case h4_StairError => k_is)
    (case i_bool_Function => first | kit_is | k_is)
    (case i_int_Function => first | kit_is | k_is)
    (case i_str_Function => first | kit_is | k_is)
    (case i_bool_BuiltIn => first | kit_is | k_is)
    (case i_int_BuiltIn => first | kit_is | k_is)
    (case i_str_BuiltIn => first | kit_is | k_is)
