import PyProof.Rows.All
import Wide.All
import OpenK.AllK
import Wide.FinOn
import HandS.ForMost
import HandS.Exc
import HandS.ExcOwn
import HandS.TryOnly
import HandS.TryMany
import HandS.CallSlots
import PyProof.Rows.StrMul
import HandS.TupAny
import HandS.Style
import HandS.Wide
import HandS.WideBits
import HandS.WordsExc
import HandS.Rev
import HandS.IsInst
import KE.KStateDown
import HandS.Defaults
import HandS.Head0
import HandS.Head1
import HandS.Head2
import HandS.HeadEnd
import HandS.HeadHook1
import HandS.HeadHook2
import HandS.EndBits
import KE.BitLaws
import KE.KBits
import PySem.Challenge.RW_curveseal_k65_entries
set_option Elab.async false
set_option linter.all false
set_option maxRecDepth 100000
namespace Z
open PySem PySem.Spec PyProof.Rows L2

/-! ### values and objects of the mirror -/
inductive W where
  | non | bl (b : Bool) | int (i : Int) | str (x : Str) | tup (xs : List W) | ref (i : Nat) | exn (c : Nat) (d : Option Int)
inductive O where
  | lst (xs : List W)
  | frz (xs : List W)
  | ins (c : Nat) (fs : List (Str × W))
  | dic (kvs : List (Key × W))
abbrev Hm := List O
abbrev Sg := List (Option W)
structure Exn where
  c : Nat
  d : Option Int
inductive Out (α : Type) where
  | ok (a : α) (h : Hm)
  | err (x : Exn) (h : Hm)
  | bad
def Out.bind {α β : Type} (o : Out α) (f : α → Hm → Out β) : Out β :=
  match o with
  | .ok a h => f a h
  | .err x h => .err x h
  | .bad => .bad
inductive SOut where
  | nx (s : Sg) (h : Hm)
  | rt (w : W) (h : Hm)
  | bk (s : Sg) (h : Hm)
  | ct (s : Sg) (h : Hm)
  | err (x : Exn) (s : Sg) (h : Hm)
  | bad
abbrev XE := Sg → Hm → Out W
abbrev XT := Sg → Hm → Out Bool
abbrev XA := Sg → Hm → Out (List W)
abbrev XS := Sg → Hm → SOut

/-! ### the world of a run -/
structure Gam where
  P : Program
  w : World
  K : PySem.W.Frag
  mg : Str → Option Value
  base : Heap
  cl : Nat → Addr

/-- what is known of a caught exception, as an object that nobody writes -/
def ExnAt (a : Addr) (C : Addr) (d : Option Addr) (h : Heap) : Prop := ∃ o : Obj, h.get? a = some o ∧ o.cls = .ref C ∧ o.dict = d ∧ ∃ vs, o.data = .fields vs

mutual
def RelW (Γ : Gam) (ρ : List Addr) (H : Hp) : W → V → Prop
  | .non, v => v = .non
  | .bl b, v => v = .bl b
  | .int i, v => v = .int i
  | .str x, v => v = .str x
  | .ref i, v => ∃ a, ρ[i]? = some a ∧ v = .ref a
  | .tup xs, v => ∃ a ys, v = .ref a ∧ SqT Γ.K H a ys ∧ RelWs Γ ρ H xs ys
  | .exn c d, v => ∃ a dx, v = .ref a ∧ H a = some (.ext (ExnAt a (Γ.cl c) dx)) ∧ (match d with | none => dx = none | some n => ∃ b, dx = some b ∧ H b = some (.xd [("line", .int n)]))
def RelWs (Γ : Gam) (ρ : List Addr) (H : Hp) : List W → List V → Prop
  | [], ys => ys = []
  | x :: xs, ys => ∃ y r, ys = y :: r ∧ RelW Γ ρ H x y ∧ RelWs Γ ρ H xs r
end
def RelFs (Γ : Gam) (ρ : List Addr) (H : Hp) : List (Str × W) → List (Str × V) → Prop
  | [], ys => ys = []
  | x :: xs, ys => ∃ y r, ys = (x.1, y) :: r ∧ RelW Γ ρ H x.2 y ∧ RelFs Γ ρ H xs r
def RelKs (Γ : Gam) (ρ : List Addr) (H : Hp) : List (Key × W) → List (Key × V) → Prop
  | [], ys => ys = []
  | x :: xs, ys => ∃ y r, ys = (x.1, y) :: r ∧ RelW Γ ρ H x.2 y ∧ RelKs Γ ρ H xs r

/-- the script's list, locked or the module's own -/
def FzL (K : PySem.W.Frag) (H : Hp) (a : Addr) (ys : List V) : Prop :=
  (∃ o, H a = some (.frz o (.lst ys))) ∨
    ∃ (o : Obj) (its : Array Value) (n : Nat), K.lookup a = some o ∧ o.cls = .type "list" ∧ o.dict = none ∧ o.data = .seq its n ∧ its.size ≤ sizeLine ∧ Vals ys its.toList
theorem FzL.sq {K : PySem.W.Frag} {H : Hp} {a : Addr} {ys : List V} (h : FzL K H a ys) : SqL K H a ys := by
  rcases h with ⟨o, h⟩ | h
  · exact .inl (.inr ⟨o, h⟩)
  · exact .inr h

def RelO (Γ : Gam) (ρ : List Addr) (H : Hp) (a : Addr) : O → Prop
  | .lst xs => ∃ ys, H a = some (.lst ys) ∧ RelWs Γ ρ H xs ys
  | .frz xs => ∃ ys, FzL Γ.K H a ys ∧ RelWs Γ ρ H xs ys
  | .ins c fs => ∃ dx gs, H a = some (.ins (Γ.cl c) dx gs) ∧ RelFs Γ ρ H fs gs
  | .dic kvs => ∃ gs, H a = some (.dK gs) ∧ RelKs Γ ρ H kvs gs
def O.mut : O → Prop
  | .frz _ => False
  | _ => True
structure Rel (Γ : Gam) (ρ : List Addr) (h : Hm) (H : Hp) : Prop where
  len : ρ.length = h.length
  obj : ∀ (i : Nat) (o : O), h[i]? = some o → ∃ a, ρ[i]? = some a ∧ RelO Γ ρ H a o
  inj : ∀ (i j : Nat) (oi oj : O) (a : Addr), h[i]? = some oi → h[j]? = some oj → oi.mut → oj.mut → ρ[i]? = some a → ρ[j]? = some a → i = j
/-- slots -/
def RelS (Γ : Gam) (ρ : List Addr) (H : Hp) (σ : Sg) (τ : L2.St) : Prop :=
  σ.length = τ.length ∧ ∀ (i : Nat) (w : W), σ[i]? = some (some w) → ∃ v, τ[i]? = some (some v) ∧ RelW Γ ρ H w v
structure Le (Γ : Gam) (ρ ρ' : List Addr) (H H' : Hp) : Prop where
  pre : ∃ l, ρ' = ρ ++ l
  tup : ∀ a xs, SqT Γ.K H a xs → SqT Γ.K H' a xs
  ext : ∀ a φ, H a = some (.ext φ) → H' a = some (.ext φ)
  xd : ∀ a fs, H a = some (.xd fs) → H' a = some (.xd fs)
  frz : ∀ a ob u, H a = some (.frz ob u) → H' a = some (.frz ob u)
section
variable {Γ : Gam} {ρ ρ' ρ2 : List Addr} {H H' H2 : Hp}
theorem Le.refl : Le Γ ρ ρ H H := ⟨⟨[], by simp⟩, fun _ _ h => h, fun _ _ h => h, fun _ _ h => h, fun _ _ _ h => h⟩
theorem Le.trans (a : Le Γ ρ ρ' H H') (b : Le Γ ρ' ρ2 H' H2) : Le Γ ρ ρ2 H H2 := by
  obtain ⟨l, e⟩ := a.pre
  obtain ⟨m, e'⟩ := b.pre
  exact ⟨⟨l ++ m, by rw [e', e, List.append_assoc]⟩, fun x xs h => b.tup x xs (a.tup x xs h), fun x xs h => b.ext x xs (a.ext x xs h), fun x xs h => b.xd x xs (a.xd x xs h), fun x o u h => b.frz x o u (a.frz x o u h)⟩
theorem Le.at (a : Le Γ ρ ρ' H H') {i : Nat} {x : Addr} (e : ρ[i]? = some x) : ρ'[i]? = some x := by
  obtain ⟨l, rfl⟩ := a.pre
  rw [List.getElem?_append_left (List.getElem?_eq_some_iff.mp e).1]
  exact e
mutual
theorem RelW.mono (a : Le Γ ρ ρ' H H') : ∀ (w : W) (v : V), RelW Γ ρ H w v → RelW Γ ρ' H' w v
  | .non, v, h => by simpa [RelW] using h
  | .bl b, v, h => by simpa [RelW] using h
  | .int b, v, h => by simpa [RelW] using h
  | .str b, v, h => by simpa [RelW] using h
  | .ref i, v, h => by
    unfold RelW at h ⊢
    obtain ⟨x, e, r⟩ := h
    exact ⟨x, a.at e, r⟩
  | .tup xs, v, h => by
    unfold RelW at h ⊢
    obtain ⟨x, ys, e, t, r⟩ := h
    exact ⟨x, ys, e, a.tup _ _ t, RelWs.mono a xs ys r⟩
  | .exn c d, v, h => by
    unfold RelW at h ⊢
    obtain ⟨x, dx, e, t, r⟩ := h
    refine ⟨x, dx, e, a.ext _ _ t, ?_⟩
    cases d with
    | none => exact r
    | some n =>
      obtain ⟨b, e1, e2⟩ := r
      exact ⟨b, e1, a.xd _ _ e2⟩
theorem RelWs.mono (a : Le Γ ρ ρ' H H') : ∀ (w : List W) (v : List V), RelWs Γ ρ H w v → RelWs Γ ρ' H' w v
  | [], v, h => by simpa [RelWs] using h
  | x :: xs, v, h => by
    unfold RelWs at h ⊢
    obtain ⟨y, r, e, h1, h2⟩ := h
    exact ⟨y, r, e, RelW.mono a x y h1, RelWs.mono a xs r h2⟩
end
theorem RelFs.mono (a : Le Γ ρ ρ' H H') : ∀ (w : List (Str × W)) (v : List (Str × V)), RelFs Γ ρ H w v → RelFs Γ ρ' H' w v
  | [], v, h => by simpa [RelFs] using h
  | x :: xs, v, h => by
    unfold RelFs at h ⊢
    obtain ⟨y, r, e, h1, h2⟩ := h
    exact ⟨y, r, e, RelW.mono a x.2 y h1, RelFs.mono a xs r h2⟩
theorem RelKs.mono (a : Le Γ ρ ρ' H H') : ∀ (w : List (Key × W)) (v : List (Key × V)), RelKs Γ ρ H w v → RelKs Γ ρ' H' w v
  | [], v, h => by simpa [RelKs] using h
  | x :: xs, v, h => by
    unfold RelKs at h ⊢
    obtain ⟨y, r, e, h1, h2⟩ := h
    exact ⟨y, r, e, RelW.mono a x.2 y h1, RelKs.mono a xs r h2⟩
theorem RelS.mono {σ : Sg} {τ : L2.St} (a : Le Γ ρ ρ' H H') (r : RelS Γ ρ H σ τ) : RelS Γ ρ' H' σ τ :=
  ⟨r.1, fun i w e => let ⟨v, e1, q⟩ := r.2 i w e; ⟨v, e1, RelW.mono a w v q⟩⟩
theorem RelS.set {σ : Sg} {τ : L2.St} {i : Nat} {w : W} {v : V} (r : RelS Γ ρ H σ τ) (q : RelW Γ ρ H w v) : RelS Γ ρ H (σ.set i (some w)) (τ.set i (some v)) := by
  refine ⟨by simp [r.1], fun j w' e => ?_⟩
  by_cases hj : i = j
  · subst hj
    by_cases hl : i < σ.length
    · rw [List.getElem?_set_self hl] at e
      cases e
      exact ⟨v, List.getElem?_set_self (by rw [← r.1]; exact hl), q⟩
    · rw [List.getElem?_eq_none (by simpa using hl)] at e
      cases e
  · rw [List.getElem?_set_ne hj] at e
    obtain ⟨v', e', q'⟩ := r.2 j w' e
    exact ⟨v', by rw [List.getElem?_set_ne hj]; exact e', q'⟩
theorem RelWs.length : ∀ {ws : List W} {vs : List V}, RelWs Γ ρ H ws vs → ws.length = vs.length
  | [], vs, h => by unfold RelWs at h; subst h; rfl
  | x :: xs, vs, h => by
    unfold RelWs at h
    obtain ⟨y, r, e, h1, h2⟩ := h
    subst e
    simp [RelWs.length h2]
theorem RelWs.get : ∀ {ws : List W} {vs : List V} {i : Nat} {w : W}, RelWs Γ ρ H ws vs → ws[i]? = some w → ∃ v, vs[i]? = some v ∧ RelW Γ ρ H w v
  | [], vs, i, w, h, e => by simp at e
  | x :: xs, vs, 0, w, h, e => by
    unfold RelWs at h
    obtain ⟨y, r, e', h1, h2⟩ := h
    subst e'
    simp at e
    subst e
    exact ⟨y, rfl, h1⟩
  | x :: xs, vs, i + 1, w, h, e => by
    unfold RelWs at h
    obtain ⟨y, r, e', h1, h2⟩ := h
    subst e'
    simp at e
    obtain ⟨v, e1, q⟩ := RelWs.get h2 e
    exact ⟨v, by simpa using e1, q⟩
theorem RelWs.append : ∀ {ws ws' : List W} {vs vs' : List V}, RelWs Γ ρ H ws vs → RelWs Γ ρ H ws' vs' → RelWs Γ ρ H (ws ++ ws') (vs ++ vs')
  | [], ws', vs, vs', h, h' => by unfold RelWs at h; subst h; exact h'
  | x :: xs, ws', vs, vs', h, h' => by
    unfold RelWs at h
    obtain ⟨y, r, e', h1, h2⟩ := h
    subst e'
    show RelWs Γ ρ H (x :: (xs ++ ws')) _
    unfold RelWs
    exact ⟨y, r ++ vs', rfl, h1, RelWs.append h2 h'⟩
theorem RelWs.nil : RelWs Γ ρ H [] [] := by unfold RelWs; rfl
theorem RelWs.cons {w : W} {v : V} {ws : List W} {vs : List V} (a : RelW Γ ρ H w v) (b : RelWs Γ ρ H ws vs) : RelWs Γ ρ H (w :: ws) (v :: vs) := by
  unfold RelWs
  exact ⟨v, vs, rfl, a, b⟩
theorem RelWs.take : ∀ (n : Nat) {ws : List W} {vs : List V}, RelWs Γ ρ H ws vs → RelWs Γ ρ H (ws.take n) (vs.take n)
  | 0, ws, vs, h => by simpa using RelWs.nil
  | n + 1, [], vs, h => by unfold RelWs at h; subst h; exact RelWs.nil
  | n + 1, x :: xs, vs, h => by
    unfold RelWs at h
    obtain ⟨y, r, e', h1, h2⟩ := h
    subst e'
    exact RelWs.cons h1 (RelWs.take n h2)
theorem RelWs.drop : ∀ (n : Nat) {ws : List W} {vs : List V}, RelWs Γ ρ H ws vs → RelWs Γ ρ H (ws.drop n) (vs.drop n)
  | 0, ws, vs, h => by simpa using h
  | n + 1, [], vs, h => by unfold RelWs at h; subst h; exact RelWs.nil
  | n + 1, x :: xs, vs, h => by
    unfold RelWs at h
    obtain ⟨y, r, e', h1, h2⟩ := h
    subst e'
    exact RelWs.drop n h2
theorem RelWs.set : ∀ {ws : List W} {vs : List V} {w : W} {v : V} (i : Nat), RelWs Γ ρ H ws vs → RelW Γ ρ H w v → RelWs Γ ρ H (ws.set i w) (vs.set i v)
  | [], vs, w, v, i, h, q => by unfold RelWs at h; subst h; exact RelWs.nil
  | x :: xs, vs, w, v, 0, h, q => by
    unfold RelWs at h
    obtain ⟨y, r, e', h1, h2⟩ := h
    subst e'
    exact RelWs.cons q h2
  | x :: xs, vs, w, v, i + 1, h, q => by
    unfold RelWs at h
    obtain ⟨y, r, e', h1, h2⟩ := h
    subst e'
    exact RelWs.cons h1 (RelWs.set i h2 q)
theorem RelWs.rep {ws : List W} {vs : List V} (h : RelWs Γ ρ H ws vs) : ∀ k : Nat, RelWs Γ ρ H (List.replicate k ws).flatten (List.replicate k vs).flatten
  | 0 => by simpa using RelWs.nil
  | k + 1 => by
    rw [List.replicate_succ, List.replicate_succ, List.flatten_cons, List.flatten_cons]
    exact h.append (RelWs.rep h k)
theorem RelWs.reverse : ∀ {ws : List W} {vs : List V}, RelWs Γ ρ H ws vs → RelWs Γ ρ H ws.reverse vs.reverse
  | [], vs, h => by unfold RelWs at h; subst h; exact RelWs.nil
  | x :: xs, vs, h => by
    unfold RelWs at h
    obtain ⟨y, r, e', h1, h2⟩ := h
    subst e'
    rw [List.reverse_cons, List.reverse_cons]
    exact (RelWs.reverse h2).append (RelWs.cons h1 RelWs.nil)

/-- an object that nobody wrote is as it was -/
theorem RelO.mono {a : Addr} {o : O} (l : Le Γ ρ ρ' H H') (k : o.mut → ∀ u, H a = some u → H' a = some u) (r : RelO Γ ρ H a o) : RelO Γ ρ' H' a o := by
  cases o with
  | lst xs =>
    obtain ⟨ys, e, q⟩ := r
    exact ⟨ys, k trivial _ e, RelWs.mono l _ _ q⟩
  | frz xs =>
    obtain ⟨ys, e, q⟩ := r
    refine ⟨ys, ?_, RelWs.mono l _ _ q⟩
    rcases e with ⟨o, e⟩ | e
    · exact .inl ⟨o, l.frz _ _ _ e⟩
    · exact .inr e
  | ins c fs =>
    obtain ⟨dx, gs, e, q⟩ := r
    exact ⟨dx, gs, k trivial _ e, RelFs.mono l _ _ q⟩
  | dic kvs =>
    obtain ⟨gs, e, q⟩ := r
    exact ⟨gs, k trivial _ e, RelKs.mono l _ _ q⟩
theorem RelO.some {a : Addr} {o : O} (r : RelO Γ ρ H a o) (m : o.mut) : ∃ u, H a = some u := by
  cases o with
  | lst xs => obtain ⟨ys, e, q⟩ := r; exact ⟨_, e⟩
  | frz xs => exact m.elim
  | ins c fs => obtain ⟨dx, gs, e, q⟩ := r; exact ⟨_, e⟩
  | dic kvs => obtain ⟨gs, e, q⟩ := r; exact ⟨_, e⟩

/-- laid anew: something that is not of ours (a tuple, say) or is -/
theorem Le.laid {p : Addr} {o : HO} (n : H p = none) (l : List Addr) : Le Γ ρ (ρ ++ l) H (upd H p o) :=
  ⟨⟨l, rfl⟩, fun a xs h => by
    rcases h with (h | ⟨ob, h⟩) | h
    · exact .inl (.inl (by rw [upd_ne (ne_of_none h n)]; exact h))
    · exact .inl (.inr ⟨ob, by rw [upd_ne (ne_of_none h n)]; exact h⟩)
    · exact .inr h, fun a φ h => by rw [upd_ne (ne_of_none h n)]; exact h, fun a φ h => by rw [upd_ne (ne_of_none h n)]; exact h, fun a φ u h => by rw [upd_ne (ne_of_none h n)]; exact h⟩
theorem Rel.keep {h : Hm} (R : Rel Γ ρ h H) (l : Le Γ ρ ρ H H') (k : ∀ a u, H a = some u → H' a = some u) : Rel Γ ρ h H' :=
  ⟨R.len, fun i o e => let ⟨a, e1, r⟩ := R.obj i o e; ⟨a, e1, r.mono l fun _ => k a⟩, R.inj⟩
theorem Rel.other {h : Hm} {p : Addr} {o : HO} (R : Rel Γ ρ h H) (n : H p = none) : Rel Γ ρ h (upd H p o) := by
  have l := Le.laid (Γ := Γ) (ρ := ρ) (o := o) n []
  rw [List.append_nil] at l
  exact R.keep l fun a u e => by rw [upd_ne (ne_of_none e n)]; exact e
theorem Rel.alloc {h : Hm} {p : Addr} {o : HO} {o' : O} (R : Rel Γ ρ h H) (n : H p = none) (r : RelO Γ (ρ ++ [p]) (upd H p o) p o') : Rel Γ (ρ ++ [p]) (h ++ [o']) (upd H p o) := by
  have l := Le.laid (Γ := Γ) (ρ := ρ) (o := o) n [p]
  have look : ∀ i u, (h ++ [o'])[i]? = some u → (i < h.length ∧ h[i]? = some u) ∨ (i = h.length ∧ u = o') := fun i u e => by
    by_cases hi : i < h.length
    · rw [List.getElem?_append_left hi] at e
      exact .inl ⟨hi, e⟩
    · rw [List.getElem?_append_right (by omega)] at e
      have : i - h.length = 0 := by
        have := (List.getElem?_eq_some_iff.mp e).1
        simp at this
        omega
      rw [this] at e
      simp at e
      exact .inr ⟨by omega, e.symm⟩
  have last : (ρ ++ [p])[h.length]? = some p := by
    rw [← R.len]
    simp
  refine ⟨by simp [R.len], fun i u e => ?_, fun i j oi oj a e1 e2 m1 m2 r1 r2 => ?_⟩
  · rcases look i u e with ⟨_, e⟩ | ⟨rfl, rfl⟩
    · obtain ⟨a, e1, r⟩ := R.obj i u e
      exact ⟨a, l.at e1, r.mono l fun _ u e => by rw [upd_ne (ne_of_none e n)]; exact e⟩
    · exact ⟨p, last, r⟩
  · have old : ∀ {i : Nat} {oi : O} {a : Addr}, h[i]? = some oi → oi.mut → (ρ ++ [p])[i]? = some a → ρ[i]? = some a ∧ a ≠ p := fun {i oi a} e m r => by
      obtain ⟨a', e1, r1⟩ := R.obj i oi e
      have := l.at e1
      rw [r] at this
      cases this
      obtain ⟨u, q⟩ := r1.some m
      exact ⟨e1, ne_of_none q n⟩
    rcases look i oi e1 with ⟨_, f1⟩ | ⟨q1, _⟩ <;> rcases look j oj e2 with ⟨_, f2⟩ | ⟨q2, _⟩
    · exact R.inj i j oi oj a f1 f2 m1 m2 (old f1 m1 r1).1 (old f2 m2 r2).1
    · rw [q2, last] at r2
      cases r2
      exact absurd rfl (old f1 m1 r1).2
    · rw [q1, last] at r1
      cases r1
      exact absurd rfl (old f2 m2 r2).2
    · rw [q1, q2]
/-- an object of ours is written -/
def Wr (u : HO) : Prop := match u with
  | .lst _ => True
  | .ins _ _ _ => True
  | .dK _ => True
  | _ => False
theorem Le.write {a : Addr} {u o : HO} (e : H a = some u) (m : Wr u) : Le Γ ρ ρ H (upd H a o) := by
  have ne : ∀ {b : Addr} {v : HO}, H b = some v → ¬ Wr v → b ≠ a := fun {b v} q n z => by
    subst z
    rw [e] at q
    cases q
    exact n m
  exact ⟨⟨[], by simp⟩, fun b xs h => by
    rcases h with (h | ⟨ob, h⟩) | h
    · exact .inl (.inl (by rw [upd_ne (ne h fun z => z)]; exact h))
    · exact .inl (.inr ⟨ob, by rw [upd_ne (ne h fun z => z)]; exact h⟩)
    · exact .inr h, fun b φ h => by rw [upd_ne (ne h fun z => z)]; exact h, fun b φ h => by rw [upd_ne (ne h fun z => z)]; exact h, fun b φ u h => by rw [upd_ne (ne h fun z => z)]; exact h⟩
theorem Rel.write {h : Hm} {a : Addr} {i : Nat} {o o' : O} {u v : HO} (R : Rel Γ ρ h H) (hi : h[i]? = some o) (ha : ρ[i]? = some a) (m : o.mut) (m' : o'.mut) (e : H a = some v) (wv : Wr v) (r : RelO Γ ρ (upd H a u) a o') : Rel Γ ρ (h.set i o') (upd H a u) := by
  have l : Le Γ ρ ρ H (upd H a u) := Le.write e wv
  have lt := (List.getElem?_eq_some_iff.mp hi).1
  have look : ∀ (j : Nat) (v : O), (h.set i o')[j]? = some v → (j = i ∧ v = o') ∨ (j ≠ i ∧ h[j]? = some v) := fun j v e => by
    by_cases hj : i = j
    · subst hj
      rw [List.getElem?_set_self lt] at e
      cases e
      exact .inl ⟨rfl, rfl⟩
    · rw [List.getElem?_set_ne hj] at e
      exact .inr ⟨Ne.symm hj, e⟩
  refine ⟨by simp [R.len], fun j v e => ?_, fun j k oj ok b e1 e2 m1 m2 r1 r2 => ?_⟩
  · rcases look j v e with ⟨rfl, rfl⟩ | ⟨hj, e⟩
    · exact ⟨a, ha, r⟩
    · obtain ⟨b, eb, rb⟩ := R.obj j v e
      refine ⟨b, eb, rb.mono l fun mv x q => ?_⟩
      rw [upd_ne fun z => hj (R.inj j i v o b e hi mv m eb (by rw [z]; exact ha))]
      exact q
  · rcases look j oj e1 with ⟨q1, _⟩ | ⟨hj, f1⟩ <;> rcases look k ok e2 with ⟨q2, _⟩ | ⟨hk, f2⟩
    · rw [q1, q2]
    · rw [q1] at r1 ⊢
      exact R.inj _ _ _ _ b hi f2 m m2 r1 r2
    · rw [q2] at r2 ⊢
      exact R.inj _ _ _ _ b f1 hi m1 m r1 r2
    · exact R.inj _ _ _ _ b f1 f2 m1 m2 r1 r2
end
end Z

namespace Z
open PySem PySem.Spec PyProof.Rows L2

/-- an exception of ours, in the air -/
def ExnR (Γ : Gam) (H : Hp) (x : Exn) (cls : Value) (d : Option Addr) : Prop :=
  cls = .ref (Γ.cl x.c) ∧ match x.d with
    | none => d = none
    | some n => ∃ b, d = some b ∧ H b = some (.xd [("line", .int n)])
def O1 {α β : Type} (Γ : Gam) (R : List Addr → Hp → α → β → Prop) (ρ : List Addr) (H : Hp) (o : Out α) (Q : β → Hp → Prop) (E : XK) : Prop :=
  match o with
  | .ok a h' => ∀ ρ' H' b, Le Γ ρ ρ' H H' → Rel Γ ρ' h' H' → R ρ' H' a b → Q b H'
  | .err x h' => ∀ ρ' H' cls d, Le Γ ρ ρ' H H' → Rel Γ ρ' h' H' → ExnR Γ H' x cls d → E cls d H'
  | .bad => False
theorem Out.bind_assoc {α β γ : Type} (o : Out α) (f : α → Hm → Out β) (g : β → Hm → Out γ) : (o.bind f).bind g = o.bind fun x h => (f x h).bind g := by cases o <;> rfl
abbrev RB : List Addr → Hp → Bool → Bool → Prop := fun _ _ a b => a = b
section
variable {Γ : Gam} {ρ ρ' : List Addr} {H H' : Hp} {α β α' β' : Type} {R : List Addr → Hp → α → β → Prop} {R' : List Addr → Hp → α' → β' → Prop} {o : Out α} {Q Q2 : β → Hp → Prop} {Q' : β' → Hp → Prop} {E : XK}
theorem O1.mono (l : Le Γ ρ ρ' H H') (x : O1 Γ R ρ H o Q E) : O1 Γ R ρ' H' o Q E := by
  cases o with
  | ok a h => exact fun ρ2 H2 b l2 r q => x ρ2 H2 b (l.trans l2) r q
  | err a h => exact fun ρ2 H2 c d l2 r q => x ρ2 H2 c d (l.trans l2) r q
  | bad => exact x
theorem O1.imp (x : O1 Γ R ρ H o Q E) (f : ∀ b H', Q b H' → Q2 b H') : O1 Γ R ρ H o Q2 E := by
  cases o with
  | ok a h => exact fun ρ2 H2 b l2 r q => f _ _ (x ρ2 H2 b l2 r q)
  | err a h => exact x
  | bad => exact x
theorem O1.bind {f : α → Hm → Out α'} (x : O1 Γ R' ρ H (o.bind f) Q' E) :
    O1 Γ R ρ H o (fun v H1 => ∃ ρ1 h1 a, Le Γ ρ ρ1 H H1 ∧ Rel Γ ρ1 h1 H1 ∧ R ρ1 H1 a v ∧ O1 Γ R' ρ1 H1 (f a h1) Q' E) E := by
  cases o with
  | ok a h => exact fun ρ2 H2 b l2 r q => ⟨ρ2, h, a, l2, r, q, O1.mono l2 x⟩
  | err a h => exact x
  | bad => exact x
end

/-! ### contexts -/
structure Cfg where
  N : List Str
  V : List Str
  L : List Str
  G : List Str
  sc : Scope
  fa : Bool
  calm : Bool
structure CfgOk (c : Cfg) : Prop where
  nd : c.N.Nodup
  vis : ∀ x ∈ c.V, Vis c.sc x
  loc : ∀ x ∈ c.L, c.sc.names.lookup x = some .local ∨ (c.fa = true ∧ c.sc.names.lookup x = some .cell)
  gl : ∀ x ∈ c.G, c.sc.names.lookup x = some .globalImplicit
def cfgOk (c : Cfg) : Bool :=
  decide c.N.Nodup && (c.V.all fun x => match c.sc.names.lookup x with | some .local => true | some .cell => true | some .free => true | _ => false) &&
  (c.L.all fun x => match c.sc.names.lookup x with | some .local => true | some .cell => c.fa | _ => false) &&
  (c.G.all fun x => match c.sc.names.lookup x with | some .globalImplicit => true | _ => false)
theorem cfgOk_of {c : Cfg} (h : cfgOk c = true) : CfgOk c := by
  unfold cfgOk at h
  simp only [Bool.and_eq_true, List.all_eq_true, decide_eq_true_eq] at h
  obtain ⟨⟨⟨h1, h2⟩, h3⟩, h4⟩ := h
  refine ⟨h1, fun x hx => ?_, fun x hx => ?_, fun x hx => ?_⟩
  · have q := h2 x hx
    split at q
    · exact .inl (by assumption)
    · exact .inr (.inl (by assumption))
    · exact .inr (.inr (by assumption))
    · cases q
  · have q := h3 x hx
    split at q
    · exact .inl (by assumption)
    · exact .inr ⟨q, by assumption⟩
    · cases q
  · have q := h4 x hx
    split at q
    · assumption
    · cases q

structure Good (Γ : Gam) (c : Cfg) (k : Nat) (W : WX) (X : Cx) : Prop where
  prog : X.prog = Γ.P
  w : X.w = Γ.w
  K : X.K = Γ.K
  mg : X.mg = Γ.mg
  base : X.base = Γ.base
  N : X.N = c.N
  sc : X.env.scope = c.sc
  ok : CfgOk c
  fn : c.fa = true → ∀ x, X.fn x = true
  calm : X.calm = c.calm
  room : c.calm = true → Room k X.A
  takes : Takes X W
  pass : PassesOwn (model X.prog X.w) X.A X.env X.xe
  fr : c.fa = true → X.stack = X.env :: X.outer ∧ X.env.frame = some X.env.locals

def tI (Γ : Gam) (W : WX) (f : XE) : TE := fun τ H Q => ∃ ρ σ h, Rel Γ ρ h H ∧ RelS Γ ρ H σ τ ∧ O1 Γ (RelW Γ) ρ H (f σ h) Q (fun cls d H' => W cls d τ H')
def tIT (Γ : Gam) (W : WX) (f : XT) : TT := fun τ H Q => ∃ ρ σ h, Rel Γ ρ h H ∧ RelS Γ ρ H σ τ ∧ O1 Γ RB ρ H (f σ h) Q (fun cls d H' => W cls d τ H')
def tIA (Γ : Gam) (W : WX) (f : XA) : TA := fun τ H Q => ∃ ρ σ h, Rel Γ ρ h H ∧ RelS Γ ρ H σ τ ∧ O1 Γ (RelWs Γ) ρ H (f σ h) Q (fun cls d H' => W cls d τ H')
def SE (Γ : Gam) (c : Cfg) (k : Nat) (e : Expr) (f : XE) : Prop := ∀ W X, Good Γ c k W X → PE X e (tI Γ W f)
def ST (Γ : Gam) (c : Cfg) (k : Nat) (e : Expr) (f : XT) : Prop := ∀ W X, Good Γ c k W X → PT X e (tIT Γ W f)
def SA (Γ : Gam) (c : Cfg) (k : Nat) (es : List Expr) (f : XA) : Prop := ∀ W X, Good Γ c k W X → PA X es (tIA Γ W f)
/-- tests with and, or -/
def SW (Γ : Gam) (c : Cfg) (k : Nat) (e : Expr) (f : XT) : Prop := ∀ W X, Good Γ c k W X → PW X e (tIT Γ W f)

theorem PE.imp {X : Cx} {e : Expr} {t t' : TE} (h : PE X e t) (i : ∀ σ H Q, t' σ H Q → t σ H Q) : PE X e t' := ⟨fun pins s σ H Q I q => h.run pins s σ H Q I (i _ _ _ q)⟩
theorem PT.imp {X : Cx} {e : Expr} {t t' : TT} (h : PT X e t) (i : ∀ σ H Q, t' σ H Q → t σ H Q) : PT X e t' := ⟨fun pins s σ H Q I q => h.run pins s σ H Q I (i _ _ _ q)⟩
theorem PW.imp {X : Cx} {e : Expr} {t t' : TT} (h : PW X e t) (i : ∀ σ H Q, t' σ H Q → t σ H Q) : PW X e t' := ⟨fun wh pins s σ H Q I q => h.run wh pins s σ H Q I (i _ _ _ q)⟩
theorem PA.imp {X : Cx} {e : List Expr} {t t' : TA} (h : PA X e t) (i : ∀ σ H Q, t' σ H Q → t σ H Q) : PA X e t' := ⟨fun pos pins s σ H Q I q => h.run pos pins s σ H Q I (i _ _ _ q)⟩

/-! ### operations on values -/
abbrev Pr := Option (W × Hm)
def ofO : Pr → Out W
  | some (w, h) => .ok w h
  | none => .bad
def new (h : Hm) (o : O) : W × Hm := (.ref h.length, h ++ [o])
/-- what an operation asks, by our values -/
def r2 (Γ : Gam) (g : W → W → Hm → Pr) : R2 := fun x y H Q => ∃ ρ h u w u' h', Rel Γ ρ h H ∧ RelW Γ ρ H u x ∧ RelW Γ ρ H w y ∧ g u w h = some (u', h') ∧ ∀ ρ' H' v, Le Γ ρ ρ' H H' → Rel Γ ρ' h' H' → RelW Γ ρ' H' u' v → Q v H'
def r1 (Γ : Gam) (g : W → Hm → Pr) : V → Hp → VK → Prop := fun x H Q => ∃ ρ h u u' h', Rel Γ ρ h H ∧ RelW Γ ρ H u x ∧ g u h = some (u', h') ∧ ∀ ρ' H' v, Le Γ ρ ρ' H H' → Rel Γ ρ' h' H' → RelW Γ ρ' H' u' v → Q v H'
def rN (Γ : Gam) (g : List W → Hm → Pr) : List V → Hp → VK → Prop := fun xs H Q => ∃ ρ h us u' h', Rel Γ ρ h H ∧ RelWs Γ ρ H us xs ∧ g us h = some (u', h') ∧ ∀ ρ' H' v, Le Γ ρ ρ' H H' → Rel Γ ρ' h' H' → RelW Γ ρ' H' u' v → Q v H'
def OpS (Γ : Gam) (c : Cfg) (k : Nat) (f : Value → Value → Sem Value) (g : W → W → Hm → Pr) : Prop := ∀ W X, Good Γ c k W X → OpR X f (r2 Γ g)
def UnS (Γ : Gam) (c : Cfg) (k : Nat) (f : Value → Sem Value) (g : W → Hm → Pr) : Prop := ∀ W X, Good Γ c k W X → UnR X f (r1 Γ g)
def CaS (Γ : Gam) (c : Cfg) (k : Nat) (f : Value) (g : List W → Hm → Pr) : Prop := ∀ W X, Good Γ c k W X → CallR X f (rN Γ g)

/-! ### the combinators -/
def xK (w : W) : XE := fun _ h => .ok w h
def xVar (i : Nat) : XE := fun σ h => match σ[i]? with
  | some (some w) => .ok w h
  | _ => .bad
def xBin (g : W → W → Hm → Pr) (a b : XE) : XE := fun σ h => (a σ h).bind fun x h1 => (b σ h1).bind fun y h2 => ofO (g x y h2)
def xUn (g : W → Hm → Pr) (a : XE) : XE := fun σ h => (a σ h).bind fun x h1 => ofO (g x h1)
def xNil : XA := fun _ h => .ok [] h
def xCons (a : XE) (r : XA) : XA := fun σ h => (a σ h).bind fun x h1 => (r σ h1).bind fun xs h2 => .ok (x :: xs) h2
def xCall (g : List W → Hm → Pr) (a : XA) : XE := fun σ h => (a σ h).bind fun xs h1 => ofO (g xs h1)
def xTup (a : XA) : XE := fun σ h => (a σ h).bind fun xs h1 => if xs.length ≤ 16777216 then .ok (.tup xs) h1 else .bad
def xLst (a : XA) : XE := fun σ h => (a σ h).bind fun xs h1 => if xs.length ≤ 16777216 then .ok (.ref h1.length) (h1 ++ [.lst xs]) else .bad
def asB : W → Hm → Out Bool
  | .bl b, h => .ok b h
  | _, _ => .bad
def xB (a : XE) : XT := fun σ h => (a σ h).bind asB
def xAndT (a b : XT) : XT := fun σ h => (a σ h).bind fun c h1 => if c then b σ h1 else .ok false h1
def xOrT (a b : XT) : XT := fun σ h => (a σ h).bind fun c h1 => if c then .ok true h1 else b σ h1
def xNotT (a : XT) : XT := fun σ h => (a σ h).bind fun c h1 => .ok (!c) h1
def xAnd (a b : XE) : XE := fun σ h => (a σ h).bind fun x h1 => match x with
  | .bl true => b σ h1
  | .bl false => .ok (.bl false) h1
  | _ => .bad
def xOr (a b : XE) : XE := fun σ h => (a σ h).bind fun x h1 => match x with
  | .bl true => .ok (.bl true) h1
  | .bl false => b σ h1
  | _ => .bad
def xNot (a : XE) : XE := fun σ h => (a σ h).bind fun x h1 => match x with
  | .bl b => .ok (.bl !b) h1
  | _ => .bad
def xIf (t : XT) (a b : XE) : XE := fun σ h => (t σ h).bind fun c h1 => if c then a σ h1 else b σ h1
def xChain (g g' : W → W → Hm → Pr) (a b c : XE) : XE := fun σ h => (a σ h).bind fun x h1 => (b σ h1).bind fun y h2 => (ofO (g x y h2)).bind fun z h3 => match z with
  | .bl true => (c σ h3).bind fun w h4 => ofO (g' y w h4)
  | .bl false => .ok (.bl false) h3
  | _ => .bad

section
variable {Γ : Gam} {c : Cfg} {k : Nat} {a b e d : Expr} {es : List Expr} {fa fb fc : XE} {ft fu : XT} {fr : XA} {pos p : Pos}
theorem Good.nd {W : WX} {X : Cx} (g : Good Γ c k W X) : X.N.Nodup := by rw [g.N]; exact g.ok.nd
theorem Good.gl {W : WX} {X : Cx} (g : Good Γ c k W X) {x : Str} (h : x ∈ c.G) : Gl X x := by
  have := g.ok.gl x h
  unfold Gl Env.kindOf
  rw [g.sc]
  exact this
theorem relS_at {ρ : List Addr} {H : Hp} {σ : Sg} {τ : L2.St} (r : RelS Γ ρ H σ τ) {i : Nat} {w : W} (e : σ[i]? = some (some w)) : ∃ v, τ[i]? = some (some v) ∧ RelW Γ ρ H w v := r.2 i w e

theorem se_var (i j : Nat) {x : Str} (hN : c.N[i]? = some x := by rfl) (hV : c.V[j]? = some x := by rfl) (hd : (x == ("__debug__" : Str)) = false := by decide) (hcd : (x == ("__classdict__" : Str)) = false := by decide) : SE Γ c k (.Name x pos) (xVar i) := by
  intro W X g
  have hv : Vis X.env.scope x := by rw [g.sc]; exact g.ok.vis x (List.mem_of_getElem? hV)
  refine PE.imp (pe_var (i := i) (by rw [g.N]; exact hN) hv hd hcd) fun τ H Q h => ?_
  obtain ⟨ρ, σ, h, R, S, q⟩ := h
  unfold xVar at q
  split at q
  · rename_i w e
    obtain ⟨v, ev, rv⟩ := S.2 i w e
    exact ⟨v, ev, q ρ H v .refl R rv⟩
  · exact q.elim
theorem se_k {v : V} {w : W} (h : ∀ X : Cx, PE X e (tC v)) (r : ∀ ρ H, RelW Γ ρ H w v) : SE Γ c k e (xK w) := by
  intro W X g
  refine PE.imp (h X) fun τ H Q h => ?_
  obtain ⟨ρ, σ, h, R, S, q⟩ := h
  exact q ρ H v .refl R (r ρ H)
theorem se_int {i : Int} {j} : SE Γ c k (.Constant (.int i) j pos) (xK (.int i)) := se_k (fun _ => pe_int) fun _ _ => by simp [RelW]
theorem se_bl {i : Bool} {j} : SE Γ c k (.Constant (.bool i) j pos) (xK (.bl i)) := se_k (fun _ => pe_bl) fun _ _ => by simp [RelW]
theorem se_str {i : Str} {j} : SE Γ c k (.Constant (.str i) j pos) (xK (.str i)) := se_k (fun _ => pe_str) fun _ _ => by simp [RelW]
theorem se_non {j} : SE Γ c k (.Constant .none j pos) (xK .non) := se_k (fun _ => pe_non) fun _ _ => by simp [RelW]
/-- a constant of the module -/
def Kon (Γ : Gam) (x : Str) (w : W) : Prop := ∃ u v, Γ.mg x = some u ∧ RelV v u ∧ ∀ ρ H, RelW Γ ρ H w v
theorem se_glo (j : Nat) {x : Str} {w : W} (hk : Kon Γ x w) (hG : c.G[j]? = some x := by rfl) (hd : (x == ("__debug__" : Str)) = false := by decide) : SE Γ c k (.Name x pos) (xK w) := by
  intro W X g
  obtain ⟨u, v, hm, r, q⟩ := hk
  refine PE.imp (pe_glob (v := v) (g.gl (List.mem_of_getElem? hG)) (by rw [g.mg]; exact hm) r hd) fun τ H Q h => ?_
  obtain ⟨ρ, σ, h, R, S, q'⟩ := h
  exact q' ρ H v .refl R (q ρ H)

theorem O1.ofO {ρ : List Addr} {H : Hp} {p : Pr} {Q : VK} {E : XK} (x : O1 Γ (RelW Γ) ρ H (ofO p) Q E) : ∃ w h, p = some (w, h) ∧ ∀ ρ' H' v, Le Γ ρ ρ' H H' → Rel Γ ρ' h H' → RelW Γ ρ' H' w v → Q v H' := by
  cases p with
  | none => exact x.elim
  | some y => exact ⟨y.1, y.2, rfl, x⟩
theorem se_bin {op : Operator} {g : W → W → Hm → Pr} (ho : OpS Γ c k (binaryOp op) g) (ha : SE Γ c k a fa) (hb : SE Γ c k b fb) : SE Γ c k (.BinOp a op b pos) (xBin g fa fb) := by
  intro W X G
  refine PE.imp (pe_op (ho W X G) (ha W X G) (hb W X G)) fun τ H Q h => ?_
  obtain ⟨ρ, σ, h, R, S, q⟩ := h
  refine ⟨ρ, σ, h, R, S, (O1.bind (R := RelW Γ) q).imp fun x H1 ⟨ρ1, h1, u, l1, R1, r1, q1⟩ => ?_⟩
  refine ⟨ρ1, σ, h1, R1, S.mono l1, (O1.bind (R := RelW Γ) q1).imp fun y H2 ⟨ρ2, h2, w, l2, R2, r2, q2⟩ => ?_⟩
  obtain ⟨u', h', e, q3⟩ := q2.ofO
  exact ⟨ρ2, h2, u, w, u', h', R2, RelW.mono l2 _ _ r1, r2, e, q3⟩
theorem se_un {op : UnaryOp} {g : W → Hm → Pr} (ho : UnS Γ c k (unaryOp op) g) (ha : SE Γ c k a fa) : SE Γ c k (.UnaryOp op a pos) (xUn g fa) := by
  intro W X G
  refine PE.imp (pe_un (ho W X G) (ha W X G)) fun τ H Q h => ?_
  obtain ⟨ρ, σ, h, R, S, q⟩ := h
  refine ⟨ρ, σ, h, R, S, (O1.bind (R := RelW Γ) q).imp fun x H1 ⟨ρ1, h1, u, l1, R1, r1, q1⟩ => ?_⟩
  obtain ⟨u', h', e, q3⟩ := q1.ofO
  exact ⟨ρ1, h1, u, u', h', R1, r1, e, q3⟩
theorem se_cmp {op : CmpOp} {g : W → W → Hm → Pr} (ho : OpS Γ c k (compareOp op) g) (ha : SE Γ c k a fa) (hb : SE Γ c k b fb) (hm : behindInMarks op b = false := by rfl) : SE Γ c k (.Compare a [op] [b] pos) (xBin g fa fb) := by
  intro W X G
  refine PE.imp (pe_cmpR (ho W X G) (ha W X G) (hb W X G) hm) fun τ H Q h => ?_
  obtain ⟨ρ, σ, h, R, S, q⟩ := h
  refine ⟨ρ, σ, h, R, S, (O1.bind (R := RelW Γ) q).imp fun x H1 ⟨ρ1, h1, u, l1, R1, r1, q1⟩ => ?_⟩
  refine ⟨ρ1, σ, h1, R1, S.mono l1, (O1.bind (R := RelW Γ) q1).imp fun y H2 ⟨ρ2, h2, w, l2, R2, r2, q2⟩ => ?_⟩
  obtain ⟨u', h', e, q3⟩ := q2.ofO
  exact ⟨ρ2, h2, u, w, u', h', R2, RelW.mono l2 _ _ r1, r2, e, q3⟩
theorem asB_o {ρ : List Addr} {H : Hp} {u : W} {h1 : Hm} {Q : Bool → Hp → Prop} {E : XK} {v : V} (R : Rel Γ ρ h1 H) (r : RelW Γ ρ H u v) (q : O1 Γ RB ρ H (asB u h1) Q E) : ∃ b, v = .bl b ∧ u = .bl b ∧ Q b H := by
  cases u with
  | bl b =>
    unfold RelW at r
    exact ⟨b, r, rfl, q ρ H b .refl R rfl⟩
  | _ => exact q.elim
theorem st_cmp {op : CmpOp} {g : W → W → Hm → Pr} (ho : OpS Γ c k (compareOp op) g) (ha : SE Γ c k a fa) (hb : SE Γ c k b fb) (hm : behindInMarks op b = false := by rfl) : ST Γ c k (.Compare a [op] [b] pos) (xB (xBin g fa fb)) := by
  intro W X G
  refine PT.imp (pt_cmpR (ho W X G) (ha W X G) (hb W X G) hm) fun τ H Q h => ?_
  obtain ⟨ρ, σ, h, R, S, q⟩ := h
  have q : O1 Γ RB ρ H ((fa σ h).bind fun x h1 => (fb σ h1).bind fun y h2 => (ofO (g x y h2)).bind asB) Q (fun cls d H' => W cls d τ H') := by
    have e : xB (xBin g fa fb) σ h = ((fa σ h).bind fun x h1 => (fb σ h1).bind fun y h2 => (ofO (g x y h2)).bind asB) := by
      unfold xB xBin
      cases fa σ h with
      | ok x h1 =>
        show ((fb σ h1).bind _).bind _ = (fb σ h1).bind _
        cases fb σ h1 <;> rfl
      | err => rfl
      | bad => rfl
    rw [← e]
    exact q
  refine ⟨ρ, σ, h, R, S, (O1.bind (R := RelW Γ) q).imp fun x H1 ⟨ρ1, h1, u, l1, R1, r1, q1⟩ => ?_⟩
  refine ⟨ρ1, σ, h1, R1, S.mono l1, (O1.bind (R := RelW Γ) q1).imp fun y H2 ⟨ρ2, h2, w, l2, R2, r2, q2⟩ => ?_⟩
  obtain ⟨u', h', e, q3⟩ := (O1.bind (R := RelW Γ) q2).ofO
  refine ⟨ρ2, h2, u, w, u', h', R2, RelW.mono l2 _ _ r1, r2, e, fun ρ3 H3 v l3 R3 r3 => ?_⟩
  obtain ⟨ρ4, h4, z, l4, R4, r4, q4⟩ := q3 ρ3 H3 v l3 R3 r3
  obtain ⟨bb, e1, _, q5⟩ := asB_o R4 r4 q4
  exact ⟨bb, e1, q5⟩
/-- a value that is a bool, as a test -/
theorem st_val (he : SE Γ c k e fa) (hs : ∀ (env : Env) (whole : Sem Value), isTrue e env whole = (do let v ← whole; standAt e.pos; holding [v] (truthy v)) := by intros; rfl) : ST Γ c k e (xB fa) := by
  intro W X G
  refine PT.imp (pt_val (he W X G) (hs X.env)) fun τ H Q h => ?_
  obtain ⟨ρ, σ, h, R, S, q⟩ := h
  refine ⟨ρ, σ, h, R, S, (O1.bind (R := RelW Γ) q).imp fun x H1 ⟨ρ1, h1, u, l1, R1, r1, q1⟩ => ?_⟩
  obtain ⟨bb, e1, _, q5⟩ := asB_o R1 r1 q1
  exact ⟨bb, e1, q5⟩
theorem st_not (ha : ST Γ c k a ft) : ST Γ c k (.UnaryOp .Not a pos) (xNotT ft) := by
  intro W X G
  refine PT.imp (pt_not (ha W X G)) fun τ H Q h => ?_
  obtain ⟨ρ, σ, h, R, S, q⟩ := h
  refine ⟨ρ, σ, h, R, S, (O1.bind (R := RB) q).imp fun x H1 ⟨ρ1, h1, u, l1, R1, r1, q1⟩ => ?_⟩
  have r1 : u = x := r1
  subst r1
  exact q1 ρ1 H1 _ .refl R1 rfl
theorem sw_one {op : BoolOp} (ha : ST Γ c k a ft) : SW Γ c k (.BoolOp op [a] pos) ft := by
  intro W X G
  cases op with
  | And => exact pw_and1 (ha W X G)
  | Or => exact pw_or1 (ha W X G)
theorem sw_and {rest : List Expr} (ha : ST Γ c k a ft) (hb : SW Γ c k (.BoolOp .And (b :: rest) pos) fu) : SW Γ c k (.BoolOp .And (a :: b :: rest) pos) (xAndT ft fu) := by
  intro W X G
  refine PW.imp (pw_and (ha W X G) (hb W X G)) fun τ H Q h => ?_
  obtain ⟨ρ, σ, h, R, S, q⟩ := h
  refine ⟨ρ, σ, h, R, S, (O1.bind (R := RB) q).imp fun x H1 ⟨ρ1, h1, u, l1, R1, r1, q1⟩ => ?_⟩
  have r1 : u = x := r1
  subst r1
  cases u with
  | true => exact iteT ⟨ρ1, σ, h1, R1, S.mono l1, q1⟩
  | false => exact iteF (q1 ρ1 H1 _ .refl R1 rfl)
theorem sw_or {rest : List Expr} (ha : ST Γ c k a ft) (hb : SW Γ c k (.BoolOp .Or (b :: rest) pos) fu) : SW Γ c k (.BoolOp .Or (a :: b :: rest) pos) (xOrT ft fu) := by
  intro W X G
  refine PW.imp (pw_or (ha W X G) (hb W X G)) fun τ H Q h => ?_
  obtain ⟨ρ, σ, h, R, S, q⟩ := h
  refine ⟨ρ, σ, h, R, S, (O1.bind (R := RB) q).imp fun x H1 ⟨ρ1, h1, u, l1, R1, r1, q1⟩ => ?_⟩
  have r1 : u = x := r1
  subst r1
  cases u with
  | true => exact iteT (q1 ρ1 H1 _ .refl R1 rfl)
  | false => exact iteF ⟨ρ1, σ, h1, R1, S.mono l1, q1⟩
theorem st_w (h : SW Γ c k e ft) : ST Γ c k e ft := fun W X G => (h W X G).pt
theorem se_one {op : BoolOp} (ha : SE Γ c k a fa) : SE Γ c k (.BoolOp op [a] pos) fa := fun W X G => pe_one (ha W X G)
theorem relW_bl {ρ : List Addr} {H : Hp} {b : Bool} {v : V} (r : RelW Γ ρ H (.bl b) v) : v = .bl b := by unfold RelW at r; exact r
theorem se_and {rest : List Expr} (ha : SE Γ c k a fa) (hb : SE Γ c k (.BoolOp .And (b :: rest) pos) fb) : SE Γ c k (.BoolOp .And (a :: b :: rest) pos) (xAnd fa fb) := by
  intro W X G
  refine PE.imp (pe_and (ha W X G) (hb W X G)) fun τ H Q h => ?_
  obtain ⟨ρ, σ, h, R, S, q⟩ := h
  refine ⟨ρ, σ, h, R, S, (O1.bind (R := RelW Γ) q).imp fun x H1 ⟨ρ1, h1, u, l1, R1, r1, q1⟩ => ?_⟩
  split at q1
  · exact ⟨true, relW_bl r1, iteT ⟨ρ1, σ, h1, R1, S.mono l1, q1⟩⟩
  · exact ⟨false, relW_bl r1, iteF (q1 ρ1 H1 _ .refl R1 (by simp [RelW]))⟩
  · exact q1.elim
theorem se_or {rest : List Expr} (ha : SE Γ c k a fa) (hb : SE Γ c k (.BoolOp .Or (b :: rest) pos) fb) : SE Γ c k (.BoolOp .Or (a :: b :: rest) pos) (xOr fa fb) := by
  intro W X G
  refine PE.imp (pe_or (ha W X G) (hb W X G)) fun τ H Q h => ?_
  obtain ⟨ρ, σ, h, R, S, q⟩ := h
  refine ⟨ρ, σ, h, R, S, (O1.bind (R := RelW Γ) q).imp fun x H1 ⟨ρ1, h1, u, l1, R1, r1, q1⟩ => ?_⟩
  split at q1
  · exact ⟨true, relW_bl r1, iteT (q1 ρ1 H1 _ .refl R1 (by simp [RelW]))⟩
  · exact ⟨false, relW_bl r1, iteF ⟨ρ1, σ, h1, R1, S.mono l1, q1⟩⟩
  · exact q1.elim
theorem se_not (ha : SE Γ c k a fa) : SE Γ c k (.UnaryOp .Not a pos) (xNot fa) := by
  intro W X G
  refine PE.imp (pe_not (ha W X G)) fun τ H Q h => ?_
  obtain ⟨ρ, σ, h, R, S, q⟩ := h
  refine ⟨ρ, σ, h, R, S, (O1.bind (R := RelW Γ) q).imp fun x H1 ⟨ρ1, h1, u, l1, R1, r1, q1⟩ => ?_⟩
  split at q1
  · exact ⟨_, relW_bl r1, q1 ρ1 H1 _ .refl R1 (by simp [RelW])⟩
  · exact q1.elim
theorem se_if (ht : ST Γ c k d ft) (ha : SE Γ c k a fa) (hb : SE Γ c k b fb) : SE Γ c k (.IfExp d a b pos) (xIf ft fa fb) := by
  intro W X G
  refine PE.imp (pe_ifExp (ht W X G) (ha W X G) (hb W X G)) fun τ H Q h => ?_
  obtain ⟨ρ, σ, h, R, S, q⟩ := h
  refine ⟨ρ, σ, h, R, S, (O1.bind (R := RB) q).imp fun x H1 ⟨ρ1, h1, u, l1, R1, r1, q1⟩ => ?_⟩
  have r1 : u = x := r1
  subst r1
  cases u with
  | true => exact iteT ⟨ρ1, σ, h1, R1, S.mono l1, q1⟩
  | false => exact iteF ⟨ρ1, σ, h1, R1, S.mono l1, q1⟩
theorem se_chain {op op' : CmpOp} {g g' : W → W → Hm → Pr} (ho : OpS Γ c k (compareOp op) g) (ho' : OpS Γ c k (compareOp op') g') (ha : SE Γ c k a fa) (hb : SE Γ c k b fb) (hd : SE Γ c k d fc)
    (h2 : behindInMarks op' d = false := by rfl) : SE Γ c k (.Compare a [op, op'] [b, d] pos) (xChain g g' fa fb fc) := by
  intro W X G
  refine PE.imp (pe_chain (ho W X G) (ho' W X G) (ha W X G) (hb W X G) (hd W X G) (hm := h2)) fun τ H Q h => ?_
  obtain ⟨ρ, σ, h, R, S, q⟩ := h
  refine ⟨ρ, σ, h, R, S, (O1.bind (R := RelW Γ) q).imp fun x H1 ⟨ρ1, h1, u, l1, R1, r1, q1⟩ => ?_⟩
  refine ⟨ρ1, σ, h1, R1, S.mono l1, (O1.bind (R := RelW Γ) q1).imp fun y H2 ⟨ρ2, h2, w, l2, R2, r2, q2⟩ => ?_⟩
  obtain ⟨u', h', e, q3⟩ := (O1.bind (R := RelW Γ) q2).ofO
  refine ⟨ρ2, h2, u, w, u', h', R2, RelW.mono l2 _ _ r1, r2, e, fun ρ3 H3 v l3 R3 r3 => ?_⟩
  obtain ⟨ρ4, h4, z, l4, R4, r4, q4⟩ := q3 ρ3 H3 v l3 R3 r3
  split at q4
  · refine ⟨true, relW_bl r4, iteT ⟨ρ4, σ, h4, R4, ((S.mono l1).mono l2).mono l4, (O1.bind (R := RelW Γ) q4).imp fun v5 H5 ⟨ρ5, h5, w5, l5, R5, r5, q5⟩ => ?_⟩⟩
    obtain ⟨u6, h6, e6, q6⟩ := q5.ofO
    exact ⟨ρ5, h5, w, w5, u6, h6, R5, RelW.mono (l4.trans l5) _ _ r2, r5, e6, q6⟩
  · exact ⟨false, relW_bl r4, iteF (q4 ρ4 H3 _ .refl R4 (by simp [RelW]))⟩
  · exact q4.elim
theorem st_chain {op op' : CmpOp} {g g' : W → W → Hm → Pr} (ho : OpS Γ c k (compareOp op) g) (ho' : OpS Γ c k (compareOp op') g') (ha : SE Γ c k a fa) (hb : SE Γ c k b fb) (hd : SE Γ c k d fc)
    (h2 : behindInMarks op' d = false := by rfl) : ST Γ c k (.Compare a [op, op'] [b, d] pos) (xB (xChain g g' fa fb fc)) := by
  intro W X G
  refine PT.imp (pt_chain (ho W X G) (ho' W X G) (ha W X G) (hb W X G) (hd W X G) (hm := h2)) fun τ H Q h => ?_
  obtain ⟨ρ, σ, h, R, S, q⟩ := h
  have q : O1 Γ RB ρ H ((fa σ h).bind fun x h1 => (fb σ h1).bind fun y h2 => (ofO (g x y h2)).bind fun z h3 => (match (generalizing := false) z with
      | .bl true => (fc σ h3).bind fun w h4 => ofO (g' y w h4)
      | .bl false => .ok (.bl false) h3
      | _ => .bad).bind asB) Q (fun cls d H' => W cls d τ H') := by
    unfold xB xChain at q
    simp only [Out.bind_assoc] at q
    exact q
  refine ⟨ρ, σ, h, R, S, (O1.bind (R := RelW Γ) q).imp fun x H1 ⟨ρ1, h1, u, l1, R1, r1, q1⟩ => ?_⟩
  refine ⟨ρ1, σ, h1, R1, S.mono l1, (O1.bind (R := RelW Γ) q1).imp fun y H2 ⟨ρ2, h2, w, l2, R2, r2, q2⟩ => ?_⟩
  obtain ⟨u', h', e, q3⟩ := (O1.bind (R := RelW Γ) q2).ofO
  refine ⟨ρ2, h2, u, w, u', h', R2, RelW.mono l2 _ _ r1, r2, e, fun ρ3 H3 v l3 R3 r3 => ?_⟩
  obtain ⟨ρ4, h4, z, l4, R4, r4, q4⟩ := q3 ρ3 H3 v l3 R3 r3
  split at q4
  · rw [Out.bind_assoc] at q4
    refine ⟨true, relW_bl r4, iteT ⟨ρ4, σ, h4, R4, ((S.mono l1).mono l2).mono l4, (O1.bind (R := RelW Γ) q4).imp fun v5 H5 ⟨ρ5, h5, w5, l5, R5, r5, q5⟩ => ?_⟩⟩
    obtain ⟨u6, h6, e6, q6⟩ := (O1.bind (R := RelW Γ) q5).ofO
    refine ⟨ρ5, h5, w, w5, u6, h6, R5, RelW.mono (l4.trans l5) _ _ r2, r5, e6, fun ρ7 H7 v7 l7 R7 r7 => ?_⟩
    obtain ⟨ρ8, h8, z8, l8, R8, r8, q8⟩ := q6 ρ7 H7 v7 l7 R7 r7
    obtain ⟨bb, e1, _, q9⟩ := asB_o R8 r8 q8
    exact ⟨bb, e1, q9⟩
  · exact ⟨false, relW_bl r4, iteF ⟨false, rfl, q4 ρ4 H3 _ .refl R4 rfl⟩⟩
  · exact q4.elim
theorem sa_nil : SA Γ c k [] xNil := by
  intro W X G
  refine PA.imp pa_nil fun τ H Q h => ?_
  obtain ⟨ρ, σ, h, R, S, q⟩ := h
  exact q ρ H _ .refl R (by simp [RelWs])
theorem sa_cons (ha : SE Γ c k e fa) (hr : SA Γ c k es fr) (hs : ∀ env, starEach (e :: es) env = (false, eval e env) :: starEach es env := by intros; rfl) : SA Γ c k (e :: es) (xCons fa fr) := by
  intro W X G
  refine PA.imp (pa_cons (ha W X G) (hr W X G) (hs X.env)) fun τ H Q h => ?_
  obtain ⟨ρ, σ, h, R, S, q⟩ := h
  refine ⟨ρ, σ, h, R, S, (O1.bind (R := RelW Γ) q).imp fun x H1 ⟨ρ1, h1, u, l1, R1, r1, q1⟩ => ?_⟩
  refine ⟨ρ1, σ, h1, R1, S.mono l1, (O1.bind (R := RelWs Γ) q1).imp fun y H2 ⟨ρ2, h2, w, l2, R2, r2, q2⟩ => ?_⟩
  exact q2 ρ2 H2 _ .refl R2 (RelWs.cons (RelW.mono l2 _ _ r1) r2)
theorem se_tup {x1} (ha : SA Γ c k es fr) : SE Γ c k (.Tuple es x1 pos) (xTup fr) := by
  intro W X G
  refine PE.imp (pe_tup (ha W X G)) fun τ H Q h => ?_
  obtain ⟨ρ, σ, h, R, S, q⟩ := h
  refine ⟨ρ, σ, h, R, S, (O1.bind (R := RelWs Γ) q).imp fun x H1 ⟨ρ1, h1, u, l1, R1, r1, q1⟩ => ?_⟩
  split at q1
  · rename_i hl
    refine ⟨by rw [sizeLine_eq, ← r1.length]; exact hl, fun p hp => ?_⟩
    have l := Le.laid (Γ := Γ) (ρ := ρ1) (o := .tup x) hp []
    rw [List.append_nil] at l
    refine q1 ρ1 _ _ l (R1.other hp) ?_
    unfold RelW
    exact ⟨p, x, rfl, SqT.of upd_same, RelWs.mono l _ _ r1⟩
  · exact q1.elim
theorem se_lst (ha : SA Γ c k es fr) : SE Γ c k (.List es pos) (xLst fr) := by
  intro W X G
  refine PE.imp (pe_lst (ha W X G)) fun τ H Q h => ?_
  obtain ⟨ρ, σ, h, R, S, q⟩ := h
  refine ⟨ρ, σ, h, R, S, (O1.bind (R := RelWs Γ) q).imp fun x H1 ⟨ρ1, h1, u, l1, R1, r1, q1⟩ => ?_⟩
  split at q1
  · rename_i hl
    refine ⟨by rw [sizeLine_eq, ← r1.length]; exact hl, fun p hp => ?_⟩
    have l := Le.laid (Γ := Γ) (ρ := ρ1) (o := .lst x) hp [p]
    refine q1 _ _ _ l (R1.alloc hp ⟨x, upd_same, RelWs.mono l _ _ r1⟩) ?_
    unfold RelW
    exact ⟨p, by rw [← R1.len]; simp, rfl⟩
  · exact q1.elim
end
end Z

namespace Z
open PySem PySem.Spec PyProof.Rows L2

def S1 (Γ : Gam) (ρ : List Addr) (H : Hp) (o : SOut) (D : Ends) (W : WX) : Prop :=
  match o with
  | .nx σ' h' => ∀ ρ' H' τ', Le Γ ρ ρ' H H' → Rel Γ ρ' h' H' → RelS Γ ρ' H' σ' τ' → D.nx τ' H'
  | .ct σ' h' => ∀ ρ' H' τ', Le Γ ρ ρ' H H' → Rel Γ ρ' h' H' → RelS Γ ρ' H' σ' τ' → D.ct τ' H'
  | .bk σ' h' => ∀ ρ' H' τ', Le Γ ρ ρ' H H' → Rel Γ ρ' h' H' → RelS Γ ρ' H' σ' τ' → D.bk τ' H'
  | .rt w h' => ∀ ρ' H' v, Le Γ ρ ρ' H H' → Rel Γ ρ' h' H' → RelW Γ ρ' H' w v → D.rt v H'
  | .err x σ' h' => ∀ ρ' H' τ' cls d, Le Γ ρ ρ' H H' → Rel Γ ρ' h' H' → RelS Γ ρ' H' σ' τ' → ExnR Γ H' x cls d → W cls d τ' H'
  | .bad => False
def sI (Γ : Gam) (W : WX) (f : XS) : TS := fun D τ H => ∃ ρ σ h, Rel Γ ρ h H ∧ RelS Γ ρ H σ τ ∧ S1 Γ ρ H (f σ h) D W
def SS (Γ : Gam) (c : Cfg) (k : Nat) (st : Stmt) (f : XS) : Prop := ∀ W X, Good Γ c k W X → PS X st (sI Γ W f)
def SL (Γ : Gam) (c : Cfg) (k : Nat) (sts : List Stmt) (f : XS) : Prop := ∀ W X, Good Γ c k W X → PSs X sts (sI Γ W f)
theorem PS.imp {X : Cx} {st : Stmt} {t t' : TS} (h : PS X st t) (i : ∀ D σ H, t' D σ H → t D σ H) : PS X st t' := ⟨fun pins s σ H D I q => h.run pins s σ H D I (i _ _ _ q)⟩
theorem PSs.imp {X : Cx} {st : List Stmt} {t t' : TS} (h : PSs X st t) (i : ∀ D σ H, t' D σ H → t D σ H) : PSs X st t' := ⟨fun pins s σ H D I q => h.run pins s σ H D I (i _ _ _ q)⟩

def fuel : Nat := 1000000000
def sOf {α : Type} (o : Out α) (σ : Sg) (f : α → Hm → SOut) : SOut :=
  match o with
  | .ok a h => f a h
  | .err x h => .err x σ h
  | .bad => .bad
def sSkip : XS := fun σ h => .nx σ h
def sSeq (a b : XS) : XS := fun σ h => match a σ h with
  | .nx σ' h' => b σ' h'
  | o => o
def sSet (i : Nat) (e : XE) : XS := fun σ h => sOf (e σ h) σ fun w h1 => .nx (σ.set i (some w)) h1
def sRet (e : XE) : XS := fun σ h => sOf (e σ h) σ fun w h1 => .rt w h1
def sRetN : XS := fun _ h => .rt .non h
def sIf (t : XT) (a b : XS) : XS := fun σ h => sOf (t σ h) σ fun c h1 => if c then a σ h1 else b σ h1
def sExpr (e : XE) : XS := fun σ h => sOf (e σ h) σ fun _ h1 => .nx σ h1
def sBreak : XS := fun σ h => .bk σ h
def sCont : XS := fun σ h => .ct σ h
def sNever : XS := fun _ _ => .bad
def sOp (p : Pr) (f : W → Hm → SOut) : SOut := match p with
  | some (w, h) => f w h
  | none => .bad
def sAug (i : Nat) (g : W → W → Hm → Pr) (e : XE) : XS := fun σ h => match σ[i]? with
  | some (some x) => sOf (e σ h) σ fun y h1 => sOp (g x y h1) fun z h2 => .nx (σ.set i (some z)) h2
  | _ => .bad
/-- o[i] = e : the value first -/
def sSub (o i e : XE) (g : W → W → W → Hm → Option Hm) : XS := fun σ h => sOf (e σ h) σ fun v h1 => sOf (o σ h1) σ fun x h2 => sOf (i σ h2) σ fun y h3 => match g x y v h3 with
  | some h4 => .nx σ h4
  | none => .bad
/-- targets that touch slots alone -/
abbrev XG := W → Sg → Hm → Option Sg
abbrev XGs := List W → Sg → Hm → Option Sg
def gN (i : Nat) : XG := fun w σ _ => some (σ.set i (some w))
def gT (g : XGs) : XG := fun w σ h => match w with
  | .tup xs => g xs σ h
  | .ref r => match h[r]? with
    | some (.lst xs) => g xs σ h
    | _ => none
  | _ => none
def gsNil : XGs := fun ws σ _ => match ws with
  | [] => some σ
  | _ => none
def gsCons (g : XG) (r : XGs) : XGs := fun ws σ h => match ws with
  | w :: ws => match g w σ h with
    | some σ' => r ws σ' h
    | none => none
  | [] => none
def sAsg (g : XG) (e : XE) : XS := fun σ h => sOf (e σ h) σ fun w h1 => match g w σ h1 with
  | some σ' => .nx σ' h1
  | none => .bad
def sTurn (o : SOut) (next : Sg → Hm → SOut) : SOut := match o with
  | .nx σ h => next σ h
  | .ct σ h => next σ h
  | .bk σ h => .nx σ h
  | o => o
def sWhile (t : XT) (b : XS) : Nat → XS
  | 0 => fun _ _ => .bad
  | n + 1 => fun σ h => sOf (t σ h) σ fun c h1 => if c then sTurn (b σ h1) (sWhile t b n) else .nx σ h1
abbrev Itr := Nat → Hm → Option (Option W)
abbrev XI := Sg → Hm → Out Itr
def sForL (it : Itr) (g : XG) (b : XS) : Nat → Nat → XS
  | 0, _ => fun _ _ => .bad
  | n + 1, i => fun σ h => match it i h with
    | none => .bad
    | some none => .nx σ h
    | some (some w) => match g w σ h with
      | none => .bad
      | some σ1 => sTurn (b σ1 h) (sForL it g b n (i + 1))
def sFor (fi : XI) (g : XG) (b : XS) : XS := fun σ h => sOf (fi σ h) σ fun it h1 => sForL it g b fuel 0 σ h1

section
variable {Γ : Gam} {ρ ρ' : List Addr} {H H' : Hp} {α β : Type} {R : List Addr → Hp → α → β → Prop}
theorem S1.mono {o : SOut} {D : Ends} {W : WX} (l : Le Γ ρ ρ' H H') (x : S1 Γ ρ H o D W) : S1 Γ ρ' H' o D W := by
  cases o with
  | nx σ h => exact fun ρ2 H2 b l2 r q => x ρ2 H2 b (l.trans l2) r q
  | ct σ h => exact fun ρ2 H2 b l2 r q => x ρ2 H2 b (l.trans l2) r q
  | bk σ h => exact fun ρ2 H2 b l2 r q => x ρ2 H2 b (l.trans l2) r q
  | rt σ h => exact fun ρ2 H2 b l2 r q => x ρ2 H2 b (l.trans l2) r q
  | err a σ h => exact fun ρ2 H2 t c d l2 r s q => x ρ2 H2 t c d (l.trans l2) r s q
  | bad => exact x
theorem S1.of {o : Out α} {f : α → Hm → SOut} {σ : Sg} {τ : L2.St} {D : Ends} {W : WX} (S : RelS Γ ρ H σ τ) (x : S1 Γ ρ H (sOf o σ f) D W) :
    O1 Γ R ρ H o (fun v H1 => ∃ ρ1 h1 a, Le Γ ρ ρ1 H H1 ∧ Rel Γ ρ1 h1 H1 ∧ R ρ1 H1 a v ∧ S1 Γ ρ1 H1 (f a h1) D W) (fun cls d H' => W cls d τ H') := by
  cases o with
  | ok a h => exact fun ρ2 H2 b l2 r q => ⟨ρ2, h, a, l2, r, q, S1.mono l2 x⟩
  | err a h => exact fun ρ2 H2 c d l2 r q => x ρ2 H2 τ c d l2 r (S.mono l2) q
  | bad => exact x
theorem S1.op {p : Pr} {f : W → Hm → SOut} {D : Ends} {W : WX} (x : S1 Γ ρ H (sOp p f) D W) : ∃ w h, p = some (w, h) ∧ S1 Γ ρ H (f w h) D W := by
  cases p with
  | none => exact x.elim
  | some y => exact ⟨y.1, y.2, rfl, x⟩
end

section
variable {Γ : Gam} {c : Cfg} {k : Nat} {a b e d o i : Expr} {es : List Expr} {fa fb fc : XE} {ft fu : XT} {st : Stmt} {sts body : List Stmt} {f g : XS} {pos p : Pos}
theorem sl_nil : SL Γ c k [] sSkip := by
  intro W X G
  refine PSs.imp pss_nil fun D τ H h => ?_
  obtain ⟨ρ, σ, h, R, S, q⟩ := h
  exact q ρ H τ .refl R S
theorem sl_cons (h1 : SS Γ c k st f) (h2 : SL Γ c k sts g) : SL Γ c k (st :: sts) (sSeq f g) := by
  intro W X G
  refine PSs.imp (pss_cons (h1 W X G) (h2 W X G)) fun D τ H h => ?_
  obtain ⟨ρ, σ, h, R, S, q⟩ := h
  refine ⟨ρ, σ, h, R, S, ?_⟩
  unfold sSeq at q
  cases e : f σ h with
  | nx σ' h' =>
    rw [e] at q
    exact fun ρ' H' τ' l R' S' => ⟨ρ', σ', h', R', S', S1.mono l q⟩
  | _ => rw [e] at q; exact q
theorem sl_one (h1 : SS Γ c k st f) : SL Γ c k [st] f := fun W X G => pss_one (h1 W X G)
theorem ss_pass : SS Γ c k (.Pass pos) sSkip := by
  intro W X G
  refine PS.imp ps_pass fun D τ H h => ?_
  obtain ⟨ρ, σ, h, R, S, q⟩ := h
  exact q ρ H τ .refl R S
theorem ss_break : SS Γ c k (.Break pos) sBreak := by
  intro W X G
  refine PS.imp ps_break fun D τ H h => ?_
  obtain ⟨ρ, σ, h, R, S, q⟩ := h
  exact q ρ H τ .refl R S
theorem ss_cont : SS Γ c k (.Continue pos) sCont := by
  intro W X G
  refine PS.imp ps_continue fun D τ H h => ?_
  obtain ⟨ρ, σ, h, R, S, q⟩ := h
  exact q ρ H τ .refl R S
theorem ss_never : SS Γ c k st sNever := by
  intro W X G
  refine PS.imp ps_never fun D τ H h => ?_
  obtain ⟨ρ, σ, h, R, S, q⟩ := h
  exact q
theorem ss_expr (he : SE Γ c k e fa) (hs : ∀ env, swapsWith e none pos.line env = pure false := by intros; rfl) : SS Γ c k (.Expr e pos) (sExpr fa) := by
  intro W X G
  refine PS.imp (ps_expr (he W X G) (hs X.env)) fun D τ H h => ?_
  obtain ⟨ρ, σ, h, R, S, q⟩ := h
  refine ⟨ρ, σ, h, R, S, (S1.of (R := RelW Γ) S q).imp fun x H1 ⟨ρ1, h1, u, l1, R1, r1, q1⟩ => ?_⟩
  exact q1 ρ1 H1 τ .refl R1 (S.mono l1)
theorem ss_ret (he : SE Γ c k e fa) : SS Γ c k (.Return (some e) pos) (sRet fa) := by
  intro W X G
  refine PS.imp (ps_ret (he W X G)) fun D τ H h => ?_
  obtain ⟨ρ, σ, h, R, S, q⟩ := h
  refine ⟨ρ, σ, h, R, S, (S1.of (R := RelW Γ) S q).imp fun x H1 ⟨ρ1, h1, u, l1, R1, r1, q1⟩ => ?_⟩
  exact q1 ρ1 H1 x .refl R1 r1
theorem ss_retN : SS Γ c k (.Return none pos) sRetN := by
  intro W X G
  refine PS.imp ps_retN fun D τ H h => ?_
  obtain ⟨ρ, σ, h, R, S, q⟩ := h
  exact q ρ H .non .refl R (by simp [RelW])
theorem ss_if (hc : ST Γ c k e ft) (ha : SL Γ c k sts f) (hb : SL Γ c k body g) : SS Γ c k (.If e sts body pos) (sIf ft f g) := by
  intro W X G
  refine PS.imp (ps_if (hc W X G) (ha W X G) (hb W X G)) fun D τ H h => ?_
  obtain ⟨ρ, σ, h, R, S, q⟩ := h
  refine ⟨ρ, σ, h, R, S, (S1.of (R := RB) S q).imp fun x H1 ⟨ρ1, h1, u, l1, R1, r1, q1⟩ => ?_⟩
  have r1 : u = x := r1
  subst r1
  cases u with
  | true => exact iteT ⟨ρ1, σ, h1, R1, S.mono l1, q1⟩
  | false => exact iteF ⟨ρ1, σ, h1, R1, S.mono l1, q1⟩
theorem Good.loc {W : WX} {X : Cx} (G : Good Γ c k W X) {x : Str} (h : x ∈ c.L) : Loc X.env.scope x ∧ (X.fn x = true ∨ X.env.scope.names.lookup x = some .local) := by
  rw [G.sc]
  rcases G.ok.loc x h with e | ⟨e, q⟩
  · exact ⟨.inl e, .inr e⟩
  · exact ⟨.inr q, .inl (G.fn e x)⟩
theorem ss_set (i j : Nat) {x : Str} {pos' : Pos} (he : SE Γ c k e fa) (hN : c.N[i]? = some x := by rfl) (hL : c.L[j]? = some x := by rfl) (hs : ∀ env, swapsWith e (some (.Name x pos')) pos.line env = pure false := by intros; rfl) :
    SS Γ c k (.Assign [.Name x pos'] e pos) (sSet i fa) := by
  intro W X G
  obtain ⟨h1, h2⟩ := G.loc (List.mem_of_getElem? hL)
  refine PS.imp (ps_set (i := i) G.nd (by rw [G.N]; exact hN) h1 (he W X G) (hs X.env) h2) fun D τ H h => ?_
  obtain ⟨ρ, σ, h, R, S, q⟩ := h
  refine ⟨ρ, σ, h, R, S, (S1.of (R := RelW Γ) S q).imp fun x H1 ⟨ρ1, h1, u, l1, R1, r1, q1⟩ => ?_⟩
  exact q1 ρ1 H1 _ .refl R1 ((S.mono l1).set r1)
/-- a op= b on values -/
def IpS (Γ : Gam) (c : Cfg) (k : Nat) (op : Operator) (g : W → W → Hm → Pr) : Prop := ∀ W X, Good Γ c k W X → PIp X op (r2 Γ g)
theorem ss_aug (i j : Nat) {x : Str} {op : Operator} {g : W → W → Hm → Pr} {pos' : Pos} (ho : IpS Γ c k op g) (he : SE Γ c k e fa) (hN : c.N[i]? = some x := by rfl) (hL : c.L[j]? = some x := by rfl) :
    SS Γ c k (.AugAssign (.Name x pos') op e pos) (sAug i g fa) := by
  intro W X G
  obtain ⟨h1, h2⟩ := G.loc (List.mem_of_getElem? hL)
  refine PS.imp (ps_aug (i := i) G.nd (by rw [G.N]; exact hN) h1 (he W X G) (ho W X G) h2) fun D τ H h => ?_
  obtain ⟨ρ, σ, h, R, S, q⟩ := h
  unfold sAug at q
  split at q
  · rename_i w ew
    obtain ⟨v, ev, rv⟩ := S.2 i w ew
    refine ⟨v, ev, ρ, σ, h, R, S, (S1.of (R := RelW Γ) S q).imp fun y H1 ⟨ρ1, h1, u, l1, R1, r1, q1⟩ => ?_⟩
    obtain ⟨z, h2, e2, q2⟩ := q1.op
    refine ⟨ρ1, h1, w, u, z, h2, R1, RelW.mono l1 _ _ rv, r1, e2, fun ρ3 H3 v3 l3 R3 r3 => ?_⟩
    exact q2 ρ3 H3 _ l3 R3 (((S.mono l1).mono l3).set r3)
  · exact q.elim
/-- o[i] = v on values -/
def rS (Γ : Gam) (g : W → W → W → Hm → Option Hm) : TSet := fun x y v H Q => ∃ ρ h u w z h', Rel Γ ρ h H ∧ RelW Γ ρ H u x ∧ RelW Γ ρ H w y ∧ RelW Γ ρ H z v ∧ g u w z h = some h' ∧ ∀ ρ' H', Le Γ ρ ρ' H H' → Rel Γ ρ' h' H' → Q H'
def StS (Γ : Gam) (c : Cfg) (k : Nat) (g : W → W → W → Hm → Option Hm) : Prop := ∀ W X, Good Γ c k W X → PSet X (rS Γ g)
theorem ss_sub {g : W → W → W → Hm → Option Hm} {pos' : Pos} (hg : StS Γ c k g) (ho : SE Γ c k o fa) (hi : SE Γ c k i fb) (he : SE Γ c k e fc)
    (ha : ∀ env v, assign (.Subscript o i pos') env v = (do
      let ov ← holding [v] (eval o env)
      let iv ← holding [v, ov] (eval i env)
      standAt pos'
      holding [v, ov, iv] (setItem ov iv v)
      release [v, ov, iv] []) := by intros; rfl)
    (hs : ∀ env, swapsWithSole [.Subscript o i pos'] e pos.line env = pure false := by intros; rfl) (hw : ∀ env, swappedStores [.Subscript o i pos'] e env = pure none := by intros; rfl) :
    SS Γ c k (.Assign [.Subscript o i pos'] e pos) (sSub fa fb fc g) := by
  intro W X G
  refine PS.imp (ps_asg (he W X G) (pg_sub (ho W X G) (hi W X G) (hg W X G) (ha X.env)) (hs X.env) (hw X.env)) fun D τ H h => ?_
  obtain ⟨ρ, σ, h, R, S, q⟩ := h
  refine ⟨ρ, σ, h, R, S, (S1.of (R := RelW Γ) S q).imp fun v H1 ⟨ρ1, h1, u, l1, R1, r1, q1⟩ => ?_⟩
  refine ⟨ρ1, σ, h1, R1, S.mono l1, (S1.of (R := RelW Γ) (S.mono l1) q1).imp fun x H2 ⟨ρ2, h2, u2, l2, R2, r2, q2⟩ => ?_⟩
  refine ⟨ρ2, σ, h2, R2, (S.mono l1).mono l2, (S1.of (R := RelW Γ) ((S.mono l1).mono l2) q2).imp fun y H3 ⟨ρ3, h3, u3, l3, R3, r3, q3⟩ => ?_⟩
  split at q3
  · rename_i h4 e4
    refine ⟨ρ3, h3, u2, u3, u, h4, R3, RelW.mono l3 _ _ r2, r3, RelW.mono (l2.trans l3) _ _ r1, e4, fun ρ4 H4 l4 R4 => ?_⟩
    exact q3 ρ4 H4 τ l4 R4 (((S.mono l1).mono l2).mono (l3.trans l4))
  · exact q3.elim

/-! ### targets -/
def gI (Γ : Gam) (g : XG) : TG := fun v τ H Q => ∃ ρ σ h w σ', Rel Γ ρ h H ∧ RelS Γ ρ H σ τ ∧ RelW Γ ρ H w v ∧ g w σ h = some σ' ∧ ∀ τ', RelS Γ ρ H σ' τ' → Q τ' H
def gIs (Γ : Gam) (g : XGs) : TGs := fun v τ H Q => ∃ ρ σ h w σ', Rel Γ ρ h H ∧ RelS Γ ρ H σ τ ∧ RelWs Γ ρ H w v ∧ g w σ h = some σ' ∧ ∀ τ', RelS Γ ρ H σ' τ' → Q τ' H
def SG (Γ : Gam) (c : Cfg) (k : Nat) (e : Expr) (g : XG) : Prop := ∀ W X, Good Γ c k W X → PG X e (gI Γ g)
def SGs (Γ : Gam) (c : Cfg) (k : Nat) (es : List Expr) (g : XGs) : Prop := ∀ W X, Good Γ c k W X → PGs X es (gIs Γ g)
theorem sg_name (i j : Nat) {x : Str} (hN : c.N[i]? = some x := by rfl) (hL : c.L[j]? = some x := by rfl) : SG Γ c k (.Name x pos) (gN i) := by
  intro W X G
  obtain ⟨h1, h2⟩ := G.loc (List.mem_of_getElem? hL)
  refine ⟨fun pins s τ H v u Q I r h => (pg_name (i := i) G.nd (by rw [G.N]; exact hN) h1 h2).run pins s τ H v u Q I r ?_⟩
  obtain ⟨ρ, σ, h, w, σ', R, S, rw', e, q⟩ := h
  cases e
  exact q _ (S.set rw')
theorem sgs_nil : SGs Γ c k [] gsNil := by
  intro W X G
  refine ⟨fun pins s τ H v u Q I r h => pgs_nil.run pins s τ H v u Q I r ?_⟩
  obtain ⟨ρ, σ, h, w, σ', R, S, rw', e, q⟩ := h
  cases w with
  | nil =>
    cases e
    unfold RelWs at rw'
    exact ⟨rw', q _ S⟩
  | cons _ _ => cases e
theorem sgs_cons {g : XG} {r : XGs} (h1 : SG Γ c k e g) (h2 : SGs Γ c k es r) (hs : ∀ env, (assignEach (e :: es) env).map (·.2) = assign e env :: (assignEach es env).map (·.2) := by intros; rfl) : SGs Γ c k (e :: es) (gsCons g r) := by
  intro W X G
  refine ⟨fun pins s τ H v u Q I r h => (pgs_cons (h1 W X G) (h2 W X G) (hs X.env)).run pins s τ H v u Q I r ?_⟩
  obtain ⟨ρ, σ, h, w, σ', R, S, rw', e, q⟩ := h
  cases w with
  | nil => cases e
  | cons w ws =>
    unfold RelWs at rw'
    obtain ⟨y, r', e', q1, q2⟩ := rw'
    unfold gsCons at e
    dsimp only at e
    split at e
    · rename_i σ1 e1
      exact ⟨y, r', e', ρ, σ, h, w, σ1, R, S, q1, e1, fun τ1 S1 => ⟨ρ, σ1, h, ws, σ', R, S1, q2, e, q⟩⟩
    · cases e
theorem gsLen {g : XGs} : True := trivial
theorem sg_tup {n : Nat} {kk : Nat} {g : XGs} (h : SGs Γ c k es g) (hg : ∀ ws σ h, (g ws σ h).isSome = true → ws.length = n) (hc : c.calm = true := by rfl)
    (hn : ∀ env, (assignEach es env).length = n := by intros; rfl) (hst : ∀ env, (assignEach es env).findIdx? (·.1) = none := by intros; rfl) : SG Γ c k (.Tuple es kk pos) (gT g) := by
  intro W X G
  have hC : X.calm = true := G.calm.trans hc
  refine ⟨fun pins s τ H v u Q I r hh => ?_⟩
  obtain ⟨ρ, σ, hm, w, σ', R, S, rw', e, q⟩ := hh
  cases w with
  | tup xs =>
    unfold RelW at rw'
    obtain ⟨a, ys, ev, ht, rr⟩ := rw'
    have e : g xs σ hm = some σ' := e
    refine (pg_tup (n := n) hC (h W X G) (hn X.env) (hst X.env)).run pins s τ H v u Q I r ⟨a, ys, ev, by rw [G.K]; exact ht, ?_, ρ, σ, hm, xs, σ', R, S, rr, e, q⟩
    rw [← rr.length]
    exact hg xs σ hm (by rw [e]; rfl)
  | ref r0 =>
    unfold RelW at rw'
    obtain ⟨a, ea, ev⟩ := rw'
    unfold gT at e
    dsimp only at e
    split at e
    · rename_i xs ex
      obtain ⟨a', ea', ys, hy, rr⟩ := R.obj r0 _ ex
      rw [ea] at ea'
      cases ea'
      refine (pg_lst (n := n) hC (h W X G) (hn X.env) (hst X.env)).run pins s τ H v u Q I r ⟨a, ys, ev, SqL.of hy, ?_, ρ, σ, hm, xs, σ', R, S, rr, e, q⟩
      rw [← rr.length]
      exact hg xs σ hm (by rw [e]; rfl)
    · cases e
  | _ => cases e
theorem gs_len0 : ∀ ws σ h, (gsNil ws σ h).isSome = true → ws.length = 0 := fun ws σ h e => by
  cases ws with
  | nil => rfl
  | cons _ _ => cases e
theorem gs_lenS {g : XG} {r : XGs} {n : Nat} (h : ∀ ws σ h, (r ws σ h).isSome = true → ws.length = n) : ∀ ws σ h, (gsCons g r ws σ h).isSome = true → ws.length = n + 1 := fun ws σ hm e => by
  cases ws with
  | nil => cases e
  | cons w ws =>
    unfold gsCons at e
    dsimp only at e
    split at e
    · rw [List.length_cons, h _ _ _ e]
    · cases e
theorem ss_asg {t : Expr} {g : XG} (he : SE Γ c k e fa) (hg : SG Γ c k t g) (hs : ∀ env, swapsWithSole [t] e pos.line env = pure false := by intros; rfl) (hw : ∀ env, swappedStores [t] e env = pure none := by intros; rfl)
    (h1 : ∀ env, (assignEach [t] env).map (·.2) = [assign t env] := by intros; rfl) : SS Γ c k (.Assign [t] e pos) (sAsg g fa) := by
  intro W X G
  refine PS.imp (ps_asg (he W X G) (hg W X G) (hs X.env) (hw X.env) (h1 X.env)) fun D τ H h => ?_
  obtain ⟨ρ, σ, h, R, S, q⟩ := h
  refine ⟨ρ, σ, h, R, S, (S1.of (R := RelW Γ) S q).imp fun v H1 ⟨ρ1, h1, u, l1, R1, r1, q1⟩ => ?_⟩
  split at q1
  · rename_i σ2 e2
    exact ⟨ρ1, σ, h1, u, σ2, R1, S.mono l1, r1, e2, fun τ' S' => q1 ρ1 H1 τ' .refl R1 S'⟩
  · exact q1.elim

/-! ### loops -/
theorem S1.turn {ρ : List Addr} {H : Hp} {o : SOut} {next : Sg → Hm → SOut} {D : Ends} {W : WX} {N : L2.St → Hp → Prop} (x : S1 Γ ρ H (sTurn o next) D W)
    (hN : ∀ ρ' H' τ' σ' h', Rel Γ ρ' h' H' → RelS Γ ρ' H' σ' τ' → S1 Γ ρ' H' (next σ' h') D W → N τ' H') : S1 Γ ρ H o { D with nx := N, ct := N, bk := D.nx } W := by
  cases o with
  | nx σ h => exact fun ρ' H' τ' l R S => hN ρ' H' τ' σ h R S (S1.mono l x)
  | ct σ h => exact fun ρ' H' τ' l R S => hN ρ' H' τ' σ h R S (S1.mono l x)
  | _ => exact x
theorem ss_while {n : Nat} (hc : ST Γ c k e ft) (hb : SL Γ c k body f) : SS Γ c k (.While e body [] pos) (sWhile ft f n) := by
  intro W X G
  refine PS.imp (ps_while G.pass (hc W X G) (hb W X G)) fun D τ H h => ?_
  obtain ⟨ρ, σ, h, R, S, q⟩ := h
  refine ⟨fun m τ H => ∃ ρ σ h, Rel Γ ρ h H ∧ RelS Γ ρ H σ τ ∧ S1 Γ ρ H (sWhile ft f m σ h) D W, ⟨n, ρ, σ, h, R, S, q⟩, ?_⟩
  rintro m τ H ⟨ρ, σ, h, R, S, q⟩
  cases m with
  | zero => exact q.elim
  | succ m =>
    refine ⟨ρ, σ, h, R, S, (S1.of (R := RB) S q).imp fun x H1 ⟨ρ1, h1, u, l1, R1, r1, q1⟩ => ?_⟩
    have r1 : u = x := r1
    subst r1
    cases u with
    | true =>
      refine iteT ⟨fun τ H => ∃ ρ σ h, Rel Γ ρ h H ∧ RelS Γ ρ H σ τ ∧ S1 Γ ρ H (sWhile ft f m σ h) D W, fun τ' H' hh => ⟨m, Nat.lt_succ_self _, hh⟩, ρ1, σ, h1, R1, S.mono l1, ?_⟩
      exact S1.turn q1 fun ρ' H' τ' σ' h' R' S' x => ⟨ρ', σ', h', R', S', x⟩
    | false => exact iteF (q1 ρ1 H1 τ .refl R1 (S.mono l1))
/-- an iterator of ours and one of the layer -/
def ItR (Γ : Gam) (ρ0 : List Addr) (H0 : Hp) (it : Itr) (J : It) : Prop :=
  ∀ (i : Nat) (ρ : List Addr) (h : Hm) (H : Hp), Le Γ ρ0 ρ H0 H → Rel Γ ρ h H →
    (it i h = some none → J.stop i H) ∧ ∀ w, it i h = some (some w) → J.go i H ∧ ∀ x H', J.yld i H x H' → Le Γ ρ ρ H H' ∧ Rel Γ ρ h H' ∧ RelW Γ ρ H' w x
def iI (Γ : Gam) (W : WX) (f : XI) : TI := fun τ H Q => ∃ ρ σ h, Rel Γ ρ h H ∧ RelS Γ ρ H σ τ ∧ O1 Γ (ItR Γ) ρ H (f σ h) Q (fun cls d H' => W cls d τ H')
def SI (Γ : Gam) (c : Cfg) (k : Nat) (tg e : Expr) (f : XI) : Prop := ∀ W X, Good Γ c k W X → PI X tg e (iI Γ W f)
theorem PI.imp {X : Cx} {tg e : Expr} {t t' : TI} (h : PI X tg e t) (i : ∀ σ H Q, t' σ H Q → t σ H Q) : PI X tg e t' := ⟨fun pins s σ H Q I q => h.run pins s σ H Q I (i _ _ _ q)⟩
theorem ss_for {t : Expr} {fi : XI} {gg : XG} (hi : SI Γ c k t e fi) (hg : SG Γ c k t gg) (hb : SL Γ c k body f) (hs : ∀ env x, foldedSetIterable e env x = pure x := by intros; rfl) (hc : c.calm = true := by rfl) :
    SS Γ c k (.For t e body [] pos) (sFor fi gg f) := by
  intro W X G
  refine PS.imp (ps_for G.pass (G.calm.trans hc) (hi W X G) (hg W X G) (hb W X G) (hs X.env)) fun D τ H h => ?_
  obtain ⟨ρ, σ, h, R, S, q⟩ := h
  refine ⟨ρ, σ, h, R, S, (S1.of (R := ItR Γ) S q).imp fun J H1 ⟨ρ1, h1, it, l1, R1, r1, q1⟩ => ?_⟩
  refine ⟨fun i m τ H => ∃ ρ σ h, Le Γ ρ1 ρ H1 H ∧ Rel Γ ρ h H ∧ RelS Γ ρ H σ τ ∧ S1 Γ ρ H (sForL it gg f m i σ h) D W, ⟨fuel, ρ1, σ, h1, .refl, R1, S.mono l1, q1⟩, ?_⟩
  rintro i m τ H ⟨ρ, σ, h, l, R, S, q⟩
  cases m with
  | zero => exact q.elim
  | succ m =>
    obtain ⟨s1, s2⟩ := r1 i ρ h H l R
    unfold sForL at q
    split at q
    · exact q.elim
    · rename_i e1
      exact .inl ⟨s1 e1, q ρ H τ .refl R S⟩
    · rename_i w e1
      obtain ⟨go, yl⟩ := s2 w e1
      split at q
      · exact q.elim
      · rename_i σ1 e2
        refine .inr ⟨go, fun τ H => ∃ ρ σ h, Le Γ ρ1 ρ H1 H ∧ Rel Γ ρ h H ∧ RelS Γ ρ H σ τ ∧ S1 Γ ρ H (sForL it gg f m (i + 1) σ h) D W, fun τ' H' hh => ⟨m, Nat.lt_succ_self _, hh⟩, fun x H' y => ?_⟩
        obtain ⟨l2, R2, rw'⟩ := yl x H' y
        refine ⟨ρ, σ, h, w, σ1, R2, S.mono l2, rw', e2, fun τ' S' => ?_⟩
        refine ⟨ρ, σ1, h, R2, S', ?_⟩
        have q := S1.mono l2 q
        -- the turn, with the iterator's base kept
        have key : S1 Γ ρ H' (f σ1 h) { D with nx := fun τ H => ∃ ρ σ h, Le Γ ρ1 ρ H1 H ∧ Rel Γ ρ h H ∧ RelS Γ ρ H σ τ ∧ S1 Γ ρ H (sForL it gg f m (i + 1) σ h) D W, ct := fun τ H => ∃ ρ σ h, Le Γ ρ1 ρ H1 H ∧ Rel Γ ρ h H ∧ RelS Γ ρ H σ τ ∧ S1 Γ ρ H (sForL it gg f m (i + 1) σ h) D W, bk := D.nx } W := by
          cases e3 : f σ1 h with
          | nx σ' h' =>
            rw [e3] at q
            exact fun ρ' H2 τ' l3 R3 S3 => ⟨ρ', σ', h', (l.trans l2).trans l3, R3, S3, S1.mono l3 q⟩
          | ct σ' h' =>
            rw [e3] at q
            exact fun ρ' H2 τ' l3 R3 S3 => ⟨ρ', σ', h', (l.trans l2).trans l3, R3, S3, S1.mono l3 q⟩
          | _ => rw [e3] at q; exact q
        exact key
end
end Z

namespace Z
open PySem PySem.Spec PyProof.Rows L2

/-! ### what values are as data -/
def den (h : Hm) : Nat → W → Option PyData
  | _, .non => some .none
  | _, .bl b => some (.bool b)
  | _, .int i => some (.int i)
  | _, .str x => some (.str x)
  | n + 1, .tup xs => (xs.mapM (den h n)).map .tuple
  | n + 1, .ref r => match h[r]? with
    | some (.lst xs) => (xs.mapM (den h n)).map .list
    | some (.frz xs) => (xs.mapM (den h n)).map .list
    | _ => none
  | _, _ => none
def scalW : W → W → Bool
  | .non, .non => true | .non, .int _ => true | .int _, .non => true | .non, .bl _ => true | .bl _, .non => true | .non, .str _ => true | .str _, .non => true
  | .int _, .int _ => true | .bl _, .bl _ => true | .str _, .str _ => true
  | .int _, .str _ => true | .str _, .int _ => true | .bl _, .str _ => true | .str _, .bl _ => true
  | _, _ => false
def scalEq : W → W → Bool
  | .non, .non => true
  | .int i, .int j => decide (i = j)
  | .bl i, .bl j => decide (i = j)
  | .str i, .str j => decide (i = j)
  | _, _ => false
def eqB (a b : W) (h : Hm) : Option Bool :=
  if scalW a b then some (scalEq a b) else
    match den h 12 a, den h 12 b with
    | some d, some e => if SeqAt.shaped d && SeqAt.shaped e then some (PyData.eqv d e) else none
    | _, _ => none
def eqW (a b : W) (h : Hm) : Pr := (eqB a b h).map fun b => (.bl b, h)
def neW (a b : W) (h : Hm) : Pr := (eqB a b h).map fun b => (.bl !b, h)
def mulOk (i j : Int) : Bool := decide (-(2 ^ 64) < i ∧ i < 2 ^ 64) || decide (-(2 ^ 64) < j ∧ j < 2 ^ 64) || decide ((Builtin.Int.intBits i : Int) + (Builtin.Int.intBits j : Int) ≤ 134217728)
def addW : W → W → Hm → Pr
  | .int i, .int j, h => some (.int (i + j), h)
  | .str x, .str y, h => if x.length + y.length ≤ 16777216 then some (.str (x ++ y), h) else none
  | .ref a, .ref b, h => match h[a]?, h[b]? with
    | some (.lst xs), some (.lst ys) => if xs.length + ys.length ≤ 16777216 then some (.ref h.length, h ++ [.lst (xs ++ ys)]) else none
    | _, _ => none
  | .tup xs, .tup ys, h => if xs.length + ys.length ≤ 16777216 then some (.tup (xs ++ ys), h) else none
  | _, _, _ => none
def subW : W → W → Hm → Pr
  | .int i, .int j, h => some (.int (i - j), h)
  | _, _, _ => none
def mulW : W → W → Hm → Pr
  | .int i, .int j, h => if mulOk i j then some (.int (i * j), h) else none
  | .ref a, .int k, h => match h[a]? with
    | some (.lst xs) => if -(2 ^ 63) ≤ k ∧ k < 2 ^ 63 ∧ xs.length * k.toNat ≤ 16777216 then some (.ref h.length, h ++ [.lst (List.replicate k.toNat xs).flatten]) else none
    | _ => none
  | .str x, .int k, h => if -(2 ^ 63) ≤ k ∧ k ≤ 16777216 ∧ x.length * k.toNat ≤ 16777216 then some (.str (Txt.mul x k), h) else none
  | _, _, _ => none
def fdivW : W → W → Hm → Pr
  | .int i, .int j, h => if 0 < j ∧ j.natAbs.log2 < 9000 then some (.int (i / j), h) else none
  | _, _, _ => none
def modW : W → W → Hm → Pr
  | .int i, .int j, h => if 0 < j then some (.int (i % j), h) else none
  | _, _, _ => none
def powW : W → W → Hm → Pr
  | .int i, .int j, h => if 0 ≤ j ∧ j ≤ 1000000 ∧ i.natAbs < 2 ^ 64 then some (.int (i ^ j.toNat), h) else none
  | _, _, _ => none
def shlW : W → W → Hm → Pr
  | .int i, .int j, h => if 0 ≤ j ∧ (Builtin.Int.intBits i : Int) + j ≤ 2 ^ 27 then some (.int (i * 2 ^ j.toNat), h) else none
  | _, _, _ => none
def shrW : W → W → Hm → Pr
  | .int i, .int j, h => if 0 ≤ j then some (.int (i / 2 ^ j.toNat), h) else none
  | _, _, _ => none
def andW : W → W → Hm → Pr
  | .int i, .int j, h => some (.int (Builtin.bitAnd i j), h)
  | _, _, _ => none
def orW : W → W → Hm → Pr
  | .int i, .int j, h => some (.int (Builtin.bitOr i j), h)
  | _, _, _ => none
def xorW : W → W → Hm → Pr
  | .int i, .int j, h => some (.int (Builtin.bitXor i j), h)
  | _, _, _ => none
def negW : W → Hm → Pr
  | .int i, h => some (.int (-i), h)
  | _, _ => none
def ltW : W → W → Hm → Pr
  | .int i, .int j, h => some (.bl (decide (i < j)), h)
  | .str x, .str y, h => some (.bl (decide (x.cps.toList < y.cps.toList)), h)
  | _, _, _ => none
def leW : W → W → Hm → Pr
  | .int i, .int j, h => some (.bl (decide (i ≤ j)), h)
  | .str x, .str y, h => some (.bl (!decide (y.cps.toList < x.cps.toList)), h)
  | _, _, _ => none
def gtW : W → W → Hm → Pr
  | .int i, .int j, h => some (.bl (decide (j < i)), h)
  | .str x, .str y, h => some (.bl (decide (y.cps.toList < x.cps.toList)), h)
  | _, _, _ => none
def geW : W → W → Hm → Pr
  | .int i, .int j, h => some (.bl (decide (j ≤ i)), h)
  | .str x, .str y, h => some (.bl (!decide (x.cps.toList < y.cps.toList)), h)
  | _, _, _ => none
def isNonW : W → Bool
  | .non => true
  | _ => false
def isW : W → W → Hm → Pr
  | x, .non, h => some (.bl (isNonW x), h)
  | .bl a, .bl b, h => some (.bl (decide (a = b)), h)
  | _, _, _ => none
def isnW : W → W → Hm → Pr
  | x, .non, h => some (.bl (!isNonW x), h)
  | .bl a, .bl b, h => some (.bl (!decide (a = b)), h)
  | _, _, _ => none
def flatW : W → Bool
  | .non => true
  | .bl _ => true
  | .int _ => true
  | .str _ => true
  | _ => false
def toV : W → V
  | .non => .non
  | .bl b => .bl b
  | .int i => .int i
  | .str x => .str x
  | _ => .non
def inB (x : W) (xs : List W) : Option Bool := if flatW x && xs.all flatW then some (inV (toV x) (xs.map toV)) else none
/-- in: a list or tuple of flat items, a text in a text -/
def inC (x y : W) (h : Hm) : Option Bool := match y with
  | .tup xs => inB x xs
  | .ref r => match h[r]? with
    | some (.lst xs) => inB x xs
    | some (.frz xs) => inB x xs
    | _ => none
  | .str z => match x with
    | .str i => some (!(Builtin.Str.occurrences z i 0 z.length 1).isEmpty)
    | _ => none
  | _ => none
def inW (x y : W) (h : Hm) : Pr := (inC x y h).map fun b => (.bl b, h)
def ninW (x y : W) (h : Hm) : Pr := (inC x y h).map fun b => (.bl !b, h)

section
variable {Γ : Gam} {c : Cfg} {k : Nat} {ρ : List Addr} {H : Hp}
theorem rwI {i : Int} {v : V} (r : RelW Γ ρ H (.int i) v) : v = .int i := by unfold RelW at r; exact r
theorem rwS {i : Str} {v : V} (r : RelW Γ ρ H (.str i) v) : v = .str i := by unfold RelW at r; exact r
theorem rwB {i : Bool} {v : V} (r : RelW Γ ρ H (.bl i) v) : v = .bl i := by unfold RelW at r; exact r
theorem rwN {v : V} (r : RelW Γ ρ H .non v) : v = .non := by unfold RelW at r; exact r
theorem rwR {i : Nat} {v : V} (r : RelW Γ ρ H (.ref i) v) : ∃ a, ρ[i]? = some a ∧ v = .ref a := by unfold RelW at r; exact r
theorem rwT {xs : List W} {v : V} (r : RelW Γ ρ H (.tup xs) v) : ∃ a ys, v = .ref a ∧ SqT Γ.K H a ys ∧ RelWs Γ ρ H xs ys := by unfold RelW at r; exact r
theorem iI' {i : Int} : RelW Γ ρ H (.int i) (.int i) := by unfold RelW; rfl
theorem iS {i : Str} : RelW Γ ρ H (.str i) (.str i) := by unfold RelW; rfl
theorem iB {i : Bool} : RelW Γ ρ H (.bl i) (.bl i) := by unfold RelW; rfl
theorem iN : RelW Γ ρ H .non .non := by unfold RelW; rfl
theorem iR {i : Nat} {a : Addr} (e : ρ[i]? = some a) : RelW Γ ρ H (.ref i) (.ref a) := by unfold RelW; exact ⟨a, e, rfl⟩
theorem iT {xs : List W} {a : Addr} {ys : List V} (h : SqT Γ.K H a ys) (r : RelWs Γ ρ H xs ys) : RelW Γ ρ H (.tup xs) (.ref a) := by unfold RelW; exact ⟨a, ys, rfl, h, r⟩
/-- a list of ours behind a value -/
theorem Rel.lst {h : Hm} {r : Nat} {xs : List W} {v : V} (R : Rel Γ ρ h H) (e : h[r]? = some (.lst xs)) (q : RelW Γ ρ H (.ref r) v) : ∃ a ys, v = .ref a ∧ ρ[r]? = some a ∧ H a = some (.lst ys) ∧ RelWs Γ ρ H xs ys := by
  obtain ⟨a, ea, rfl⟩ := rwR q
  obtain ⟨a', ea', ys, hy, rr⟩ := R.obj r _ e
  rw [ea] at ea'
  cases ea'
  exact ⟨a, ys, rfl, ea, hy, rr⟩
theorem Rel.frz {h : Hm} {r : Nat} {xs : List W} {v : V} (R : Rel Γ ρ h H) (e : h[r]? = some (.frz xs)) (q : RelW Γ ρ H (.ref r) v) : ∃ a ys, v = .ref a ∧ SqL Γ.K H a ys ∧ RelWs Γ ρ H xs ys := by
  obtain ⟨a, ea, rfl⟩ := rwR q
  obtain ⟨a', ea', ys, hy, rr⟩ := R.obj r _ e
  rw [ea] at ea'
  cases ea'
  exact ⟨a, ys, rfl, hy.sq, rr⟩
/-- a new list of ours -/
theorem Rel.newL {h : Hm} {p : Addr} {xs : List W} {ys : List V} (R : Rel Γ ρ h H) (n : H p = none) (r : RelWs Γ ρ H xs ys) :
    Le Γ ρ (ρ ++ [p]) H (upd H p (.lst ys)) ∧ Rel Γ (ρ ++ [p]) (h ++ [.lst xs]) (upd H p (.lst ys)) ∧ RelW Γ (ρ ++ [p]) (upd H p (.lst ys)) (.ref h.length) (.ref p) := by
  have l := Le.laid (Γ := Γ) (ρ := ρ) (o := .lst ys) n [p]
  exact ⟨l, R.alloc n ⟨ys, upd_same, RelWs.mono l _ _ r⟩, iR (by rw [← R.len]; simp)⟩
/-- a new tuple -/
theorem Rel.newT {h : Hm} {p : Addr} {xs : List W} {ys : List V} (R : Rel Γ ρ h H) (n : H p = none) (r : RelWs Γ ρ H xs ys) :
    Le Γ ρ ρ H (upd H p (.tup ys)) ∧ Rel Γ ρ h (upd H p (.tup ys)) ∧ RelW Γ ρ (upd H p (.tup ys)) (.tup xs) (.ref p) := by
  have l := Le.laid (Γ := Γ) (ρ := ρ) (o := .tup ys) n []
  rw [List.append_nil] at l
  exact ⟨l, R.other n, iT (SqT.of upd_same) (RelWs.mono l _ _ r)⟩
/-- a list of ours is rewritten -/
theorem Rel.setL {h : Hm} {r : Nat} {a : Addr} {xs xs' : List W} {ys ys' : List V} (R : Rel Γ ρ h H) (e : h[r]? = some (.lst xs)) (ea : ρ[r]? = some a) (hy : H a = some (.lst ys)) (rr : RelWs Γ ρ H xs' ys') :
    Le Γ ρ ρ H (upd H a (.lst ys')) ∧ Rel Γ ρ (h.set r (.lst xs')) (upd H a (.lst ys')) := by
  have l : Le Γ ρ ρ H (upd H a (.lst ys')) := Le.write hy trivial
  exact ⟨l, R.write e ea trivial trivial hy trivial ⟨ys', upd_same, RelWs.mono l _ _ rr⟩⟩

mutual
theorem den_dp {h : Hm} (R : Rel Γ ρ h H) : ∀ (n : Nat) (w : W) (d : PyData) (v : V), den h n w = some d → RelW Γ ρ H w v → Dp Γ.K H v d
  | n, .non, d, v, e, r => by rw [den] at e; cases e; rw [rwN r]; exact .non
  | n, .bl b, d, v, e, r => by rw [den] at e; cases e; rw [rwB r]; exact .bl b
  | n, .int b, d, v, e, r => by rw [den] at e; cases e; rw [rwI r]; exact .int b
  | n, .str b, d, v, e, r => by rw [den] at e; cases e; rw [rwS r]; exact .str b
  | 0, .tup xs, d, v, e, r => by simp [den] at e
  | n + 1, .tup xs, d, v, e, r => by
    rw [den] at e
    obtain ⟨a, ys, rfl, ht, rr⟩ := rwT r
    obtain ⟨ds, e1, rfl⟩ := Option.map_eq_some_iff.mp e
    exact .tup ht (den_dps R n xs ds ys e1 rr)
  | 0, .ref xs, d, v, e, r => by simp [den] at e
  | n + 1, .ref i, d, v, e, r => by
    rw [den] at e
    split at e
    · rename_i xs ex
      obtain ⟨a, ys, rfl, _, hy, rr⟩ := R.lst ex r
      obtain ⟨ds, e1, rfl⟩ := Option.map_eq_some_iff.mp e
      exact .lst (SqL.of hy) (den_dps R n xs ds ys e1 rr)
    · rename_i xs ex
      obtain ⟨a, ys, rfl, hy, rr⟩ := R.frz ex r
      obtain ⟨ds, e1, rfl⟩ := Option.map_eq_some_iff.mp e
      exact .lst hy (den_dps R n xs ds ys e1 rr)
    · cases e
  | n, .exn _ _, d, v, e, r => by cases n <;> simp [den] at e
theorem den_dps {h : Hm} (R : Rel Γ ρ h H) : ∀ (n : Nat) (ws : List W) (ds : List PyData) (vs : List V), ws.mapM (den h n) = some ds → RelWs Γ ρ H ws vs → DpAll Γ.K H vs ds
  | n, [], ds, vs, e, r => by
    unfold RelWs at r
    subst r
    simp at e
    subst e
    exact .nil
  | n, w :: ws, ds, vs, e, r => by
    unfold RelWs at r
    obtain ⟨y, r', rfl, r1, r2⟩ := r
    rw [List.mapM_cons] at e
    cases e1 : den h n w with
    | none => rw [e1] at e; cases e
    | some d =>
      rw [e1] at e
      cases e2 : ws.mapM (den h n) with
      | none => rw [e2] at e; cases e
      | some ds' =>
        rw [e2] at e
        cases e
        exact .cons (den_dp R n w d y e1 r1) (den_dps R n ws ds' r' e2 r2)
end
theorem scal_of {a b : W} {x y : V} (e : scalW a b = true) (ra : RelW Γ ρ H a x) (rb : RelW Γ ρ H b y) : scal x y = true ∧ decide (x = y) = scalEq a b := by
  cases a <;> cases b <;> first
    | (exfalso; revert e; decide)
    | (cases e; done)
    | (first | have q1 := rwI ra | have q1 := rwS ra | have q1 := rwB ra | have q1 := rwN ra
       first | have q2 := rwI rb | have q2 := rwS rb | have q2 := rwB rb | have q2 := rwN rb
       subst q1 q2
       refine ⟨rfl, ?_⟩
       first
         | simp [scalEq]
         | rfl)

section
variable {x y : V} {Q : VK}
theorem os_eq (hc : c.calm = true := by rfl) : OpS Γ c k (compareOp .Eq) eqW := by
  intro W X G pins s σ H x y v u Q I rx ry h
  obtain ⟨ρ, hm, a, b, u', h', R, ra, rb, e, q⟩ := h
  obtain ⟨bb, e1, e2⟩ := Option.map_eq_some_iff.mp e
  cases e2
  unfold eqB at e1
  split at e1
  · rename_i hs
    cases e1
    obtain ⟨s1, s2⟩ := scal_of hs ra rb
    exact op_eq pins s σ H x y v u Q I rx ry ⟨s1, q ρ H _ .refl R (by rw [s2]; exact iB)⟩
  · split at e1
    · rename_i d1 d2 f1 f2
      split at e1
      · rename_i hsh
        cases e1
        rw [Bool.and_eq_true] at hsh
        exact op_eqD (G.room hc).units pins s σ H x y v u Q I rx ry ⟨d1, d2, by rw [G.K]; exact den_dp R _ _ _ _ f1 ra, by rw [G.K]; exact den_dp R _ _ _ _ f2 rb, hsh.1, hsh.2, q ρ H _ .refl R iB⟩
      · cases e1
    · cases e1
theorem os_ne (hc : c.calm = true := by rfl) : OpS Γ c k (compareOp .NotEq) neW := by
  intro W X G pins s σ H x y v u Q I rx ry h
  obtain ⟨ρ, hm, a, b, u', h', R, ra, rb, e, q⟩ := h
  obtain ⟨bb, e1, e2⟩ := Option.map_eq_some_iff.mp e
  cases e2
  unfold eqB at e1
  split at e1
  · rename_i hs
    cases e1
    obtain ⟨s1, s2⟩ := scal_of hs ra rb
    exact op_ne pins s σ H x y v u Q I rx ry ⟨s1, q ρ H _ .refl R (by rw [s2]; exact iB)⟩
  · split at e1
    · rename_i d1 d2 f1 f2
      split at e1
      · rename_i hsh
        cases e1
        rw [Bool.and_eq_true] at hsh
        exact op_neD (G.room hc).units pins s σ H x y v u Q I rx ry ⟨d1, d2, by rw [G.K]; exact den_dp R _ _ _ _ f1 ra, by rw [G.K]; exact den_dp R _ _ _ _ f2 rb, hsh.1, hsh.2, q ρ H _ .refl R iB⟩
      · cases e1
    · cases e1
theorem os_add : OpS Γ c k (binaryOp .Add) addW := by
  intro W X G pins s σ H x y v u Q I rx ry h
  obtain ⟨ρ, hm, a, b, u', h', R, ra, rb, e, q⟩ := h
  unfold addW at e
  split at e
  · cases e
    exact op_add pins s σ H x y v u Q I rx ry ⟨_, _, rwI ra, rwI rb, q ρ H _ .refl R iI'⟩
  · split at e
    · rename_i hl
      cases e
      exact op_add_str pins s σ H x y v u Q I rx ry ⟨_, _, rwS ra, rwS rb, by rw [sizeLine_eq]; exact hl, q ρ H _ .refl R iS⟩
    · cases e
  · split at e
    · rename_i xs ys e1 e2
      split at e
      · rename_i hl
        cases e
        obtain ⟨l, xs', rfl, _, hx, r1⟩ := R.lst e1 ra
        obtain ⟨l2, ys', rfl, _, hy, r2⟩ := R.lst e2 rb
        refine op_cat pins s σ H _ _ v u Q I rx ry ⟨l, l2, xs', ys', rfl, rfl, hx, hy, by rw [sizeLine_eq, ← r1.length, ← r2.length]; exact hl, fun p hp => ?_⟩
        obtain ⟨q1, q2, q3⟩ := R.newL hp (r1.append r2)
        exact q _ _ _ q1 q2 q3
      · cases e
    · cases e
  · split at e
    · rename_i _ xs ys hl
      cases e
      obtain ⟨l, xs', rfl, hx, r1⟩ := rwT ra
      obtain ⟨l2, ys', rfl, hy, r2⟩ := rwT rb
      refine op_catA pins s σ H _ _ v u Q I rx ry ⟨l, l2, xs', ys', rfl, rfl, by rw [G.K]; exact hx, by rw [G.K]; exact hy, by rw [sizeLine_eq, ← r1.length, ← r2.length]; exact hl, fun e => ?_, fun _ e => ?_, fun _ _ p hp => ?_⟩
      · refine q ρ H _ .refl R (iT hy ?_)
        have : xs = [] := List.eq_nil_of_length_eq_zero (by rw [r1.length, e]; rfl)
        rw [this]
        exact r2
      · refine q ρ H _ .refl R (iT hx ?_)
        have : ys = [] := List.eq_nil_of_length_eq_zero (by rw [r2.length, e]; rfl)
        rw [this, List.append_nil]
        exact r1
      · obtain ⟨q1, q2, q3⟩ := R.newT hp (r1.append r2)
        exact q _ _ _ q1 q2 q3
    · cases e
  · cases e
theorem os_sub : OpS Γ c k (binaryOp .Sub) subW := by
  intro W X G pins s σ H x y v u Q I rx ry h
  obtain ⟨ρ, hm, a, b, u', h', R, ra, rb, e, q⟩ := h
  unfold subW at e
  split at e
  · cases e
    exact op_sub pins s σ H x y v u Q I rx ry ⟨_, _, rwI ra, rwI rb, q ρ H _ .refl R iI'⟩
  · cases e
theorem mulOk_of' {x : Str} {n : Int} (hlo : -(2 ^ 63 : Int) ≤ n) (hn : n ≤ 16777216) (hp : x.length * n.toNat ≤ 16777216) : MulOk x n := by
  refine ⟨?_, fun h1 _ => ?_, fun h1 _ => short24 hp⟩
  · have a1 : ¬ n < -(2 ^ 63 : Int) := by omega
    have a2 : ¬ n ≥ (2 ^ 63 : Int) := by omega
    rw [decide_eq_false a1, decide_eq_false a2]
    rfl
  · have hpos : 0 < n := by omega
    have e : ((x.length * n.toNat : Nat) : Int) = (x.length : Int) * n := by
      rw [Int.natCast_mul, Int.toNat_of_nonneg (by omega)]
    have h3 : (x.length : Int) * n ≤ 2 ^ 63 - 1 := by rw [← e]; omega
    have h4 : (x.length : Int) ≤ (2 ^ 63 - 1) / n := (Int.le_ediv_iff_mul_le hpos).mpr h3
    omega
theorem os_mul : OpS Γ c k (binaryOp .Mult) mulW := by
  intro W X G pins s σ H x y v u Q I rx ry h
  obtain ⟨ρ, hm, a, b, u', h', R, ra, rb, e, q⟩ := h
  unfold mulW at e
  split at e
  · split at e
    · rename_i hl
      cases e
      unfold mulOk at hl
      rw [Bool.or_eq_true, Bool.or_eq_true, decide_eq_true_eq, decide_eq_true_eq, decide_eq_true_eq] at hl
      rcases hl with hl | hl
      · exact op_mul pins s σ H x y v u Q I rx ry ⟨_, _, rwI ra, rwI rb, hl, q ρ H _ .refl R iI'⟩
      · exact op_mulX pins s σ H x y v u Q I rx ry ⟨_, _, rwI ra, rwI rb, hl, q ρ H _ .refl R iI'⟩
    · cases e
  · split at e
    · rename_i xs e1
      split at e
      · rename_i hl
        cases e
        obtain ⟨l, xs', rfl, _, hx, r1⟩ := R.lst e1 ra
        refine op_rep pins s σ H _ _ v u Q I rx ry ⟨l, _, xs', rfl, rwI rb, hx, hl.1, hl.2.1, by rw [sizeLine_eq, ← r1.length]; exact hl.2.2, fun p hp => ?_⟩
        obtain ⟨q1, q2, q3⟩ := R.newL hp (r1.rep _)
        exact q _ _ _ q1 q2 q3
      · cases e
    · cases e
  · split at e
    · rename_i hl
      cases e
      have ea := rwS ra
      have eb := rwI rb
      subst ea eb
      obtain ⟨t, rfl⟩ := rx
      obtain ⟨t', rfl⟩ := ry
      refine SB.mul (mulOk_of' hl.1 hl.2.1 hl.2.2) fun t1 tk => ?_
      exact ⟨.str _, H, I.tok _, ⟨t1, rfl⟩, q ρ H _ .refl R iS⟩
    · cases e
  · cases e
theorem os_fdiv : OpS Γ c k (binaryOp .FloorDiv) fdivW := by
  intro W X G pins s σ H x y v u Q I rx ry h
  obtain ⟨ρ, hm, a, b, u', h', R, ra, rb, e, q⟩ := h
  unfold fdivW at e
  split at e
  · split at e
    · rename_i hl
      cases e
      exact op_fdivW pins s σ H x y v u Q I rx ry ⟨_, _, rwI ra, rwI rb, hl, q ρ H _ .refl R iI'⟩
    · cases e
  · cases e
theorem os_mod : OpS Γ c k (binaryOp .Mod) modW := by
  intro W X G pins s σ H x y v u Q I rx ry h
  obtain ⟨ρ, hm, a, b, u', h', R, ra, rb, e, q⟩ := h
  unfold modW at e
  split at e
  · split at e
    · rename_i hl
      cases e
      exact op_mod pins s σ H x y v u Q I rx ry ⟨_, _, rwI ra, rwI rb, hl, q ρ H _ .refl R iI'⟩
    · cases e
  · cases e
theorem os_pow : OpS Γ c k (binaryOp .Pow) powW := by
  intro W X G pins s σ H x y v u Q I rx ry h
  obtain ⟨ρ, hm, a, b, u', h', R, ra, rb, e, q⟩ := h
  unfold powW at e
  split at e
  · split at e
    · rename_i hl
      cases e
      exact op_pow pins s σ H x y v u Q I rx ry ⟨_, _, rwI ra, rwI rb, hl, q ρ H _ .refl R iI'⟩
    · cases e
  · cases e
theorem os_shl : OpS Γ c k (binaryOp .LShift) shlW := by
  intro W X G pins s σ H x y v u Q I rx ry h
  obtain ⟨ρ, hm, a, b, u', h', R, ra, rb, e, q⟩ := h
  unfold shlW at e
  split at e
  · split at e
    · rename_i hl
      cases e
      exact op_shlW pins s σ H x y v u Q I rx ry ⟨_, _, rwI ra, rwI rb, hl, q ρ H _ .refl R iI'⟩
    · cases e
  · cases e
theorem os_shr : OpS Γ c k (binaryOp .RShift) shrW := by
  intro W X G pins s σ H x y v u Q I rx ry h
  obtain ⟨ρ, hm, a, b, u', h', R, ra, rb, e, q⟩ := h
  unfold shrW at e
  split at e
  · split at e
    · rename_i hl
      cases e
      exact op_shr pins s σ H x y v u Q I rx ry ⟨_, _, rwI ra, rwI rb, hl, q ρ H _ .refl R iI'⟩
    · cases e
  · cases e
theorem os_and : OpS Γ c k (binaryOp .BitAnd) andW := by
  intro W X G pins s σ H x y v u Q I rx ry h
  obtain ⟨ρ, hm, a, b, u', h', R, ra, rb, e, q⟩ := h
  unfold andW at e
  split at e
  · cases e
    exact op_and pins s σ H x y v u Q I rx ry ⟨_, _, rwI ra, rwI rb, q ρ H _ .refl R iI'⟩
  · cases e
theorem os_or : OpS Γ c k (binaryOp .BitOr) orW := by
  intro W X G pins s σ H x y v u Q I rx ry h
  obtain ⟨ρ, hm, a, b, u', h', R, ra, rb, e, q⟩ := h
  unfold orW at e
  split at e
  · cases e
    exact op_or pins s σ H x y v u Q I rx ry ⟨_, _, rwI ra, rwI rb, q ρ H _ .refl R iI'⟩
  · cases e
theorem os_xor : OpS Γ c k (binaryOp .BitXor) xorW := by
  intro W X G pins s σ H x y v u Q I rx ry h
  obtain ⟨ρ, hm, a, b, u', h', R, ra, rb, e, q⟩ := h
  unfold xorW at e
  split at e
  · cases e
    exact op_xor pins s σ H x y v u Q I rx ry ⟨_, _, rwI ra, rwI rb, q ρ H _ .refl R iI'⟩
  · cases e
theorem us_neg : UnS Γ c k (unaryOp .USub) negW := by
  intro W X G pins s σ H x v Q I rx h
  obtain ⟨ρ, hm, a, u', h', R, ra, e, q⟩ := h
  unfold negW at e
  split at e
  · cases e
    exact un_neg pins s σ H x v Q I rx ⟨_, rwI ra, q ρ H _ .refl R iI'⟩
  · cases e
theorem os_lt : OpS Γ c k (compareOp .Lt) ltW := by
  intro W X G pins s σ H x y v u Q I rx ry h
  obtain ⟨ρ, hm, a, b, u', h', R, ra, rb, e, q⟩ := h
  unfold ltW at e
  split at e
  · cases e
    exact op_lt pins s σ H x y v u Q I rx ry ⟨_, _, rwI ra, rwI rb, q ρ H _ .refl R iB⟩
  · cases e
    exact op_lt_str pins s σ H x y v u Q I rx ry ⟨_, _, rwS ra, rwS rb, q ρ H _ .refl R iB⟩
  · cases e
theorem os_le : OpS Γ c k (compareOp .LtE) leW := by
  intro W X G pins s σ H x y v u Q I rx ry h
  obtain ⟨ρ, hm, a, b, u', h', R, ra, rb, e, q⟩ := h
  unfold leW at e
  split at e
  · cases e
    exact op_le pins s σ H x y v u Q I rx ry ⟨_, _, rwI ra, rwI rb, q ρ H _ .refl R iB⟩
  · cases e
    exact op_le_str pins s σ H x y v u Q I rx ry ⟨_, _, rwS ra, rwS rb, q ρ H _ .refl R iB⟩
  · cases e
theorem os_gt : OpS Γ c k (compareOp .Gt) gtW := by
  intro W X G pins s σ H x y v u Q I rx ry h
  obtain ⟨ρ, hm, a, b, u', h', R, ra, rb, e, q⟩ := h
  unfold gtW at e
  split at e
  · cases e
    exact op_gt pins s σ H x y v u Q I rx ry ⟨_, _, rwI ra, rwI rb, q ρ H _ .refl R iB⟩
  · cases e
    exact op_gt_str pins s σ H x y v u Q I rx ry ⟨_, _, rwS ra, rwS rb, q ρ H _ .refl R iB⟩
  · cases e
theorem os_ge : OpS Γ c k (compareOp .GtE) geW := by
  intro W X G pins s σ H x y v u Q I rx ry h
  obtain ⟨ρ, hm, a, b, u', h', R, ra, rb, e, q⟩ := h
  unfold geW at e
  split at e
  · cases e
    exact op_ge pins s σ H x y v u Q I rx ry ⟨_, _, rwI ra, rwI rb, q ρ H _ .refl R iB⟩
  · cases e
    exact op_ge_str pins s σ H x y v u Q I rx ry ⟨_, _, rwS ra, rwS rb, q ρ H _ .refl R iB⟩
  · cases e
theorem isNon_of {a : W} {x : V} (r : RelW Γ ρ H a x) : decide (x = .non) = isNonW a := by
  cases a with
  | non => rw [rwN r]; rfl
  | bl b => rw [rwB r]; rfl
  | int b => rw [rwI r]; rfl
  | str b => rw [rwS r]; rfl
  | tup b => obtain ⟨a, ys, rfl, _⟩ := rwT r; rfl
  | ref b => obtain ⟨a, _, rfl⟩ := rwR r; rfl
  | exn b d => unfold RelW at r; obtain ⟨a, _, rfl, _⟩ := r; rfl
theorem os_is : OpS Γ c k (compareOp .Is) isW := by
  intro W X G pins s σ H x y v u Q I rx ry h
  obtain ⟨ρ, hm, a, b, u', h', R, ra, rb, e, q⟩ := h
  unfold isW at e
  split at e
  · cases e
    exact op_isN pins s σ H x y v u Q I rx ry ⟨rwN rb, q ρ H _ .refl R (by rw [isNon_of ra]; exact iB)⟩
  · cases e
    exact op_isBl pins s σ H x y v u Q I rx ry ⟨_, _, rwB ra, rwB rb, q ρ H _ .refl R iB⟩
  · cases e
theorem os_isn : OpS Γ c k (compareOp .IsNot) isnW := by
  intro W X G pins s σ H x y v u Q I rx ry h
  obtain ⟨ρ, hm, a, b, u', h', R, ra, rb, e, q⟩ := h
  unfold isnW at e
  split at e
  · cases e
    exact op_notN pins s σ H x y v u Q I rx ry ⟨rwN rb, q ρ H _ .refl R (by rw [isNon_of ra]; exact iB)⟩
  · cases e
    exact op_notBl pins s σ H x y v u Q I rx ry ⟨_, _, rwB ra, rwB rb, q ρ H _ .refl R iB⟩
  · cases e
theorem flat_of {a : W} {x : V} (f : flatW a = true) (r : RelW Γ ρ H a x) : x = toV a ∧ flatV x = true := by
  cases a with
  | non => rw [rwN r]; exact ⟨rfl, rfl⟩
  | bl b => rw [rwB r]; exact ⟨rfl, rfl⟩
  | int b => rw [rwI r]; exact ⟨rfl, rfl⟩
  | str b => rw [rwS r]; exact ⟨rfl, rfl⟩
  | _ => cases f
theorem flats_of : ∀ {xs : List W} {ys : List V}, xs.all flatW = true → RelWs Γ ρ H xs ys → ys = xs.map toV ∧ ys.all flatV = true
  | [], ys, f, r => by unfold RelWs at r; subst r; exact ⟨rfl, rfl⟩
  | x :: xs, ys, f, r => by
    unfold RelWs at r
    obtain ⟨y, r', rfl, r1, r2⟩ := r
    rw [List.all_cons, Bool.and_eq_true] at f
    obtain ⟨e1, e2⟩ := flat_of f.1 r1
    obtain ⟨e3, e4⟩ := flats_of f.2 r2
    exact ⟨by rw [e1, e3]; rfl, by rw [List.all_cons, e2, e4]; rfl⟩
theorem inC_of {a b : W} {hm : Hm} {x y : V} {bb : Bool} (R : Rel Γ ρ hm H) (ra : RelW Γ ρ H a x) (rb : RelW Γ ρ H b y) (e : inC a b hm = some bb) :
    (∃ p xs, y = .ref p ∧ (SqL Γ.K H p xs ∨ SqT Γ.K H p xs) ∧ flatV x = true ∧ xs.all flatV = true ∧ inV x xs = bb) ∨ (∃ i j, x = .str i ∧ y = .str j ∧ (!(Builtin.Str.occurrences j i 0 j.length 1).isEmpty) = bb) := by
  have go : ∀ {xs : List W} {ys : List V}, inB a xs = some bb → RelWs Γ ρ H xs ys → flatV x = true ∧ ys.all flatV = true ∧ inV x ys = bb := fun {xs ys} e r => by
    unfold inB at e
    split at e
    · rename_i f
      cases e
      rw [Bool.and_eq_true] at f
      obtain ⟨e1, e2⟩ := flat_of f.1 ra
      obtain ⟨e3, e4⟩ := flats_of f.2 r
      exact ⟨e2, e4, by rw [e1, e3]⟩
    · cases e
  unfold inC at e
  split at e
  · obtain ⟨p, ys, rfl, ht, rr⟩ := rwT rb
    exact .inl ⟨p, ys, rfl, .inr ht, go e rr⟩
  · split at e
    · rename_i xs ex
      obtain ⟨p, ys, rfl, _, hy, rr⟩ := R.lst ex rb
      exact .inl ⟨p, ys, rfl, .inl (SqL.of hy), go e rr⟩
    · rename_i xs ex
      obtain ⟨p, ys, rfl, hy, rr⟩ := R.frz ex rb
      exact .inl ⟨p, ys, rfl, .inl hy, go e rr⟩
    · cases e
  · split at e
    · cases e
      exact .inr ⟨_, _, rwS ra, rwS rb, rfl⟩
    · cases e
  · cases e
theorem os_in : OpS Γ c k (compareOp .In) inW := by
  intro W X G pins s σ H x y v u Q I rx ry h
  obtain ⟨ρ, hm, a, b, u', h', R, ra, rb, e, q⟩ := h
  obtain ⟨bb, e1, e2⟩ := Option.map_eq_some_iff.mp e
  cases e2
  rcases inC_of R ra rb e1 with ⟨p, xs, ey, hs, f1, f2, e3⟩ | ⟨i, j, ex, ey, e3⟩
  · exact op_in_seq pins s σ H x y v u Q I rx ry ⟨p, xs, ey, by rw [G.K]; exact hs, f1, f2, by rw [if_neg Bool.false_ne_true, e3]; exact q ρ H _ .refl R iB⟩
  · exact op_in_str pins s σ H x y v u Q I rx ry ⟨i, j, ex, ey, by rw [e3]; exact q ρ H _ .refl R iB⟩
theorem os_nin : OpS Γ c k (compareOp .NotIn) ninW := by
  intro W X G pins s σ H x y v u Q I rx ry h
  obtain ⟨ρ, hm, a, b, u', h', R, ra, rb, e, q⟩ := h
  obtain ⟨bb, e1, e2⟩ := Option.map_eq_some_iff.mp e
  cases e2
  rcases inC_of R ra rb e1 with ⟨p, xs, ey, hs, f1, f2, e3⟩ | ⟨i, j, ex, ey, e3⟩
  · exact op_notIn_seq pins s σ H x y v u Q I rx ry ⟨p, xs, ey, by rw [G.K]; exact hs, f1, f2, by rw [if_pos rfl, e3]; exact q ρ H _ .refl R iB⟩
  · exact L2.op_notIn_str pins s σ H x y v u Q I rx ry ⟨i, j, ex, ey, by rw [e3]; exact q ρ H _ .refl R iB⟩
end
end
end Z

namespace Z
open PySem PySem.Spec PyProof.Rows L2

/-- the built-in names are not hidden by the module -/
structure Bs (Γ : Gam) : Prop where
  len : Γ.mg "len" = none
  range : Γ.mg "range" = none
  abs : Γ.mg "abs" = none
  min : Γ.mg "min" = none
  max : Γ.mg "max" = none
  int : Γ.mg "int" = none
  bool : Γ.mg "bool" = none
  str : Γ.mg "str" = none
  list : Γ.mg "list" = none
  tuple : Γ.mg "tuple" = none
  ord : Γ.mg "ord" = none
  sum : Γ.mg "sum" = none
  all : Γ.mg "all" = none
  sorted : Γ.mg "sorted" = none
  zip : Γ.mg "zip" = none
  enumerate : Γ.mg "enumerate" = none
  reversed : Γ.mg "reversed" = none
  isinstance : Γ.mg "isinstance" = none

/-! ### subscripts -/
def ixW (x y : W) (h : Hm) : Pr := match x, y with
  | .tup xs, .int i => (atI xs i).map fun w => (w, h)
  | .ref r, .int i => match h[r]? with
    | some (.lst xs) => (atI xs i).map fun w => (w, h)
    | some (.frz xs) => (atI xs i).map fun w => (w, h)
    | _ => none
  | .str z, .int i => if z.length ≤ 16777216 then (atI z.cps.toList i).map fun c => (.str ⟨#[c]⟩, h) else none
  | _, _ => none
def cutW (xs : List W) (lo hi : Option Int) : List W := (xs.drop (HT.sIx xs.length 0 lo)).take (HT.sIx xs.length xs.length hi - HT.sIx xs.length 0 lo)
def slW (x : W) (lo hi : Option Int) (h : Hm) : Pr := match x with
  | .tup xs => some (.tup (cutW xs lo hi), h)
  | .ref r => match h[r]? with
    | some (.lst xs) => some (.ref h.length, h ++ [.lst (cutW xs lo hi)])
    | some (.frz xs) => some (.ref h.length, h ++ [.lst (cutW xs lo hi)])
    | _ => none
  | .str z => if z.length ≤ 16777216 then some (.str (cutS z lo hi), h) else none
  | _ => none
abbrev XO := Sg → Hm → Out (Option Int)
def xoNone : XO := fun _ h => .ok none h
def xoSome (a : XE) : XO := fun σ h => (a σ h).bind fun x h1 => match x with
  | .int i => .ok (some i) h1
  | _ => .bad
def xSl (a : XE) (lo hi : XO) : XE := fun σ h => (a σ h).bind fun x h1 => (lo σ h1).bind fun l h2 => (hi σ h2).bind fun u h3 => ofO (slW x l u h3)
def setW (x y v : W) (h : Hm) : Option Hm := match x, y with
  | .ref r, .int i => match h[r]? with
    | some (.lst xs) => (ixN xs.length i).map fun j => h.set r (.lst (xs.set j v))
    | _ => none
  | _, _ => none
section
variable {Γ : Gam} {c : Cfg} {k : Nat} {a b e d o i : Expr} {es : List Expr} {fa fb fc : XE} {ft fu : XT} {fr : XA} {pos p : Pos} {ρ : List Addr} {H : Hp}
theorem RelWs.at {xs : List W} {ys : List V} {i : Int} {w : W} (r : RelWs Γ ρ H xs ys) (e : atI xs i = some w) : ∃ v, atI ys i = some v ∧ RelW Γ ρ H w v := by
  unfold atI at e ⊢
  rw [← r.length]
  cases e1 : ixN xs.length i with
  | none => rw [e1] at e; cases e
  | some j =>
    rw [e1] at e
    exact r.get e
theorem RelWs.cut {xs : List W} {ys : List V} {lo hi : Option Int} (r : RelWs Γ ρ H xs ys) : RelWs Γ ρ H (cutW xs lo hi) (cutV ys lo hi) := by
  unfold cutW cutV
  rw [← r.length]
  exact (r.drop _).take _
/-- IxR of ours -/
theorem ix_any {W : WX} {X : Cx} (G : Good Γ c k W X) : IxR X (r2 Γ ixW) := by
  intro value slice pins s σ H x y v u Q I rx ry h hs
  obtain ⟨ρ, hm, a, b, u', h', R, ra, rb, e, q⟩ := h
  unfold ixW at e
  split at e
  · obtain ⟨w, e1, e2⟩ := Option.map_eq_some_iff.mp e
    cases e2
    obtain ⟨l, ys, rfl, hy, r1⟩ := rwT ra
    obtain ⟨v', e3, r3⟩ := r1.at e1
    exact ix_tup value slice pins s σ H _ y v u Q I rx ry ⟨l, ys, _, v', rfl, rwI rb, by rw [G.K]; exact hy, e3, q ρ H _ .refl R r3⟩ hs
  · split at e
    · rename_i ex
      obtain ⟨w, e1, e2⟩ := Option.map_eq_some_iff.mp e
      cases e2
      obtain ⟨l, ys, rfl, _, hy, r1⟩ := R.lst ex ra
      obtain ⟨v', e3, r3⟩ := r1.at e1
      exact ix_list value slice pins s σ H _ y v u Q I rx ry ⟨l, ys, _, v', rfl, rwI rb, SqL.of hy, e3, q ρ H _ .refl R r3⟩ hs
    · rename_i ex
      obtain ⟨w, e1, e2⟩ := Option.map_eq_some_iff.mp e
      cases e2
      obtain ⟨l, ys, rfl, hy, r1⟩ := R.frz ex ra
      obtain ⟨v', e3, r3⟩ := r1.at e1
      exact ix_list value slice pins s σ H _ y v u Q I rx ry ⟨l, ys, _, v', rfl, rwI rb, by rw [G.K]; exact hy, e3, q ρ H _ .refl R r3⟩ hs
    · cases e
  · split at e
    · rename_i hl
      obtain ⟨w, e1, e2⟩ := Option.map_eq_some_iff.mp e
      cases e2
      exact ix_str value slice pins s σ H _ y v u Q I rx ry ⟨_, _, w, rwS ra, rwI rb, by rw [sizeLine_eq]; exact hl, e1, q ρ H _ .refl R iS⟩ hs
    · cases e
  · cases e
theorem se_ix (ha : SE Γ c k a fa) (hb : SE Γ c k b fb) (hs : PlainIx b := by exact fun _ _ => rfl) : SE Γ c k (.Subscript a b pos) (xBin ixW fa fb) := by
  intro W X G
  refine PE.imp (pe_ix (ix_any G) (ha W X G) (hb W X G) hs) fun τ H Q h => ?_
  obtain ⟨ρ, σ, h, R, S, q⟩ := h
  refine ⟨ρ, σ, h, R, S, (O1.bind (R := RelW Γ) q).imp fun x H1 ⟨ρ1, h1, u, l1, R1, r1, q1⟩ => ?_⟩
  refine ⟨ρ1, σ, h1, R1, S.mono l1, (O1.bind (R := RelW Γ) q1).imp fun y H2 ⟨ρ2, h2, w, l2, R2, r2, q2⟩ => ?_⟩
  obtain ⟨u', h', e, q3⟩ := q2.ofO
  exact ⟨ρ2, h2, u, w, u', h', R2, RelW.mono l2 _ _ r1, r2, e, q3⟩
/-! slices -/
def tIO (Γ : Gam) (W : WX) (f : XO) : TO := fun τ H Q => ∃ ρ σ h, Rel Γ ρ h H ∧ RelS Γ ρ H σ τ ∧ O1 Γ (fun _ _ (a b : Option Int) => a = b) ρ H (f σ h) Q (fun cls d H' => W cls d τ H')
def SO (Γ : Gam) (c : Cfg) (k : Nat) (e : Option Expr) (f : XO) : Prop := ∀ W X, Good Γ c k W X → PO X e (tIO Γ W f)
theorem PO.imp {X : Cx} {e : Option Expr} {t t' : TO} (h : PO X e t) (i : ∀ σ H Q, t' σ H Q → t σ H Q) : PO X e t' := ⟨fun pins s σ H Q I q => h.run pins s σ H Q I (i _ _ _ q)⟩
theorem so_none : SO Γ c k none xoNone := by
  intro W X G
  refine PO.imp po_none fun τ H Q h => ?_
  obtain ⟨ρ, σ, h, R, S, q⟩ := h
  exact q ρ H _ .refl R rfl
theorem so_some (ha : SE Γ c k a fa) : SO Γ c k (some a) (xoSome fa) := by
  intro W X G
  refine PO.imp (po_some (ha W X G)) fun τ H Q h => ?_
  obtain ⟨ρ, σ, h, R, S, q⟩ := h
  refine ⟨ρ, σ, h, R, S, (O1.bind (R := RelW Γ) q).imp fun x H1 ⟨ρ1, h1, u, l1, R1, r1, q1⟩ => ?_⟩
  split at q1
  · exact ⟨_, rwI r1, q1 ρ1 H1 _ .refl R1 rfl⟩
  · exact q1.elim
def rSl (Γ : Gam) : V → Option Int → Option Int → Hp → VK → Prop := fun x lo hi H Q => ∃ ρ h u u' h', Rel Γ ρ h H ∧ RelW Γ ρ H u x ∧ slW u lo hi h = some (u', h') ∧ ∀ ρ' H' v, Le Γ ρ ρ' H H' → Rel Γ ρ' h' H' → RelW Γ ρ' H' u' v → Q v H'
theorem sl_any {W : WX} {X : Cx} (G : Good Γ c k W X) : SlR X (rSl Γ) := by
  intro pins s σ H x v vl vu lo hi sl Q I rx hs pl pu h
  obtain ⟨ρ, hm, a, u', h', R, ra, e, q⟩ := h
  unfold slW at e
  split at e
  · cases e
    obtain ⟨l, ys, rfl, hy, r1⟩ := rwT ra
    refine sl_tupA pins s σ H _ v vl vu lo hi sl Q I rx hs pl pu ⟨l, ys, rfl, by rw [G.K]; exact hy, fun hw => ?_, fun _ p hp => ?_⟩
    · refine q ρ H _ .refl R (iT hy ?_)
      rename_i xs
      have e : cutW xs lo hi = xs := by
        unfold cutW
        rw [r1.length, hw.1, hw.2, ← r1.length]
        simp
      rw [e]
      exact r1
    · obtain ⟨q1, q2, q3⟩ := R.newT hp (r1.cut (lo := lo) (hi := hi))
      exact q _ _ _ q1 q2 q3
  · split at e
    · rename_i ex
      cases e
      obtain ⟨l, ys, rfl, _, hy, r1⟩ := R.lst ex ra
      refine sl_list pins s σ H _ v vl vu lo hi sl Q I rx hs pl pu ⟨l, ys, rfl, SqL.of hy, fun p hp => ?_⟩
      obtain ⟨q1, q2, q3⟩ := R.newL hp (r1.cut (lo := lo) (hi := hi))
      exact q _ _ _ q1 q2 q3
    · rename_i ex
      cases e
      obtain ⟨l, ys, rfl, hy, r1⟩ := R.frz ex ra
      refine sl_list pins s σ H _ v vl vu lo hi sl Q I rx hs pl pu ⟨l, ys, rfl, by rw [G.K]; exact hy, fun p hp => ?_⟩
      obtain ⟨q1, q2, q3⟩ := R.newL hp (r1.cut (lo := lo) (hi := hi))
      exact q _ _ _ q1 q2 q3
    · cases e
  · split at e
    · rename_i hl
      cases e
      exact sl_str pins s σ H _ v vl vu lo hi sl Q I rx hs pl pu ⟨_, rwS ra, by rw [sizeLine_eq]; exact hl, q ρ H _ .refl R iS⟩
    · cases e
  · cases e
theorem se_sl {lo hi : Option Expr} {fl fh : XO} {p2 : Pos} (ha : SE Γ c k a fa) (hl : SO Γ c k lo fl) (hh : SO Γ c k hi fh) : SE Γ c k (.Subscript a (.Slice lo hi none p2) pos) (xSl fa fl fh) := by
  intro W X G
  refine PE.imp (pe_slice (sl_any G) (ha W X G) (hl W X G) (hh W X G)) fun τ H Q h => ?_
  obtain ⟨ρ, σ, h, R, S, q⟩ := h
  refine ⟨ρ, σ, h, R, S, (O1.bind (R := RelW Γ) q).imp fun x H1 ⟨ρ1, h1, u, l1, R1, r1, q1⟩ => ?_⟩
  refine ⟨ρ1, σ, h1, R1, S.mono l1, (O1.bind (R := fun _ _ (a b : Option Int) => a = b) q1).imp fun y H2 ⟨ρ2, h2, w, l2, R2, r2, q2⟩ => ?_⟩
  refine ⟨ρ2, σ, h2, R2, (S.mono l1).mono l2, (O1.bind (R := fun _ _ (a b : Option Int) => a = b) q2).imp fun z H3 ⟨ρ3, h3, w3, l3, R3, r3, q3⟩ => ?_⟩
  have r2 : w = y := r2
  have r3 : w3 = z := r3
  subst r2 r3
  obtain ⟨u', h', e, q4⟩ := q3.ofO
  exact ⟨ρ3, h3, u, u', h', R3, RelW.mono (l2.trans l3) _ _ r1, e, q4⟩
theorem ss_setW : StS Γ c k setW := by
  intro W X G pins s σ H o i v ov iv u Q I ro ri rv h
  obtain ⟨ρ, hm, x, y, z, h', R, rx, ry, rz, e, q⟩ := h
  unfold setW at e
  split at e
  · split at e
    · rename_i ex
      obtain ⟨j, e1, rfl⟩ := Option.map_eq_some_iff.mp e
      obtain ⟨l, ys, rfl, ea, hy, r1⟩ := R.lst ex rx
      refine set_list pins s σ H _ i v ov iv u Q I ro ri rv ⟨l, ys, _, j, rfl, rwI ry, hy, by rw [← r1.length]; exact e1, ?_⟩
      obtain ⟨q1, q2⟩ := R.setL ex ea hy (r1.set j rz)
      exact q _ _ q1 q2
    · cases e
  · cases e

/-! ### calls of built-in functions and types -/
theorem se_callB {x : Str} {id : String} {g : List W → Hm → Pr} (hc : CaS Γ c k (.builtin id) g) (j : Nat) (hm : Γ.mg x = none) (hv : bootBuiltins x = some (.builtin id)) (ha : SA Γ c k (e :: es) fr) (hG : c.G[j]? = some x := by rfl)
    (hn : x ≠ "__name__" := by decide) (hd : (x == ("__debug__" : Str)) = false := by decide) (he : ∀ env, starEach (e :: es) env = (false, eval e env) :: starEach es env := by intros; rfl) (hpl : ∀ env, (backTo pos (starEach es env)).any (·.1) = false := by intros; rfl) :
    SE Γ c k (.Call (.Name x p) (e :: es) [] pos) (xCall g fr) := by
  intro W X G
  refine PE.imp (pe_callB (hc W X G) (G.gl (List.mem_of_getElem? hG)) (by rw [G.mg]; exact hm) hv (ha W X G) hn hd (he X.env) (hpl X.env)) fun τ H Q h => ?_
  obtain ⟨ρ, σ, h, R, S, q⟩ := h
  refine ⟨ρ, σ, h, R, S, (O1.bind (R := RelWs Γ) q).imp fun x H1 ⟨ρ1, h1, u, l1, R1, r1, q1⟩ => ?_⟩
  obtain ⟨u', h', e, q3⟩ := q1.ofO
  exact ⟨ρ1, h1, u, u', h', R1, r1, e, q3⟩
theorem se_callT {x : Str} {T : String} {g : List W → Hm → Pr} (hc : CaS Γ c k (.type T) g) (j : Nat) (hm : Γ.mg x = none) (hv : bootBuiltins x = some (.type T)) (ha : SA Γ c k (e :: es) fr) (hG : c.G[j]? = some x := by rfl)
    (hn : x ≠ "__name__" := by decide) (hd : (x == ("__debug__" : Str)) = false := by decide) (he : ∀ env, starEach (e :: es) env = (false, eval e env) :: starEach es env := by intros; rfl) (hpl : ∀ env, (backTo pos (starEach es env)).any (·.1) = false := by intros; rfl) :
    SE Γ c k (.Call (.Name x p) (e :: es) [] pos) (xCall g fr) := by
  intro W X G
  refine PE.imp (pe_callTy (hc W X G) (G.gl (List.mem_of_getElem? hG)) (by rw [G.mg]; exact hm) hv (ha W X G) hn hd (he X.env) (hpl X.env)) fun τ H Q h => ?_
  obtain ⟨ρ, σ, h, R, S, q⟩ := h
  refine ⟨ρ, σ, h, R, S, (O1.bind (R := RelWs Γ) q).imp fun x H1 ⟨ρ1, h1, u, l1, R1, r1, q1⟩ => ?_⟩
  obtain ⟨u', h', e, q3⟩ := q1.ofO
  exact ⟨ρ1, h1, u, u', h', R1, r1, e, q3⟩
def lenC (x : W) (h : Hm) : Option Int := match x with
  | .str z => if z.length ≤ 16777216 then some z.length else none
  | .tup xs => some xs.length
  | .ref r => match h[r]? with
    | some (.lst xs) => some xs.length
    | some (.frz xs) => some xs.length
    | _ => none
  | _ => none
def lenW (xs : List W) (h : Hm) : Pr := match xs with
  | [x] => (lenC x h).map fun n => (.int n, h)
  | _ => none
def absW (xs : List W) (h : Hm) : Pr := match xs with
  | [.int i] => some (.int (if i < 0 then -i else i), h)
  | _ => none
def minW (xs : List W) (h : Hm) : Pr := match xs with
  | [.int i, .int j] => some (.int (if j < i then j else i), h)
  | _ => none
def maxW (xs : List W) (h : Hm) : Pr := match xs with
  | [.int i, .int j] => some (.int (if j > i then j else i), h)
  | _ => none
def intW (xs : List W) (h : Hm) : Pr := match xs with
  | [.int i] => some (.int i, h)
  | [.bl b] => some (.int (if b then 1 else 0), h)
  | _ => none
def ordW (xs : List W) (h : Hm) : Pr := match xs with
  | [.str x] => if x.length = 1 then some (.int (x.cps.getD 0 0 : Nat), h) else none
  | _ => none
def strW (xs : List W) (h : Hm) : Pr := match xs with
  | [.int i] => if i.natAbs.log2 < 1920 then some (.str (toString i), h) else none
  | _ => none
def seqC (x : W) (h : Hm) : Option (List W) := match x with
  | .tup xs => some xs
  | .ref r => match h[r]? with
    | some (.lst xs) => some xs
    | some (.frz xs) => some xs
    | _ => none
  | _ => none
def listW (xs : List W) (h : Hm) : Pr := match xs with
  | [x] => (seqC x h).map fun ys => (.ref h.length, h ++ [.lst ys])
  | _ => none
def tupleW (xs : List W) (h : Hm) : Pr := match xs with
  | [x] => (seqC x h).map fun ys => (.tup ys, h)
  | _ => none
theorem rws1 {w : W} {vs : List V} (r : RelWs Γ ρ H [w] vs) : ∃ v, vs = [v] ∧ RelW Γ ρ H w v := by
  unfold RelWs at r
  obtain ⟨y, r', rfl, h1, h2⟩ := r
  unfold RelWs at h2
  subst h2
  exact ⟨y, rfl, h1⟩
theorem rws2 {w w' : W} {vs : List V} (r : RelWs Γ ρ H [w, w'] vs) : ∃ v v', vs = [v, v'] ∧ RelW Γ ρ H w v ∧ RelW Γ ρ H w' v' := by
  unfold RelWs at r
  obtain ⟨y, r', rfl, h1, h2⟩ := r
  obtain ⟨v', rfl, h3⟩ := rws1 h2
  exact ⟨y, v', rfl, h1, h3⟩
/-- the items of a list or tuple that is read -/
theorem seq_of {h : Hm} {x : W} {xs : List W} {v : V} (R : Rel Γ ρ h H) (e : seqC x h = some xs) (r : RelW Γ ρ H x v) : ∃ a ys, v = .ref a ∧ (SqL Γ.K H a ys ∨ SqT Γ.K H a ys) ∧ RelWs Γ ρ H xs ys := by
  unfold seqC at e
  split at e
  · cases e
    obtain ⟨a, ys, rfl, hy, rr⟩ := rwT r
    exact ⟨a, ys, rfl, .inr hy, rr⟩
  · split at e
    · rename_i ex
      cases e
      obtain ⟨a, ys, rfl, _, hy, rr⟩ := R.lst ex r
      exact ⟨a, ys, rfl, .inl (SqL.of hy), rr⟩
    · rename_i ex
      cases e
      obtain ⟨a, ys, rfl, hy, rr⟩ := R.frz ex r
      exact ⟨a, ys, rfl, .inl hy, rr⟩
    · cases e
  · cases e
theorem cs_len : CaS Γ c k (.builtin "len") lenW := by
  intro W X G pins s σ H xs us Q I rx h
  obtain ⟨ρ, hm, ws, u', h', R, rr, e, q⟩ := h
  unfold lenW at e
  split at e
  · obtain ⟨n, e1, e2⟩ := Option.map_eq_some_iff.mp e
    cases e2
    obtain ⟨v, rfl, r1⟩ := rws1 rr
    unfold lenC at e1
    split at e1
    · split at e1
      · rename_i hl
        cases e1
        exact call_len_str pins s σ H _ us Q I rx ⟨_, by rw [rwS r1], by rw [sizeLine_eq]; exact hl, q ρ H _ .refl R iI'⟩
      · cases e1
    · cases e1
      obtain ⟨a, ys, rfl, hy, r2⟩ := rwT r1
      exact call_len_seq pins s σ H _ us Q I rx ⟨a, ys, rfl, by rw [G.K]; exact .inr hy, by rw [← r2.length]; exact q ρ H _ .refl R iI'⟩
    · split at e1
      · rename_i ex
        cases e1
        obtain ⟨a, ys, rfl, _, hy, r2⟩ := R.lst ex r1
        exact call_len_seq pins s σ H _ us Q I rx ⟨a, ys, rfl, .inl (SqL.of hy), by rw [← r2.length]; exact q ρ H _ .refl R iI'⟩
      · rename_i ex
        cases e1
        obtain ⟨a, ys, rfl, hy, r2⟩ := R.frz ex r1
        exact call_len_seq pins s σ H _ us Q I rx ⟨a, ys, rfl, by rw [G.K]; exact .inl hy, by rw [← r2.length]; exact q ρ H _ .refl R iI'⟩
      · cases e1
    · cases e1
  · cases e
theorem cs_abs : CaS Γ c k (.builtin "abs") absW := by
  intro W X G pins s σ H xs us Q I rx h
  obtain ⟨ρ, hm, ws, u', h', R, rr, e, q⟩ := h
  unfold absW at e
  split at e
  · cases e
    obtain ⟨v, rfl, r1⟩ := rws1 rr
    exact call_abs pins s σ H _ us Q I rx ⟨_, by rw [rwI r1], q ρ H _ .refl R iI'⟩
  · cases e
theorem cs_min (hc : c.calm = true := by rfl) : CaS Γ c k (.builtin "min") minW := by
  intro W X G pins s σ H xs us Q I rx h
  obtain ⟨ρ, hm, ws, u', h', R, rr, e, q⟩ := h
  unfold minW at e
  split at e
  · cases e
    obtain ⟨v, v', rfl, r1, r2⟩ := rws2 rr
    exact call_min2 (G.calm.trans hc) pins s σ H _ us Q I rx ⟨_, _, by rw [rwI r1, rwI r2], q ρ H _ .refl R iI'⟩
  · cases e
theorem cs_max (hc : c.calm = true := by rfl) : CaS Γ c k (.builtin "max") maxW := by
  intro W X G pins s σ H xs us Q I rx h
  obtain ⟨ρ, hm, ws, u', h', R, rr, e, q⟩ := h
  unfold maxW at e
  split at e
  · cases e
    obtain ⟨v, v', rfl, r1, r2⟩ := rws2 rr
    exact call_max2 (G.calm.trans hc) pins s σ H _ us Q I rx ⟨_, _, by rw [rwI r1, rwI r2], q ρ H _ .refl R iI'⟩
  · cases e
theorem cs_int : CaS Γ c k (.type "int") intW := by
  intro W X G pins s σ H xs us Q I rx h
  obtain ⟨ρ, hm, ws, u', h', R, rr, e, q⟩ := h
  unfold intW at e
  split at e
  · cases e
    obtain ⟨v, rfl, r1⟩ := rws1 rr
    exact call_int1 pins s σ H _ us Q I rx (.inl ⟨_, by rw [rwI r1], q ρ H _ .refl R iI'⟩)
  · cases e
    obtain ⟨v, rfl, r1⟩ := rws1 rr
    exact call_int1 pins s σ H _ us Q I rx (.inr ⟨_, by rw [rwB r1], q ρ H _ .refl R iI'⟩)
  · cases e
theorem cs_ord : CaS Γ c k (.builtin "ord") ordW := by
  intro W X G pins s σ H xs us Q I rx h
  obtain ⟨ρ, hm, ws, u', h', R, rr, e, q⟩ := h
  unfold ordW at e
  split at e
  · split at e
    · rename_i hl
      cases e
      obtain ⟨v, rfl, r1⟩ := rws1 rr
      exact call_ord pins s σ H _ us Q I rx ⟨_, by rw [rwS r1], hl, q ρ H _ .refl R iI'⟩
    · cases e
  · cases e
theorem cs_str : CaS Γ c k (.type "str") strW := by
  intro W X G pins s σ H xs us Q I rx h
  obtain ⟨ρ, hm, ws, u', h', R, rr, e, q⟩ := h
  unfold strW at e
  split at e
  · split at e
    · rename_i hl
      cases e
      obtain ⟨v, rfl, r1⟩ := rws1 rr
      exact call_str_int pins s σ H _ us Q I rx ⟨_, by rw [rwI r1], hl, q ρ H _ .refl R iS⟩
    · cases e
  · cases e
theorem cs_list : CaS Γ c k (.type "list") listW := by
  intro W X G pins s σ H xs us Q I rx h
  obtain ⟨ρ, hm, ws, u', h', R, rr, e, q⟩ := h
  unfold listW at e
  split at e
  · obtain ⟨ys, e1, e2⟩ := Option.map_eq_some_iff.mp e
    cases e2
    obtain ⟨v, rfl, r1⟩ := rws1 rr
    obtain ⟨a, zs, rfl, hs, r2⟩ := seq_of R e1 r1
    refine call_list_of pins s σ H _ us Q I rx ⟨a, zs, rfl, by rw [G.K]; exact hs, fun p hp => ?_⟩
    obtain ⟨q1, q2, q3⟩ := R.newL hp r2
    exact q _ _ _ q1 q2 q3
  · cases e
theorem cs_tuple : CaS Γ c k (.type "tuple") tupleW := by
  intro W X G pins s σ H xs us Q I rx h
  obtain ⟨ρ, hm, ws, u', h', R, rr, e, q⟩ := h
  unfold tupleW at e
  split at e
  · obtain ⟨ys, e1, e2⟩ := Option.map_eq_some_iff.mp e
    cases e2
    obtain ⟨v, rfl, r1⟩ := rws1 rr
    obtain ⟨a, zs, rfl, hs, r2⟩ := seq_of R e1 r1
    refine call_tuple_of pins s σ H _ us Q I rx ⟨a, zs, rfl, ?_⟩
    rcases hs with hs | hs
    · refine .inl ⟨by rw [G.K]; exact hs, fun p hp => ?_⟩
      obtain ⟨q1, q2, q3⟩ := R.newT hp r2
      exact q _ _ _ q1 q2 q3
    · exact .inr ⟨by rw [G.K]; exact hs, q ρ H _ .refl R (iT hs r2)⟩
  · cases e

/-! ### isinstance of built-in types -/
def tyC (x : W) (h : Hm) : Option String := match x with
  | .non => some "NoneType"
  | .bl _ => some "bool"
  | .int _ => some "int"
  | .str _ => some "str"
  | .tup _ => some "tuple"
  | .ref r => match h[r]? with
    | some (.lst _) => some "list"
    | some (.frz _) => some "list"
    | some (.dic _) => some "dict"
    | _ => none
  | _ => none
/-- the answers, for the types that occur -/
def kitT : List (String × List String) := [("int", ["int", "bool"]), ("bool", ["bool"]), ("str", ["str"]), ("list", ["list"]), ("tuple", ["tuple"])]
def isiC (T : String) (x : W) (h : Hm) : Option Bool := (tyC x h).bind fun t => (kitT.lookup T).map fun ts => ts.contains t
def xIsi (T : String) (a : XE) : XE := fun σ h => (a σ h).bind fun x h1 => ofO ((isiC T x h1).map fun b => (.bl b, h1))
theorem lookup_mem {α β : Type} [BEq α] [LawfulBEq α] {x : α} {y : β} : ∀ {l : List (α × β)}, l.lookup x = some y → (x, y) ∈ l
  | [], h => by simp at h
  | (a, b) :: r, h => by
    rw [List.lookup_cons] at h
    cases hb : x == a with
    | true =>
      rw [hb] at h
      cases h
      rw [eq_of_beq hb]
      exact List.mem_cons_self
    | false =>
      rw [hb] at h
      exact List.mem_cons_of_mem _ (lookup_mem h)
theorem kitT_ok : ∀ t ∈ ["NoneType", "bool", "int", "str", "tuple", "list", "dict"], ∀ T ∈ kitT, kitB t T.1 = some (T.2.contains t) := by decide +kernel
theorem tyC_of {h : Hm} {x : W} {t : String} {v : V} (R : Rel Γ ρ h H) (e : tyC x h = some t) (r : RelW Γ ρ H x v) : TyX Γ.K H v (.type t) ∧ t ∈ ["NoneType", "bool", "int", "str", "tuple", "list", "dict"] := by
  unfold tyC at e
  split at e
  · cases e; rw [rwN r]; exact ⟨.base .non, by decide⟩
  · cases e; rw [rwB r]; exact ⟨.base (.bl _), by decide⟩
  · cases e; rw [rwI r]; exact ⟨.base (.int _), by decide⟩
  · cases e; rw [rwS r]; exact ⟨.base (.str _), by decide⟩
  · cases e
    obtain ⟨a, ys, rfl, hy, rr⟩ := rwT r
    rcases hy with (hy | ⟨o, hy⟩) | ⟨o, its, n, hk, hc, _⟩
    · exact ⟨.base (.tup hy), by decide⟩
    · exact ⟨.fTuple hy, by decide⟩
    · exact ⟨.kTuple hk hc, by decide⟩
  · split at e
    · rename_i ex
      cases e
      obtain ⟨a, ys, rfl, _, hy, rr⟩ := R.lst ex r
      exact ⟨.base (.lst hy), by decide⟩
    · rename_i ex
      cases e
      obtain ⟨a, ea, rfl⟩ := rwR r
      obtain ⟨a', ea', ys, hy, rr⟩ := R.obj _ _ ex
      rw [ea] at ea'
      cases ea'
      rcases hy with ⟨o, hy⟩ | ⟨o, its, n, hk, hc, _⟩
      · exact ⟨.base (.frz hy), by decide⟩
      · exact ⟨.kList hk hc, by decide⟩
    · rename_i ex
      cases e
      obtain ⟨a, ea, rfl⟩ := rwR r
      obtain ⟨a', ea', gs, hy, rr⟩ := R.obj _ _ ex
      rw [ea] at ea'
      cases ea'
      exact ⟨.base (.dK hy), by decide⟩
    · cases e
  · cases e
theorem se_isi (T : String) (j j' : Nat) (B : Bs Γ) {x : Str} {p1 p2 : Pos} (hx : bootBuiltins x = some (.type T)) (hm : Γ.mg x = none) (hT : (kitT.lookup T).isSome = true) (ha : SE Γ c k a fa) (hG : c.G[j]? = some ("isinstance" : Str) := by rfl) (hG' : c.G[j']? = some x := by rfl) (hn : x ≠ "__name__" := by decide) (hd : (x == ("__debug__" : Str)) = false := by decide)
    (he : ∀ env, starEach [a, .Name x p2] env = (false, eval a env) :: starEach [.Name x p2] env := by intros; rfl) (hpl : ∀ env, (backTo pos (starEach [.Name x p2] env)).any (·.1) = false := by intros; rfl) (hs : ∀ env, starEach [.Name x p2] env = (false, eval (.Name x p2) env) :: starEach [] env := by intros; rfl) :
    SE Γ c k (.Call (.Name "isinstance" p1) [a, .Name x p2] [] pos) (xIsi T fa) := by
  intro W X G
  have ht : PE X (.Name x p2) (tC (.ty T)) := pe_bltn (G.gl (List.mem_of_getElem? hG')) (by rw [G.mg]; exact hm) hx rfl hn hd
  refine PE.imp (pe_callB call_isi (G.gl (List.mem_of_getElem? hG)) (by rw [G.mg]; exact B.isinstance) boot_isinstance (pa_cons (ha W X G) (pa_cons ht pa_nil (hs X.env)) (he X.env)) (by decide) (by decide) (he X.env) (hpl X.env)) fun τ H Q h => ?_
  obtain ⟨ρ, σ, h, R, S, q⟩ := h
  refine ⟨ρ, σ, h, R, S, (O1.bind (R := RelW Γ) q).imp fun v H1 ⟨ρ1, h1, u, l1, R1, r1, q1⟩ => ?_⟩
  obtain ⟨u', h', e, q3⟩ := q1.ofO
  obtain ⟨b, e1, e2⟩ := Option.map_eq_some_iff.mp e
  cases e2
  unfold isiC at e1
  cases e3 : tyC u h1 with
  | none => rw [e3] at e1; cases e1
  | some t =>
    rw [e3] at e1
    obtain ⟨ts, e4, rfl⟩ := Option.map_eq_some_iff.mp e1
    obtain ⟨h3, h4⟩ := tyC_of R1 e3 r1
    refine ⟨v, .ty T, .type t, .type T, ts.contains t, rfl, .ty T, by rw [G.K]; exact h3, ?_, q3 ρ1 H1 _ .refl R1 iB⟩
    exact kit_ty (kitT_ok t h4 (T, ts) (lookup_mem e4))
end
end Z

namespace Z
open PySem PySem.Spec PyProof.Rows L2

/-! ### what loops walk -/
def itSeq (x : W) : Itr := fun i h => (seqC x h).map fun xs => xs[i]?
def itStr (z : Str) : Itr := fun i _ => some (z.cps[i]?.map fun c => .str ⟨#[c]⟩)
def itRng (lo st : Int) (n : Nat) : Itr := fun i _ => some (if i < n then some (.int (lo + (i : Nat) * st)) else none)
def itRev (x : W) (n : Nat) : Itr := fun i h => if i < n then (seqC x h).bind fun xs => (xs[n - 1 - i]?).map fun w => some w else some none
def itZip (x y : W) : Itr := fun i h => (seqC x h).bind fun xs => (seqC y h).map fun ys => match xs[i]?, ys[i]? with
  | some a, some b => some (.tup [a, b])
  | _, _ => none
def itEnum (x : W) : Itr := fun i h => (seqC x h).map fun xs => xs[i]?.map fun w => .tup [.int i, w]
def isL (x : W) (h : Hm) : Bool := match x with
  | .ref r => match h[r]? with
    | some (.lst _) => true
    | some (.frz _) => true
    | _ => false
  | _ => false
def iAny (a : XE) : XI := fun σ h => (a σ h).bind fun x h1 => match x with
  | .str z => .ok (itStr z) h1
  | x => if (seqC x h1).isSome then .ok (itSeq x) h1 else .bad
def smallI (i : Int) : Bool := decide (-(2 ^ 62) ≤ i ∧ i < 2 ^ 62)
def iRng1 (a : XA) : XI := fun σ h => (a σ h).bind fun xs h1 => match xs with
  | [.int j] => if smallI j then .ok (itRng 0 1 j.toNat) h1 else .bad
  | _ => .bad
def iRng2 (a : XA) : XI := fun σ h => (a σ h).bind fun xs h1 => match xs with
  | [.int i, .int j] => if smallI i && smallI j then .ok (itRng i 1 (j - i).toNat) h1 else .bad
  | _ => .bad
def iRng3 (a : XA) : XI := fun σ h => (a σ h).bind fun xs h1 => match xs with
  | [.int i, .int j, .int st] => if st ≠ 0 ∧ st.natAbs < 1073741824 ∧ Builtin.Range.small i j st = true ∧ 0 ≤ Builtin.Range.rangeSize i j st then .ok (itRng i st (Builtin.Range.rangeSize i j st).toNat) h1 else .bad
  | _ => .bad
def iRev (a : XE) : XI := fun σ h => (a σ h).bind fun x h1 => match seqC x h1 with
  | some xs => .ok (itRev x xs.length) h1
  | none => .bad
def iZip (a : XA) : XI := fun σ h => (a σ h).bind fun xs h1 => match xs with
  | [x, y] => if isL x h1 && isL y h1 then .ok (itZip x y) h1 else .bad
  | _ => .bad
def iEnum (a : XA) : XI := fun σ h => (a σ h).bind fun xs h1 => match xs with
  | [x] => if isL x h1 then .ok (itEnum x) h1 else .bad
  | _ => .bad

section
variable {Γ : Gam} {c : Cfg} {k : Nat} {a b e d o i tg : Expr} {es : List Expr} {fa fb fc : XE} {ft fu : XT} {fr : XA} {pos p : Pos} {ρ : List Addr} {H : Hp}
/-- which lists stand behind a value that is walked -/
theorem seqC_later {h h' : Hm} {x : W} {v : V} {ρ' : List Addr} {H' : Hp} {xs : List W} (l : Le Γ ρ ρ' H H') (R' : Rel Γ ρ' h' H') (r : RelW Γ ρ H x v) (e : seqC x h' = some xs) :
    ∃ a ys, v = .ref a ∧ (SqL Γ.K H' a ys ∨ SqT Γ.K H' a ys) ∧ RelWs Γ ρ' H' xs ys := seq_of R' e (RelW.mono l _ _ r)
theorem isL_at {h : Hm} {x : W} {v : V} (R : Rel Γ ρ h H) (e : isL x h = true) (r : RelW Γ ρ H x v) : ∃ r0 a xs ys, x = .ref r0 ∧ v = .ref a ∧ ρ[r0]? = some a ∧ seqC x h = some xs ∧ SqL Γ.K H a ys ∧ RelWs Γ ρ H xs ys := by
  unfold isL at e
  split at e
  · rename_i r0
    obtain ⟨a, ea, rfl⟩ := rwR r
    split at e
    · rename_i xs ex
      obtain ⟨a', ys, e1, _, hy, rr⟩ := R.lst ex r
      cases e1
      exact ⟨r0, a, xs, ys, rfl, rfl, ea, by unfold seqC; simp only [ex], SqL.of hy, rr⟩
    · rename_i xs ex
      obtain ⟨a', ys, e1, hy, rr⟩ := R.frz ex r
      cases e1
      exact ⟨r0, a, xs, ys, rfl, rfl, ea, by unfold seqC; simp only [ex], hy, rr⟩
    · cases e
  · cases e
/-- a list's address stays a list's -/
theorem seqL_later {h : Hm} {r0 : Nat} {xs : List W} {ad : Addr} (R : Rel Γ ρ h H) (ea : ρ[r0]? = some ad) (e : seqC (.ref r0) h = some xs) : ∃ ys, SqL Γ.K H ad ys ∧ RelWs Γ ρ H xs ys := by
  unfold seqC at e
  dsimp only at e
  split at e
  · rename_i ex
    cases e
    obtain ⟨a', ys, e1, _, hy, rr⟩ := R.lst ex (iR ea)
    cases e1
    exact ⟨ys, SqL.of hy, rr⟩
  · rename_i ex
    cases e
    obtain ⟨a', ys, e1, hy, rr⟩ := R.frz ex (iR ea)
    cases e1
    exact ⟨ys, hy, rr⟩
  · cases e
theorem it_list {h : Hm} {r0 : Nat} {ad : Addr} (ea : ρ[r0]? = some ad) : ItR Γ ρ H (itSeq (.ref r0)) (Itl Γ.K ad) := by
  intro i ρ' h' H' l R'
  refine ⟨fun e => ?_, fun w e => ?_⟩
  · obtain ⟨xs, e1, e2⟩ := Option.map_eq_some_iff.mp e
    obtain ⟨ys, hy, rr⟩ := seqL_later R' (l.at ea) e1
    exact ⟨ys, hy, by rw [← rr.length]; exact List.getElem?_eq_none_iff.mp e2⟩
  · obtain ⟨xs, e1, e2⟩ := Option.map_eq_some_iff.mp e
    obtain ⟨ys, hy, rr⟩ := seqL_later R' (l.at ea) e1
    obtain ⟨v, e3, r3⟩ := rr.get e2
    refine ⟨⟨ys, v, hy, e3⟩, fun x H2 y => ?_⟩
    obtain ⟨rfl, y⟩ := y
    have := y ys hy
    rw [e3] at this
    cases this
    exact ⟨.refl, R', r3⟩
theorem it_tup {ys : List V} {xs : List W} {ad : Addr} (hy : SqT Γ.K H ad ys) (rr : RelWs Γ ρ H xs ys) : ItR Γ ρ H (itSeq (.tup xs)) (Itt Γ.K ad) := by
  intro i ρ' h' H' l R'
  have hy' := l.tup _ _ hy
  have rr' := RelWs.mono l _ _ rr
  refine ⟨fun e => ?_, fun w e => ?_⟩
  · obtain ⟨xs', e1, e2⟩ := Option.map_eq_some_iff.mp e
    cases e1
    exact ⟨ys, hy', by rw [← rr.length]; exact List.getElem?_eq_none_iff.mp e2⟩
  · obtain ⟨xs', e1, e2⟩ := Option.map_eq_some_iff.mp e
    cases e1
    obtain ⟨v, e3, r3⟩ := rr'.get e2
    refine ⟨⟨ys, v, hy', e3⟩, fun x H2 y => ?_⟩
    obtain ⟨rfl, y⟩ := y
    have := y ys hy'
    rw [e3] at this
    cases this
    exact ⟨.refl, R', r3⟩
theorem it_str {z : Str} : ItR Γ ρ H (itStr z) (Its z) := by
  intro i ρ' h' H' l R'
  refine ⟨fun e => ?_, fun w e => ?_⟩
  · have e : z.cps[i]?.map (fun c => W.str ⟨#[c]⟩) = none := Option.some.inj e
    have e : z.cps[i]? = none := by simpa using e
    exact Array.getElem?_eq_none_iff.mp e
  · have e : z.cps[i]?.map (fun c => W.str ⟨#[c]⟩) = some w := Option.some.inj e
    obtain ⟨cp, e1, rfl⟩ := Option.map_eq_some_iff.mp e
    refine ⟨(Array.getElem?_eq_some_iff.mp e1).1, fun x H2 y => ?_⟩
    obtain ⟨rfl, cp', e2, rfl⟩ := y
    rw [e1] at e2
    cases e2
    exact ⟨.refl, R', iS⟩
theorem it_rng {lo : Int} {n : Nat} : ItR Γ ρ H (itRng lo 1 n) (L2.Itr lo n) := by
  intro i ρ' h' H' l R'
  refine ⟨fun e => ?_, fun w e => ?_⟩
  · have e : (if i < n then some (W.int (lo + (i : Nat) * 1)) else none) = none := Option.some.inj e
    split at e
    · cases e
    · show n ≤ i
      omega
  · have e : (if i < n then some (W.int (lo + (i : Nat) * 1)) else none) = some w := Option.some.inj e
    split at e
    · rename_i hi
      cases e
      refine ⟨hi, fun x H2 y => ?_⟩
      obtain ⟨rfl, rfl⟩ := y
      rw [Int.mul_one]
      exact ⟨.refl, R', iI'⟩
    · cases e
theorem it_rngC {lo st : Int} {n : Nat} : ItR Γ ρ H (itRng lo st n) (Itc lo st n) := by
  intro i ρ' h' H' l R'
  refine ⟨fun e => ?_, fun w e => ?_⟩
  · have e : (if i < n then some (W.int (lo + (i : Nat) * st)) else none) = none := Option.some.inj e
    split at e
    · cases e
    · show n ≤ i
      omega
  · have e : (if i < n then some (W.int (lo + (i : Nat) * st)) else none) = some w := Option.some.inj e
    split at e
    · rename_i hi
      cases e
      refine ⟨hi, fun x H2 y => ?_⟩
      obtain ⟨rfl, rfl⟩ := y
      exact ⟨.refl, R', iI'⟩
    · cases e
theorem it_rev {r0 : Nat} {ad : Addr} {n : Nat} (ea : ρ[r0]? = some ad) : ItR Γ ρ H (itRev (.ref r0) n) (Itv Γ.K ad n) := by
  intro i ρ' h' H' l R'
  unfold itRev
  refine ⟨fun e => ?_, fun w e => ?_⟩
  · split at e
    · obtain ⟨xs, e1, e2⟩ := Option.bind_eq_some_iff.mp e
      obtain ⟨w, e3, e4⟩ := Option.map_eq_some_iff.mp e2
      cases e4
    · show n ≤ i
      omega
  · split at e
    · rename_i hi
      obtain ⟨xs, e1, e2⟩ := Option.bind_eq_some_iff.mp e
      obtain ⟨w', e3, e4⟩ := Option.map_eq_some_iff.mp e2
      cases e4
      obtain ⟨ys, hy, rr⟩ := seqL_later R' (l.at ea) e1
      obtain ⟨v, e5, r5⟩ := rr.get e3
      refine ⟨⟨hi, ys, v, hy, e5⟩, fun x H2 y => ?_⟩
      obtain ⟨rfl, y⟩ := y
      have := y ys hy
      rw [e5] at this
      cases this
      exact ⟨.refl, R', r5⟩
    · cases e
theorem it_zip {r0 r1 : Nat} {a0 a1 : Addr} (e0 : ρ[r0]? = some a0) (e1 : ρ[r1]? = some a1) : ItR Γ ρ H (itZip (.ref r0) (.ref r1)) (Itz Γ.K a0 a1) := by
  intro i ρ' h' H' l R'
  unfold itZip
  refine ⟨fun e => ?_, fun w e => ?_⟩
  · obtain ⟨xs, f1, f2⟩ := Option.bind_eq_some_iff.mp e
    obtain ⟨ys, f3, f4⟩ := Option.map_eq_some_iff.mp f2
    obtain ⟨vs, hx, rx⟩ := seqL_later R' (l.at e0) f1
    obtain ⟨us, hy, ry⟩ := seqL_later R' (l.at e1) f3
    refine ⟨vs, us, hx, hy, ?_⟩
    rw [← rx.length, ← ry.length]
    split at f4
    · cases f4
    · rename_i hne
      cases g1 : xs[i]? with
      | none => exact .inl (List.getElem?_eq_none_iff.mp g1)
      | some a =>
        cases g2 : ys[i]? with
        | none => exact .inr (List.getElem?_eq_none_iff.mp g2)
        | some b => exact (hne a b g1 g2).elim
  · obtain ⟨xs, f1, f2⟩ := Option.bind_eq_some_iff.mp e
    obtain ⟨ys, f3, f4⟩ := Option.map_eq_some_iff.mp f2
    obtain ⟨vs, hx, rx⟩ := seqL_later R' (l.at e0) f1
    obtain ⟨us, hy, ry⟩ := seqL_later R' (l.at e1) f3
    split at f4
    · rename_i a b g1 g2
      cases f4
      obtain ⟨v, h1, q1⟩ := rx.get g1
      obtain ⟨u, h2, q2⟩ := ry.get g2
      refine ⟨⟨vs, us, v, u, hx, hy, h1, h2⟩, fun x H2 y => ?_⟩
      obtain ⟨T, x1, y1, rfl, hT, rfl, y3, y4⟩ := y
      have z1 := y3 vs hx
      have z2 := y4 us hy
      rw [h1] at z1
      rw [h2] at z2
      cases z1
      cases z2
      exact R'.newT hT (RelWs.cons q1 (RelWs.cons q2 RelWs.nil))
    · cases f4
theorem it_enum {r0 : Nat} {a0 : Addr} (e0 : ρ[r0]? = some a0) : ItR Γ ρ H (itEnum (.ref r0)) (Ite Γ.K a0) := by
  intro i ρ' h' H' l R'
  unfold itEnum
  refine ⟨fun e => ?_, fun w e => ?_⟩
  · obtain ⟨xs, f1, f2⟩ := Option.map_eq_some_iff.mp e
    obtain ⟨vs, hx, rx⟩ := seqL_later R' (l.at e0) f1
    refine ⟨vs, hx, ?_⟩
    rw [← rx.length]
    have : xs[i]? = none := by simpa using f2
    exact List.getElem?_eq_none_iff.mp this
  · obtain ⟨xs, f1, f2⟩ := Option.map_eq_some_iff.mp e
    obtain ⟨vs, hx, rx⟩ := seqL_later R' (l.at e0) f1
    obtain ⟨a, g1, rfl⟩ := Option.map_eq_some_iff.mp f2
    obtain ⟨v, h1, q1⟩ := rx.get g1
    refine ⟨⟨vs, v, hx, h1⟩, fun x H2 y => ?_⟩
    obtain ⟨T, x1, rfl, hT, rfl, y3⟩ := y
    have z1 := y3 vs hx
    rw [h1] at z1
    cases z1
    exact R'.newT hT (RelWs.cons iI' (RelWs.cons q1 RelWs.nil))

/-- an expression that gives a list, a tuple or a text -/
theorem si_any (ha : SE Γ c k a fa) : SI Γ c k tg a (iAny fa) := by
  intro W X G
  refine ⟨fun pins s τ H R' I h => ?_⟩
  obtain ⟨ρ, σ, h, R, S, q⟩ := h
  refine thn ((ha W X G).run pins s τ H (fun v H1 => ∃ ρ1 h1 x, Rel Γ ρ1 h1 H1 ∧ RelW Γ ρ1 H1 x v ∧ O1 Γ (ItR Γ) ρ1 H1 (match x with
      | .str z => .ok (itStr z) h1
      | x => if (seqC x h1).isSome then .ok (itSeq x) h1 else .bad) R' (fun cls d H' => W cls d τ H')) I ⟨ρ, σ, h, R, S, (O1.bind (R := RelW Γ) q).imp fun x H1 ⟨ρ1, h1, u, l1, R1, r1, q1⟩ => ⟨ρ1, h1, u, R1, r1, q1⟩⟩) fun v s1 ⟨x, H1, I1, r1, ρ1, h1, u, R1, ru, q1⟩ => ?_
  split at q1
  · rename_i z
    have e := rwS ru
    subst e
    obtain ⟨t, rfl⟩ := r1
    have q2 := q1 ρ1 H1 (Its z) .refl R1 it_str
    cases ha : z.cps.all (· < 128)
    · exact wpAny_pyIter_wide ha (pi_one (tk := s1.toks) I1 _ (turn_str _ z t "str_iterator" (.inr rfl)) ⟨_, Heap.get?_push_size _ rfl, rfl, rfl⟩ q2)
    · exact wpAny_pyIter_ascii ha (pi_one (tk := s1.toks) I1 _ (turn_str _ z t "str_ascii_iterator" (.inl rfl)) ⟨_, Heap.get?_push_size _ rfl, rfl, rfl⟩ q2)
  · split at q1
    · rename_i hs
      have list : ∀ {r0 : Nat} {ad : Addr} {ys : List V}, u = .ref r0 → ρ1[r0]? = some ad → x = .ref ad → SqL Γ.K H1 ad ys → wpAny (model X.prog X.w) X.A (pyIter v) (PIE X pins τ tg R') X.xe s1 := fun {r0 ad ys} e1 e2 e3 hq => by
        subst e1 e3
        cases (show v = Value.ref ad from r1)
        have q2 := q1 ρ1 H1 (Itl Γ.K ad) .refl R1 (it_list (h := h1) e2)
        rw [← G.K] at hq q2
        obtain ⟨its, rv, p, hz⟩ := I1.list hq
        refine wpAny_pyIter_list p.isList ?_
        refine ⟨s1.heap.objs.size, [s1.heap.objs.size], _, _, H1, rfl, I1.kept (t' := s1.toks) fun b o e => Heap.get?_push_of_some _ e, turn_list ad _, ⟨_, Heap.get?_push_size _ rfl, rfl, rfl⟩, fun b hb => ?_, q2⟩
        have e : b = s1.heap.objs.size := by simpa using hb
        subst e
        exact I1.fpOk (Nat.le_refl _) (I1.hok.fresh (Nat.le_refl _))
      cases u with
      | tup xs =>
        obtain ⟨ad, ys, e3, hq, rr⟩ := rwT ru
        subst e3
        cases (show v = Value.ref ad from r1)
        have q2 := q1 ρ1 H1 (Itt Γ.K ad) .refl R1 (it_tup hq rr)
        rw [← G.K] at hq q2
        obtain ⟨its, rv, p, hz⟩ := I1.tuple hq
        refine wpAny_pyIter_tuple (show s1.heap.IsTuple ad its.toArray from p) ?_
        refine ⟨s1.heap.objs.size, [s1.heap.objs.size], _, _, H1, rfl, I1.kept (t' := s1.toks) fun b o e => Heap.get?_push_of_some _ e, turn_tuple ad _, ⟨_, Heap.get?_push_size _ rfl, rfl, rfl⟩, fun b hb => ?_, q2⟩
        have e : b = s1.heap.objs.size := by simpa using hb
        subst e
        exact I1.fpOk (Nat.le_refl _) (I1.hok.fresh (Nat.le_refl _))
      | ref r0 =>
        obtain ⟨ad, ea, e3⟩ := rwR ru
        cases e4 : seqC (.ref r0) h1 with
        | none => rw [e4] at hs; cases hs
        | some xs =>
          obtain ⟨ys, hq, _⟩ := seqL_later R1 ea e4
          exact list rfl ea e3 hq
      | _ => cases hs
    · exact q1.elim
theorem smallI_of {i : Int} (h : smallI i = true) : -(2 ^ 62) ≤ i ∧ i < 2 ^ 62 := of_decide_eq_true h
theorem si_rng1 (j : Nat) (B : Bs Γ) (ha : SA Γ c k [a] fr) (hG : c.G[j]? = some ("range" : Str) := by rfl) (hs : ∀ env, starEach [a] env = [(false, eval a env)] := by intros; rfl) : SI Γ c k tg (.Call (.Name "range" p) [a] [] pos) (iRng1 fr) := by
  intro W X G
  refine PI.imp (pi_range1 (G.gl (List.mem_of_getElem? hG)) (by rw [G.mg]; exact B.range) (ha W X G) (hs X.env)) fun τ H Q h => ?_
  obtain ⟨ρ, σ, h, R, S, q⟩ := h
  refine ⟨ρ, σ, h, R, S, (O1.bind (R := RelWs Γ) q).imp fun x H1 ⟨ρ1, h1, u, l1, R1, r1, q1⟩ => ?_⟩
  split at q1
  · split at q1
    · rename_i hl
      obtain ⟨v, rfl, r2⟩ := rws1 r1
      obtain ⟨b1, b2⟩ := smallI_of hl
      exact ⟨_, by rw [rwI r2], b1, b2, q1 ρ1 H1 _ .refl R1 it_rng⟩
    · exact q1.elim
  · exact q1.elim
theorem si_rng2 (j : Nat) (B : Bs Γ) (ha : SA Γ c k [a, b] fr) (hG : c.G[j]? = some ("range" : Str) := by rfl) (hs : ∀ env, starEach [a, b] env = [(false, eval a env), (false, eval b env)] := by intros; rfl) (hs2 : ∀ env, starEach [b] env = [(false, eval b env)] := by intros; rfl) : SI Γ c k tg (.Call (.Name "range" p) [a, b] [] pos) (iRng2 fr) := by
  intro W X G
  refine PI.imp (pi_range2 (G.gl (List.mem_of_getElem? hG)) (by rw [G.mg]; exact B.range) (ha W X G) (hs X.env) (hs2 X.env)) fun τ H Q h => ?_
  obtain ⟨ρ, σ, h, R, S, q⟩ := h
  refine ⟨ρ, σ, h, R, S, (O1.bind (R := RelWs Γ) q).imp fun x H1 ⟨ρ1, h1, u, l1, R1, r1, q1⟩ => ?_⟩
  split at q1
  · split at q1
    · rename_i hl
      obtain ⟨v, v', rfl, r2, r3⟩ := rws2 r1
      rw [Bool.and_eq_true] at hl
      obtain ⟨b1, b2⟩ := smallI_of hl.1
      obtain ⟨b3, b4⟩ := smallI_of hl.2
      exact ⟨_, _, by rw [rwI r2, rwI r3], ⟨b1, b2, b3, b4⟩, q1 ρ1 H1 _ .refl R1 it_rng⟩
    · exact q1.elim
  · exact q1.elim
theorem rws3 {w w' w'' : W} {vs : List V} (r : RelWs Γ ρ H [w, w', w''] vs) : ∃ v v' v'', vs = [v, v', v''] ∧ RelW Γ ρ H w v ∧ RelW Γ ρ H w' v' ∧ RelW Γ ρ H w'' v'' := by
  unfold RelWs at r
  obtain ⟨y, r', rfl, h1, h2⟩ := r
  obtain ⟨v', v'', rfl, h3, h4⟩ := rws2 h2
  exact ⟨y, v', v'', rfl, h1, h3, h4⟩
theorem si_rng3 (j : Nat) (B : Bs Γ) (ha : SA Γ c k [a, b, d] fr) (hG : c.G[j]? = some ("range" : Str) := by rfl) (h0 : ∀ env, starEach [a, b, d] env = (false, eval a env) :: starEach [b, d] env := by intros; rfl) (h1 : ∀ env, (backTo pos (starEach [b, d] env)).any (·.1) = false := by intros; rfl) : SI Γ c k tg (.Call (.Name "range" p) [a, b, d] [] pos) (iRng3 fr) := by
  intro W X G
  refine PI.imp (pi_range3 (G.gl (List.mem_of_getElem? hG)) (by rw [G.mg]; exact B.range) (ha W X G) (h0 X.env) (h1 X.env)) fun τ H Q h => ?_
  obtain ⟨ρ, σ, h, R, S, q⟩ := h
  refine ⟨ρ, σ, h, R, S, (O1.bind (R := RelWs Γ) q).imp fun x H1 ⟨ρ1, h1, u, l1, R1, r1, q1⟩ => ?_⟩
  split at q1
  · split at q1
    · rename_i hl
      obtain ⟨v, v', v'', rfl, r2, r3, r4⟩ := rws3 r1
      exact ⟨_, _, _, _, by rw [rwI r2, rwI r3, rwI r4], ⟨hl.1, hl.2.1, hl.2.2.1, (Int.toNat_of_nonneg hl.2.2.2).symm⟩, q1 ρ1 H1 _ .refl R1 it_rngC⟩
    · exact q1.elim
  · exact q1.elim
theorem si_rev (j : Nat) (B : Bs Γ) (ha : SE Γ c k a fa) (hG : c.G[j]? = some ("reversed" : Str) := by rfl) (hs : ∀ env, starEach [a] env = (false, eval a env) :: starEach [] env := by intros; rfl) : SI Γ c k tg (.Call (.Name "reversed" p) [a] [] pos) (iRev fa) := by
  intro W X G
  refine PI.imp (RT.pi_revA (G.gl (List.mem_of_getElem? hG)) (by rw [G.mg]; exact B.reversed) (ha W X G) (hs X.env)) fun τ H Q h => ?_
  obtain ⟨ρ, σ, h, R, S, q⟩ := h
  refine ⟨ρ, σ, h, R, S, (O1.bind (R := RelW Γ) q).imp fun x H1 ⟨ρ1, h1, u, l1, R1, r1, q1⟩ => ?_⟩
  rw [G.K]
  split at q1
  · rename_i xs e1
    cases u with
    | ref r0 =>
      obtain ⟨ad, ea, rfl⟩ := rwR r1
      obtain ⟨ys, hy, rr⟩ := seqL_later R1 ea e1
      exact ⟨ad, ys, rfl, .inl ⟨hy, by rw [← rr.length]; exact q1 ρ1 H1 _ .refl R1 (it_rev ea)⟩⟩
    | tup zs =>
      cases e1
      obtain ⟨ad, ys, rfl, hy, rr⟩ := rwT r1
      refine ⟨ad, ys, rfl, .inr ⟨hy, q1 ρ1 H1 _ .refl R1 ?_⟩⟩
      intro i ρ' h' H' l R'
      have hy' := l.tup _ _ hy
      have rr' := RelWs.mono l _ _ rr
      unfold itRev
      refine ⟨fun e => ?_, fun w e => ?_⟩
      · split at e
        · obtain ⟨xs, e1, e2⟩ := Option.bind_eq_some_iff.mp e
          obtain ⟨w, e3, e4⟩ := Option.map_eq_some_iff.mp e2
          cases e4
        · show ys.length ≤ i
          rw [← rr.length]
          omega
      · split at e
        · rename_i hi
          obtain ⟨xs, e1, e2⟩ := Option.bind_eq_some_iff.mp e
          obtain ⟨w', e3, e4⟩ := Option.map_eq_some_iff.mp e2
          cases e4
          cases e1
          obtain ⟨v, e5, r5⟩ := rr'.get e3
          rw [rr.length] at e5
          refine ⟨⟨by rw [← rr.length]; exact hi, ys, v, hy', e5⟩, fun x H2 y => ?_⟩
          obtain ⟨rfl, y⟩ := y
          have := y ys hy'
          rw [e5] at this
          cases this
          exact ⟨.refl, R', r5⟩
        · cases e
    | _ => cases e1
  · exact q1.elim
theorem si_zip (j : Nat) (B : Bs Γ) {elts : List Expr} {kk : Nat} {tpos : Pos} (ha : SA Γ c k [a, b] fr) (hG : c.G[j]? = some ("zip" : Str) := by rfl) (hs : ∀ env, starEach [a, b] env = (false, eval a env) :: starEach [b] env := by intros; rfl) (hpl : ∀ env, (backTo pos (starEach [b] env)).any (·.1) = false := by intros; rfl) :
    SI Γ c k (.Tuple elts kk tpos) (.Call (.Name "zip" p) [a, b] [] pos) (iZip fr) := by
  intro W X G
  refine PI.imp (pi_zip (G.gl (List.mem_of_getElem? hG)) (by rw [G.mg]; exact B.zip) (ha W X G) (hs X.env) (hpl X.env)) fun τ H Q h => ?_
  obtain ⟨ρ, σ, h, R, S, q⟩ := h
  refine ⟨ρ, σ, h, R, S, (O1.bind (R := RelWs Γ) q).imp fun x H1 ⟨ρ1, h1, u, l1, R1, r1, q1⟩ => ?_⟩
  rw [G.K]
  split at q1
  · split at q1
    · rename_i hl
      rw [Bool.and_eq_true] at hl
      obtain ⟨v, v', rfl, r2, r3⟩ := rws2 r1
      obtain ⟨i0, a0, xs, ys, rfl, rfl, e0, _, hq0, _⟩ := isL_at R1 hl.1 r2
      obtain ⟨i1, a1, xs1, ys1, rfl, rfl, e1, _, hq1, _⟩ := isL_at R1 hl.2 r3
      exact ⟨a0, a1, ys, ys1, rfl, hq0, hq1, q1 ρ1 H1 _ .refl R1 (it_zip e0 e1)⟩
    · exact q1.elim
  · exact q1.elim
theorem si_enum (j : Nat) (B : Bs Γ) {elts : List Expr} {kk : Nat} {tpos : Pos} (ha : SA Γ c k [a] fr) (hG : c.G[j]? = some ("enumerate" : Str) := by rfl) (hs : ∀ env, starEach [a] env = [(false, eval a env)] := by intros; rfl) :
    SI Γ c k (.Tuple elts kk tpos) (.Call (.Name "enumerate" p) [a] [] pos) (iEnum fr) := by
  intro W X G
  refine PI.imp (pi_enum (G.gl (List.mem_of_getElem? hG)) (by rw [G.mg]; exact B.enumerate) (ha W X G) (hs X.env)) fun τ H Q h => ?_
  obtain ⟨ρ, σ, h, R, S, q⟩ := h
  refine ⟨ρ, σ, h, R, S, (O1.bind (R := RelWs Γ) q).imp fun x H1 ⟨ρ1, h1, u, l1, R1, r1, q1⟩ => ?_⟩
  rw [G.K]
  split at q1
  · split at q1
    · rename_i hl
      obtain ⟨v, rfl, r2⟩ := rws1 r1
      obtain ⟨i0, a0, xs, ys, rfl, rfl, e0, _, hq0, _⟩ := isL_at R1 hl r2
      exact ⟨a0, ys, rfl, hq0, q1 ρ1 H1 _ .refl R1 (it_enum e0)⟩
    · exact q1.elim
  · exact q1.elim
end
end Z

namespace Z
open PySem PySem.Spec PyProof.Rows L2

/-! ### methods of built-in types -/
def rM (Γ : Gam) (g : W → List W → Hm → Pr) : V → List V → Hp → VK → Prop := fun x xs H Q => ∃ ρ h u us u' h', Rel Γ ρ h H ∧ RelW Γ ρ H u x ∧ RelWs Γ ρ H us xs ∧ g u us h = some (u', h') ∧ ∀ ρ' H' v, Le Γ ρ ρ' H H' → Rel Γ ρ' h' H' → RelW Γ ρ' H' u' v → Q v H'
def MtS (Γ : Gam) (c : Cfg) (k : Nat) (id : String) (g : W → List W → Hm → Pr) : Prop := ∀ W X, Good Γ c k W X → MtR X id (rM Γ g)
def isS (x : W) (_ : Hm) : Bool := match x with
  | .str _ => true
  | _ => false
def xMeth (t : W → Hm → Bool) (g : W → List W → Hm → Pr) (o : XE) (a : XA) : XE := fun σ h => (o σ h).bind fun x h1 => if t x h1 then (a σ h1).bind fun xs h2 => ofO (g x xs h2) else .bad
def appW (x : W) (xs : List W) (h : Hm) : Pr := match x, xs with
  | .ref r, [y] => match h[r]? with
    | some (.lst zs) => if zs.length < 16777216 then some (.non, h.set r (.lst (zs ++ [y]))) else none
    | _ => none
  | _, _ => none
def extW (x : W) (xs : List W) (h : Hm) : Pr := match x, xs with
  | .ref r, [.ref s] => match h[r]?, h[s]? with
    | some (.lst zs), some (.lst ys) => if zs.length + ys.length ≤ 16777216 then some (.non, h.set r (.lst (zs ++ ys))) else none
    | _, _ => none
  | _, _ => none
def strs? : List W → Option (List Str)
  | [] => some []
  | .str x :: r => (strs? r).map fun l => x :: l
  | _ :: _ => none
def joinW (x : W) (xs : List W) (h : Hm) : Pr := match x, xs with
  | .str a, [y] => (seqC y h).bind fun ys => (strs? ys).bind fun zs => if (zs.map (·.length)).sum + zs.length * a.length ≤ 16777216 then some (.str (Txt.join a zs), h) else none
  | _, _ => none
section
variable {Γ : Gam} {c : Cfg} {k : Nat} {a b e d o i tg : Expr} {es : List Expr} {fa fb fc : XE} {ft fu : XT} {fr : XA} {pos p : Pos} {ρ : List Addr} {H : Hp}
theorem ms_append : MtS Γ c k "list.append" appW := by
  intro W X G pins s σ H x xs v us Q I rx rxs h
  obtain ⟨ρ, hm, u, ws, u', h', R, ru, rws, e, q⟩ := h
  unfold appW at e
  split at e
  · split at e
    · rename_i ex
      split at e
      · rename_i hl
        cases e
        obtain ⟨y, rfl, ry⟩ := rws1 rws
        obtain ⟨l, ys, rfl, ea, hy, r1⟩ := R.lst ex ru
        refine mt_append pins s σ H _ _ v us Q I rx rxs ⟨l, ys, y, rfl, rfl, hy, by rw [sizeLine_eq, ← r1.length]; exact hl, ?_⟩
        obtain ⟨q1, q2⟩ := R.setL ex ea hy (r1.append (RelWs.cons ry RelWs.nil))
        exact q _ _ _ q1 q2 iN
      · cases e
    · cases e
  · cases e
theorem ms_extend : MtS Γ c k "list.extend" extW := by
  intro W X G pins s σ H x xs v us Q I rx rxs h
  obtain ⟨ρ, hm, u, ws, u', h', R, ru, rws, e, q⟩ := h
  unfold extW at e
  split at e
  · split at e
    · rename_i ex ey
      split at e
      · rename_i hl
        cases e
        obtain ⟨y, rfl, ry⟩ := rws1 rws
        obtain ⟨l, ys, rfl, ea, hy, r1⟩ := R.lst ex ru
        obtain ⟨l2, zs, rfl, _, hz, r2⟩ := R.lst ey ry
        refine mt_extend pins s σ H _ _ v us Q I rx rxs ⟨l, l2, ys, zs, rfl, rfl, hy, hz, by rw [sizeLine_eq, ← r1.length, ← r2.length]; exact hl, ?_⟩
        obtain ⟨q1, q2⟩ := R.setL ex ea hy (r1.append r2)
        exact q _ _ _ q1 q2 iN
      · cases e
    · cases e
  · cases e
theorem strs_of : ∀ {ws : List W} {zs : List Str} {vs : List V}, strs? ws = some zs → RelWs Γ ρ H ws vs → vs = zs.map V.str
  | [], zs, vs, e, r => by
    unfold RelWs at r
    subst r
    cases e
    rfl
  | w :: ws, zs, vs, e, r => by
    unfold RelWs at r
    obtain ⟨y, r', rfl, r1, r2⟩ := r
    cases w with
    | str x =>
      unfold strs? at e
      obtain ⟨l, e1, rfl⟩ := Option.map_eq_some_iff.mp e
      rw [rwS r1, strs_of e1 r2]
      rfl
    | _ => cases e
theorem ms_join : MtS Γ c k "str.join" joinW := by
  intro W X G pins s σ H x xs v us Q I rx rxs h
  obtain ⟨ρ, hm, u, ws, u', h', R, ru, rws, e, q⟩ := h
  unfold joinW at e
  split at e
  · obtain ⟨ys, e1, e2⟩ := Option.bind_eq_some_iff.mp e
    obtain ⟨zs, e3, e4⟩ := Option.bind_eq_some_iff.mp e2
    split at e4
    · rename_i hl
      cases e4
      obtain ⟨y, rfl, ry⟩ := rws1 rws
      obtain ⟨p, vs, rfl, hs, rr⟩ := seq_of R e1 ry
      have e5 := strs_of e3 rr
      subst e5
      exact mt_join pins s σ H _ _ v us Q I rx rxs ⟨_, p, zs, rwS ru, rfl, by rw [G.K]; exact hs, hl, q ρ H _ .refl R iS⟩
    · cases e4
  · cases e
theorem isL_ty {h : Hm} {x : W} {v : V} (R : Rel Γ ρ h H) (e : isL x h = true) (r : RelW Γ ρ H x v) : tyV Γ.K "list" v H := by
  obtain ⟨r0, a, xs, ys, rfl, rfl, _, _, hq, _⟩ := isL_at R e r
  exact .inl ⟨rfl, ys, hq⟩
theorem isS_ty {h : Hm} {x : W} {v : V} (R : Rel Γ ρ h H) (e : isS x h = true) (r : RelW Γ ρ H x v) : tyV Γ.K "str" v H := by
  cases x with
  | str z => rw [rwS r]; rfl
  | _ => cases e
theorem se_bm {name : Str} {apos cpos : Pos} {T id : String} {t : W → Hm → Bool} {g : W → List W → Hm → Pr} (pa : PlainAttrs T) (slot : Slot T name id) (hty : typeOf (.builtin id) = pure (.type "method_descriptor")) (hm : MtS Γ c k id g)
    (ht : ∀ {ρ : List Addr} {H : Hp} {h : Hm} {x : W} {v : V}, Rel Γ ρ h H → t x h = true → RelW Γ ρ H x v → tyV Γ.K T v H) (ho : SE Γ c k o fa) (ha : SA Γ c k (e :: es) fr)
    (hbase : ∀ env, attributeBase o name env (eval o env) = eval o env := by intros; rfl)
    (hfew : ∀ env, ((backTo cpos (starEach (e :: es) env)).all (fun x => !x.1) && (backToKw cpos (keywordEach [] env)).all (fun x => x.1.isSome)
      && decide ((e :: es).length + ([] : List Keyword).length + (if ([] : List Keyword).isEmpty then 0 else 1) < 30)) = true := by intros; rfl)
    (hline : (apos.endLine == cpos.line) = true := by rfl) (hs : ∀ env, starEach (e :: es) env = (false, eval e env) :: starEach es env := by intros; rfl) (hplain : ∀ env, (backTo cpos (starEach es env)).any (·.1) = false := by intros; rfl) :
    SE Γ c k (.Call (.Attribute o name apos) (e :: es) [] cpos) (xMeth t g fa fr) := by
  intro W X G
  refine PE.imp (pe_bm pa slot hty (hm W X G) (ho W X G) (ha W X G) (hbase X.env) (hfew X.env) hline (hs X.env) (hplain X.env)) fun τ H Q h => ?_
  obtain ⟨ρ, σ, h, R, S, q⟩ := h
  refine ⟨ρ, σ, h, R, S, (O1.bind (R := RelW Γ) q).imp fun v H1 ⟨ρ1, h1, u, l1, R1, r1, q1⟩ => ?_⟩
  split at q1
  · rename_i et
    refine ⟨by rw [G.K]; exact ht R1 et r1, ρ1, σ, h1, R1, S.mono l1, (O1.bind (R := RelWs Γ) q1).imp fun vs H2 ⟨ρ2, h2, us, l2, R2, r2, q2⟩ => ?_⟩
    obtain ⟨u', h', e, q3⟩ := q2.ofO
    exact ⟨ρ2, h2, u, us, u', h', R2, RelW.mono l2 _ _ r1, r2, e, q3⟩
  · exact q1.elim
/-- o.bit_length() -/
def bitsW (x : W) (h : Hm) : Pr := match x with
  | .int i => some (.int (Builtin.Int.intBits i : Nat), h)
  | _ => none
theorem se_bits {apos : Pos} (ho : SE Γ c k o fa) (hbase : ∀ env, attributeBase o "bit_length" env (eval o env) = eval o env := by intros; rfl) (hline : (apos.endLine == pos.line) = true := by rfl) : SE Γ c k (.Call (.Attribute o "bit_length" apos) [] [] pos) (xUn bitsW fa) := by
  intro W X G
  refine PE.imp (pe_bits (ho W X G) (hbase X.env) hline) fun τ H Q h => ?_
  obtain ⟨ρ, σ, h, R, S, q⟩ := h
  refine ⟨ρ, σ, h, R, S, (O1.bind (R := RelW Γ) q).imp fun v H1 ⟨ρ1, h1, u, l1, R1, r1, q1⟩ => ?_⟩
  obtain ⟨u', h', e, q3⟩ := q1.ofO
  unfold bitsW at e
  split at e
  · cases e
    exact ⟨_, rwI r1, q3 ρ1 H1 _ .refl R1 iI'⟩
  · cases e
end

/-! ### list comprehensions -/
def wipeS (σ : Sg) : List Nat → Sg
  | [] => σ
  | v :: vs => (wipeS σ vs).set v none
def compL (it : Z.Itr) (g : XG) (t : XT) (e : XE) (d : Nat) (σ0 : Sg) : Nat → Nat → Hm → Out W
  | 0, _, _ => .bad
  | n + 1, i, h => match it i h with
    | none => .bad
    | some none => .ok (.ref d) h
    | some (some w) => match g w σ0 h with
      | none => .bad
      | some σ1 => match t σ1 h with
        | .ok true h1 => match e σ1 h1 with
          | .ok y h2 => match h2[d]? with
            | some (.lst acc) => if acc.length < 16777216 then compL it g t e d σ0 n (i + 1) (h2.set d (.lst (acc ++ [y]))) else .bad
            | _ => .bad
          | _ => .bad
        | .ok false h1 => compL it g t e d σ0 n (i + 1) h1
        | _ => .bad
def xComp (fi : XI) (g : XG) (t : XT) (e : XE) (own : List Nat) : XE := fun σ h => (fi σ h).bind fun it h1 => compL it g t e h1.length (wipeS σ own) fuel 0 (h1 ++ [.lst []])
def xTrue : XT := fun _ h => .ok true h
section
variable {Γ : Gam} {c c' : Cfg} {k : Nat} {a b e d o i tg iter : Expr} {es ifs : List Expr} {fa fb fc : XE} {ft fu : XT} {fr : XA} {pos p : Pos} {ρ : List Addr} {H : Hp}
theorem wipe_get (τ : L2.St) (j : Nat) : ∀ vs : List Nat, (wipe τ vs)[j]? = if j ∈ vs ∧ j < τ.length then some none else τ[j]?
  | [] => by simp [wipe]
  | v :: vs => by
    unfold wipe
    rw [List.getElem?_set, wipe_get τ j vs, wipe_length]
    by_cases hv : v = j
    · subst hv
      by_cases hl : v < τ.length <;> simp [hl]
    · simp [hv, Ne.symm hv]
theorem wipeS_get (τ : Sg) (j : Nat) : ∀ vs : List Nat, (wipeS τ vs)[j]? = if j ∈ vs ∧ j < τ.length then some none else τ[j]?
  | [] => by simp [wipeS]
  | v :: vs => by
    unfold wipeS
    have hl : (wipeS τ vs).length = τ.length := by
      clear wipeS_get
      induction vs with
      | nil => rfl
      | cons x xs ih => unfold wipeS; rw [List.length_set, ih]
    rw [List.getElem?_set, wipeS_get τ j vs, hl]
    by_cases hv : v = j
    · subst hv
      by_cases hl : v < τ.length <;> simp [hl]
    · simp [hv, Ne.symm hv]
theorem wipe_set {τ : L2.St} {vs : List Nat} {i : Nat} {x : Option V} (h : i ∈ vs) : wipe (τ.set i x) vs = wipe τ vs := by
  apply List.ext_getElem?
  intro j
  rw [wipe_get, wipe_get, List.length_set, List.getElem?_set]
  by_cases hj : j ∈ vs ∧ j < τ.length
  · rw [if_pos hj, if_pos hj]
  · rw [if_neg hj, if_neg hj]
    by_cases hi : i = j
    · subst hi
      have : ¬ i < τ.length := fun z => hj ⟨h, z⟩
      simp [this]
    · simp [hi]
theorem wipe_wipe (τ : L2.St) (vs : List Nat) : wipe (wipe τ vs) vs = wipe τ vs := by
  apply List.ext_getElem?
  intro j
  rw [wipe_get, wipe_get, wipe_length]
  by_cases hj : j ∈ vs ∧ j < τ.length
  · rw [if_pos hj, if_pos hj]
  · rw [if_neg hj, if_neg hj]
theorem RelS.wipe {σ : Sg} {τ : L2.St} (S : RelS Γ ρ H σ τ) (vs : List Nat) : RelS Γ ρ H (wipeS σ vs) (L2.wipe τ vs) := by
  have hl : ∀ vs : List Nat, (wipeS σ vs).length = σ.length := fun vs => by
    induction vs with
    | nil => rfl
    | cons x xs ih => unfold wipeS; rw [List.length_set, ih]
  refine ⟨by rw [hl, wipe_length]; exact S.1, fun j w e => ?_⟩
  rw [wipeS_get] at e
  split at e
  · cases e
  · rename_i hn
    obtain ⟨v, e1, r1⟩ := S.2 j w e
    refine ⟨v, ?_, r1⟩
    rw [wipe_get, if_neg (by rw [← S.1]; exact hn)]
    exact e1
/-- targets of a comprehension: names of its own -/
def gIo (Γ : Gam) (own : List Nat) (g : XG) : TG := fun v τ H Q => ∃ ρ σ h w σ', Rel Γ ρ h H ∧ RelS Γ ρ H σ τ ∧ RelW Γ ρ H w v ∧ g w σ h = some σ' ∧ ∀ τ', RelS Γ ρ H σ' τ' → wipe τ' own = wipe τ own → Q τ' H
def gIso (Γ : Gam) (own : List Nat) (g : XGs) : TGs := fun v τ H Q => ∃ ρ σ h w σ', Rel Γ ρ h H ∧ RelS Γ ρ H σ τ ∧ RelWs Γ ρ H w v ∧ g w σ h = some σ' ∧ ∀ τ', RelS Γ ρ H σ' τ' → wipe τ' own = wipe τ own → Q τ' H
def SGo (Γ : Gam) (c : Cfg) (k : Nat) (own : List Nat) (e : Expr) (g : XG) : Prop := ∀ W X, Good Γ c k W X → PG X e (gIo Γ own g)
def SGso (Γ : Gam) (c : Cfg) (k : Nat) (own : List Nat) (es : List Expr) (g : XGs) : Prop := ∀ W X, Good Γ c k W X → PGs X es (gIso Γ own g)
theorem so_name (i j : Nat) {own : List Nat} {x : Str} (hN : c.N[i]? = some x := by rfl) (hL : c.L[j]? = some x := by rfl) (ho : i ∈ own := by decide) : SGo Γ c k own (.Name x pos) (gN i) := by
  intro W X G
  obtain ⟨h1, h2⟩ := G.loc (List.mem_of_getElem? hL)
  refine ⟨fun pins s τ H v u Q I r h => (pg_name (i := i) G.nd (by rw [G.N]; exact hN) h1 h2).run pins s τ H v u Q I r ?_⟩
  obtain ⟨ρ, σ, h, w, σ', R, S, rw', e, q⟩ := h
  cases e
  exact q _ (S.set rw') (wipe_set ho)
theorem sos_nil {own : List Nat} : SGso Γ c k own [] gsNil := by
  intro W X G
  refine ⟨fun pins s τ H v u Q I r h => pgs_nil.run pins s τ H v u Q I r ?_⟩
  obtain ⟨ρ, σ, h, w, σ', R, S, rw', e, q⟩ := h
  cases w with
  | nil =>
    cases e
    unfold RelWs at rw'
    exact ⟨rw', q _ S rfl⟩
  | cons _ _ => cases e
theorem sos_cons {own : List Nat} {g : XG} {r : XGs} (h1 : SGo Γ c k own e g) (h2 : SGso Γ c k own es r) (hs : ∀ env, (assignEach (e :: es) env).map (·.2) = assign e env :: (assignEach es env).map (·.2) := by intros; rfl) : SGso Γ c k own (e :: es) (gsCons g r) := by
  intro W X G
  refine ⟨fun pins s τ H v u Q I r h => (pgs_cons (h1 W X G) (h2 W X G) (hs X.env)).run pins s τ H v u Q I r ?_⟩
  obtain ⟨ρ, σ, h, w, σ', R, S, rw', e, q⟩ := h
  cases w with
  | nil => cases e
  | cons w ws =>
    unfold RelWs at rw'
    obtain ⟨y, r', e', q1, q2⟩ := rw'
    unfold gsCons at e
    dsimp only at e
    split at e
    · rename_i σ1 e1
      exact ⟨y, r', e', ρ, σ, h, w, σ1, R, S, q1, e1, fun τ1 S1 z1 => ⟨ρ, σ1, h, ws, σ', R, S1, q2, e, fun τ' S' z' => q τ' S' (z'.trans z1)⟩⟩
    · cases e
theorem so_tup {own : List Nat} {n : Nat} {kk : Nat} {g : XGs} (h : SGso Γ c k own es g) (hg : ∀ ws σ h, (g ws σ h).isSome = true → ws.length = n) (hc : c.calm = true := by rfl)
    (hn : ∀ env, (assignEach es env).length = n := by intros; rfl) (hst : ∀ env, (assignEach es env).findIdx? (·.1) = none := by intros; rfl) : SGo Γ c k own (.Tuple es kk pos) (gT g) := by
  intro W X G
  have hC : X.calm = true := G.calm.trans hc
  refine ⟨fun pins s τ H v u Q I r hh => ?_⟩
  obtain ⟨ρ, σ, hm, w, σ', R, S, rw', e, q⟩ := hh
  cases w with
  | tup xs =>
    unfold RelW at rw'
    obtain ⟨a, ys, ev, ht, rr⟩ := rw'
    have e : g xs σ hm = some σ' := e
    refine (pg_tup (n := n) hC (h W X G) (hn X.env) (hst X.env)).run pins s τ H v u Q I r ⟨a, ys, ev, by rw [G.K]; exact ht, ?_, ρ, σ, hm, xs, σ', R, S, rr, e, q⟩
    rw [← rr.length]
    exact hg xs σ hm (by rw [e]; rfl)
  | ref r0 =>
    unfold RelW at rw'
    obtain ⟨a, ea, ev⟩ := rw'
    unfold gT at e
    dsimp only at e
    split at e
    · rename_i xs ex
      obtain ⟨a', ea', ys, hy, rr⟩ := R.obj r0 _ ex
      rw [ea] at ea'
      cases ea'
      refine (pg_lst (n := n) hC (h W X G) (hn X.env) (hst X.env)).run pins s τ H v u Q I r ⟨a, ys, ev, SqL.of hy, ?_, ρ, σ, hm, xs, σ', R, S, rr, e, q⟩
      rw [← rr.length]
      exact hg xs σ hm (by rw [e]; rfl)
    · cases e
  | _ => cases e
/-- a clause's tests -/
def STs (Γ : Gam) (c : Cfg) (k : Nat) (ifs : List Expr) (f : XT) : Prop := ∀ W X, Good Γ c k W X → PTs X ifs (tIT Γ W f)
theorem sts_nil : STs Γ c k [] xTrue := by
  intro W X G
  refine ⟨fun pins s τ H Q I h => pts_nil.run pins s τ H Q I ?_⟩
  obtain ⟨ρ, σ, h, R, S, q⟩ := h
  exact q ρ H true .refl R rfl
theorem sts_one (h : ST Γ c k e ft) : STs Γ c k [e] ft := fun W X G => pts_one (h W X G)
theorem Good.blk {W : WX} {X : Cx} {scope : Scope} {own : List (Str × Nat)} (G : Good Γ c k W X) (hN : c'.N = c.N) (hs : c'.sc = relS scope c.sc) (hf : c'.fa = false) (hk : c'.calm = c.calm) (ok : CfgOk c') (s : Shared) (H : Hp) (C : Addr) (cl : List (Str × Addr)) (fp : List Addr) :
    Good Γ c' k (fun _ _ _ _ => False) (X.blk s H scope (compEnvC scope cl C X.env) fp) :=
  ⟨G.prog, G.w, G.K, G.mg, G.base, by rw [hN]; exact G.N, (by show relS scope X.env.scope = _; rw [G.sc, hs]), ok, (fun z => by rw [hf] at z; cases z), (by show X.calm = _; rw [hk]; exact G.calm), fun z => G.room (by rw [← hk]; exact z), takes0, PassesOwn.never, (fun z => by rw [hf] at z; cases z)⟩
theorem lc_read {W : WX} {own : List Nat} {fi : XI} {g : XG} {t : XT} {el : XE} {τ : L2.St} {H : Hp} {Q : VK} (h : tI Γ W (xComp fi g t el own) τ H Q) :
    tLc (iI Γ W fi) (gIo Γ own g) (tIT Γ (fun _ _ _ _ => False) t) (tI Γ (fun _ _ _ _ => False) el) own τ H Q := by
  obtain ⟨ρ, σ, h, R, S, q⟩ := h
  refine ⟨ρ, σ, h, R, S, (O1.bind (R := ItR Γ) q).imp fun J H1 ⟨ρ1, h1, it, l1, R1, r1, q1⟩ => ?_⟩
  intro D hD
  obtain ⟨q2, q3, q4⟩ := R1.newL hD (RelWs.nil (Γ := Γ) (ρ := ρ1) (H := H1))
  refine ⟨fun i m H => ∃ ρ h, Le Γ ρ1 ρ H1 H ∧ Rel Γ ρ h H ∧ ρ[h1.length]? = some D ∧ O1 Γ (RelW Γ) ρ H (compL it g t el h1.length (wipeS σ own) m i h) Q (fun cls d H' => W cls d τ H'), ⟨fuel, _, _, q2, q3, ?_, O1.mono q2 q1⟩, ?_⟩
  · rw [← R1.len]; simp
  rintro i m H ⟨ρ2, h2, l2, R2, eD, qq⟩
  cases m with
  | zero => exact qq.elim
  | succ m =>
    obtain ⟨s1, s2⟩ := r1 i ρ2 h2 H l2 R2
    unfold compL at qq
    split at qq
    · exact qq.elim
    · rename_i e1
      exact .inl ⟨s1 e1, qq ρ2 H _ .refl R2 (iR eD)⟩
    · rename_i w e1
      obtain ⟨go, yl⟩ := s2 w e1
      split at qq
      · exact qq.elim
      · rename_i σ1 e2
        refine .inr ⟨go, fun H => ∃ ρ h, Le Γ ρ1 ρ H1 H ∧ Rel Γ ρ h H ∧ ρ[h1.length]? = some D ∧ O1 Γ (RelW Γ) ρ H (compL it g t el h1.length (wipeS σ own) m (i + 1) h) Q (fun cls d H' => W cls d τ H'), fun H' hh => ⟨m, Nat.lt_succ_self _, hh⟩, fun x H' y => ?_⟩
        obtain ⟨l3, R3, rw'⟩ := yl x H' y
        have S3 : RelS Γ ρ2 H' (wipeS σ own) (wipe τ own) := ((S.mono l1).mono (l2.trans l3)).wipe own
        refine ⟨ρ2, wipeS σ own, h2, w, σ1, R3, S3, rw', e2, fun τ' S' z => ⟨by rw [z, wipe_wipe], ?_⟩⟩
        have qq := O1.mono l3 qq
        refine ⟨ρ2, σ1, h2, R3, S', ?_⟩
        cases e3 : t σ1 h2 with
        | bad => rw [e3] at qq; exact qq.elim
        | err x h3 => rw [e3] at qq; exact qq.elim
        | ok b h3 =>
          rw [e3] at qq
          intro ρ4 H4 b' l4 R4 eb
          have eb : b = b' := eb
          subst eb
          cases b with
          | false => exact iteF ⟨ρ4, h3, (l2.trans l3).trans l4, R4, l4.at eD, O1.mono l4 qq⟩
          | true =>
            refine iteT ⟨ρ4, σ1, h3, R4, S'.mono l4, ?_⟩
            have qq := O1.mono l4 qq
            dsimp only at qq
            cases e4 : el σ1 h3 with
            | bad => rw [e4] at qq; exact qq.elim
            | err x h3 => rw [e4] at qq; exact qq.elim
            | ok yw h5 =>
              rw [e4] at qq
              intro ρ5 H5 v5 l5 R5 r5
              dsimp only at qq
              split at qq
              · rename_i acc ea
                split at qq
                · rename_i hl
                  obtain ⟨aD, ys, ev, ea', hy, rr⟩ := R5.lst ea (iR (l5.at (l4.at eD)))
                  cases ev
                  obtain ⟨z1, z2⟩ := R5.setL ea ea' hy (rr.append (RelWs.cons r5 RelWs.nil))
                  exact ⟨ys, hy, by rw [sizeLine_eq, ← rr.length]; exact hl, ρ5, _, (((l2.trans l3).trans l4).trans l5).trans z1, z2, ea', O1.mono (l5.trans z1) qq⟩
                · exact qq.elim
              · exact qq.elim
/-- the wish that nothing is raised, where the names are those of the block -/
theorem se_comp {own : List (Str × Nat)} {scope : Scope} {fi : XI} {g : XG} {t : XT} {el : XE} (c' : Cfg) (hi : SI Γ c k tg iter fi) (hg : SGo Γ c' k (own.map (·.2)) tg g) (ht : STs Γ c' k ifs t) (he : SE Γ c' k e el)
    (ok : cfgOk c' = true) (hb : blkC c.N c.sc scope own = true) (hN : c'.N = c.N := by rfl) (hs : c'.sc = relS scope c.sc := by rfl) (hf : c'.fa = false := by rfl) (hk : c'.calm = c.calm := by rfl) (hc : c.calm = true := by rfl) (hset : ∀ env x, foldedSetIterable iter env x = pure x := by intros; rfl) :
    SE Γ c k (.ListComp e [⟨tg, iter, ifs, 0⟩] scope pos) (xComp fi g t el (own.map (·.2))) := by
  intro W X G
  have kk := cfgOk_of ok
  refine PE.imp (pe_lc (own := own) (G.calm.trans hc) G.nd (hi W X G) (by rw [G.N, G.sc]; exact blkOk_by hb) (fun s H C cl fp => hg _ _ (G.blk (own := own) hN hs hf hk kk s H C cl fp)) (fun s H C cl fp => ht _ _ (G.blk (own := own) hN hs hf hk kk s H C cl fp)) (fun s H C cl fp => he _ _ (G.blk (own := own) hN hs hf hk kk s H C cl fp)) (hset X.env)) fun τ H Q h => lc_read h
/-- name = [..] on one line -/
theorem ss_setLc (i j : Nat) {x : Str} {px spos : Pos} {own : List (Str × Nat)} {scope : Scope} {fi : XI} {g : XG} {t : XT} {el : XE} (c' : Cfg) (hi : SI Γ c k tg iter fi) (hg : SGo Γ c' k (own.map (·.2)) tg g) (ht : STs Γ c' k ifs t) (he : SE Γ c' k e el)
    (ok : cfgOk c' = true) (hb : blkC c.N c.sc scope own = true) (hl : c.sc.names.lookup x = some .local) (hln : (px.line == pos.line) = true := by rfl) (ha : (scope.names.any fun (n, k) => n == x && (k == .local || k == .cell)) = false)
    (hNx : c.N[i]? = some x := by rfl) (hN : c'.N = c.N := by rfl) (hs : c'.sc = relS scope c.sc := by rfl) (hf : c'.fa = false := by rfl) (hk : c'.calm = c.calm := by rfl) (hc : c.calm = true := by rfl) (hset : ∀ env x, foldedSetIterable iter env x = pure x := by intros; rfl) (hfk : c.sc.kind = .function := by rfl) :
    SS Γ c k (.Assign [.Name x px] (.ListComp e [⟨tg, iter, ifs, 0⟩] scope pos) spos) (sSet i (xComp fi g t el (own.map (·.2)))) := by
  intro W X G
  have kk := cfgOk_of ok
  have hl' : X.env.scope.names.lookup x = some .local := by rw [G.sc]; exact hl
  refine PS.imp (ps_setLc (i := i) (own := own) (G.calm.trans hc) G.nd (by rw [G.N]; exact hNx) hl' (sw_true (by rw [G.sc]; exact hfk) hl' hln ha) (hi W X G) (by rw [G.N, G.sc]; exact blkOk_by hb) (fun s H C cl fp => hg _ _ (G.blk (own := own) hN hs hf hk kk s H C cl fp)) (fun s H C cl fp => ht _ _ (G.blk (own := own) hN hs hf hk kk s H C cl fp)) (fun s H C cl fp => he _ _ (G.blk (own := own) hN hs hf hk kk s H C cl fp)) (hset X.env)) fun D τ H h => ?_
  obtain ⟨ρ, σ, h, R, S, q⟩ := h
  refine lc_read ⟨ρ, σ, h, R, S, (S1.of (R := RelW Γ) S q).imp fun v H1 ⟨ρ1, h1, u, l1, R1, r1, q1⟩ => ?_⟩
  exact q1 ρ1 H1 _ .refl R1 ((S.mono l1).set r1)
end

/-! ### functions -/
def spI (Γ : Gam) (n : Nat) (F : List W → Hm → Out W) : Sp := fun vs H Q E => vs.length = n ∧ ∃ ρ ws h, Rel Γ ρ h H ∧ RelWs Γ ρ H ws vs ∧ O1 Γ (RelW Γ) ρ H (F ws h) Q E
def FnS (Γ : Gam) (k : Nat) (f : Addr) (fd : FuncData) (ps : List Str) (F : List W → Hm → Out W) : Prop := FnOk Γ.P Γ.w Γ.K Γ.mg Γ.base (L2.CX Γ.P Γ.w) k f fd ps (spI Γ ps.length F)
def fin (o : SOut) : Out W := match o with
  | .nx _ h => .ok .non h
  | .rt w h => .ok w h
  | .err x _ h => .err x h
  | _ => .bad
def mkF (n : Nat) (b : XS) : List W → Hm → Out W := fun ws h => fin (b (ws.map some ++ List.replicate (n - ws.length) none) h)
def xFn (F : List W → Hm → Out W) (a : XA) : XE := fun σ h => (a σ h).bind fun xs h1 => F xs h1
section
variable {Γ : Gam} {c : Cfg} {k j : Nat} {a b e d o i tg : Expr} {es : List Expr} {fr : XA} {pos p : Pos} {ρ : List Addr} {H : Hp} {f : Addr} {fd : FuncData} {ps : List Str} {F : List W → Hm → Out W}
theorem FnS.mono (h : FnS Γ j f fd ps F) (l : j ≤ k) : FnS Γ k f fd ps F := FnOk.mono h l
theorem start_rel : ∀ {ws : List W} {vs : List V}, RelWs Γ ρ H ws vs → ∀ n, RelS Γ ρ H (ws.map some ++ List.replicate n none) (vs.map some ++ List.replicate n none) := fun {ws vs} r n => by
  refine ⟨by simp [r.length], fun i w e => ?_⟩
  by_cases hi : i < ws.length
  · rw [List.getElem?_append_left (by simpa using hi), List.getElem?_map] at e
    cases e1 : ws[i]? with
    | none => rw [e1] at e; cases e
    | some u =>
      rw [e1] at e
      cases e
      obtain ⟨v, e2, r2⟩ := r.get e1
      refine ⟨v, ?_, r2⟩
      rw [List.getElem?_append_left (by rw [List.length_map, ← r.length]; exact hi), List.getElem?_map, e2]
      rfl
  · rw [List.getElem?_append_right (by simpa using hi), List.getElem?_replicate] at e
    split at e <;> cases e
theorem fn_mk {x qual : Str} {st : Stmt} {b : XS} (Fu : Fun Γ.K x qual st f fd) (S : FnScope c.N ps (defScope st)) (ok : CfgOk c) (hb : SL Γ c k (defBody st) b) (hs : c.sc = defScope st := by rfl) (hf : c.fa = true := by rfl) (hc : c.calm = true := by rfl) :
    FnS Γ (k + 1) f fd ps (mkF c.N.length b) := by
  refine Fu.okX S (fun vs H Q E h => h.1) (fun cdv A outer s H vs Q E hr h => ?_)
  obtain ⟨hl, ρ, ws, h, R, rr, q⟩ := h
  refine ⟨_, hb (fun cls d _ H => E cls d H) _ ⟨rfl, rfl, rfl, rfl, rfl, rfl, hs.symm, ok, fun _ _ => rfl, hc.symm, fun _ => hr, takes_of rfl rfl rfl rfl, passes_of rfl, fun _ => ⟨rfl, rfl⟩⟩, ρ, ws.map some ++ List.replicate (c.N.length - ws.length) none, h, R, ?_, ?_⟩
  · have := start_rel rr (c.N.length - ws.length)
    rw [rr.length] at this ⊢
    exact this
  · unfold mkF at q
    cases e : b (ws.map some ++ List.replicate (c.N.length - ws.length) none) h with
    | nx σ' h' => rw [e] at q; exact fun ρ' H' τ' l R' S' => q ρ' H' .non l R' iN
    | rt w h' => rw [e] at q; exact q
    | err x σ' h' => rw [e] at q; exact fun ρ' H' τ' cls d l R' S' x => q ρ' H' cls d l R' x
    | bk σ' h' => rw [e] at q; exact q.elim
    | ct σ' h' => rw [e] at q; exact q.elim
    | bad => rw [e] at q; exact q.elim
theorem Good.fnOk {W : WX} {X : Cx} (G : Good Γ c k W X) {sp : Sp} (h : FnOk Γ.P Γ.w Γ.K Γ.mg Γ.base (L2.CX Γ.P Γ.w) j f fd ps sp) (l : j ≤ k) : FnOk X.prog X.w X.K X.mg X.base (L2.CX X.prog X.w) k f fd ps sp := by
  rw [G.prog, G.w, G.K, G.mg, G.base]
  exact h.mono l
theorem se_call (jG : Nat) {x : Str} (hF : FnS Γ j f fd ps F) (kp : PySem.W.keepIn Γ.K (.ref f) = true) (hb : Binds Γ.K fd ps []) (hm : Γ.mg x = some (.ref f)) (ha : SA Γ c k (e :: es) fr) (hn : ∀ σ h ws h', fr σ h = .ok ws h' → ws.length = ps.length) (hl : j ≤ k := by decide) (hG : c.G[jG]? = some x := by rfl) (hc : c.calm = true := by rfl)
    (hdb : (x == ("__debug__" : Str)) = false := by decide) (he : ∀ env, starEach (e :: es) env = (false, eval e env) :: starEach es env := by intros; rfl) (hpl : ∀ env, (backTo pos (starEach es env)).any (·.1) = false := by intros; rfl) :
    SE Γ c k (.Call (.Name x p) (e :: es) [] pos) (xFn F fr) := by
  intro W X G
  refine PE.imp (pe_callS (E := WE W) (G.fnOk hF hl) (G.room hc) (G.gl (List.mem_of_getElem? hG)) (by rw [G.mg]; exact hm) (by rw [G.K]; exact kp) (by rw [G.K]; exact hb) (fun σ => passAt G.takes σ) (ha W X G) hdb (he X.env) (hpl X.env)) fun τ H Q h => ?_
  obtain ⟨ρ, σ, h, R, S, q⟩ := h
  refine ⟨ρ, σ, h, R, S, ?_⟩
  unfold xFn at q
  cases e1 : fr σ h with
  | bad => rw [e1] at q; exact q.elim
  | err x h1 => rw [e1] at q; exact q
  | ok ws h1 =>
    rw [e1] at q
    exact fun ρ' H' vs l R' r' => ⟨by rw [← r'.length]; exact hn σ h ws h1 e1, ρ', ws, h1, R', r', O1.mono l q⟩
theorem se_call0 (jG : Nat) {x : Str} (hF : FnS Γ j f fd [] F) (kp : PySem.W.keepIn Γ.K (.ref f) = true) (hb : Binds Γ.K fd [] []) (hm : Γ.mg x = some (.ref f)) (hl : j ≤ k := by decide) (hG : c.G[jG]? = some x := by rfl) (hc : c.calm = true := by rfl)
    (hdb : (x == ("__debug__" : Str)) = false := by decide) : SE Γ c k (.Call (.Name x p) [] [] pos) (xFn F xNil) := by
  intro W X G
  refine ⟨fun pins s τ H Q I h => ?_⟩
  obtain ⟨ρ, σ, h, R, S, q⟩ := h
  refine wpAny_Call_Name_kw (ld_glob I (G.gl (List.mem_of_getElem? hG)) (by rw [G.mg]; exact hm) ?_ hdb)
  refine PySem.W.callWith_K0 I.kIn (by rw [G.K]; exact kp) (run_fnS (us := []) (E := WE W) (G.fnOk hF hl) (G.room hc) (by rw [G.K]; exact hb) (passAt G.takes τ) I .nil ?_)
  exact ⟨rfl, ρ, [], h, R, RelWs.nil, q⟩
theorem len_nil : ∀ σ h ws h', xNil σ h = .ok ws h' → ws.length = 0 := fun σ h ws h' e => by
  cases e
  rfl
theorem len_cons {fa : XE} {n : Nat} (h : ∀ σ h ws h', fr σ h = .ok ws h' → ws.length = n) : ∀ σ h ws h', xCons fa fr σ h = .ok ws h' → ws.length = n + 1 := fun σ hm ws h' e => by
  unfold xCons at e
  cases e1 : fa σ hm with
  | bad => rw [e1] at e; cases e
  | err x h1 => rw [e1] at e; cases e
  | ok w h1 =>
    rw [e1] at e
    have e : (fr σ h1).bind (fun xs h2 => Out.ok (w :: xs) h2) = .ok ws h' := e
    cases e2 : fr σ h1 with
    | bad => rw [e2] at e; cases e
    | err x h2 => rw [e2] at e; cases e
    | ok ws' h2 =>
      rw [e2] at e
      cases e
      rw [List.length_cons, h _ _ _ _ e2]
end
end Z

/-! Z7: list(reversed(l)), text times number, {} -/
namespace RT
open PySem PySem.Spec PyProof.Rows
section
variable {prog : Program} {w : World} {A : Around} {E : Value → Shared → Prop} {s : Shared}
theorem zz_list_init_rev {R : Result → Shared → Prop} {it l : Addr} {items : Array Value} (hh : A.handled = none) (hit : s.heap.IsRevIter it l ((items.size : Int) - 1)) (hl : s.heap.IsList l items) (hne : l ≠ it) (hn : items.size ≤ sizeLine)
    (S : Addr) (hSi : S ≠ it) (hSl : S ≠ l) (hS : s.heap.get? S = some { cls := .type "list", data := .seq #[] })
    (hR : ∀ h' tk acc' c', (∀ b o, b ≠ S → b ≠ it → s.heap.get? b = some o → h'.get? b = some o) → h'.get? S = some { cls := .type "list", dict := none, data := .seq acc' c', slots := #[] } →
      ItemsOf (fun i v => items[items.size - 1 - i]? = some v) acc' items.size → R (.ok (.ret .none)) { s with heap := h', toks := tk }) :
    wpAny (model prog w) A.in1 (Builtin.«list.__init__» ⟨[.ref S, .ref it], []⟩)
      (fun fin s' => match fin with | .done f => R (.ok f) s' | .again c' => c'.quiet = true ∧ codeAny (model prog w) A c' R s') (fun e s' => R (.error e) s') s := by
  show wpAny _ _ (do let old ← Builtin.List.listItems (.ref S); Builtin.List.listUpdate (.ref S) (fun _ => #[]); letGo old.toList.reverse; Builtin.List.listExtendWith (.ref S) (.ref it) .none) _ _ s
  refine wpAny_bind ?_
  unfold Builtin.List.listItems
  refine wpAny_bind (wpAny_seqItems hS rfl (wpAny_pure ?_))
  show wpAny _ _ (updateSeq S (fun _ => #[]) >>= fun _ => letGo (#[] : Array Value).toList.reverse >>= fun _ => Builtin.List.listExtendWith (.ref S) (.ref it) .none) _ _ s
  refine wpAny_bind (wpAny_updateSeq hS rfl ?_)
  have hS₂ := Heap.get?_update_self (Obj.mapSeq (fun _ => (#[] : Array Value))) hS rfl
  have oth : ∀ b o, b ≠ S → s.heap.get? b = some o → (s.heap.update S (Obj.mapSeq (fun _ => (#[] : Array Value)))).get? b = some o :=
    fun b o hb e => (Heap.get?_update_other _ _ (Ne.symm hb)).trans e
  refine wpAny_bind (wpAny_letGo ?_)
  have W := (Walks.listRev (prog := prog) (w := w) (A := A.in1) hh it l hne items).toS
  have hSf : S ∉ [it, l] := by simp only [List.mem_cons, List.not_mem_nil, or_false, not_or]; exact ⟨hSi, hSl⟩
  have hit1 : (s.heap.update S (Obj.mapSeq (fun _ => (#[] : Array Value)))).IsRevIter it l ((items.size : Int) - 1) := hit.at fun o e => oth it o (Ne.symm hSi) e
  have hl1 : (s.heap.update S (Obj.mapSeq (fun _ => (#[] : Array Value)))).IsList l items := by
    obtain ⟨o, ho, r⟩ := hl
    exact ⟨o, oth l o (Ne.symm hSl) ho, r⟩
  have hT : ({ s with heap := s.heap.update S (Obj.mapSeq (fun _ => (#[] : Array Value))) } : Shared).TypeIs (.ref it) "list_reverseiterator" := Heap.IsRevIter.typeIs (s := { s with heap := s.heap.update S (Obj.mapSeq (fun _ => (#[] : Array Value))) }) hit1
  have h1 : Builtin.List.listSameRef (.ref S) (.ref it) = false := by simp [Builtin.List.listSameRef, hSi]
  unfold Builtin.List.listExtendWith
  refine wpAny_bind (wpAny_typeOf hT ?_)
  rw [if_neg (by rw [h1]; decide)]
  refine wpAny_bind (wpAny_pyIter_revIter (s := { s with heap := s.heap.update S (Obj.mapSeq (fun _ => (#[] : Array Value))) }) hit1 ?_)
  refine wpAny_bind (wpAny_holding ?_)
  unfold Builtin.List.listLengthHint
  refine wpAny_bind (wpAny_specialOf hT nolen_lri ?_)
  show wpAny _ A.in1 (specialOf (Value.ref it) (Str.ofString "__length_hint__") >>= _) _ _ _
  refine wpAny_bind (wpAny_specialOf hT hint_lri ?_)
  generalize hid : ("list_reverseiterator.__length_hint__" : String) = id0
  wp_delta
  rw [show splitId id0 = some ("list_reverseiterator", "__length_hint__") from by subst hid; decide +kernel]
  subst hid
  refine wpAny_bind (wpAny_isInstance (b := true) hT (by rw [isSubtype_type]; kernel_rfl) ?_)
  refine wpAny_pure ?_
  rw [if_neg (by decide)]
  have e0 : ((items.size : Nat) : Int) - 1 - ((0 : Nat) : Int) = (items.size : Int) - 1 := by omega
  refine wpAny_pure ⟨plainId_quiet F.plain_extend_loop _, codeAny_extend_loopS W hn _ hSf _ items.size 0 _ _ _ rfl (Nat.zero_le _) ⟨Nat.zero_le _, by rw [e0]; exact hit1, hl1⟩ hS₂ (ItemsOf.nil _) fun s' acc' c' hm hS' hacc => ?_⟩
  rw [Moved.eq_with hm]
  refine hR s'.heap s'.toks acc' c' (fun b o hb hi e => hm.heap b o (fun hmem => ?_) (oth b o hb e)) hS' hacc
  rcases List.mem_cons.mp hmem with e' | hmem
  · exact hb e'
  · exact hi (List.mem_singleton.mp hmem)
theorem zz_call_list_rev {it l : Addr} {items : Array Value} {Q : Value → Shared → Prop} (hh : A.handled = none) (hit : s.heap.IsRevIter it l ((items.size : Int) - 1)) (hl : s.heap.IsList l items) (hne : l ≠ it) (hn : items.size ≤ sizeLine)
    (hQ : ∀ h' tk acc' c', (∀ b o, b ≠ it → s.heap.get? b = some o → h'.get? b = some o) →
      h'.get? s.heap.objs.size = some { cls := .type "list", dict := none, data := .seq acc' c', slots := #[] } → ItemsOf (fun i v => items[items.size - 1 - i]? = some v) acc' items.size → Q (.ref s.heap.objs.size) { s with heap := h', toks := tk }) :
    wpAny (model prog w) A (call (.type "list") [.ref it]) Q E s := by
  refine callType_codes (Q₁ := fun obj s₁ => obj = .ref s.heap.objs.size ∧ s₁ = { s with heap := s.heap.push { cls := .type "list", data := .seq #[] } }) F.called_list (F.typeCall_list_1 _) F.entry_list_init
    (code_list_new _ ⟨rfl, rfl⟩) fun obj s₁ h₁ => ?_
  obtain ⟨rfl, rfl⟩ := h₁
  have hS : (s.heap.push { cls := .type "list", data := .seq #[] }).get? s.heap.objs.size = some { cls := .type "list", data := .seq #[] } := Heap.get?_push_size _ rfl
  obtain ⟨oi, hoi, _⟩ := id hit
  obtain ⟨ol, hol, _⟩ := id hl
  refine ⟨⟨_, hS, rfl⟩, F.args_list_init_2 _ _, zz_list_init_rev (A := A.in1) hh (hit.at fun o e => Heap.get?_push_of_some _ e) (hl.push _) hne hn _ (Nat.ne_of_gt (Heap.lt_size hoi)) (Nat.ne_of_gt (Heap.lt_size hol)) hS fun h' tk acc' c' hk hS' hacc => ?_⟩
  exact ⟨rfl, hQ h' tk acc' c' (fun b o hi e => hk b o (Nat.ne_of_lt (Heap.lt_size e)) hi (Heap.get?_push_of_some _ e)) hS' hacc⟩
end
end RT
namespace Z
open PySem PySem.Spec PyProof.Rows L2 RT
/-- list(reversed(x)), x a list: a new list -/
def tLstRev (K : PySem.W.Frag) (te : TE) : TE := fun σ H Q => te σ H fun v H1 => ∃ (a : Addr) (xs : List V), v = .ref a ∧ SqL K H1 a xs ∧ ∀ q, H1 q = none → Q (.ref q) (upd H1 q (.lst xs.reverse))
section
variable {X : Cx}
theorem pe_lstRev {e : Expr} {te : TE} {p p2 pos pos2 : Pos} (hc : X.calm = true) (hg : Gl X "list") (hm : X.mg "list" = none) (hg2 : Gl X "reversed") (hm2 : X.mg "reversed" = none) (he : PE X e te)
    (hs : starEach [e] X.env = (false, eval e X.env) :: starEach [] X.env := by rfl)
    (hs2 : starEach [.Call (.Name "reversed" p2) [e] [] pos2] X.env = (false, eval (.Call (.Name "reversed" p2) [e] [] pos2) X.env) :: starEach [] X.env := by rfl) :
    PE X (.Call (.Name "list" p) [.Call (.Name "reversed" p2) [e] [] pos2] [] pos) (tLstRev X.K te) := by
  refine ⟨fun pins s σ H Q I h => ?_⟩
  refine Call_ (ld_blt I hg hm boot_list (PyProof.Rows.callWith_type1 (args_cons (Call_ (ld_blt I hg2 hm2 PyProof.Rows.boot_reversed (PyProof.Rows.callWith_type1 (args_cons (thn (he.run pins s σ H _ I h) fun u s1 ⟨v, H1, I1, r1, q1⟩ => args_nil ?_) hs) hs rfl))) hs2) hs2 rfl))
  obtain ⟨a, xs, ev, hq, q⟩ := q1
  subst ev
  obtain rfl : u = Value.ref a := r1
  obtain ⟨its, rv, p', hz⟩ := I1.list hq
  refine call_reversed_list p'.isList (args_nil ?_)
  have k0 : ∀ b o, s1.heap.get? b = some o → (s1.heap.push (revObj a ((its.toArray.size : Int) - 1))).get? b = some o := fun b o e => Heap.get?_push_of_some _ e
  have I2 : Inv X pins σ H1 { s1 with heap := s1.heap.push (revObj a ((its.toArray.size : Int) - 1)) } := I1.kept (t' := s1.toks) k0
  obtain ⟨f0, f1, f2, f3, f4, f5⟩ := I1.fpOk (H' := H1) (b := s1.heap.objs.size) (Nat.le_refl _) (I1.hok.fresh (Nat.le_refl _))
  have hl := p'.isList
  obtain ⟨ol, hol, _⟩ := id hl
  have hne : a ≠ s1.heap.objs.size := Nat.ne_of_lt (Heap.lt_size hol)
  have hn : its.toArray.size ≤ sizeLine := by rw [List.size_toArray, ← rv.length]; exact hz
  refine zz_call_list_rev (s := { s1 with heap := s1.heap.push (revObj a ((its.toArray.size : Int) - 1)) }) (I1.ok.hd hc) ⟨_, Heap.get?_push_size _ rfl, rfl, rfl⟩ (hl.push _) hne hn fun h' tk acc c' hk hS hi => ?_
  have hSz : (s1.heap.push (revObj a ((its.toArray.size : Int) - 1))).objs.size ≠ s1.heap.objs.size := by
    have := Heap.lt_size (Heap.get?_push_size s1.heap (o := revObj a ((its.toArray.size : Int) - 1)) rfl)
    exact Nat.ne_of_gt this
  generalize hSS : (s1.heap.push (revObj a ((its.toArray.size : Int) - 1))).objs.size = S at *
  have hS' : h'.get? S = some { cls := .type "list", data := .seq acc c' } := hS
  have g2 : ((s1.heap.push (revObj a ((its.toArray.size : Int) - 1))).push { cls := .type "list", data := .seq acc c' }).get? S = some { cls := .type "list", data := .seq acc c' } := by
    rw [← hSS]
    exact Heap.get?_push_size _ rfl
  have lr : acc.size ≤ sizeLine := by rw [hi.1]; exact hn
  have fr : H1 S = none := by rw [← hSS]; exact I2.hok.fresh (Nat.le_refl _)
  have I3 : Inv X pins σ (upd H1 S (.lst xs.reverse)) { s1 with heap := (s1.heap.push (revObj a ((its.toArray.size : Int) - 1))).push { cls := .type "list", data := .seq acc c' }, toks := s1.toks } :=
    I2.laid (t' := s1.toks) (fun c o e => Heap.get?_push_of_some _ e) (Nat.le_of_eq hSS) (show ObjOk X.prog X.w _ _ _ (.lst xs.reverse) from ⟨by rw [List.length_reverse]; exact hz, acc.toList, c', vals_rev rv hi, by rw [Array.toArray_toList]; exact g2⟩)
  have I4 : Inv X pins σ (upd H1 S (.lst xs.reverse)) { s1 with heap := h', toks := tk } := Inv.turned (s := { s1 with heap := (s1.heap.push (revObj a ((its.toArray.size : Int) - 1))).push { cls := .type "list", data := .seq acc c' }, toks := s1.toks }) (it := s1.heap.objs.size) (t' := tk) I3 (fun b o hb e => by
      by_cases hbS : b = S
      · subst hbS
        have e : ((s1.heap.push (revObj a ((its.toArray.size : Int) - 1))).push { cls := .type "list", data := .seq acc c' }).get? b = some o := e
        rw [g2] at e
        rw [hS', e]
      · have e : ((s1.heap.push (revObj a ((its.toArray.size : Int) - 1))).push { cls := .type "list", data := .seq acc c' }).get? b = some o := e
        exact hk b o hb (by
          rcases Heap.get?_push_cases e with ⟨e1, _⟩ | e2
          · exact absurd (e1.trans hSS) hbS
          · exact e2)) (by rw [upd_ne (Ne.symm hSz)]; exact f0) f1 f3 f4 f5
  exact ⟨.ref S, _, I4, rfl, q _ fr⟩
end
def revW (xs : List W) (h : Hm) : Pr := match xs with
  | [.ref r] => match h[r]? with
    | some (.lst ys) => some (.ref h.length, h ++ [.lst ys.reverse])
    | some (.frz ys) => some (.ref h.length, h ++ [.lst ys.reverse])
    | _ => none
  | _ => none
section
variable {Γ : Gam} {c : Cfg} {k : Nat} {a b e d o i : Expr} {es : List Expr} {fa fb fc : XE} {ft fu : XT} {fr : XA} {pos p p2 pos2 : Pos} {ρ : List Addr} {H : Hp}
theorem se_lrev (j j' : Nat) (B : Bs Γ) (ha : SE Γ c k a fa) (hG : c.G[j]? = some ("list" : Str) := by rfl) (hG' : c.G[j']? = some ("reversed" : Str) := by rfl) (hc : c.calm = true := by rfl)
    (hs : ∀ env, starEach [a] env = (false, eval a env) :: starEach [] env := by intros; rfl)
    (hs2 : ∀ env, starEach [.Call (.Name "reversed" p2) [a] [] pos2] env = (false, eval (.Call (.Name "reversed" p2) [a] [] pos2) env) :: starEach [] env := by intros; rfl) :
    SE Γ c k (.Call (.Name "list" p) [.Call (.Name "reversed" p2) [a] [] pos2] [] pos) (xCall revW (xCons fa xNil)) := by
  intro W X G
  refine PE.imp (pe_lstRev (G.calm.trans hc) (G.gl (List.mem_of_getElem? hG)) (by rw [G.mg]; exact B.list) (G.gl (List.mem_of_getElem? hG')) (by rw [G.mg]; exact B.reversed) (ha W X G) (hs X.env) (hs2 X.env)) fun τ H Q h => ?_
  obtain ⟨ρ, σ, h, R, S, q⟩ := h
  unfold xCall xCons xNil at q
  rw [Out.bind_assoc] at q
  refine ⟨ρ, σ, h, R, S, (O1.bind (R := RelW Γ) q).imp fun v H1 ⟨ρ1, h1, u, l1, R1, r1, q1⟩ => ?_⟩
  obtain ⟨u', h', e, q3⟩ := O1.ofO (p := revW [u] h1) q1
  unfold revW at e
  split at e
  · rename_i eh
    split at e
    · rename_i ex
      cases eh
      cases e
      obtain ⟨l, ys, rfl, _, hy, r1⟩ := R1.lst ex r1
      refine ⟨l, ys, rfl, SqL.of hy, fun p hp => ?_⟩
      obtain ⟨q1, q2, q3'⟩ := R1.newL hp r1.reverse
      exact q3 _ _ _ q1 q2 q3'
    · rename_i ex
      cases eh
      cases e
      obtain ⟨l, ys, rfl, hy, r1⟩ := R1.frz ex r1
      refine ⟨l, ys, rfl, by rw [G.K]; exact hy, fun p hp => ?_⟩
      obtain ⟨q1, q2, q3'⟩ := R1.newL hp r1.reverse
      exact q3 _ _ _ q1 q2 q3'
    · cases e
  · cases e
/-- {} -/
def xDic : XE := fun _ h => .ok (.ref h.length) (h ++ [.dic []])
theorem se_dic : SE Γ c k (.Dict [] [] pos) xDic := by
  intro W X G
  refine PE.imp pe_dnewK fun τ H Q h => ?_
  obtain ⟨ρ, σ, h, R, S, q⟩ := h
  intro p hp
  have l := Le.laid (Γ := Γ) (ρ := ρ) (o := .dK []) hp [p]
  exact q _ _ _ l (R.alloc hp (o' := .dic []) ⟨[], upd_same, rfl⟩) (iR (by rw [← R.len]; simp))
def idxB (x : W) : List W → Option Nat
  | [] => none
  | y :: ys => if eqV (toV y) (toV x) then some 0 else (idxB x ys).map (· + 1)
def idxW (x : W) (xs : List W) (h : Hm) : Pr := match x, xs with
  | .ref r, [y] => match h[r]? with
    | some (.lst zs) => if flatW y && zs.all flatW then (idxB y zs).map fun n => (.int (n : Nat), h) else none
    | _ => none
  | _, _ => none
theorem idxB_of {y : W} : ∀ {zs : List W} {n : Nat}, idxB y zs = some n → (∃ z, (zs.map toV)[n]? = some z ∧ eqV z (toV y) = true) ∧ ∀ m z', m < n → (zs.map toV)[m]? = some z' → eqV z' (toV y) = false
  | [], n, e => by cases e
  | x :: xs, n, e => by
    unfold idxB at e
    split at e
    · rename_i hx
      cases e
      exact ⟨⟨_, rfl, hx⟩, fun m z' hm _ => by omega⟩
    · rename_i hx
      obtain ⟨m, e1, rfl⟩ := Option.map_eq_some_iff.mp e
      obtain ⟨⟨z, e2, e3⟩, e4⟩ := idxB_of e1
      refine ⟨⟨z, by simpa using e2, e3⟩, fun j z' hj ej => ?_⟩
      cases j with
      | zero =>
        have ej : some (toV x) = some z' := by simpa using ej
        cases ej
        exact Bool.eq_false_iff.mpr hx
      | succ j => exact e4 j z' (by omega) (by simpa using ej)
theorem ms_index : MtS Γ c k "list.index" idxW := by
  intro W X G pins s σ H x xs v us Q I rx rxs h
  obtain ⟨ρ, hm, u, ws, u', h', R, ru, rws, e, q⟩ := h
  unfold idxW at e
  split at e
  · split at e
    · rename_i ex
      split at e
      · rename_i hf
        obtain ⟨n, e1, e2⟩ := Option.map_eq_some_iff.mp e
        cases e2
        rw [Bool.and_eq_true] at hf
        obtain ⟨y, rfl, ry⟩ := rws1 rws
        obtain ⟨l, ys, rfl, ea, hy, r1⟩ := R.lst ex ru
        obtain ⟨f1, f2⟩ := flats_of hf.2 r1
        obtain ⟨f3, f4⟩ := flat_of hf.1 ry
        subst f1 f3
        obtain ⟨⟨z, e2, e3⟩, e4⟩ := idxB_of e1
        exact mt_index pins s σ H _ _ v us Q I rx rxs ⟨l, _, _, n, z, rfl, rfl, SqL.of hy, f4, f2, e2, e3, e4, q ρ H _ .refl R iI'⟩
      · cases e
    · cases e
  · cases e
/-- a += b, numbers or texts -/
def addI : W → W → Hm → Pr
  | .int i, .int j, h => some (.int (i + j), h)
  | .str x, .str y, h => if x.length + y.length ≤ 16777216 then some (.str (x ++ y), h) else none
  | _, _, _ => none
theorem ip_add : IpS Γ c k .Add addI := by
  intro W X G pins s σ H x y v u Q I rx ry h
  obtain ⟨ρ, hm, a, b, u', h', R, ra, rb, e, q⟩ := h
  unfold addI at e
  split at e
  · cases e
    exact iop_add pins s σ H x y v u Q I rx ry ⟨_, _, rwI ra, rwI rb, q ρ H _ .refl R iI'⟩
  · split at e
    · rename_i hl
      cases e
      exact iop_add_str pins s σ H x y v u Q I rx ry ⟨_, _, rwS ra, rwS rb, by rw [sizeLine_eq]; exact hl, q ρ H _ .refl R iS⟩
    · cases e
  · cases e
end
end Z

/-! Z8: defs by name, the head's facts, the law's end -/
namespace Z
open PySem PySem.Spec PyProof.Rows L2

/-! ### facts behind the top: any look at the written part -/
abbrev FaZ := PySem.W.Frag → Bool
def obsZ (fa : List FaZ) (fn : List He.DefD) (K : PySem.W.Frag) : He.AlD := ((fa.all fun f => f K) && fn.all fun d => d.ok K, fn.map fun d => He.fnW K d.at_)
def SaysZ (fa : List FaZ) (fn : List He.DefD) (K : PySem.W.Frag) : Prop := obsZ fa fn K = He.valD fn
def obsZG (n : Nat) (fa : List FaZ) (fn : List He.DefD) (g : Addr → Option Obj) : He.AlD := obsZ fa fn (He.frG g (He.asD g n))
def hookZ (n : Nat) (fa : List FaZ) (fn : List He.DefD) : PySem.W.Hook where
  α := He.AlD
  obs := fun s => obsZG n fa fn s.heap.get?
  val := fun _ => He.valD fn
  says := fun _ h => ∃ K : PySem.W.Frag, K.In h ∧ SaysZ fa fn K
  of := fun _ _ e => ⟨_, He.frG_in, e⟩
  keeps := fun _ _ _ ⟨K, hK, c⟩ k => ⟨K, PySem.W.Frag.In.keeps hK k, c⟩
theorem obsZG_eq {n : Nat} {fa : List FaZ} {fn : List He.DefD} {g : Addr → Option Obj} {s : Shared} (h : ∀ a, g a = s.heap.get? a) : obsZG n fa fn g = (hookZ n fa fn).obs s := by
  have e : g = s.heap.get? := funext h
  rw [e] <;> rfl
section
variable {fa : List FaZ} {fn : List He.DefD} {K : PySem.W.Frag}
theorem SaysZ.fact (c : SaysZ fa fn K) (i : Nat) {f : FaZ} (h : fa[i]? = some f := by rfl) : f K = true := by
  have c1 := (He.ba (show ((fa.all fun f => f K) && fn.all fun d => d.ok K) = true from congrArg (fun z : He.AlD => z.1) c)).1
  exact List.all_eq_true.mp c1 f (List.mem_of_getElem? h)
theorem SaysZ.def_ (c : SaysZ fa fn K) (i : Nat) {d : He.DefD} (h : fn[i]? = some d := by rfl) : ∃ fd, FunD K d.name d.qual d.params d.body d.scope (d.dvs K) (d.kws K) (He.fAd K d.at_) fd := by
  have c2 := (He.ba (show ((fa.all fun f => f K) && fn.all fun d => d.ok K) = true from congrArg (fun z : He.AlD => z.1) c)).2
  have e : fn.map (fun d => He.fnW K d.at_) = fn.map He.DefD.val := congrArg (fun z : He.AlD => z.2) c
  have e2 : (fn.map fun d => He.fnW K d.at_)[i]? = (fn.map He.DefD.val)[i]? := by rw [e]
  rw [List.getElem?_map, List.getElem?_map, h] at e2
  exact He.DefD.funD (Option.some.inj e2) (List.all_eq_true.mp c2 d (List.mem_of_getElem? h))
end

/-! ### defs -/
/-- a def (or method) of the text behind the top, no defaults -/
def Def (Γ : Gam) (a : Str × Option Str) (x qual : Str) (st : Stmt) : Prop := ∃ fd, FunD Γ.K x qual (defArgs st) (defBody st) (defScope st) [] [] (He.fAd Γ.K a) fd
/-- what a def computes, a call of it -/
structure CalD (Γ : Gam) (j : Nat) (f : Addr) (ps : List Str) (F : List W → Hm → Out W) : Prop where
  ok : ∃ fd, FnS Γ j f fd ps F ∧ Binds Γ.K fd ps [] ∧ ∃ oc od osl, Γ.K.lookup f = some ⟨oc, od, .func fd, osl⟩
  kp : PySem.W.keepIn Γ.K (.ref f) = true
def Cal (Γ : Gam) (j : Nat) (x : Str) (ps : List Str) (F : List W → Hm → Out W) : Prop := CalD Γ j (He.ga Γ.K x) ps F ∧ Γ.mg x = some (.ref (He.ga Γ.K x))
def BindsN (st : Stmt) (x qual : Str) (ps : List Str) : Prop := ∀ (kV doc pm : Value) (an : Option Addr) (cdv ct : Value) (us : List Value), us.length = ps.length → bindArgs (PySem.W.fnOf x qual (defArgs st) (defBody st) (defScope st) .none kV doc pm an cdv ct) ⟨us, []⟩ = pure (ps.zip us)
section
variable {Γ : Gam} {c : Cfg} {k j : Nat} {a b e d o i tg : Expr} {es : List Expr} {fr : XA} {pos p : Pos} {ρ : List Addr} {H : Hp} {f : Addr} {fd : FuncData} {ps : List Str} {F : List W → Hm → Out W}
theorem fnD_mk {x qual : Str} {st : Stmt} {b : XS} (Fu : FunD Γ.K x qual (defArgs st) (defBody st) (defScope st) [] [] f fd) (S : FnScope c.N ps (defScope st)) (ok : CfgOk c) (hb : SL Γ c k (defBody st) b) (hs : c.sc = defScope st) (hf : c.fa = true) (hc : c.calm = true) :
    FnS Γ (k + 1) f fd ps (mkF c.N.length b) := by
  refine Fu.ok S (fun vs H Q E h => h.1) (fun cdv A outer s H vs Q E hr h => ?_)
  obtain ⟨hl, ρ, ws, h, R, rr, q⟩ := h
  refine ⟨_, hb (fun cls d _ H => E cls d H) _ ⟨rfl, rfl, rfl, rfl, rfl, rfl, hs.symm, ok, fun _ _ => rfl, hc.symm, fun _ => hr, takes_of rfl rfl rfl rfl, passes_of rfl, fun _ => ⟨rfl, rfl⟩⟩, ρ, ws.map some ++ List.replicate (c.N.length - ws.length) none, h, R, ?_, ?_⟩
  · have := start_rel rr (c.N.length - ws.length)
    rw [rr.length] at this ⊢
    exact this
  · unfold mkF at q
    cases e : b (ws.map some ++ List.replicate (c.N.length - ws.length) none) h with
    | nx σ' h' => rw [e] at q; exact fun ρ' H' τ' l R' S' => q ρ' H' .non l R' iN
    | rt w h' => rw [e] at q; exact q
    | err x σ' h' => rw [e] at q; exact fun ρ' H' τ' cls d l R' S' x => q ρ' H' cls d l R' x
    | bk σ' h' => rw [e] at q; exact q.elim
    | ct σ' h' => rw [e] at q; exact q.elim
    | bad => rw [e] at q; exact q.elim
theorem cal_mk {x qual : Str} {st : Stmt} {b : XS} {at_ : Str × Option Str} (D : Def Γ at_ x qual st) (B : BindsN st x qual ps) (S : FnScope c.N ps (defScope st)) (ok : cfgOk c = true) (hb : SL Γ c k (defBody st) b) (hs : c.sc = defScope st := by rfl) (hf : c.fa = true := by rfl) (hc : c.calm = true := by rfl) :
    CalD Γ (k + 1) (He.fAd Γ.K at_) ps (mkF c.N.length b) := by
  obtain ⟨fd, Fu⟩ := D
  obtain ⟨oc, od, dV, kV, doc, pm, an, cdv, ct, osl, e, lk, _⟩ := Fu.ex
  exact ⟨⟨fd, fnD_mk Fu S (cfgOk_of ok) hb hs hf hc, Fu.bindsN B, oc, od, osl, lk⟩, Fu.kp⟩
/-- the promise of the very function object -/
theorem CalD.at {x qual : Str} {params : Arguments} {body : List Stmt} {scope : Scope} {dvs : List V} {kws : List (Str × V)} (C : CalD Γ j f ps F) (Fu : FunD Γ.K x qual params body scope dvs kws f fd) : FnS Γ j f fd ps F := by
  obtain ⟨⟨fd2, h, _, oc, od, osl, e⟩, _⟩ := C
  obtain ⟨oc', od', dV, kV, doc, pm, an, cdv, ct, osl', _, lk, _⟩ := Fu.ex
  rw [e] at lk
  cases lk
  exact h
theorem se_cal (jG : Nat) {x : Str} (C : Cal Γ j x ps F) (ha : SA Γ c k (e :: es) fr) (hn : ∀ σ h ws h', fr σ h = .ok ws h' → ws.length = ps.length) (hl : j ≤ k := by decide) (hG : c.G[jG]? = some x := by rfl) (hc : c.calm = true := by rfl)
    (hdb : (x == ("__debug__" : Str)) = false := by decide) (he : ∀ env, starEach (e :: es) env = (false, eval e env) :: starEach es env := by intros; rfl) (hpl : ∀ env, (backTo pos (starEach es env)).any (·.1) = false := by intros; rfl) :
    SE Γ c k (.Call (.Name x p) (e :: es) [] pos) (xFn F fr) := by
  obtain ⟨⟨⟨fd, h1, h2, _⟩, h3⟩, h4⟩ := C
  exact se_call jG h1 h3 h2 h4 ha hn hl hG hc hdb he hpl
theorem se_cal0 (jG : Nat) {x : Str} (C : Cal Γ j x [] F) (hl : j ≤ k := by decide) (hG : c.G[jG]? = some x := by rfl) (hc : c.calm = true := by rfl)
    (hdb : (x == ("__debug__" : Str)) = false := by decide) : SE Γ c k (.Call (.Name x p) [] [] pos) (xFn F xNil) := by
  obtain ⟨⟨⟨fd, h1, h2, _⟩, h3⟩, h4⟩ := C
  exact se_call0 jG h1 h3 h2 h4 hl hG hc hdb
/-- a constant of the module, by a look -/
def konOf (x : Str) (v : V) : FaZ := fun K => match PySem.W.nsIn K mainGlobals x with
  | some (some u) => He.relB v u
  | _ => false
def freeZ (x : Str) : FaZ := fun K => (He.Fa.free x).ok K
def gloZ (x : Str) : FaZ := fun K => (He.Fa.glo x).ok K
theorem kon_of {h : Heap} {x : Str} {v : V} {w : W} (X : Γ.K.In h) (G : h.Ns mainGlobals Γ.mg) (c : konOf x v Γ.K = true) (r : ∀ ρ H, RelW Γ ρ H w v) : Kon Γ x w := by
  unfold konOf at c
  split at c
  · rename_i u e
    exact ⟨u, v, PySem.W.mg_of X G e, He.relB_ok c, r⟩
  · cases c
def kI (x : Str) (i : Int) : FaZ := konOf x (.int i)
def kS (x z : Str) : FaZ := konOf x (.str z)
theorem kon_int {h : Heap} {x : Str} {i : Int} (X : Γ.K.In h) (G : h.Ns mainGlobals Γ.mg) (c : kI x i Γ.K = true) : Kon Γ x (.int i) := kon_of X G c fun _ _ => iI'
theorem kon_str {h : Heap} {x : Str} {i : Str} (X : Γ.K.In h) (G : h.Ns mainGlobals Γ.mg) (c : kS x i Γ.K = true) : Kon Γ x (.str i) := kon_of X G c fun _ _ => iS
/-! constants that are tuples, of tuples -/
inductive Cn where
  | non | bl (b : Bool) | int (i : Int) | str (x : Str) | tup (xs : List Cn)
mutual
def Cn.w : Cn → W
  | .non => .non
  | .bl b => .bl b
  | .int i => .int i
  | .str x => .str x
  | .tup xs => .tup (Cn.ws xs)
def Cn.ws : List Cn → List W
  | [] => []
  | x :: xs => x.w :: Cn.ws xs
end
mutual
def Cn.look (K : PySem.W.Frag) : Cn → Value → Bool
  | .non, .none => true
  | .bl b, .bool c => b == c
  | .int i, .int j _ => decide (i = j)
  | .str x, .str y _ => decide (x = y)
  | .tup xs, .ref a => match K.lookup a with
    | some ⟨.type c, _, .seq its _, _⟩ => decide (c = "tuple") && (decide (its.size ≤ sizeLine) && Cn.looks K xs its.toList)
    | _ => false
  | _, _ => false
def Cn.looks (K : PySem.W.Frag) : List Cn → List Value → Bool
  | [], [] => true
  | x :: xs, u :: us => x.look K u && Cn.looks K xs us
  | _, _ => false
end
mutual
theorem Cn.look_ok : ∀ (x : Cn) (u : Value), x.look Γ.K u = true → ∃ v, RelV v u ∧ ∀ ρ H, RelW Γ ρ H x.w v
  | .non, u, h => by
    cases u with
    | none => exact ⟨.non, rfl, fun _ _ => iN⟩
    | _ => simp [Cn.look] at h
  | .bl b, u, h => by
    cases u with
    | bool c' =>
      have : b = c' := by simpa [Cn.look] using h
      subst this
      exact ⟨.bl b, rfl, fun _ _ => iB⟩
    | _ => simp [Cn.look] at h
  | .int b, u, h => by
    cases u with
    | int c' t =>
      have : b = c' := by simpa [Cn.look] using h
      subst this
      exact ⟨.int b, ⟨t, rfl⟩, fun _ _ => iI'⟩
    | _ => simp [Cn.look] at h
  | .str b, u, h => by
    cases u with
    | str c' t =>
      have : b = c' := by simpa [Cn.look] using h
      subst this
      exact ⟨.str b, ⟨t, rfl⟩, fun _ _ => iS⟩
    | _ => simp [Cn.look] at h
  | .tup xs, u, h => by
    cases u with
    | ref a =>
      unfold Cn.look at h
      split at h
      · rename_i e
        rw [Bool.and_eq_true, Bool.and_eq_true] at h
        obtain ⟨h1, h2, h3⟩ := h
        obtain ⟨vs, q1, q2⟩ := Cn.looks_ok xs _ h3
        refine ⟨.ref a, rfl, fun ρ H => ?_⟩
        unfold Cn.w
        exact iT (.inr ⟨_, _, _, e, congrArg Value.type (of_decide_eq_true h1), rfl, of_decide_eq_true h2, q1⟩) (q2 ρ H)
      · cases h
    | _ => simp [Cn.look] at h
theorem Cn.looks_ok : ∀ (xs : List Cn) (us : List Value), Cn.looks Γ.K xs us = true → ∃ vs, Vals vs us ∧ ∀ ρ H, RelWs Γ ρ H (Cn.ws xs) vs
  | [], [], _ => ⟨[], .nil, fun ρ H => by unfold Cn.ws; exact RelWs.nil⟩
  | [], _ :: _, h => by simp [Cn.looks] at h
  | _ :: _, [], h => by simp [Cn.looks] at h
  | x :: xs, u :: us, h => by
    unfold Cn.looks at h
    rw [Bool.and_eq_true] at h
    obtain ⟨v, q1, q2⟩ := Cn.look_ok x u h.1
    obtain ⟨vs, q3, q4⟩ := Cn.looks_ok xs us h.2
    exact ⟨v :: vs, .cons q1 q3, fun ρ H => by unfold Cn.ws; exact RelWs.cons (q2 ρ H) (q4 ρ H)⟩
end
def kC (x : Str) (z : Cn) : FaZ := fun K => match PySem.W.nsIn K mainGlobals x with
  | some (some u) => z.look K u
  | _ => false
theorem kon_cn {h : Heap} {x : Str} {z : Cn} (X : Γ.K.In h) (G : h.Ns mainGlobals Γ.mg) (cc : kC x z Γ.K = true) : Kon Γ x z.w := by
  unfold kC at cc
  split at cc
  · rename_i u e
    obtain ⟨v, q1, q2⟩ := Cn.look_ok z u cc
    exact ⟨u, v, PySem.W.mg_of X G e, q1, q2⟩
  · cases cc
end

/-! ### the law's end -/
theorem walk_z {l : PySem.W.OpenLaw} {n k : Nat} {q : Program} {loose : List Str} {XP : (Str → Option Value) → Heap → Prop} {YP : World → Heap → Prop} {d : DefRec} {x : Str} {F : List W → Hm → Out W} (cl : PySem.W.Frag → Nat → Addr)
    (hn : l.most = some n) (hn2 : n ≤ sizeLine) (hdf : d.params.defaults = []) (hr : Room k callerA)
    (hF : ∀ (w : World) (mg : Str → Option Value) (fa : Addr) (h : Heap), YP w h → h.Ns mainGlobals mg → mg d.name = some (.ref fa) →
      ∃ (K : PySem.W.Frag), K.In h ∧ fa = He.ga K d.name ∧ ∃ fd, (∀ (s : Shared) (u : Value), BindsTo s fd ⟨[u], []⟩ [(x, u)]) ∧
        ∀ base : Heap, K.In base → base.Ns mainGlobals mg → FnS ⟨l.prog, w, K, mg, base, cl K⟩ k fa fd [x] F)
    (hlaw : ∀ ns : List Int, ns.length ≤ n → (∀ z ∈ ns, Builtin.Int.intBits z ≤ 1048576) → ∃ h', F [.ref 0] [.frz (ns.map .int)] = .ok (.bl true) h') :
    PySem.W.WalkO q loose XP YP l.row.toRowW d [] (fun f vs => PySem.call f vs) := by
  refine Att.attach_callB hn hdf fun w s₀ s₁ mg mb fa o pm cd doc a vs ns G Y ho hd hcd hmg hobj hints hlen hbits hg => ?_
  obtain ⟨K, KX, _, fd, hb, hf⟩ := hF w mg fa _ Y G.T.g hmg
  obtain ⟨h', e'⟩ := hlaw ns hlen hbits
  refine law_call (CX := L2.CX l.prog w) (sp := fun vs H Q E => ∃ (a : Addr) (ns : List Int), vs = [.ref a] ∧ FzL K H a (ns.map V.int) ∧ ns.length ≤ n ∧ (∀ z ∈ ns, Builtin.Int.intBits z ≤ 1048576) ∧ ∀ H', Q (.bl true) H') KX G.T.g G.T.b G.T.builtins G.T.nolimit hg hobj hints (Nat.le_trans hlen hn2) hr (fun base b1 b2 => ?_) hb (fun H hO hS => ?_) fun H e s' => ?_
  · refine FnOk.imp (hf base b1 b2) fun vs H Q E ⟨a, ns, ev, hz, h1, h2, q⟩ => ?_
    subst ev
    obtain ⟨h', e'⟩ := hlaw ns h1 h2
    refine ⟨rfl, [a], [.ref 0], [.frz (ns.map .int)], ⟨rfl, fun i o e => ?_, fun i j oi oj b ei ej m1 m2 => ?_⟩, ?_, ?_⟩
    · cases i with
      | zero =>
        cases e
        refine ⟨a, rfl, ns.map V.int, hz, ?_⟩
        clear e' hz h1 h2
        induction ns with
        | nil => exact RelWs.nil
        | cons z r ih => exact RelWs.cons iI' ih
      | succ i => cases e
    · cases i with
      | zero =>
        cases ei
        exact m1.elim
      | succ i => cases ei
    · exact RelWs.cons (iR rfl) RelWs.nil
    · rw [e']
      intro ρ' H' v l r rv
      rw [rwB rv]
      exact q H'
  · refine ⟨a, ns, rfl, ?_, hlen, hbits, fun _ => rfl⟩
    rcases hS with (h | ⟨o, h⟩) | h
    · rcases hO a with z | ⟨o, xs, z⟩
      · rw [z] at h; cases h
      · rw [z] at h; cases h
    · exact .inl ⟨o, h⟩
    · exact .inr h
  · rintro ⟨_, _, _, _, _, _, _, _, _, _, _, _, z⟩
    exact z
end Z

/-! Z9: short words for the calls of built-ins -/
namespace Z
open PySem PySem.Spec PyProof.Rows L2
section
variable {Γ : Gam} {c : Cfg} {k j : Nat} {a b e d o i tg : Expr} {es : List Expr} {fa : XE} {fr : XA} {pos p p2 : Pos} {ρ : List Addr} {H : Hp}
theorem e_len (j : Nat) (B : Bs Γ) (ha : SA Γ c k (e :: es) fr) (hG : c.G[j]? = some ("len" : Str) := by rfl) (he : ∀ env, starEach (e :: es) env = (false, eval e env) :: starEach es env := by intros; rfl) (hpl : ∀ env, (backTo pos (starEach es env)).any (·.1) = false := by intros; rfl) :
    SE Γ c k (.Call (.Name "len" p) (e :: es) [] pos) (xCall lenW fr) := se_callB (cs_len) j B.len (by decide +kernel) ha hG (by decide) (by decide) he hpl
theorem e_abs (j : Nat) (B : Bs Γ) (ha : SA Γ c k (e :: es) fr) (hG : c.G[j]? = some ("abs" : Str) := by rfl) (he : ∀ env, starEach (e :: es) env = (false, eval e env) :: starEach es env := by intros; rfl) (hpl : ∀ env, (backTo pos (starEach es env)).any (·.1) = false := by intros; rfl) :
    SE Γ c k (.Call (.Name "abs" p) (e :: es) [] pos) (xCall absW fr) := se_callB (cs_abs) j B.abs (by decide +kernel) ha hG (by decide) (by decide) he hpl
theorem e_min (j : Nat) (B : Bs Γ) (ha : SA Γ c k (e :: es) fr) (hG : c.G[j]? = some ("min" : Str) := by rfl) (hc : c.calm = true := by rfl) (he : ∀ env, starEach (e :: es) env = (false, eval e env) :: starEach es env := by intros; rfl) (hpl : ∀ env, (backTo pos (starEach es env)).any (·.1) = false := by intros; rfl) :
    SE Γ c k (.Call (.Name "min" p) (e :: es) [] pos) (xCall minW fr) := se_callB (cs_min hc) j B.min (by decide +kernel) ha hG (by decide) (by decide) he hpl
theorem e_max (j : Nat) (B : Bs Γ) (ha : SA Γ c k (e :: es) fr) (hG : c.G[j]? = some ("max" : Str) := by rfl) (hc : c.calm = true := by rfl) (he : ∀ env, starEach (e :: es) env = (false, eval e env) :: starEach es env := by intros; rfl) (hpl : ∀ env, (backTo pos (starEach es env)).any (·.1) = false := by intros; rfl) :
    SE Γ c k (.Call (.Name "max" p) (e :: es) [] pos) (xCall maxW fr) := se_callB (cs_max hc) j B.max (by decide +kernel) ha hG (by decide) (by decide) he hpl
theorem e_ord (j : Nat) (B : Bs Γ) (ha : SA Γ c k (e :: es) fr) (hG : c.G[j]? = some ("ord" : Str) := by rfl) (he : ∀ env, starEach (e :: es) env = (false, eval e env) :: starEach es env := by intros; rfl) (hpl : ∀ env, (backTo pos (starEach es env)).any (·.1) = false := by intros; rfl) :
    SE Γ c k (.Call (.Name "ord" p) (e :: es) [] pos) (xCall ordW fr) := se_callB (cs_ord) j B.ord (by decide +kernel) ha hG (by decide) (by decide) he hpl
theorem e_int (j : Nat) (B : Bs Γ) (ha : SA Γ c k (e :: es) fr) (hG : c.G[j]? = some ("int" : Str) := by rfl) (he : ∀ env, starEach (e :: es) env = (false, eval e env) :: starEach es env := by intros; rfl) (hpl : ∀ env, (backTo pos (starEach es env)).any (·.1) = false := by intros; rfl) :
    SE Γ c k (.Call (.Name "int" p) (e :: es) [] pos) (xCall intW fr) := se_callT cs_int j B.int (by decide +kernel) ha hG (by decide) (by decide) he hpl
theorem e_str (j : Nat) (B : Bs Γ) (ha : SA Γ c k (e :: es) fr) (hG : c.G[j]? = some ("str" : Str) := by rfl) (he : ∀ env, starEach (e :: es) env = (false, eval e env) :: starEach es env := by intros; rfl) (hpl : ∀ env, (backTo pos (starEach es env)).any (·.1) = false := by intros; rfl) :
    SE Γ c k (.Call (.Name "str" p) (e :: es) [] pos) (xCall strW fr) := se_callT cs_str j B.str (by decide +kernel) ha hG (by decide) (by decide) he hpl
theorem e_list (j : Nat) (B : Bs Γ) (ha : SA Γ c k (e :: es) fr) (hG : c.G[j]? = some ("list" : Str) := by rfl) (he : ∀ env, starEach (e :: es) env = (false, eval e env) :: starEach es env := by intros; rfl) (hpl : ∀ env, (backTo pos (starEach es env)).any (·.1) = false := by intros; rfl) :
    SE Γ c k (.Call (.Name "list" p) (e :: es) [] pos) (xCall listW fr) := se_callT cs_list j B.list (by decide +kernel) ha hG (by decide) (by decide) he hpl
theorem e_tuple (j : Nat) (B : Bs Γ) (ha : SA Γ c k (e :: es) fr) (hG : c.G[j]? = some ("tuple" : Str) := by rfl) (he : ∀ env, starEach (e :: es) env = (false, eval e env) :: starEach es env := by intros; rfl) (hpl : ∀ env, (backTo pos (starEach es env)).any (·.1) = false := by intros; rfl) :
    SE Γ c k (.Call (.Name "tuple" p) (e :: es) [] pos) (xCall tupleW fr) := se_callT cs_tuple j B.tuple (by decide +kernel) ha hG (by decide) (by decide) he hpl
theorem e_is_int (j j' : Nat) (B : Bs Γ) (ha : SE Γ c k a fa) (hG : c.G[j]? = some ("isinstance" : Str) := by rfl) (hG' : c.G[j']? = some ("int" : Str) := by rfl) (he : ∀ env, starEach [a, .Name "int" p2] env = (false, eval a env) :: starEach [.Name "int" p2] env := by intros; rfl) :
    SE Γ c k (.Call (.Name "isinstance" p) [a, .Name "int" p2] [] pos) (xIsi "int" fa) := se_isi "int" j j' B (by decide +kernel) B.int (by decide) ha hG hG' (by decide) (by decide) he (by intros; rfl) (by intros; rfl)
theorem e_is_bool (j j' : Nat) (B : Bs Γ) (ha : SE Γ c k a fa) (hG : c.G[j]? = some ("isinstance" : Str) := by rfl) (hG' : c.G[j']? = some ("bool" : Str) := by rfl) (he : ∀ env, starEach [a, .Name "bool" p2] env = (false, eval a env) :: starEach [.Name "bool" p2] env := by intros; rfl) :
    SE Γ c k (.Call (.Name "isinstance" p) [a, .Name "bool" p2] [] pos) (xIsi "bool" fa) := se_isi "bool" j j' B (by decide +kernel) B.bool (by decide) ha hG hG' (by decide) (by decide) he (by intros; rfl) (by intros; rfl)
theorem e_is_str (j j' : Nat) (B : Bs Γ) (ha : SE Γ c k a fa) (hG : c.G[j]? = some ("isinstance" : Str) := by rfl) (hG' : c.G[j']? = some ("str" : Str) := by rfl) (he : ∀ env, starEach [a, .Name "str" p2] env = (false, eval a env) :: starEach [.Name "str" p2] env := by intros; rfl) :
    SE Γ c k (.Call (.Name "isinstance" p) [a, .Name "str" p2] [] pos) (xIsi "str" fa) := se_isi "str" j j' B (by decide +kernel) B.str (by decide) ha hG hG' (by decide) (by decide) he (by intros; rfl) (by intros; rfl)
theorem e_is_list (j j' : Nat) (B : Bs Γ) (ha : SE Γ c k a fa) (hG : c.G[j]? = some ("isinstance" : Str) := by rfl) (hG' : c.G[j']? = some ("list" : Str) := by rfl) (he : ∀ env, starEach [a, .Name "list" p2] env = (false, eval a env) :: starEach [.Name "list" p2] env := by intros; rfl) :
    SE Γ c k (.Call (.Name "isinstance" p) [a, .Name "list" p2] [] pos) (xIsi "list" fa) := se_isi "list" j j' B (by decide +kernel) B.list (by decide) ha hG hG' (by decide) (by decide) he (by intros; rfl) (by intros; rfl)
theorem e_is_tuple (j j' : Nat) (B : Bs Γ) (ha : SE Γ c k a fa) (hG : c.G[j]? = some ("isinstance" : Str) := by rfl) (hG' : c.G[j']? = some ("tuple" : Str) := by rfl) (he : ∀ env, starEach [a, .Name "tuple" p2] env = (false, eval a env) :: starEach [.Name "tuple" p2] env := by intros; rfl) :
    SE Γ c k (.Call (.Name "isinstance" p) [a, .Name "tuple" p2] [] pos) (xIsi "tuple" fa) := se_isi "tuple" j j' B (by decide +kernel) B.tuple (by decide) ha hG hG' (by decide) (by decide) he (by intros; rfl) (by intros; rfl)
theorem e_append (ho : SE Γ c k o fa) (ha : SA Γ c k (e :: es) fr) (hbase : ∀ env, attributeBase o "append" env (eval o env) = eval o env := by intros; rfl) (hfew : ∀ env, ((backTo pos (starEach (e :: es) env)).all (fun x => !x.1) && (backToKw pos (keywordEach [] env)).all (fun x => x.1.isSome) && decide ((e :: es).length + ([] : List Keyword).length + (if ([] : List Keyword).isEmpty then 0 else 1) < 30)) = true := by intros; rfl) (hline : (p.endLine == pos.line) = true := by rfl) (hs : ∀ env, starEach (e :: es) env = (false, eval e env) :: starEach es env := by intros; rfl) (hplain : ∀ env, (backTo pos (starEach es env)).any (·.1) = false := by intros; rfl) :
    SE Γ c k (.Call (.Attribute o "append" p) (e :: es) [] pos) (xMeth isL appW fa fr) := se_bm PySem.F.plainAttrs_list PySem.F.slot_list_append PySem.F.type_list_append ms_append isL_ty ho ha hbase hfew hline hs hplain
theorem e_extend (ho : SE Γ c k o fa) (ha : SA Γ c k (e :: es) fr) (hbase : ∀ env, attributeBase o "extend" env (eval o env) = eval o env := by intros; rfl) (hfew : ∀ env, ((backTo pos (starEach (e :: es) env)).all (fun x => !x.1) && (backToKw pos (keywordEach [] env)).all (fun x => x.1.isSome) && decide ((e :: es).length + ([] : List Keyword).length + (if ([] : List Keyword).isEmpty then 0 else 1) < 30)) = true := by intros; rfl) (hline : (p.endLine == pos.line) = true := by rfl) (hs : ∀ env, starEach (e :: es) env = (false, eval e env) :: starEach es env := by intros; rfl) (hplain : ∀ env, (backTo pos (starEach es env)).any (·.1) = false := by intros; rfl) :
    SE Γ c k (.Call (.Attribute o "extend" p) (e :: es) [] pos) (xMeth isL extW fa fr) := se_bm PySem.F.plainAttrs_list PySem.F.slot_list_extend PySem.F.type_list_extend ms_extend isL_ty ho ha hbase hfew hline hs hplain
theorem e_index (ho : SE Γ c k o fa) (ha : SA Γ c k (e :: es) fr) (hbase : ∀ env, attributeBase o "index" env (eval o env) = eval o env := by intros; rfl) (hfew : ∀ env, ((backTo pos (starEach (e :: es) env)).all (fun x => !x.1) && (backToKw pos (keywordEach [] env)).all (fun x => x.1.isSome) && decide ((e :: es).length + ([] : List Keyword).length + (if ([] : List Keyword).isEmpty then 0 else 1) < 30)) = true := by intros; rfl) (hline : (p.endLine == pos.line) = true := by rfl) (hs : ∀ env, starEach (e :: es) env = (false, eval e env) :: starEach es env := by intros; rfl) (hplain : ∀ env, (backTo pos (starEach es env)).any (·.1) = false := by intros; rfl) :
    SE Γ c k (.Call (.Attribute o "index" p) (e :: es) [] pos) (xMeth isL idxW fa fr) := se_bm PySem.F.plainAttrs_list PySem.F.slot_list_index PySem.F.type_list_index ms_index isL_ty ho ha hbase hfew hline hs hplain
theorem e_join (ho : SE Γ c k o fa) (ha : SA Γ c k (e :: es) fr) (hbase : ∀ env, attributeBase o "join" env (eval o env) = eval o env := by intros; rfl) (hfew : ∀ env, ((backTo pos (starEach (e :: es) env)).all (fun x => !x.1) && (backToKw pos (keywordEach [] env)).all (fun x => x.1.isSome) && decide ((e :: es).length + ([] : List Keyword).length + (if ([] : List Keyword).isEmpty then 0 else 1) < 30)) = true := by intros; rfl) (hline : (p.endLine == pos.line) = true := by rfl) (hs : ∀ env, starEach (e :: es) env = (false, eval e env) :: starEach es env := by intros; rfl) (hplain : ∀ env, (backTo pos (starEach es env)).any (·.1) = false := by intros; rfl) :
    SE Γ c k (.Call (.Attribute o "join" p) (e :: es) [] pos) (xMeth isS joinW fa fr) := se_bm PySem.F.plainAttrs_str PySem.F.slot_str_join PySem.F.type_str_join ms_join isS_ty ho ha hbase hfew hline hs hplain
end

def blkCfg (c : Cfg) (scope : Scope) (V L G : List Str) : Cfg := ⟨c.N, V, L, G, relS scope c.sc, false, c.calm⟩
section
variable {Γ : Gam} {c : Cfg} {k : Nat} {e tg iter : Expr} {ifs : List Expr} {fa fb fc : XE} {ft fu : XT} {pos p : Pos}
theorem se_lc {scope : Scope} {fi : XI} {g : XG} {t : XT} {el : XE} (own : List (Str × Nat)) (V L G : List Str) (hi : SI Γ c k tg iter fi) (hg : SGo Γ (blkCfg c scope V L G) k (own.map (·.2)) tg g) (ht : STs Γ (blkCfg c scope V L G) k ifs t) (he : SE Γ (blkCfg c scope V L G) k e el)
    (ok : cfgOk (blkCfg c scope V L G) = true) (hb : blkC c.N c.sc scope own = true) (hc : c.calm = true := by rfl) (hset : ∀ env x, foldedSetIterable iter env x = pure x := by intros; rfl) :
    SE Γ c k (.ListComp e [⟨tg, iter, ifs, 0⟩] scope pos) (xComp fi g t el (own.map (·.2))) := se_comp _ hi hg ht he ok hb rfl rfl rfl rfl hc hset
theorem ss_lc (i j : Nat) {x : Str} {px spos : Pos} {scope : Scope} {fi : XI} {g : XG} {t : XT} {el : XE} (own : List (Str × Nat)) (V L G : List Str) (hi : SI Γ c k tg iter fi) (hg : SGo Γ (blkCfg c scope V L G) k (own.map (·.2)) tg g) (ht : STs Γ (blkCfg c scope V L G) k ifs t) (he : SE Γ (blkCfg c scope V L G) k e el)
    (ok : cfgOk (blkCfg c scope V L G) = true) (hb : blkC c.N c.sc scope own = true) (hl : c.sc.names.lookup x = some .local) (ha : (scope.names.any fun (n, k) => n == x && (k == .local || k == .cell)) = false) (hln : (px.line == pos.line) = true := by rfl)
    (hNx : c.N[i]? = some x := by rfl) (hc : c.calm = true := by rfl) (hset : ∀ env x, foldedSetIterable iter env x = pure x := by intros; rfl) (hfk : c.sc.kind = .function := by rfl) :
    SS Γ c k (.Assign [.Name x px] (.ListComp e [⟨tg, iter, ifs, 0⟩] scope pos) spos) (sSet i (xComp fi g t el (own.map (·.2)))) := ss_setLc i j _ hi hg ht he ok hb hl hln ha hNx rfl rfl rfl rfl hc hset hfk
end
end Z

/-! Y0: what a text needs for a wish (weakest preconditions), one rule a combinator -/
namespace Z
open PySem PySem.Spec PyProof.Rows L2
def Out.wp {α : Type} (o : Out α) (Q : α → Hm → Prop) (E : Exn → Hm → Prop) : Prop := match o with
  | .ok a h => Q a h
  | .err x h => E x h
  | .bad => False
def SOut.wp (o : SOut) (N : Sg → Hm → Prop) (R : W → Hm → Prop) (B C : Sg → Hm → Prop) (E : Exn → Sg → Hm → Prop) : Prop := match o with
  | .nx σ h => N σ h
  | .rt w h => R w h
  | .bk σ h => B σ h
  | .ct σ h => C σ h
  | .err x σ h => E x σ h
  | .bad => False
/-- no exception -/
abbrev nE : Exn → Hm → Prop := fun _ _ => False
section
variable {α β : Type} {σ : Sg} {h : Hm} {Q Q' : α → Hm → Prop} {E E' : Exn → Hm → Prop} {N N' B B' C C' : Sg → Hm → Prop} {R R' : W → Hm → Prop} {X X' : Exn → Sg → Hm → Prop} {V V' : W → Hm → Prop}
theorem Out.wp_imp {o : Out α} (w : o.wp Q E) (q : ∀ a h, Q a h → Q' a h) (e : ∀ x h, E x h → E' x h) : o.wp Q' E' := by
  cases o with
  | ok a h => exact q a h w
  | err x h => exact e x h w
  | bad => exact w
theorem SOut.wp_imp {o : SOut} (w : o.wp N R B C X) (n : ∀ s h, N s h → N' s h) (r : ∀ v h, R v h → R' v h) (b : ∀ s h, B s h → B' s h) (c : ∀ s h, C s h → C' s h) (e : ∀ x s h, X x s h → X' x s h) : o.wp N' R' B' C' X' := by
  cases o with
  | nx s h => exact n s h w
  | rt v h => exact r v h w
  | bk s h => exact b s h w
  | ct s h => exact c s h w
  | err x s h => exact e x s h w
  | bad => exact w
/-- the value itself -/
theorem Out.wp_get {o : Out α} (w : o.wp Q nE) : ∃ a h, o = .ok a h ∧ Q a h := by
  cases o with
  | ok a h => exact ⟨a, h, rfl, w⟩
  | err x h => exact w.elim
  | bad => exact w.elim
theorem w_bind {o : Out α} {f : α → Hm → Out β} {P : β → Hm → Prop} (w : o.wp (fun a h1 => (f a h1).wp P E) E) : (o.bind f).wp P E := by
  cases o with
  | ok a h => exact w
  | err x h => exact w
  | bad => exact w
theorem w_sOf {o : Out α} {f : α → Hm → SOut} (w : o.wp (fun a h1 => (f a h1).wp N R B C X) (fun x h1 => X x σ h1)) : (sOf o σ f).wp N R B C X := by
  cases o with
  | ok a h => exact w
  | err x h => exact w
  | bad => exact w
variable {a b c e : XE} {t u : XT} {r : XA} {f g : XS} {op op' : W → W → Hm → Pr}
theorem w_K {w : W} (q : V w h) : (xK w σ h).wp V E := q
theorem w_var {i : Nat} {w : W} (e : σ[i]? = some (some w)) (q : V w h) : (xVar i σ h).wp V E := by
  unfold xVar
  rw [e]
  exact q
theorem w_bin (w : (a σ h).wp (fun x h1 => (b σ h1).wp (fun y h2 => (ofO (op x y h2)).wp V E) E) E) : (xBin op a b σ h).wp V E :=
  w_bind (Out.wp_imp w (fun _ _ q => w_bind q) fun _ _ q => q)
theorem w_un {op : W → Hm → Pr} (w : (a σ h).wp (fun x h1 => (ofO (op x h1)).wp V E) E) : (xUn op a σ h).wp V E := w_bind w
theorem w_nil {P : List W → Hm → Prop} (w : P [] h) : (xNil σ h).wp P E := w
theorem w_cons {P : List W → Hm → Prop} (w : (a σ h).wp (fun x h1 => (r σ h1).wp (fun xs h2 => P (x :: xs) h2) E) E) : (xCons a r σ h).wp P E :=
  w_bind (Out.wp_imp w (fun _ _ q => w_bind (Out.wp_imp q (fun _ _ q => q) fun _ _ q => q)) fun _ _ q => q)
theorem w_call {g : List W → Hm → Pr} (w : (r σ h).wp (fun xs h1 => (ofO (g xs h1)).wp V E) E) : (xCall g r σ h).wp V E := w_bind w
theorem w_tup (w : (r σ h).wp (fun xs h1 => xs.length ≤ 16777216 ∧ V (.tup xs) h1) E) : (xTup r σ h).wp V E :=
  w_bind (Out.wp_imp w (fun xs h1 q => by rw [if_pos q.1]; exact q.2) fun _ _ q => q)
theorem w_lst (w : (r σ h).wp (fun xs h1 => xs.length ≤ 16777216 ∧ V (.ref h1.length) (h1 ++ [.lst xs])) E) : (xLst r σ h).wp V E :=
  w_bind (Out.wp_imp w (fun xs h1 q => by rw [if_pos q.1]; exact q.2) fun _ _ q => q)
theorem w_dic (q : V (.ref h.length) (h ++ [.dic []])) : (xDic σ h).wp V E := q
theorem w_B {P : Bool → Hm → Prop} (w : (a σ h).wp (fun x h1 => (asB x h1).wp P E) E) : (xB a σ h).wp P E := w_bind w
theorem w_asB {P : Bool → Hm → Prop} {v : Bool} (q : P v h) : (asB (.bl v) h).wp P E := q
theorem w_AndT {P : Bool → Hm → Prop} (w : (t σ h).wp (fun c h1 => (c = true → (u σ h1).wp P E) ∧ (c = false → P false h1)) E) : (xAndT t u σ h).wp P E :=
  w_bind (Out.wp_imp w (fun c h1 q => by cases c with
    | true => exact q.1 rfl
    | false => exact q.2 rfl) fun _ _ q => q)
theorem w_OrT {P : Bool → Hm → Prop} (w : (t σ h).wp (fun c h1 => (c = true → P true h1) ∧ (c = false → (u σ h1).wp P E)) E) : (xOrT t u σ h).wp P E :=
  w_bind (Out.wp_imp w (fun c h1 q => by cases c with
    | true => exact q.1 rfl
    | false => exact q.2 rfl) fun _ _ q => q)
theorem w_NotT {P : Bool → Hm → Prop} (w : (t σ h).wp (fun c h1 => P (!c) h1) E) : (xNotT t σ h).wp P E := w_bind w
theorem w_And (w : (a σ h).wp (fun x h1 => ∃ v, x = .bl v ∧ (v = true → (b σ h1).wp V E) ∧ (v = false → V (.bl false) h1)) E) : (xAnd a b σ h).wp V E :=
  w_bind (Out.wp_imp w (fun x h1 q => by
    obtain ⟨v, rfl, q1, q2⟩ := q
    cases v with
    | true => exact q1 rfl
    | false => exact q2 rfl) fun _ _ q => q)
theorem w_Or (w : (a σ h).wp (fun x h1 => ∃ v, x = .bl v ∧ (v = true → V (.bl true) h1) ∧ (v = false → (b σ h1).wp V E)) E) : (xOr a b σ h).wp V E :=
  w_bind (Out.wp_imp w (fun x h1 q => by
    obtain ⟨v, rfl, q1, q2⟩ := q
    cases v with
    | true => exact q1 rfl
    | false => exact q2 rfl) fun _ _ q => q)
theorem w_Not (w : (a σ h).wp (fun x h1 => ∃ v, x = .bl v ∧ V (.bl !v) h1) E) : (xNot a σ h).wp V E :=
  w_bind (Out.wp_imp w (fun x h1 q => by
    obtain ⟨v, rfl, q1⟩ := q
    exact q1) fun _ _ q => q)
theorem w_If (w : (t σ h).wp (fun c h1 => (c = true → (a σ h1).wp V E) ∧ (c = false → (b σ h1).wp V E)) E) : (xIf t a b σ h).wp V E :=
  w_bind (Out.wp_imp w (fun c h1 q => by cases c with
    | true => exact q.1 rfl
    | false => exact q.2 rfl) fun _ _ q => q)
theorem w_Chain (w : (a σ h).wp (fun x h1 => (b σ h1).wp (fun y h2 => (ofO (op x y h2)).wp (fun z h3 => ∃ v, z = .bl v ∧ (v = true → (c σ h3).wp (fun w h4 => (ofO (op' y w h4)).wp V E) E) ∧ (v = false → V (.bl false) h3)) E) E) E) : (xChain op op' a b c σ h).wp V E :=
  w_bind (Out.wp_imp w (fun x h1 q => w_bind (Out.wp_imp q (fun y h2 q => w_bind (Out.wp_imp q (fun z h3 q => by
    obtain ⟨v, rfl, q1, q2⟩ := q
    cases v with
    | true => exact w_bind (q1 rfl)
    | false => exact q2 rfl) fun _ _ q => q)) fun _ _ q => q)) fun _ _ q => q)
theorem w_Fn {F : List W → Hm → Out W} (w : (r σ h).wp (fun xs h1 => (F xs h1).wp V E) E) : (xFn F r σ h).wp V E := w_bind w
theorem w_Meth {tt : W → Hm → Bool} {g : W → List W → Hm → Pr} (w : (a σ h).wp (fun x h1 => tt x h1 = true ∧ (r σ h1).wp (fun xs h2 => (ofO (g x xs h2)).wp V E) E) E) : (xMeth tt g a r σ h).wp V E :=
  w_bind (Out.wp_imp w (fun x h1 q => by
    rw [if_pos q.1]
    exact w_bind q.2) fun _ _ q => q)
theorem w_Isi {T : String} (w : (a σ h).wp (fun x h1 => ∃ v, isiC T x h1 = some v ∧ V (.bl v) h1) E) : (xIsi T a σ h).wp V E :=
  w_bind (Out.wp_imp w (fun x h1 q => by
    obtain ⟨v, e1, q1⟩ := q
    rw [e1]
    exact q1) fun _ _ q => q)
theorem w_ofO {p : Pr} {x : W} {h1 : Hm} (e : p = some (x, h1)) (q : V x h1) : (ofO p).wp V E := by
  rw [e]
  exact q
theorem w_oNone {P : Option Int → Hm → Prop} (q : P none h) : (xoNone σ h).wp P E := q
theorem w_oSome {P : Option Int → Hm → Prop} (w : (a σ h).wp (fun x h1 => ∃ i, x = .int i ∧ P (some i) h1) E) : (xoSome a σ h).wp P E :=
  w_bind (Out.wp_imp w (fun x h1 q => by
    obtain ⟨i, rfl, q1⟩ := q
    exact q1) fun _ _ q => q)
theorem w_Sl {lo hi : XO} (w : (a σ h).wp (fun x h1 => (lo σ h1).wp (fun l h2 => (hi σ h2).wp (fun u h3 => (ofO (slW x l u h3)).wp V E) E) E) E) : (xSl a lo hi σ h).wp V E :=
  w_bind (Out.wp_imp w (fun x h1 q => w_bind (Out.wp_imp q (fun x h1 q => w_bind q) fun _ _ q => q)) fun _ _ q => q)
/-! statements -/
theorem w_skip (q : N σ h) : (sSkip σ h).wp N R B C X := q
theorem w_seq (w : (f σ h).wp (fun s h1 => (g s h1).wp N R B C X) R B C X) : (sSeq f g σ h).wp N R B C X := by
  unfold sSeq
  cases e : f σ h with
  | nx s h1 => rw [e] at w; exact w
  | rt s h1 => rw [e] at w; exact w
  | bk s h1 => rw [e] at w; exact w
  | ct s h1 => rw [e] at w; exact w
  | err x s h1 => rw [e] at w; exact w
  | bad => rw [e] at w; exact w
theorem w_set {i : Nat} (w : (e σ h).wp (fun x h1 => N (σ.set i (some x)) h1) (fun x h1 => X x σ h1)) : (sSet i e σ h).wp N R B C X := w_sOf w
theorem w_ret (w : (e σ h).wp R (fun x h1 => X x σ h1)) : (sRet e σ h).wp N R B C X := w_sOf w
theorem w_retN (w : R .non h) : (sRetN σ h).wp N R B C X := w
theorem w_if (w : (t σ h).wp (fun c h1 => (c = true → (f σ h1).wp N R B C X) ∧ (c = false → (g σ h1).wp N R B C X)) (fun x h1 => X x σ h1)) : (sIf t f g σ h).wp N R B C X :=
  w_sOf (Out.wp_imp w (fun c h1 q => by cases c with
    | true => exact q.1 rfl
    | false => exact q.2 rfl) fun _ _ q => q)
theorem w_expr (w : (e σ h).wp (fun _ h1 => N σ h1) (fun x h1 => X x σ h1)) : (sExpr e σ h).wp N R B C X := w_sOf w
theorem w_break (w : B σ h) : (sBreak σ h).wp N R B C X := w
theorem w_cont (w : C σ h) : (sCont σ h).wp N R B C X := w
theorem w_aug {i : Nat} {x : W} (ex : σ[i]? = some (some x)) (w : (e σ h).wp (fun y h1 => ∃ z h2, op x y h1 = some (z, h2) ∧ N (σ.set i (some z)) h2) (fun x h1 => X x σ h1)) : (sAug i op e σ h).wp N R B C X := by
  unfold sAug
  rw [ex]
  refine w_sOf (Out.wp_imp w (fun y h1 q => ?_) fun _ _ q => q)
  obtain ⟨z, h2, e1, q1⟩ := q
  rw [e1]
  exact q1
theorem w_sub {o i : XE} {g : W → W → W → Hm → Option Hm} (w : (e σ h).wp (fun v h1 => (o σ h1).wp (fun x h2 => (i σ h2).wp (fun y h3 => ∃ h4, g x y v h3 = some h4 ∧ N σ h4) (fun x h1 => X x σ h1)) (fun x h1 => X x σ h1)) (fun x h1 => X x σ h1)) : (sSub o i e g σ h).wp N R B C X :=
  w_sOf (Out.wp_imp w (fun v h1 q => w_sOf (Out.wp_imp q (fun x h2 q => w_sOf (Out.wp_imp q (fun y h3 q => by
    obtain ⟨h4, e1, q1⟩ := q
    rw [e1]
    exact q1) fun _ _ q => q)) fun _ _ q => q)) fun _ _ q => q)
theorem w_asg {g : XG} (w : (e σ h).wp (fun x h1 => ∃ s, g x σ h1 = some s ∧ N s h1) (fun x h1 => X x σ h1)) : (sAsg g e σ h).wp N R B C X :=
  w_sOf (Out.wp_imp w (fun x h1 q => by
    obtain ⟨s, e1, q1⟩ := q
    rw [e1]
    exact q1) fun _ _ q => q)
theorem w_turn {o : SOut} {next : Sg → Hm → SOut} (w : o.wp (fun s h1 => (next s h1).wp N R B C X) R N (fun s h1 => (next s h1).wp N R B C X) X) : (sTurn o next).wp N R B C X := by
  cases o with
  | nx s h1 => exact w
  | rt s h1 => exact w
  | bk s h1 => exact w
  | ct s h1 => exact w
  | err x s h1 => exact w
  | bad => exact w
theorem w_For {fi : XI} {g : XG} (w : (fi σ h).wp (fun it h1 => (sForL it g f fuel 0 σ h1).wp N R B C X) (fun x h1 => X x σ h1)) : (sFor fi g f σ h).wp N R B C X := w_sOf w
/-- THE LOOP: I i holds before the i-th item -/
theorem w_loop {it : Itr} {g : XG} {n m : Nat} (I : Nat → Sg → Hm → Prop) (hm : n < m) (h0 : I 0 σ h) (step : ∀ i σ h, i < n → I i σ h → ∃ w s, it i h = some (some w) ∧ g w σ h = some s ∧ (f s h).wp (I (i + 1)) R N (I (i + 1)) X)
    (fin : ∀ σ h, I n σ h → it n h = some none ∧ N σ h) : (sForL it g f m 0 σ h).wp N R B C X := by
  have go : ∀ (k i m : Nat) σ h, i + k = n → k < m → I i σ h → (sForL it g f m i σ h).wp N R B C X := by
    intro k
    induction k with
    | zero =>
      intro i m σ h e hk hI
      obtain ⟨m, rfl⟩ : ∃ q, m = q + 1 := ⟨m - 1, by omega⟩
      have e : i = n := by omega
      subst e
      obtain ⟨q1, q2⟩ := fin σ h hI
      unfold sForL
      rw [q1]
      exact q2
    | succ k ih =>
      intro i m σ h e hk hI
      obtain ⟨m, rfl⟩ : ∃ q, m = q + 1 := ⟨m - 1, by omega⟩
      obtain ⟨w, s, e1, e2, q⟩ := step i σ h (by omega) hI
      unfold sForL
      rw [e1]
      show (match g w σ h with
        | none => SOut.bad
        | some σ1 => sTurn (f σ1 h) (sForL it g f m (i + 1))).wp N R B C X
      rw [e2]
      exact w_turn (SOut.wp_imp q (fun s h1 q => ih (i + 1) m s h1 (by omega) (by omega) q) (fun _ _ q => q) (fun _ _ q => q) (fun s h1 q => ih (i + 1) m s h1 (by omega) (by omega) q) fun _ _ _ q => q)
  exact go n 0 m σ h (by omega) hm h0
/-- THE WHILE: I d holds ahead of the test, d bounds the turns left -/
theorem w_while {m : Nat} (I : Nat → Sg → Hm → Prop) (d : Nat) (hd : d < m) (h0 : I d σ h)
    (step : ∀ d σ h, I d σ h → (t σ h).wp (fun c h1 => (c = true → (f σ h1).wp (fun s h2 => ∃ d', d' < d ∧ I d' s h2) R N (fun s h2 => ∃ d', d' < d ∧ I d' s h2) X) ∧ (c = false → N σ h1)) (fun x h1 => X x σ h1)) : (sWhile t f m σ h).wp N R B C X := by
  induction m generalizing d σ h with
  | zero => omega
  | succ m ih =>
    unfold sWhile
    refine w_sOf (Out.wp_imp (step d σ h h0) (fun c h1 q => ?_) fun _ _ q => q)
    cases c with
    | false => exact q.2 rfl
    | true => exact w_turn (SOut.wp_imp (q.1 rfl) (fun s h2 ⟨d', l, q⟩ => ih d' (by omega) q) (fun _ _ q => q) (fun _ _ q => q) (fun s h2 ⟨d', l, q⟩ => ih d' (by omega) q) fun _ _ _ q => q)
/-! iterators -/
theorem w_iRng1 {P : Itr → Hm → Prop} (w : (r σ h).wp (fun xs h1 => ∃ j, xs = [.int j] ∧ smallI j = true ∧ P (itRng 0 1 j.toNat) h1) E) : (iRng1 r σ h).wp P E :=
  w_bind (Out.wp_imp w (fun xs h1 q => by
    obtain ⟨j, rfl, e1, q1⟩ := q
    dsimp only
    rw [if_pos e1]
    exact q1) fun _ _ q => q)
theorem w_iRng2 {P : Itr → Hm → Prop} (w : (r σ h).wp (fun xs h1 => ∃ i j, xs = [.int i, .int j] ∧ smallI i = true ∧ smallI j = true ∧ P (itRng i 1 (j - i).toNat) h1) E) : (iRng2 r σ h).wp P E :=
  w_bind (Out.wp_imp w (fun xs h1 q => by
    obtain ⟨i, j, rfl, e1, e2, q1⟩ := q
    dsimp only
    rw [if_pos (by rw [e1, e2]; rfl)]
    exact q1) fun _ _ q => q)
theorem w_iAny {P : Itr → Hm → Prop} (w : (a σ h).wp (fun x h1 => (∃ xs, seqC x h1 = some xs ∧ P (itSeq x) h1) ∨ ∃ z, x = .str z ∧ P (itStr z) h1) E) : (iAny a σ h).wp P E :=
  w_bind (Out.wp_imp w (fun x h1 q => by
    rcases q with ⟨xs, e1, q1⟩ | ⟨z, rfl, q1⟩
    · cases x with
      | str z => cases e1
      | tup ys =>
        dsimp only
        rw [if_pos (by rw [e1]; rfl)]
        exact q1
      | ref i =>
        dsimp only
        rw [if_pos (by rw [e1]; rfl)]
        exact q1
      | _ => cases e1
    · exact q1) fun _ _ q => q)
theorem w_iRev {P : Itr → Hm → Prop} (w : (a σ h).wp (fun x h1 => ∃ xs, seqC x h1 = some xs ∧ P (itRev x xs.length) h1) E) : (iRev a σ h).wp P E :=
  w_bind (Out.wp_imp w (fun x h1 q => by
    obtain ⟨xs, e1, q1⟩ := q
    rw [e1]
    exact q1) fun _ _ q => q)
theorem w_iZip {P : Itr → Hm → Prop} (w : (r σ h).wp (fun xs h1 => ∃ x y, xs = [x, y] ∧ isL x h1 = true ∧ isL y h1 = true ∧ P (itZip x y) h1) E) : (iZip r σ h).wp P E :=
  w_bind (Out.wp_imp w (fun xs h1 q => by
    obtain ⟨x, y, rfl, e1, e2, q1⟩ := q
    dsimp only
    rw [if_pos (by rw [e1, e2]; rfl)]
    exact q1) fun _ _ q => q)
theorem w_iEnum {P : Itr → Hm → Prop} (w : (r σ h).wp (fun xs h1 => ∃ x, xs = [x] ∧ isL x h1 = true ∧ P (itEnum x) h1) E) : (iEnum r σ h).wp P E :=
  w_bind (Out.wp_imp w (fun xs h1 q => by
    obtain ⟨x, rfl, e1, q1⟩ := q
    dsimp only
    rw [if_pos e1]
    exact q1) fun _ _ q => q)
/-- a comprehension: I i acc h before the i-th item (the new list has acc) -/
theorem w_comp {fi : XI} {g : XG} {own : List Nat} (w : (fi σ h).wp (fun it h1 => (compL it g t e h1.length (wipeS σ own) fuel 0 (h1 ++ [.lst []])).wp V E) E) : (xComp fi g t e own σ h).wp V E := w_bind w
theorem w_compL {it : Itr} {g : XG} {d n m : Nat} {σ0 : Sg} (I : Nat → List W → Hm → Prop) (hm : n < m) (hn : n ≤ 16777216) (h0 : I 0 [] h) (hI : ∀ i acc h, I i acc h → h[d]? = some (.lst acc) ∧ acc.length ≤ i)
    (step : ∀ i acc h, i < n → I i acc h → ∃ w s, it i h = some (some w) ∧ g w σ0 h = some s ∧ (t s h).wp (fun c h1 => (c = true → (e s h1).wp (fun y h2 => h2[d]? = some (.lst acc) ∧ I (i + 1) (acc ++ [y]) (h2.set d (.lst (acc ++ [y])))) nE) ∧ (c = false → I (i + 1) acc h1)) nE)
    (fin : ∀ acc h, I n acc h → it n h = some none ∧ V (.ref d) h) : (compL it g t e d σ0 m 0 h).wp V E := by
  have go : ∀ (k i m : Nat) acc h, i + k = n → k < m → I i acc h → (compL it g t e d σ0 m i h).wp V E := by
    intro k
    induction k with
    | zero =>
      intro i m acc h e hk hi
      obtain ⟨m, rfl⟩ : ∃ q, m = q + 1 := ⟨m - 1, by omega⟩
      have e : i = n := by omega
      subst e
      obtain ⟨q1, q2⟩ := fin acc h hi
      unfold compL
      rw [q1]
      exact q2
    | succ k ih =>
      intro i m acc h e' hk hi
      obtain ⟨m, rfl⟩ : ∃ q, m = q + 1 := ⟨m - 1, by omega⟩
      obtain ⟨w, s, e1, e2, q⟩ := step i acc h (by omega) hi
      obtain ⟨c, h1, e3, q1, q2⟩ := Out.wp_get q
      unfold compL
      simp only [e1, e2, e3]
      cases c with
      | false => exact ih (i + 1) m acc h1 (by omega) (by omega) (q2 rfl)
      | true =>
        obtain ⟨y, h2, e4, q3, q4⟩ := Out.wp_get (q1 rfl)
        simp only [e4, q3]
        rw [if_pos (by have := (hI i acc h hi).2; omega)]
        exact ih (i + 1) m _ _ (by omega) (by omega) q4
  exact go n 0 m [] h (by omega) hm h0
theorem w_true {P : Bool → Hm → Prop} (q : P true h) : (xTrue σ h).wp P E := q
/-- a def -/
theorem w_mk {n : Nat} {ws : List W} {f : XS} (w : (f (ws.map some ++ List.replicate (n - ws.length) none) h).wp (fun _ h1 => V .non h1) V (fun _ _ => False) (fun _ _ => False) (fun x _ h1 => E x h1)) : (mkF n f ws h).wp V E := by
  unfold mkF
  cases e : f (ws.map some ++ List.replicate (n - ws.length) none) h with
  | nx s h1 => rw [e] at w; exact w
  | rt s h1 => rw [e] at w; exact w
  | bk s h1 => rw [e] at w; exact w
  | ct s h1 => rw [e] at w; exact w
  | err x s h1 => rw [e] at w; exact w
  | bad => rw [e] at w; exact w
end
end Z

/-! Y1: rules of the operations; decisions -/
namespace Z
open PySem PySem.Spec PyProof.Rows L2
section
variable {h : Hm} {V : W → Hm → Prop} {E : Exn → Hm → Prop} {i j : Int} {x y : Str} {a b : W}
theorem o_addI (q : V (.int (i + j)) h) : (ofO (addW (.int i) (.int j) h)).wp V E := q
theorem o_subI (q : V (.int (i - j)) h) : (ofO (subW (.int i) (.int j) h)).wp V E := q
theorem o_mulI (m : mulOk i j = true) (q : V (.int (i * j)) h) : (ofO (mulW (.int i) (.int j) h)).wp V E := by
  refine w_ofO (p := mulW (.int i) (.int j) h) ?_ q
  unfold mulW
  dsimp only
  rw [if_pos m]
theorem mulOk_small (hi : -(2 ^ 64) < i ∧ i < 2 ^ 64) : mulOk i j = true := by
  unfold mulOk
  rw [decide_eq_true hi]
  rfl
theorem mulOk_smallR (hi : -(2 ^ 64) < j ∧ j < 2 ^ 64) : mulOk i j = true := by
  unfold mulOk
  rw [decide_eq_true hi, Bool.or_true]
  rfl
theorem o_mulS (hi : -(2 ^ 64) < i ∧ i < 2 ^ 64) (q : V (.int (i * j)) h) : (ofO (mulW (.int i) (.int j) h)).wp V E := o_mulI (mulOk_small hi) q
theorem o_mulSR (hi : -(2 ^ 64) < j ∧ j < 2 ^ 64) (q : V (.int (i * j)) h) : (ofO (mulW (.int i) (.int j) h)).wp V E := o_mulI (mulOk_smallR hi) q
theorem o_fdivI (m : 0 < j ∧ j.natAbs.log2 < 9000) (q : V (.int (i / j)) h) : (ofO (fdivW (.int i) (.int j) h)).wp V E := by
  refine w_ofO (p := fdivW (.int i) (.int j) h) ?_ q
  unfold fdivW
  dsimp only
  rw [if_pos m]
theorem o_modI (m : 0 < j) (q : V (.int (i % j)) h) : (ofO (modW (.int i) (.int j) h)).wp V E := by
  refine w_ofO (p := modW (.int i) (.int j) h) ?_ q
  unfold modW
  dsimp only
  rw [if_pos m]
theorem o_powI (m : 0 ≤ j ∧ j ≤ 1000000 ∧ i.natAbs < 2 ^ 64) (q : V (.int (i ^ j.toNat)) h) : (ofO (powW (.int i) (.int j) h)).wp V E := by
  refine w_ofO (p := powW (.int i) (.int j) h) ?_ q
  unfold powW
  dsimp only
  rw [if_pos m]
theorem o_shlI (m : 0 ≤ j ∧ (Builtin.Int.intBits i : Int) + j ≤ 2 ^ 27) (q : V (.int (i * 2 ^ j.toNat)) h) : (ofO (shlW (.int i) (.int j) h)).wp V E := by
  refine w_ofO (p := shlW (.int i) (.int j) h) ?_ q
  unfold shlW
  dsimp only
  rw [if_pos m]
theorem o_shrI (m : 0 ≤ j) (q : V (.int (i / 2 ^ j.toNat)) h) : (ofO (shrW (.int i) (.int j) h)).wp V E := by
  refine w_ofO (p := shrW (.int i) (.int j) h) ?_ q
  unfold shrW
  dsimp only
  rw [if_pos m]
theorem o_andI (q : V (.int (Builtin.bitAnd i j)) h) : (ofO (andW (.int i) (.int j) h)).wp V E := q
theorem o_orI (q : V (.int (Builtin.bitOr i j)) h) : (ofO (orW (.int i) (.int j) h)).wp V E := q
theorem o_xorI (q : V (.int (Builtin.bitXor i j)) h) : (ofO (xorW (.int i) (.int j) h)).wp V E := q
theorem o_negI (q : V (.int (-i)) h) : (ofO (negW (.int i) h)).wp V E := q
theorem o_ltI (q : V (.bl (decide (i < j))) h) : (ofO (ltW (.int i) (.int j) h)).wp V E := q
theorem o_leI (q : V (.bl (decide (i ≤ j))) h) : (ofO (leW (.int i) (.int j) h)).wp V E := q
theorem o_gtI (q : V (.bl (decide (j < i))) h) : (ofO (gtW (.int i) (.int j) h)).wp V E := q
theorem o_geI (q : V (.bl (decide (j ≤ i))) h) : (ofO (geW (.int i) (.int j) h)).wp V E := q
theorem o_eqI (q : V (.bl (decide (i = j))) h) : (ofO (eqW (.int i) (.int j) h)).wp V E := q
theorem o_neI (q : V (.bl (!decide (i = j))) h) : (ofO (neW (.int i) (.int j) h)).wp V E := q
theorem o_eqS (q : V (.bl (decide (x = y))) h) : (ofO (eqW (.str x) (.str y) h)).wp V E := q
theorem o_neS (q : V (.bl (!decide (x = y))) h) : (ofO (neW (.str x) (.str y) h)).wp V E := q
theorem o_eqB {v w : Bool} (q : V (.bl (decide (v = w))) h) : (ofO (eqW (.bl v) (.bl w) h)).wp V E := q
theorem o_neB {v w : Bool} (q : V (.bl (!decide (v = w))) h) : (ofO (neW (.bl v) (.bl w) h)).wp V E := q
theorem o_isB {v w : Bool} (q : V (.bl (decide (v = w))) h) : (ofO (isW (.bl v) (.bl w) h)).wp V E := q
theorem o_isnB {v w : Bool} (q : V (.bl (!decide (v = w))) h) : (ofO (isnW (.bl v) (.bl w) h)).wp V E := q
theorem o_isN (q : V (.bl (isNonW a)) h) : (ofO (isW a .non h)).wp V E := by cases a <;> exact q
theorem o_isnN (q : V (.bl (!isNonW a)) h) : (ofO (isnW a .non h)).wp V E := by cases a <;> exact q
/-! decisions -/
variable {A B : Prop}
theorem d_T (a : A) : (true = true → A) ∧ (true = false → B) := ⟨fun _ => a, nofun⟩
theorem d_F (b : B) : (false = true → A) ∧ (false = false → B) := ⟨nofun, fun _ => b⟩
theorem d_dec {p : Prop} [Decidable p] (a : p → A) (b : ¬ p → B) : (decide p = true → A) ∧ (decide p = false → B) := ⟨fun q => a (of_decide_eq_true q), fun q => b (of_decide_eq_false q)⟩
theorem d_decT {p : Prop} [Decidable p] (hp : p) (a : A) : (decide p = true → A) ∧ (decide p = false → B) := d_dec (fun _ => a) fun n => (n hp).elim
theorem d_decF {p : Prop} [Decidable p] (hp : ¬ p) (b : B) : (decide p = true → A) ∧ (decide p = false → B) := d_dec (fun n => (hp n).elim) fun _ => b
theorem d_not {c : Bool} (q : (c = true → B) ∧ (c = false → A)) : ((!c) = true → A) ∧ ((!c) = false → B) := by
  cases c with
  | true => exact ⟨nofun, fun _ => q.1 rfl⟩
  | false => exact ⟨fun _ => q.2 rfl, nofun⟩
theorem d_bl {c : Bool} {P : Bool → Prop} (q : P c) : ∃ v, W.bl c = .bl v ∧ P v := ⟨c, rfl, q⟩
theorem d_int {P : Int → Prop} (q : P i) : ∃ v, W.int i = .int v ∧ P v := ⟨i, rfl, q⟩
theorem d_c {c : Bool} (t : c = true → A) (f : c = false → B) : (c = true → A) ∧ (c = false → B) := ⟨t, f⟩
end

theorem d_len {xs : List W} {P : Prop} (e : xs.length ≤ 16777216) (p : P) : xs.length ≤ 16777216 ∧ P := ⟨e, p⟩
/-! which kind of goal -/
theorem is_S {o : SOut} {N B C : Sg → Hm → Prop} {R : W → Hm → Prop} {X : Exn → Sg → Hm → Prop} (w : o.wp N R B C X) : o.wp N R B C X := w
theorem is_O {p : Pr} {V : W → Hm → Prop} {E : Exn → Hm → Prop} (w : (ofO p).wp V E) : (ofO p).wp V E := w
theorem is_E {α : Type} {o : Out α} {V : α → Hm → Prop} {E : Exn → Hm → Prop} (w : o.wp V E) : o.wp V E := w
theorem is_D {c : Bool} {A B : Prop} (w : (c = true → A) ∧ (c = false → B)) : (c = true → A) ∧ (c = false → B) := w

/-! what stays of a heap -/
theorem pre_get {h h' : Hm} {r : Nat} {o : O} (p : h <+: h') (e : h[r]? = some o) : h'[r]? = some o := by
  obtain ⟨t, rfl⟩ := p
  rw [List.getElem?_append_left (List.getElem?_eq_some_iff.mp e).1]
  exact e
theorem get_new {h : Hm} {o : O} : (h ++ [o])[h.length]? = some o := by simp
theorem get_old {h : Hm} {o u : O} {r : Nat} (e : h[r]? = some o) : (h ++ [u])[r]? = some o := pre_get ⟨_, rfl⟩ e
theorem set_new {h : Hm} {o u : O} : (h ++ [o]).set h.length u = h ++ [u] := by simp
theorem pre_new {h h' : Hm} {u : O} (p : h <+: h') : h <+: h' ++ [u] := p.trans ⟨_, rfl⟩
theorem pre_set {h h' : Hm} {r : Nat} {o : O} (p : h <+: h') (e : h.length ≤ r) : h <+: h'.set r o := by
  obtain ⟨t, rfl⟩ := p
  rw [List.set_append_right _ _ e]
  exact ⟨_, rfl⟩
end Z

/-! Y2: rules of built-ins, lists, loops over ranges and sequences -/
namespace Z
open PySem PySem.Spec PyProof.Rows L2
theorem lt_fuel {n : Nat} (h : n < 1000000000) : n < fuel := h
theorem smallI_ok {i : Int} (h : -(2 ^ 62) ≤ i ∧ i < 2 ^ 62) : smallI i = true := decide_eq_true h
section
variable {h : Hm} {V : W → Hm → Prop} {E : Exn → Hm → Prop} {i j : Int} {x y z : Str} {a b w : W} {xs ys : List W} {r : Nat}
theorem o_lenS (m : z.length ≤ 16777216) (q : V (.int z.length) h) : (ofO (lenW [.str z] h)).wp V E := by
  refine w_ofO (p := lenW [.str z] h) ?_ q
  unfold lenW lenC
  dsimp only
  rw [if_pos m]
  rfl
theorem o_lenT (q : V (.int xs.length) h) : (ofO (lenW [.tup xs] h)).wp V E := q
theorem o_len (e : seqC a h = some xs) (q : V (.int xs.length) h) : (ofO (lenW [a] h)).wp V E := by
  refine w_ofO (p := lenW [a] h) ?_ q
  unfold lenW lenC
  unfold seqC at e
  dsimp only
  split at e
  · cases e
    rfl
  · split at e
    · rename_i e1
      cases e
      simp only [e1]
      rfl
    · rename_i e1
      cases e
      simp only [e1]
      rfl
    · cases e
  · cases e
theorem o_abs (q : V (.int (if i < 0 then -i else i)) h) : (ofO (absW [.int i] h)).wp V E := q
theorem o_int (q : V (.int i) h) : (ofO (intW [.int i] h)).wp V E := q
theorem o_intB {v : Bool} (q : V (.int (if v then 1 else 0)) h) : (ofO (intW [.bl v] h)).wp V E := q
theorem o_ord (m : x.length = 1) (q : V (.int (x.cps.getD 0 0 : Nat)) h) : (ofO (ordW [.str x] h)).wp V E := by
  refine w_ofO (p := ordW [.str x] h) ?_ q
  unfold ordW
  dsimp only
  rw [if_pos m]
theorem o_ord1 {c : Nat} (q : V (.int (c : Nat)) h) : (ofO (ordW [.str ⟨#[c]⟩] h)).wp V E := o_ord rfl q
theorem o_list (e : seqC a h = some ys) (q : V (.ref h.length) (h ++ [.lst ys])) : (ofO (listW [a] h)).wp V E := by
  refine w_ofO (p := listW [a] h) ?_ q
  unfold listW
  dsimp only
  rw [e]
  rfl
theorem o_tuple (e : seqC a h = some ys) (q : V (.tup ys) h) : (ofO (tupleW [a] h)).wp V E := by
  refine w_ofO (p := tupleW [a] h) ?_ q
  unfold tupleW
  dsimp only
  rw [e]
  rfl
theorem o_ix (e : seqC a h = some xs) (e2 : atI xs i = some w) (q : V w h) : (ofO (ixW a (.int i) h)).wp V E := by
  refine w_ofO (p := ixW a (.int i) h) ?_ q
  unfold ixW
  unfold seqC at e
  split at e
  · cases e
    dsimp only
    rw [e2]
    rfl
  · split at e
    · rename_i e1
      cases e
      dsimp only
      simp only [e1, e2]
      rfl
    · rename_i e1
      cases e
      dsimp only
      simp only [e1, e2]
      rfl
    · cases e
  · cases e
theorem o_ixS {c : Nat} (m : z.length ≤ 16777216) (e : atI z.cps.toList i = some c) (q : V (.str ⟨#[c]⟩) h) : (ofO (ixW (.str z) (.int i) h)).wp V E := by
  refine w_ofO (p := ixW (.str z) (.int i) h) ?_ q
  unfold ixW
  dsimp only
  rw [if_pos m, e]
  rfl
theorem atI_nat' {α : Type} {xs : List α} {j : Nat} {w : α} (e : xs[j]? = some w) : atI xs (j : Nat) = some w := atI_nat e
theorem o_app {zs : List W} (e : h[r]? = some (.lst zs)) (m : zs.length < 16777216) (q : V .non (h.set r (.lst (zs ++ [w])))) : (ofO (appW (.ref r) [w] h)).wp V E := by
  refine w_ofO (p := appW (.ref r) [w] h) ?_ q
  unfold appW
  simp only [e]
  rw [if_pos m]
theorem o_appN {zs : List W} (m : zs.length < 16777216) (q : V .non (h ++ [.lst (zs ++ [w])])) : (ofO (appW (.ref h.length) [w] (h ++ [.lst zs]))).wp V E :=
  o_app get_new m (by rw [set_new]; exact q)
theorem o_ext {zs us : List W} {s : Nat} (e : h[r]? = some (.lst zs)) (e2 : h[s]? = some (.lst us)) (m : zs.length + us.length ≤ 16777216) (q : V .non (h.set r (.lst (zs ++ us)))) : (ofO (extW (.ref r) [.ref s] h)).wp V E := by
  refine w_ofO (p := extW (.ref r) [.ref s] h) ?_ q
  unfold extW
  simp only [e, e2]
  rw [if_pos m]
theorem o_rev {zs : List W} (e : seqC (.ref r) h = some zs) (q : V (.ref h.length) (h ++ [.lst zs.reverse])) : (ofO (revW [.ref r] h)).wp V E := by
  refine w_ofO (p := revW [.ref r] h) ?_ q
  unfold revW
  unfold seqC at e
  dsimp only at e ⊢
  split at e
  · rename_i e1
    cases e
    simp only [e1]
  · rename_i e1
    cases e
    simp only [e1]
  · cases e
theorem o_addL {zs us : List W} {s : Nat} (e : h[r]? = some (.lst zs)) (e2 : h[s]? = some (.lst us)) (m : zs.length + us.length ≤ 16777216) (q : V (.ref h.length) (h ++ [.lst (zs ++ us)])) : (ofO (addW (.ref r) (.ref s) h)).wp V E := by
  refine w_ofO (p := addW (.ref r) (.ref s) h) ?_ q
  unfold addW
  simp only [e, e2]
  rw [if_pos m]
theorem o_addT {zs us : List W} (m : zs.length + us.length ≤ 16777216) (q : V (.tup (zs ++ us)) h) : (ofO (addW (.tup zs) (.tup us) h)).wp V E := by
  refine w_ofO (p := addW (.tup zs) (.tup us) h) ?_ q
  unfold addW
  dsimp only
  rw [if_pos m]
theorem o_mulStr (m : -(2 ^ 63) ≤ i ∧ i ≤ 16777216 ∧ x.length * i.toNat ≤ 16777216) (q : V (.str (Txt.mul x i)) h) : (ofO (mulW (.str x) (.int i) h)).wp V E := by
  refine w_ofO (p := mulW (.str x) (.int i) h) ?_ q
  unfold mulW
  dsimp only
  rw [if_pos m]
theorem o_in {v : Bool} (e : inC a b h = some v) (q : V (.bl v) h) : (ofO (inW a b h)).wp V E := by
  refine w_ofO (p := inW a b h) ?_ q
  unfold inW
  rw [e]
  rfl
theorem o_nin {v : Bool} (e : inC a b h = some v) (q : V (.bl (!v)) h) : (ofO (ninW a b h)).wp V E := by
  refine w_ofO (p := ninW a b h) ?_ q
  unfold ninW
  rw [e]
  rfl
theorem o_eq {v : Bool} (e : eqB a b h = some v) (q : V (.bl v) h) : (ofO (eqW a b h)).wp V E := by
  refine w_ofO (p := eqW a b h) ?_ q
  unfold eqW
  rw [e]
  rfl
theorem o_ne {v : Bool} (e : eqB a b h = some v) (q : V (.bl (!v)) h) : (ofO (neW a b h)).wp V E := by
  refine w_ofO (p := neW a b h) ?_ q
  unfold neW
  rw [e]
  rfl
theorem o_leS (q : V (.bl (!decide (y.cps.toList < x.cps.toList))) h) : (ofO (leW (.str x) (.str y) h)).wp V E := q
theorem seqC_at (e : h[r]? = some (.lst xs)) : seqC (.ref r) h = some xs := by
  unfold seqC
  simp only [e]
theorem seqC_frz (e : h[r]? = some (.frz xs)) : seqC (.ref r) h = some xs := by
  unfold seqC
  simp only [e]
theorem seqC_new : seqC (.ref h.length) (h ++ [.lst xs]) = some xs := seqC_at get_new
theorem seqC_pre {h' : Hm} (p : h <+: h') (e : seqC a h = some xs) : seqC a h' = some xs := by
  cases a with
  | tup ys => exact e
  | ref r =>
    unfold seqC at e ⊢
    dsimp only at e ⊢
    split at e
    · rename_i e1
      rw [pre_get p e1]
      exact e
    · rename_i e1
      rw [pre_get p e1]
      exact e
    · cases e
  | _ => cases e
theorem isL_at' (e : h[r]? = some (.lst xs)) : isL (.ref r) h = true := by
  unfold isL
  simp only [e]
theorem isL_new : isL (.ref h.length) (h ++ [.lst xs]) = true := isL_at' get_new
end

/-! loops -/
section
variable {σ : Sg} {h : Hm} {N B C : Sg → Hm → Prop} {R : W → Hm → Prop} {X : Exn → Sg → Hm → Prop} {f : XS} {g : XG} {n m : Nat}
theorem w_rng {lo : Int} (I : Nat → Sg → Hm → Prop) (hm : n < m) (h0 : I 0 σ h) (step : ∀ i σ h, i < n → I i σ h → ∃ s, g (.int (lo + (i : Nat))) σ h = some s ∧ (f s h).wp (I (i + 1)) R N (I (i + 1)) X)
    (fin : ∀ σ h, I n σ h → N σ h) : (sForL (itRng lo 1 n) g f m 0 σ h).wp N R B C X :=
  w_loop I hm h0 (fun i σ h hi hI => by
    obtain ⟨s, e, q⟩ := step i σ h hi hI
    refine ⟨_, s, ?_, e, q⟩
    unfold itRng
    rw [if_pos hi, Int.mul_one]) fun σ h hI => ⟨by
    unfold itRng
    rw [if_neg (Nat.lt_irrefl _)], fin σ h hI⟩
theorem w_rng0 (I : Nat → Sg → Hm → Prop) (hm : n < m) (h0 : I 0 σ h) (step : ∀ i σ h, i < n → I i σ h → ∃ s, g (.int (i : Nat)) σ h = some s ∧ (f s h).wp (I (i + 1)) R N (I (i + 1)) X)
    (fin : ∀ σ h, I n σ h → N σ h) : (sForL (itRng 0 1 n) g f m 0 σ h).wp N R B C X :=
  w_rng I hm h0 (fun i σ h hi hI => by
    rw [Int.zero_add]
    exact step i σ h hi hI) fin
/-- over the items of a list or tuple -/
theorem w_items {a : W} {xs : List W} (I : Nat → Sg → Hm → Prop) (hm : xs.length < m) (h0 : I 0 σ h) (hs : ∀ i σ h, I i σ h → seqC a h = some xs)
    (step : ∀ i σ h (w : W), xs[i]? = some w → I i σ h → ∃ s, g w σ h = some s ∧ (f s h).wp (I (i + 1)) R N (I (i + 1)) X)
    (fin : ∀ σ h, I xs.length σ h → N σ h) : (sForL (itSeq a) g f m 0 σ h).wp N R B C X :=
  w_loop I hm h0 (fun i σ h hi hI => by
    obtain ⟨s, e, q⟩ := step i σ h xs[i] (List.getElem?_eq_getElem hi) hI
    refine ⟨_, s, ?_, e, q⟩
    unfold itSeq
    rw [hs i σ h hI, Option.map_some, List.getElem?_eq_getElem hi]) fun σ h hI => ⟨by
    unfold itSeq
    rw [hs _ σ h hI, Option.map_some, List.getElem?_eq_none (Nat.le_refl _)], fin σ h hI⟩
theorem w_chars {z : Str} (I : Nat → Sg → Hm → Prop) (hm : z.length < m) (h0 : I 0 σ h)
    (step : ∀ i σ h (c : Nat), z.cps[i]? = some c → I i σ h → ∃ s, g (.str ⟨#[c]⟩) σ h = some s ∧ (f s h).wp (I (i + 1)) R N (I (i + 1)) X)
    (fin : ∀ σ h, I z.length σ h → N σ h) : (sForL (itStr z) g f m 0 σ h).wp N R B C X :=
  w_loop (n := z.length) I hm h0 (fun i σ h hi hI => by
    have e1 : z.cps[i]? = some z.cps[i] := Array.getElem?_eq_getElem hi
    obtain ⟨s, e, q⟩ := step i σ h z.cps[i] e1 hI
    refine ⟨_, s, ?_, e, q⟩
    unfold itStr
    rw [e1]
    rfl) fun σ h hI => ⟨by
    unfold itStr
    rw [show z.cps[z.length]? = none from Array.getElem?_eq_none (Nat.le_refl _)]
    rfl, fin σ h hI⟩
/-- the state between two statements, as one wishes -/
theorem w_seqM {g' : XS} (M : Sg → Hm → Prop) (w : (f σ h).wp M R B C X) (q : ∀ s h1, M s h1 → (g' s h1).wp N R B C X) : (sSeq f g' σ h).wp N R B C X :=
  w_seq (SOut.wp_imp w q (fun _ _ q => q) (fun _ _ q => q) (fun _ _ q => q) fun _ _ _ q => q)
end
end Z

namespace L_curveseal_k65_entries
open PySem PySem.Spec PyProof.Rows L2 Z
def topS (i : Nat) : Stmt := PySem.Challenge.pw_curveseal_k65_entries.main.body.getD i (.Pass ⟨0, 0, 0, 0⟩)
abbrev w_KINDS : W := Cn.w (.tup [.str "state", .str "admit", .str "replace", .str "withdraw"])
abbrev w_LETTERS : W := Cn.w (.str "asw")
abbrev w_LONGEST_DATA : W := Cn.w (.int 1024)
abbrev w_LONGEST_SIGNATURE : W := Cn.w (.int 256)
abbrev w_LONGEST_TEXT : W := Cn.w (.int 600)
structure Env (Γ : Gam) : Prop where
  B : Bs Γ
  d_to_little : Def Γ ("to_little", none) "to_little" "to_little" (topS 4)
  g_to_little : Γ.mg "to_little" = some (.ref (He.ga Γ.K "to_little"))
  d_to_big : Def Γ ("to_big", none) "to_big" "to_big" (topS 5)
  g_to_big : Γ.mg "to_big" = some (.ref (He.ga Γ.K "to_big"))
  d_is_bytes : Def Γ ("is_bytes", none) "is_bytes" "is_bytes" (topS 6)
  g_is_bytes : Γ.mg "is_bytes" = some (.ref (He.ga Γ.K "is_bytes"))
  d_is_text : Def Γ ("is_text", none) "is_text" "is_text" (topS 13)
  g_is_text : Γ.mg "is_text" = some (.ref (He.ga Γ.K "is_text"))
  d_is_data : Def Γ ("is_data", none) "is_data" "is_data" (topS 14)
  g_is_data : Γ.mg "is_data" = some (.ref (He.ga Γ.K "is_data"))
  d_is_rights : Def Γ ("is_rights", none) "is_rights" "is_rights" (topS 15)
  g_is_rights : Γ.mg "is_rights" = some (.ref (He.ga Γ.K "is_rights"))
  d_is_body : Def Γ ("is_body", none) "is_body" "is_body" (topS 16)
  g_is_body : Γ.mg "is_body" = some (.ref (He.ga Γ.K "is_body"))
  d_is_entry : Def Γ ("is_entry", none) "is_entry" "is_entry" (topS 17)
  g_is_entry : Γ.mg "is_entry" = some (.ref (He.ga Γ.K "is_entry"))
  d_pack : Def Γ ("pack", none) "pack" "pack" (topS 18)
  g_pack : Γ.mg "pack" = some (.ref (He.ga Γ.K "pack"))
  d__law_cell : Def Γ ("_law_cell", none) "_law_cell" "_law_cell" (topS 20)
  g__law_cell : Γ.mg "_law_cell" = some (.ref (He.ga Γ.K "_law_cell"))
  d__law_twice : Def Γ ("_law_twice", none) "_law_twice" "_law_twice" (topS 21)
  g__law_twice : Γ.mg "_law_twice" = some (.ref (He.ga Γ.K "_law_twice"))
  d__law_bytes : Def Γ ("_law_bytes", none) "_law_bytes" "_law_bytes" (topS 22)
  g__law_bytes : Γ.mg "_law_bytes" = some (.ref (He.ga Γ.K "_law_bytes"))
  d__law_integer : Def Γ ("_law_integer", none) "_law_integer" "_law_integer" (topS 23)
  g__law_integer : Γ.mg "_law_integer" = some (.ref (He.ga Γ.K "_law_integer"))
  d__law_is_list : Def Γ ("_law_is_list", none) "_law_is_list" "_law_is_list" (topS 24)
  g__law_is_list : Γ.mg "_law_is_list" = some (.ref (He.ga Γ.K "_law_is_list"))
  d__law_text : Def Γ ("_law_text", none) "_law_text" "_law_text" (topS 25)
  g__law_text : Γ.mg "_law_text" = some (.ref (He.ga Γ.K "_law_text"))
  d__law_data : Def Γ ("_law_data", none) "_law_data" "_law_data" (topS 26)
  g__law_data : Γ.mg "_law_data" = some (.ref (He.ga Γ.K "_law_data"))
  d__law_rights : Def Γ ("_law_rights", none) "_law_rights" "_law_rights" (topS 27)
  g__law_rights : Γ.mg "_law_rights" = some (.ref (He.ga Γ.K "_law_rights"))
  d__law_body : Def Γ ("_law_body", none) "_law_body" "_law_body" (topS 28)
  g__law_body : Γ.mg "_law_body" = some (.ref (He.ga Γ.K "_law_body"))
  d__law_other : Def Γ ("_law_other", none) "_law_other" "_law_other" (topS 29)
  g__law_other : Γ.mg "_law_other" = some (.ref (He.ga Γ.K "_law_other"))
  d__law_value : Def Γ ("_law_value", none) "_law_value" "_law_value" (topS 30)
  g__law_value : Γ.mg "_law_value" = some (.ref (He.ga Γ.K "_law_value"))
  d__law_is_text : Def Γ ("_law_is_text", none) "_law_is_text" "_law_is_text" (topS 31)
  g__law_is_text : Γ.mg "_law_is_text" = some (.ref (He.ga Γ.K "_law_is_text"))
  d__law_is_data : Def Γ ("_law_is_data", none) "_law_is_data" "_law_is_data" (topS 32)
  g__law_is_data : Γ.mg "_law_is_data" = some (.ref (He.ga Γ.K "_law_is_data"))
  d__law_is_body : Def Γ ("_law_is_body", none) "_law_is_body" "_law_is_body" (topS 33)
  g__law_is_body : Γ.mg "_law_is_body" = some (.ref (He.ga Γ.K "_law_is_body"))
  d__law_due : Def Γ ("_law_due", none) "_law_due" "_law_due" (topS 34)
  g__law_due : Γ.mg "_law_due" = some (.ref (He.ga Γ.K "_law_due"))
  d__law_pack : Def Γ ("_law_pack", none) "_law_pack" "_law_pack" (topS 35)
  g__law_pack : Γ.mg "_law_pack" = some (.ref (He.ga Γ.K "_law_pack"))
  d_law : Def Γ ("law", none) "law" "law" (topS 36)
  g_law : Γ.mg "law" = some (.ref (He.ga Γ.K "law"))
  k_KINDS : Kon Γ "KINDS" w_KINDS
  k_LETTERS : Kon Γ "LETTERS" w_LETTERS
  k_LONGEST_DATA : Kon Γ "LONGEST_DATA" w_LONGEST_DATA
  k_LONGEST_SIGNATURE : Kon Γ "LONGEST_SIGNATURE" w_LONGEST_SIGNATURE
  k_LONGEST_TEXT : Kon Γ "LONGEST_TEXT" w_LONGEST_TEXT
/-! to_little -/
def c_to_little : Cfg := ⟨["number", "size", "data", "_"], ["number", "size", "data", "_"], ["number", "size", "data", "_"], ["OutOfRange", "range"], defScope (topS 4), true, true⟩
theorem ck_to_little : cfgOk c_to_little = true := by decide +kernel
theorem cs_to_little : FnScope c_to_little.N ["number", "size"] (defScope (topS 4)) := ⟨rfl, rfl, rfl, by decide +kernel, rfl, by decide +kernel, by decide +kernel⟩
theorem cb_to_little : BindsN (topS 4) "to_little" "to_little" ["number", "size"] := fun _ _ _ _ _ _ us hl => match us, hl with | [_, _], _ => rfl
abbrev b_to_little : XS :=
    sSeq (sIf (xOrT (xB (xBin ltW (xVar 1) (xK (.int 0)))) (xB (xBin gtW (xVar 1) (xK (.int 4096))))) (sNever) (sSkip))
    (sSeq (sIf (xOrT (xB (xBin ltW (xVar 0) (xK (.int 0)))) (xB (xBin neW (xBin shrW (xVar 0) (xBin mulW (xK (.int 8)) (xVar 1))) (xK (.int 0))))) (sNever) (sSkip))
    (sSeq (sSet 2 (xLst (xNil)))
    (sSeq (sFor (iRng1 (xCons (xVar 1) (xNil))) (gN 3) (sSeq (sExpr (xMeth isL appW (xVar 2) (xCons (xBin andW (xVar 0) (xK (.int 255))) (xNil))))
    (sSet 0 (xBin shrW (xVar 0) (xK (.int 8))))))
    (sRet (xVar 2)))))
def F_to_little : List W → Hm → Out W := mkF 4 b_to_little
set_option maxHeartbeats 0 in
theorem ok_to_little {Γ : Gam} (E : Env Γ) : Cal Γ 1 "to_little" ["number", "size"] F_to_little := ⟨cal_mk E.d_to_little cb_to_little cs_to_little ck_to_little
    (sl_cons (ss_if (st_w (sw_or (st_cmp os_lt (se_var 1 1) (se_int)) (sw_one (st_cmp os_gt (se_var 1 1) (se_int))))) (sl_one (ss_never)) (sl_nil))
    (sl_cons (ss_if (st_w (sw_or (st_cmp os_lt (se_var 0 0) (se_int)) (sw_one (st_cmp os_ne (se_bin os_shr (se_var 0 0) (se_bin os_mul (se_int) (se_var 1 1))) (se_int))))) (sl_one (ss_never)) (sl_nil))
    (sl_cons (ss_set 2 2 (se_lst (sa_nil)))
    (sl_cons (ss_for (si_rng1 1 E.B (sa_cons (se_var 1 1) (sa_nil))) (sg_name 3 3) (sl_cons (ss_expr (e_append (se_var 2 2) (sa_cons (se_bin os_and (se_var 0 0) (se_int)) (sa_nil))))
    (sl_one (ss_set 0 0 (se_bin os_shr (se_var 0 0) (se_int))))))
    (sl_one (ss_ret (se_var 2 2))))))), E.g_to_little⟩
/-! to_big -/
def c_to_big : Cfg := ⟨["number", "size"], ["number", "size"], ["number", "size"], ["list", "reversed", "to_little"], defScope (topS 5), true, true⟩
theorem ck_to_big : cfgOk c_to_big = true := by decide +kernel
theorem cs_to_big : FnScope c_to_big.N ["number", "size"] (defScope (topS 5)) := ⟨rfl, rfl, rfl, by decide +kernel, rfl, by decide +kernel, by decide +kernel⟩
theorem cb_to_big : BindsN (topS 5) "to_big" "to_big" ["number", "size"] := fun _ _ _ _ _ _ us hl => match us, hl with | [_, _], _ => rfl
abbrev b_to_big : XS :=
    sRet (xCall revW (xCons (xFn F_to_little (xCons (xVar 0) (xCons (xVar 1) (xNil)))) xNil))
def F_to_big : List W → Hm → Out W := mkF 2 b_to_big
set_option maxHeartbeats 0 in
theorem ok_to_big {Γ : Gam} (E : Env Γ) : Cal Γ 2 "to_big" ["number", "size"] F_to_big := ⟨cal_mk E.d_to_big cb_to_big cs_to_big ck_to_big
    (sl_one (ss_ret (se_lrev 0 1 E.B (se_cal 2 (ok_to_little E) (sa_cons (se_var 0 0) (sa_cons (se_var 1 1) (sa_nil))) (len_cons (len_cons (len_nil))))))), E.g_to_big⟩
/-! is_bytes -/
def c_is_bytes : Cfg := ⟨["value", "item"], ["value", "item"], ["value", "item"], ["isinstance", "list", "int", "bool"], defScope (topS 6), true, true⟩
theorem ck_is_bytes : cfgOk c_is_bytes = true := by decide +kernel
theorem cs_is_bytes : FnScope c_is_bytes.N ["value"] (defScope (topS 6)) := ⟨rfl, rfl, rfl, by decide +kernel, rfl, by decide +kernel, by decide +kernel⟩
theorem cb_is_bytes : BindsN (topS 6) "is_bytes" "is_bytes" ["value"] := fun _ _ _ _ _ _ us hl => match us, hl with | [_], _ => rfl
abbrev b_is_bytes : XS :=
    sSeq (sIf (xNotT (xB (xIsi "list" (xVar 0)))) (sRet (xK (.bl false))) (sSkip))
    (sSeq (sFor (iAny (xVar 0)) (gN 1) (sIf (xOrT (xNotT (xB (xIsi "int" (xVar 1)))) (xOrT (xB (xIsi "bool" (xVar 1))) (xOrT (xB (xBin ltW (xVar 1) (xK (.int 0)))) (xB (xBin gtW (xVar 1) (xK (.int 255))))))) (sRet (xK (.bl false))) (sSkip)))
    (sRet (xK (.bl true))))
def F_is_bytes : List W → Hm → Out W := mkF 2 b_is_bytes
set_option maxHeartbeats 0 in
theorem ok_is_bytes {Γ : Gam} (E : Env Γ) : Cal Γ 1 "is_bytes" ["value"] F_is_bytes := ⟨cal_mk E.d_is_bytes cb_is_bytes cs_is_bytes ck_is_bytes
    (sl_cons (ss_if (st_not (st_val (e_is_list 0 1 E.B (se_var 0 0)))) (sl_one (ss_ret (se_bl))) (sl_nil))
    (sl_cons (ss_for (si_any (se_var 0 0)) (sg_name 1 1) (sl_one (ss_if (st_w (sw_or (st_not (st_val (e_is_int 0 2 E.B (se_var 1 1)))) (sw_or (st_val (e_is_bool 0 3 E.B (se_var 1 1))) (sw_or (st_cmp os_lt (se_var 1 1) (se_int)) (sw_one (st_cmp os_gt (se_var 1 1) (se_int))))))) (sl_one (ss_ret (se_bl))) (sl_nil))))
    (sl_one (ss_ret (se_bl))))), E.g_is_bytes⟩
/-! is_text -/
def c_is_text : Cfg := ⟨["value", "sign"], ["value", "sign"], ["value", "sign"], ["isinstance", "str", "len", "LONGEST_TEXT", "ord"], defScope (topS 13), true, true⟩
theorem ck_is_text : cfgOk c_is_text = true := by decide +kernel
theorem cs_is_text : FnScope c_is_text.N ["value"] (defScope (topS 13)) := ⟨rfl, rfl, rfl, by decide +kernel, rfl, by decide +kernel, by decide +kernel⟩
theorem cb_is_text : BindsN (topS 13) "is_text" "is_text" ["value"] := fun _ _ _ _ _ _ us hl => match us, hl with | [_], _ => rfl
abbrev b_is_text : XS :=
    sSeq (sIf (xOrT (xNotT (xB (xIsi "str" (xVar 0)))) (xB (xBin gtW (xCall lenW (xCons (xVar 0) (xNil))) (xK (w_LONGEST_TEXT))))) (sRet (xK (.bl false))) (sSkip))
    (sSeq (sFor (iAny (xVar 0)) (gN 1) (sIf (xOrT (xB (xBin ltW (xCall ordW (xCons (xVar 1) (xNil))) (xK (.int 32)))) (xOrT (xB (xBin gtW (xCall ordW (xCons (xVar 1) (xNil))) (xK (.int 126)))) (xB (xBin eqW (xCall ordW (xCons (xVar 1) (xNil))) (xK (.int 37)))))) (sRet (xK (.bl false))) (sSkip)))
    (sRet (xK (.bl true))))
def F_is_text : List W → Hm → Out W := mkF 2 b_is_text
set_option maxHeartbeats 0 in
theorem ok_is_text {Γ : Gam} (E : Env Γ) : Cal Γ 1 "is_text" ["value"] F_is_text := ⟨cal_mk E.d_is_text cb_is_text cs_is_text ck_is_text
    (sl_cons (ss_if (st_w (sw_or (st_not (st_val (e_is_str 0 1 E.B (se_var 0 0)))) (sw_one (st_cmp os_gt (e_len 2 E.B (sa_cons (se_var 0 0) (sa_nil))) (se_glo 3 E.k_LONGEST_TEXT))))) (sl_one (ss_ret (se_bl))) (sl_nil))
    (sl_cons (ss_for (si_any (se_var 0 0)) (sg_name 1 1) (sl_one (ss_if (st_w (sw_or (st_cmp os_lt (e_ord 4 E.B (sa_cons (se_var 1 1) (sa_nil))) (se_int)) (sw_or (st_cmp os_gt (e_ord 4 E.B (sa_cons (se_var 1 1) (sa_nil))) (se_int)) (sw_one (st_cmp os_eq (e_ord 4 E.B (sa_cons (se_var 1 1) (sa_nil))) (se_int)))))) (sl_one (ss_ret (se_bl))) (sl_nil))))
    (sl_one (ss_ret (se_bl))))), E.g_is_text⟩
/-! is_data -/
def c_is_data : Cfg := ⟨["value", "most"], ["value", "most"], ["value", "most"], ["isinstance", "tuple", "len", "is_bytes", "list"], defScope (topS 14), true, true⟩
theorem ck_is_data : cfgOk c_is_data = true := by decide +kernel
theorem cs_is_data : FnScope c_is_data.N ["value", "most"] (defScope (topS 14)) := ⟨rfl, rfl, rfl, by decide +kernel, rfl, by decide +kernel, by decide +kernel⟩
theorem cb_is_data : BindsN (topS 14) "is_data" "is_data" ["value", "most"] := fun _ _ _ _ _ _ us hl => match us, hl with | [_, _], _ => rfl
abbrev b_is_data : XS :=
    sRet (xAnd (xIsi "tuple" (xVar 0)) (xAnd (xBin leW (xCall lenW (xCons (xVar 0) (xNil))) (xVar 1)) (xFn F_is_bytes (xCons (xCall listW (xCons (xVar 0) (xNil))) (xNil)))))
def F_is_data : List W → Hm → Out W := mkF 2 b_is_data
set_option maxHeartbeats 0 in
theorem ok_is_data {Γ : Gam} (E : Env Γ) : Cal Γ 2 "is_data" ["value", "most"] F_is_data := ⟨cal_mk E.d_is_data cb_is_data cs_is_data ck_is_data
    (sl_one (ss_ret (se_and (e_is_tuple 0 1 E.B (se_var 0 0)) (se_and (se_cmp os_le (e_len 2 E.B (sa_cons (se_var 0 0) (sa_nil))) (se_var 1 1)) (se_one (se_cal 3 (ok_is_bytes E) (sa_cons (e_list 4 E.B (sa_cons (se_var 0 0) (sa_nil))) (sa_nil)) (len_cons (len_nil)))))))), E.g_is_data⟩
/-! is_rights -/
def c_is_rights : Cfg := ⟨["value", "sign"], ["value"], ["value"], ["isinstance", "str", "len", "LETTERS"], defScope (topS 15), true, true⟩
theorem ck_is_rights : cfgOk c_is_rights = true := by decide +kernel
theorem cs_is_rights : FnScope c_is_rights.N ["value"] (defScope (topS 15)) := ⟨rfl, rfl, rfl, by decide +kernel, rfl, by decide +kernel, by decide +kernel⟩
theorem cb_is_rights : BindsN (topS 15) "is_rights" "is_rights" ["value"] := fun _ _ _ _ _ _ us hl => match us, hl with | [_], _ => rfl
abbrev b_is_rights : XS :=
    sSeq (sIf (xOrT (xNotT (xB (xIsi "str" (xVar 0)))) (xB (xBin gtW (xCall lenW (xCons (xVar 0) (xNil))) (xCall lenW (xCons (xK (w_LETTERS)) (xNil)))))) (sRet (xK (.bl false))) (sSkip))
    (sRet (xBin eqW (xMeth isS joinW (xK (.str "")) (xCons (xComp (iAny (xK (w_LETTERS))) (gN 1) (xB (xBin inW (xVar 1) (xVar 0))) (xVar 1) [1]) (xNil))) (xVar 0)))
def F_is_rights : List W → Hm → Out W := mkF 2 b_is_rights
set_option maxHeartbeats 0 in
theorem ok_is_rights {Γ : Gam} (E : Env Γ) : Cal Γ 1 "is_rights" ["value"] F_is_rights := ⟨cal_mk E.d_is_rights cb_is_rights cs_is_rights ck_is_rights
    (sl_cons (ss_if (st_w (sw_or (st_not (st_val (e_is_str 0 1 E.B (se_var 0 0)))) (sw_one (st_cmp os_gt (e_len 2 E.B (sa_cons (se_var 0 0) (sa_nil))) (e_len 2 E.B (sa_cons (se_glo 3 E.k_LETTERS) (sa_nil))))))) (sl_one (ss_ret (se_bl))) (sl_nil))
    (sl_one (ss_ret (se_cmp os_eq (e_join (se_str) (sa_cons (se_lc [("sign", 1)] ["sign", "value"] ["sign"] [] (si_any (se_glo 3 E.k_LETTERS)) (so_name 1 0) (sts_one (st_cmp os_in (se_var 1 0) (se_var 0 1))) (se_var 1 0) (by decide +kernel) (by decide +kernel)) (sa_nil))) (se_var 0 0))))), E.g_is_rights⟩
/-! is_body -/
def c_is_body : Cfg := ⟨["kind", "body"], ["kind", "body"], ["kind", "body"], ["isinstance", "tuple", "len", "is_data", "LONGEST_DATA", "is_text", "is_rights", "LONGEST_SIGNATURE"], defScope (topS 16), true, true⟩
theorem ck_is_body : cfgOk c_is_body = true := by decide +kernel
theorem cs_is_body : FnScope c_is_body.N ["kind", "body"] (defScope (topS 16)) := ⟨rfl, rfl, rfl, by decide +kernel, rfl, by decide +kernel, by decide +kernel⟩
theorem cb_is_body : BindsN (topS 16) "is_body" "is_body" ["kind", "body"] := fun _ _ _ _ _ _ us hl => match us, hl with | [_, _], _ => rfl
abbrev b_is_body : XS :=
    sSeq (sIf (xNotT (xB (xIsi "tuple" (xVar 1)))) (sRet (xK (.bl false))) (sSkip))
    (sSeq (sIf (xB (xBin eqW (xVar 0) (xK (.str "state")))) (sRet (xAnd (xBin eqW (xCall lenW (xCons (xVar 1) (xNil))) (xK (.int 1))) (xFn F_is_data (xCons (xBin ixW (xVar 1) (xK (.int 0))) (xCons (xK (w_LONGEST_DATA)) (xNil)))))) (sSkip))
    (sSeq (sIf (xB (xBin eqW (xVar 0) (xK (.str "withdraw")))) (sRet (xAnd (xBin eqW (xCall lenW (xCons (xVar 1) (xNil))) (xK (.int 1))) (xFn F_is_text (xCons (xBin ixW (xVar 1) (xK (.int 0))) (xNil))))) (sSkip))
    (sSeq (sIf (xOrT (xB (xBin neW (xCall lenW (xCons (xVar 1) (xNil))) (xK (.int 2)))) (xNotT (xB (xFn F_is_text (xCons (xBin ixW (xVar 1) (xK (.int 0))) (xNil)))))) (sRet (xK (.bl false))) (sSkip))
    (sSeq (sIf (xB (xBin eqW (xVar 0) (xK (.str "admit")))) (sRet (xFn F_is_rights (xCons (xBin ixW (xVar 1) (xK (.int 1))) (xNil)))) (sSkip))
    (sRet (xFn F_is_data (xCons (xBin ixW (xVar 1) (xK (.int 1))) (xCons (xK (w_LONGEST_SIGNATURE)) (xNil)))))))))
def F_is_body : List W → Hm → Out W := mkF 2 b_is_body
set_option maxHeartbeats 0 in
theorem ok_is_body {Γ : Gam} (E : Env Γ) : Cal Γ 3 "is_body" ["kind", "body"] F_is_body := ⟨cal_mk E.d_is_body cb_is_body cs_is_body ck_is_body
    (sl_cons (ss_if (st_not (st_val (e_is_tuple 0 1 E.B (se_var 1 1)))) (sl_one (ss_ret (se_bl))) (sl_nil))
    (sl_cons (ss_if (st_cmp os_eq (se_var 0 0) (se_str)) (sl_one (ss_ret (se_and (se_cmp os_eq (e_len 2 E.B (sa_cons (se_var 1 1) (sa_nil))) (se_int)) (se_one (se_cal 3 (ok_is_data E) (sa_cons (se_ix (se_var 1 1) (se_int)) (sa_cons (se_glo 4 E.k_LONGEST_DATA) (sa_nil))) (len_cons (len_cons (len_nil)))))))) (sl_nil))
    (sl_cons (ss_if (st_cmp os_eq (se_var 0 0) (se_str)) (sl_one (ss_ret (se_and (se_cmp os_eq (e_len 2 E.B (sa_cons (se_var 1 1) (sa_nil))) (se_int)) (se_one (se_cal 5 (ok_is_text E) (sa_cons (se_ix (se_var 1 1) (se_int)) (sa_nil)) (len_cons (len_nil))))))) (sl_nil))
    (sl_cons (ss_if (st_w (sw_or (st_cmp os_ne (e_len 2 E.B (sa_cons (se_var 1 1) (sa_nil))) (se_int)) (sw_one (st_not (st_val (se_cal 5 (ok_is_text E) (sa_cons (se_ix (se_var 1 1) (se_int)) (sa_nil)) (len_cons (len_nil)))))))) (sl_one (ss_ret (se_bl))) (sl_nil))
    (sl_cons (ss_if (st_cmp os_eq (se_var 0 0) (se_str)) (sl_one (ss_ret (se_cal 6 (ok_is_rights E) (sa_cons (se_ix (se_var 1 1) (se_int)) (sa_nil)) (len_cons (len_nil))))) (sl_nil))
    (sl_one (ss_ret (se_cal 3 (ok_is_data E) (sa_cons (se_ix (se_var 1 1) (se_int)) (sa_cons (se_glo 7 E.k_LONGEST_SIGNATURE) (sa_nil))) (len_cons (len_cons (len_nil))))))))))), E.g_is_body⟩
/-! is_entry -/
def c_is_entry : Cfg := ⟨["value", "kind", "author", "body", "signature"], ["value", "kind", "author", "body", "signature"], ["value", "kind", "author", "body", "signature"], ["isinstance", "tuple", "len", "str", "KINDS", "is_text", "is_body", "is_data", "LONGEST_SIGNATURE"], defScope (topS 17), true, true⟩
theorem ck_is_entry : cfgOk c_is_entry = true := by decide +kernel
theorem cs_is_entry : FnScope c_is_entry.N ["value"] (defScope (topS 17)) := ⟨rfl, rfl, rfl, by decide +kernel, rfl, by decide +kernel, by decide +kernel⟩
theorem cb_is_entry : BindsN (topS 17) "is_entry" "is_entry" ["value"] := fun _ _ _ _ _ _ us hl => match us, hl with | [_], _ => rfl
abbrev b_is_entry : XS :=
    sSeq (sIf (xOrT (xNotT (xB (xIsi "tuple" (xVar 0)))) (xB (xBin neW (xCall lenW (xCons (xVar 0) (xNil))) (xK (.int 4))))) (sRet (xK (.bl false))) (sSkip))
    (sSeq (sAsg (gT (gsCons (gN 1) (gsCons (gN 2) (gsCons (gN 3) (gsCons (gN 4) (gsNil)))))) (xVar 0))
    (sSeq (sIf (xOrT (xNotT (xB (xIsi "str" (xVar 1)))) (xOrT (xB (xBin ninW (xVar 1) (xK (w_KINDS)))) (xNotT (xB (xFn F_is_text (xCons (xVar 2) (xNil))))))) (sRet (xK (.bl false))) (sSkip))
    (sRet (xAnd (xFn F_is_body (xCons (xVar 1) (xCons (xVar 3) (xNil)))) (xFn F_is_data (xCons (xVar 4) (xCons (xK (w_LONGEST_SIGNATURE)) (xNil))))))))
def F_is_entry : List W → Hm → Out W := mkF 5 b_is_entry
set_option maxHeartbeats 0 in
theorem ok_is_entry {Γ : Gam} (E : Env Γ) : Cal Γ 4 "is_entry" ["value"] F_is_entry := ⟨cal_mk E.d_is_entry cb_is_entry cs_is_entry ck_is_entry
    (sl_cons (ss_if (st_w (sw_or (st_not (st_val (e_is_tuple 0 1 E.B (se_var 0 0)))) (sw_one (st_cmp os_ne (e_len 2 E.B (sa_cons (se_var 0 0) (sa_nil))) (se_int))))) (sl_one (ss_ret (se_bl))) (sl_nil))
    (sl_cons (ss_asg (se_var 0 0) (sg_tup (sgs_cons (sg_name 1 1) (sgs_cons (sg_name 2 2) (sgs_cons (sg_name 3 3) (sgs_cons (sg_name 4 4) (sgs_nil))))) (gs_lenS (gs_lenS (gs_lenS (gs_lenS (gs_len0)))))))
    (sl_cons (ss_if (st_w (sw_or (st_not (st_val (e_is_str 0 3 E.B (se_var 1 1)))) (sw_or (st_cmp os_nin (se_var 1 1) (se_glo 4 E.k_KINDS)) (sw_one (st_not (st_val (se_cal 5 (ok_is_text E) (sa_cons (se_var 2 2) (sa_nil)) (len_cons (len_nil))))))))) (sl_one (ss_ret (se_bl))) (sl_nil))
    (sl_one (ss_ret (se_and (se_cal 6 (ok_is_body E) (sa_cons (se_var 1 1) (sa_cons (se_var 3 3) (sa_nil))) (len_cons (len_cons (len_nil)))) (se_one (se_cal 7 (ok_is_data E) (sa_cons (se_var 4 4) (sa_cons (se_glo 8 E.k_LONGEST_SIGNATURE) (sa_nil))) (len_cons (len_cons (len_nil))))))))))), E.g_is_entry⟩
/-! pack -/
def c_pack : Cfg := ⟨["parts", "data", "part"], ["parts", "data", "part"], ["parts", "data", "part"], ["to_big", "len"], defScope (topS 18), true, true⟩
theorem ck_pack : cfgOk c_pack = true := by decide +kernel
theorem cs_pack : FnScope c_pack.N ["parts"] (defScope (topS 18)) := ⟨rfl, rfl, rfl, by decide +kernel, rfl, by decide +kernel, by decide +kernel⟩
theorem cb_pack : BindsN (topS 18) "pack" "pack" ["parts"] := fun _ _ _ _ _ _ us hl => match us, hl with | [_], _ => rfl
abbrev b_pack : XS :=
    sSeq (sSet 1 (xLst (xNil)))
    (sSeq (sFor (iAny (xVar 0)) (gN 2) (sSeq (sExpr (xMeth isL extW (xVar 1) (xCons (xFn F_to_big (xCons (xCall lenW (xCons (xVar 2) (xNil))) (xCons (xK (.int 3)) (xNil)))) (xNil))))
    (sExpr (xMeth isL extW (xVar 1) (xCons (xVar 2) (xNil))))))
    (sRet (xVar 1)))
def F_pack : List W → Hm → Out W := mkF 3 b_pack
set_option maxHeartbeats 0 in
theorem ok_pack {Γ : Gam} (E : Env Γ) : Cal Γ 3 "pack" ["parts"] F_pack := ⟨cal_mk E.d_pack cb_pack cs_pack ck_pack
    (sl_cons (ss_set 1 1 (se_lst (sa_nil)))
    (sl_cons (ss_for (si_any (se_var 0 0)) (sg_name 2 2) (sl_cons (ss_expr (e_extend (se_var 1 1) (sa_cons (se_cal 0 (ok_to_big E) (sa_cons (e_len 1 E.B (sa_cons (se_var 2 2) (sa_nil))) (sa_cons (se_int) (sa_nil))) (len_cons (len_cons (len_nil)))) (sa_nil))))
    (sl_one (ss_expr (e_extend (se_var 1 1) (sa_cons (se_var 2 2) (sa_nil)))))))
    (sl_one (ss_ret (se_var 1 1))))), E.g_pack⟩
/-! _law_cell -/
def c__law_cell : Cfg := ⟨["_law_script", "_law_k"], ["_law_script", "_law_k"], ["_law_script", "_law_k"], ["len", "int"], defScope (topS 20), true, true⟩
theorem ck__law_cell : cfgOk c__law_cell = true := by decide +kernel
theorem cs__law_cell : FnScope c__law_cell.N ["_law_script", "_law_k"] (defScope (topS 20)) := ⟨rfl, rfl, rfl, by decide +kernel, rfl, by decide +kernel, by decide +kernel⟩
theorem cb__law_cell : BindsN (topS 20) "_law_cell" "_law_cell" ["_law_script", "_law_k"] := fun _ _ _ _ _ _ us hl => match us, hl with | [_, _], _ => rfl
abbrev b__law_cell : XS :=
    sSeq (sIf (xB (xBin ltW (xVar 1) (xCall lenW (xCons (xVar 0) (xNil))))) (sRet (xCall intW (xCons (xBin ixW (xVar 0) (xVar 1)) (xNil)))) (sSkip))
    (sRet (xK (.int 0)))
def F__law_cell : List W → Hm → Out W := mkF 2 b__law_cell
set_option maxHeartbeats 0 in
theorem ok__law_cell {Γ : Gam} (E : Env Γ) : Cal Γ 1 "_law_cell" ["_law_script", "_law_k"] F__law_cell := ⟨cal_mk E.d__law_cell cb__law_cell cs__law_cell ck__law_cell
    (sl_cons (ss_if (st_cmp os_lt (se_var 1 1) (e_len 0 E.B (sa_cons (se_var 0 0) (sa_nil)))) (sl_one (ss_ret (e_int 1 E.B (sa_cons (se_ix (se_var 0 0) (se_var 1 1)) (sa_nil))))) (sl_nil))
    (sl_one (ss_ret (se_int)))), E.g__law_cell⟩
/-! _law_twice -/
def c__law_twice : Cfg := ⟨["_law_cell_here", "_law_k", "_law_x"], ["_law_cell_here", "_law_k", "_law_x"], ["_law_cell_here", "_law_k", "_law_x"], ["int"], defScope (topS 21), true, true⟩
theorem ck__law_twice : cfgOk c__law_twice = true := by decide +kernel
theorem cs__law_twice : FnScope c__law_twice.N ["_law_cell_here", "_law_k"] (defScope (topS 21)) := ⟨rfl, rfl, rfl, by decide +kernel, rfl, by decide +kernel, by decide +kernel⟩
theorem cb__law_twice : BindsN (topS 21) "_law_twice" "_law_twice" ["_law_cell_here", "_law_k"] := fun _ _ _ _ _ _ us hl => match us, hl with | [_, _], _ => rfl
abbrev b__law_twice : XS :=
    sSeq (sSet 2 (xBin modW (xBin addW (xBin addW (xBin mulW (xCall intW (xCons (xVar 0) (xNil))) (xK (.int 48271))) (xBin mulW (xVar 1) (xK (.int 69621)))) (xK (.int 7))) (xK (.int 2147483647))))
    (sSeq (sSet 2 (xBin modW (xBin addW (xBin addW (xBin mulW (xVar 2) (xVar 2)) (xBin mulW (xVar 1) (xK (.int 40692)))) (xK (.int 3))) (xK (.int 2147483629))))
    (sSeq (sSet 2 (xBin modW (xBin addW (xBin addW (xBin mulW (xVar 2) (xVar 2)) (xBin mulW (xVar 1) (xK (.int 30269)))) (xK (.int 5))) (xK (.int 2147483587))))
    (sRet (xBin fdivW (xVar 2) (xK (.int 64))))))
def F__law_twice : List W → Hm → Out W := mkF 3 b__law_twice
set_option maxHeartbeats 0 in
theorem ok__law_twice {Γ : Gam} (E : Env Γ) : Cal Γ 1 "_law_twice" ["_law_cell_here", "_law_k"] F__law_twice := ⟨cal_mk E.d__law_twice cb__law_twice cs__law_twice ck__law_twice
    (sl_cons (ss_set 2 2 (se_bin os_mod (se_bin os_add (se_bin os_add (se_bin os_mul (e_int 0 E.B (sa_cons (se_var 0 0) (sa_nil))) (se_int)) (se_bin os_mul (se_var 1 1) (se_int))) (se_int)) (se_int)))
    (sl_cons (ss_set 2 2 (se_bin os_mod (se_bin os_add (se_bin os_add (se_bin os_mul (se_var 2 2) (se_var 2 2)) (se_bin os_mul (se_var 1 1) (se_int))) (se_int)) (se_int)))
    (sl_cons (ss_set 2 2 (se_bin os_mod (se_bin os_add (se_bin os_add (se_bin os_mul (se_var 2 2) (se_var 2 2)) (se_bin os_mul (se_var 1 1) (se_int))) (se_int)) (se_int)))
    (sl_one (ss_ret (se_bin os_fdiv (se_var 2 2) (se_int))))))), E.g__law_twice⟩
/-! _law_bytes -/
def c__law_bytes : Cfg := ⟨["_law_cell_here", "_law_size", "_law_left", "_law_great", "_law_data_here", "_law_k"], ["_law_cell_here", "_law_size", "_law_left", "_law_great", "_law_data_here", "_law_k"], ["_law_cell_here", "_law_size", "_law_left", "_law_great", "_law_data_here", "_law_k"], ["abs", "int", "range", "_law_twice"], defScope (topS 22), true, true⟩
theorem ck__law_bytes : cfgOk c__law_bytes = true := by decide +kernel
theorem cs__law_bytes : FnScope c__law_bytes.N ["_law_cell_here", "_law_size"] (defScope (topS 22)) := ⟨rfl, rfl, rfl, by decide +kernel, rfl, by decide +kernel, by decide +kernel⟩
theorem cb__law_bytes : BindsN (topS 22) "_law_bytes" "_law_bytes" ["_law_cell_here", "_law_size"] := fun _ _ _ _ _ _ us hl => match us, hl with | [_, _], _ => rfl
abbrev b__law_bytes : XS :=
    sSeq (sSet 2 (xCall absW (xCons (xCall intW (xCons (xVar 0) (xNil))) (xNil))))
    (sSeq (sSet 3 (xBin geW (xVar 2) (xBin powW (xK (.int 10)) (xK (.int 18)))))
    (sSeq (sSet 4 (xLst (xNil)))
    (sSeq (sFor (iRng1 (xCons (xVar 1) (xNil))) (gN 5) (sIf (xAndT (xB (xVar 3)) (xB (xBin gtW (xVar 2) (xK (.int 0))))) (sSeq (sExpr (xMeth isL appW (xVar 4) (xCons (xBin modW (xVar 2) (xK (.int 256))) (xNil))))
    (sSet 2 (xBin fdivW (xVar 2) (xK (.int 256))))) (sExpr (xMeth isL appW (xVar 4) (xCons (xBin modW (xFn F__law_twice (xCons (xVar 0) (xCons (xVar 5) (xNil)))) (xK (.int 256))) (xNil))))))
    (sRet (xVar 4)))))
def F__law_bytes : List W → Hm → Out W := mkF 6 b__law_bytes
set_option maxHeartbeats 0 in
theorem ok__law_bytes {Γ : Gam} (E : Env Γ) : Cal Γ 2 "_law_bytes" ["_law_cell_here", "_law_size"] F__law_bytes := ⟨cal_mk E.d__law_bytes cb__law_bytes cs__law_bytes ck__law_bytes
    (sl_cons (ss_set 2 2 (e_abs 0 E.B (sa_cons (e_int 1 E.B (sa_cons (se_var 0 0) (sa_nil))) (sa_nil))))
    (sl_cons (ss_set 3 3 (se_cmp os_ge (se_var 2 2) (se_bin os_pow (se_int) (se_int))))
    (sl_cons (ss_set 4 4 (se_lst (sa_nil)))
    (sl_cons (ss_for (si_rng1 2 E.B (sa_cons (se_var 1 1) (sa_nil))) (sg_name 5 5) (sl_one (ss_if (st_w (sw_and (st_val (se_var 3 3)) (sw_one (st_cmp os_gt (se_var 2 2) (se_int))))) (sl_cons (ss_expr (e_append (se_var 4 4) (sa_cons (se_bin os_mod (se_var 2 2) (se_int)) (sa_nil))))
    (sl_one (ss_set 2 2 (se_bin os_fdiv (se_var 2 2) (se_int))))) (sl_one (ss_expr (e_append (se_var 4 4) (sa_cons (se_bin os_mod (se_cal 3 (ok__law_twice E) (sa_cons (se_var 0 0) (sa_cons (se_var 5 5) (sa_nil))) (len_cons (len_cons (len_nil)))) (se_int)) (sa_nil))))))))
    (sl_one (ss_ret (se_var 4 4))))))), E.g__law_bytes⟩
/-! _law_integer -/
def c__law_integer : Cfg := ⟨["_law_x"], ["_law_x"], ["_law_x"], ["isinstance", "int", "bool"], defScope (topS 23), true, true⟩
theorem ck__law_integer : cfgOk c__law_integer = true := by decide +kernel
theorem cs__law_integer : FnScope c__law_integer.N ["_law_x"] (defScope (topS 23)) := ⟨rfl, rfl, rfl, by decide +kernel, rfl, by decide +kernel, by decide +kernel⟩
theorem cb__law_integer : BindsN (topS 23) "_law_integer" "_law_integer" ["_law_x"] := fun _ _ _ _ _ _ us hl => match us, hl with | [_], _ => rfl
abbrev b__law_integer : XS :=
    sRet (xAnd (xIsi "int" (xVar 0)) (xNot (xIsi "bool" (xVar 0))))
def F__law_integer : List W → Hm → Out W := mkF 1 b__law_integer
set_option maxHeartbeats 0 in
theorem ok__law_integer {Γ : Gam} (E : Env Γ) : Cal Γ 1 "_law_integer" ["_law_x"] F__law_integer := ⟨cal_mk E.d__law_integer cb__law_integer cs__law_integer ck__law_integer
    (sl_one (ss_ret (se_and (e_is_int 0 1 E.B (se_var 0 0)) (se_one (se_not (e_is_bool 0 2 E.B (se_var 0 0))))))), E.g__law_integer⟩
/-! _law_is_list -/
def c__law_is_list : Cfg := ⟨["_law_found", "_law_due_here", "_law_one", "_law_other_here"], ["_law_found", "_law_due_here", "_law_one", "_law_other_here"], ["_law_found", "_law_due_here", "_law_one", "_law_other_here"], ["isinstance", "list", "len", "zip", "_law_integer"], defScope (topS 24), true, true⟩
theorem ck__law_is_list : cfgOk c__law_is_list = true := by decide +kernel
theorem cs__law_is_list : FnScope c__law_is_list.N ["_law_found", "_law_due_here"] (defScope (topS 24)) := ⟨rfl, rfl, rfl, by decide +kernel, rfl, by decide +kernel, by decide +kernel⟩
theorem cb__law_is_list : BindsN (topS 24) "_law_is_list" "_law_is_list" ["_law_found", "_law_due_here"] := fun _ _ _ _ _ _ us hl => match us, hl with | [_, _], _ => rfl
abbrev b__law_is_list : XS :=
    sSeq (sIf (xOrT (xNotT (xB (xIsi "list" (xVar 0)))) (xB (xBin neW (xCall lenW (xCons (xVar 0) (xNil))) (xCall lenW (xCons (xVar 1) (xNil)))))) (sRet (xK (.bl false))) (sSkip))
    (sSeq (sFor (iZip (xCons (xVar 0) (xCons (xVar 1) (xNil)))) (gT (gsCons (gN 2) (gsCons (gN 3) (gsNil)))) (sIf (xOrT (xNotT (xB (xFn F__law_integer (xCons (xVar 2) (xNil))))) (xB (xBin neW (xVar 2) (xVar 3)))) (sRet (xK (.bl false))) (sSkip)))
    (sRet (xK (.bl true))))
def F__law_is_list : List W → Hm → Out W := mkF 4 b__law_is_list
set_option maxHeartbeats 0 in
theorem ok__law_is_list {Γ : Gam} (E : Env Γ) : Cal Γ 2 "_law_is_list" ["_law_found", "_law_due_here"] F__law_is_list := ⟨cal_mk E.d__law_is_list cb__law_is_list cs__law_is_list ck__law_is_list
    (sl_cons (ss_if (st_w (sw_or (st_not (st_val (e_is_list 0 1 E.B (se_var 0 0)))) (sw_one (st_cmp os_ne (e_len 2 E.B (sa_cons (se_var 0 0) (sa_nil))) (e_len 2 E.B (sa_cons (se_var 1 1) (sa_nil))))))) (sl_one (ss_ret (se_bl))) (sl_nil))
    (sl_cons (ss_for (si_zip 3 E.B (sa_cons (se_var 0 0) (sa_cons (se_var 1 1) (sa_nil)))) (sg_tup (sgs_cons (sg_name 2 2) (sgs_cons (sg_name 3 3) (sgs_nil))) (gs_lenS (gs_lenS (gs_len0)))) (sl_one (ss_if (st_w (sw_or (st_not (st_val (se_cal 4 (ok__law_integer E) (sa_cons (se_var 2 2) (sa_nil)) (len_cons (len_nil))))) (sw_one (st_cmp os_ne (se_var 2 2) (se_var 3 3))))) (sl_one (ss_ret (se_bl))) (sl_nil))))
    (sl_one (ss_ret (se_bl))))), E.g__law_is_list⟩
/-! _law_text -/
def c__law_text : Cfg := ⟨["_law_cell_here", "_law_texts"], ["_law_cell_here", "_law_texts"], ["_law_cell_here", "_law_texts"], [], defScope (topS 25), true, true⟩
theorem ck__law_text : cfgOk c__law_text = true := by decide +kernel
theorem cs__law_text : FnScope c__law_text.N ["_law_cell_here"] (defScope (topS 25)) := ⟨rfl, rfl, rfl, by decide +kernel, rfl, by decide +kernel, by decide +kernel⟩
theorem cb__law_text : BindsN (topS 25) "_law_text" "_law_text" ["_law_cell_here"] := fun _ _ _ _ _ _ us hl => match us, hl with | [_], _ => rfl
abbrev b__law_text : XS :=
    sSeq (sSet 1 (xLst (xCons (xK (.str "eddsa-e13:0a:12345678")) (xCons (xK (.str "key")) (xCons (xK (.str "")) (xCons (xK (.str "a b")) (xCons (xBin mulW (xK (.str "x")) (xK (.int 600))) (xCons (xK (.str "~")) (xCons (xK (.str " ")) (xCons (xBin mulW (xK (.str "y")) (xK (.int 601))) (xCons (xK (.str "a\t")) (xCons (xK (.str "a\n")) (xCons (xK (.str "\nabc")) (xNil))))))))))))))
    (sSeq (sIf (xB (xBin gtW (xBin modW (xBin fdivW (xVar 0) (xK (.int 11))) (xK (.int 4))) (xK (.int 0)))) (sRet (xBin ixW (xVar 1) (xBin modW (xVar 0) (xK (.int 7))))) (sSkip))
    (sRet (xBin ixW (xVar 1) (xBin modW (xVar 0) (xK (.int 11))))))
def F__law_text : List W → Hm → Out W := mkF 2 b__law_text
set_option maxHeartbeats 0 in
theorem ok__law_text {Γ : Gam} (E : Env Γ) : Cal Γ 1 "_law_text" ["_law_cell_here"] F__law_text := ⟨cal_mk E.d__law_text cb__law_text cs__law_text ck__law_text
    (sl_cons (ss_set 1 1 (se_lst (sa_cons (se_str) (sa_cons (se_str) (sa_cons (se_str) (sa_cons (se_str) (sa_cons (se_bin os_mul (se_str) (se_int)) (sa_cons (se_str) (sa_cons (se_str) (sa_cons (se_bin os_mul (se_str) (se_int)) (sa_cons (se_str) (sa_cons (se_str) (sa_cons (se_str) (sa_nil))))))))))))))
    (sl_cons (ss_if (st_cmp os_gt (se_bin os_mod (se_bin os_fdiv (se_var 0 0) (se_int)) (se_int)) (se_int)) (sl_one (ss_ret (se_ix (se_var 1 1) (se_bin os_mod (se_var 0 0) (se_int))))) (sl_nil))
    (sl_one (ss_ret (se_ix (se_var 1 1) (se_bin os_mod (se_var 0 0) (se_int))))))), E.g__law_text⟩
/-! _law_data -/
def c__law_data : Cfg := ⟨["_law_cell_here", "_law_most", "_law_size", "_law_data_here"], ["_law_cell_here", "_law_most", "_law_size", "_law_data_here"], ["_law_cell_here", "_law_most", "_law_size", "_law_data_here"], ["int", "_law_bytes", "tuple"], defScope (topS 26), true, true⟩
theorem ck__law_data : cfgOk c__law_data = true := by decide +kernel
theorem cs__law_data : FnScope c__law_data.N ["_law_cell_here", "_law_most"] (defScope (topS 26)) := ⟨rfl, rfl, rfl, by decide +kernel, rfl, by decide +kernel, by decide +kernel⟩
theorem cb__law_data : BindsN (topS 26) "_law_data" "_law_data" ["_law_cell_here", "_law_most"] := fun _ _ _ _ _ _ us hl => match us, hl with | [_, _], _ => rfl
abbrev b__law_data : XS :=
    sSeq (sSet 2 (xBin ixW (xLst (xCons (xBin modW (xVar 0) (xK (.int 9))) (xCons (xVar 1) (xCons (xBin addW (xVar 1) (xK (.int 1))) (xCons (xK (.int 0)) (xNil)))))) (xBin mulW (xBin modW (xBin modW (xBin fdivW (xVar 0) (xK (.int 9))) (xK (.int 12))) (xK (.int 4))) (xCall intW (xCons (xBin ltW (xBin modW (xBin fdivW (xVar 0) (xK (.int 9))) (xK (.int 12))) (xK (.int 4))) (xNil))))))
    (sSeq (sSet 3 (xFn F__law_bytes (xCons (xBin fdivW (xVar 0) (xK (.int 108))) (xCons (xVar 2) (xNil)))))
    (sSeq (sIf (xAndT (xB (xBin eqW (xBin modW (xBin fdivW (xVar 0) (xK (.int 108))) (xK (.int 16))) (xK (.int 1)))) (xB (xBin gtW (xVar 2) (xK (.int 0))))) (sSub (xVar 3) (xBin modW (xBin fdivW (xVar 0) (xK (.int 1728))) (xVar 2)) (xBin ixW (xLst (xCons (xK (.int 256)) (xCons (xUn negW (xK (.int 1))) (xCons (xK (.bl true)) (xCons (xK (.str "a")) (xNil)))))) (xBin modW (xBin fdivW (xVar 0) (xK (.int 7))) (xK (.int 4)))) setW) (sSkip))
    (sRet (xCall tupleW (xCons (xVar 3) (xNil))))))
def F__law_data : List W → Hm → Out W := mkF 4 b__law_data
set_option maxHeartbeats 0 in
theorem ok__law_data {Γ : Gam} (E : Env Γ) : Cal Γ 3 "_law_data" ["_law_cell_here", "_law_most"] F__law_data := ⟨cal_mk E.d__law_data cb__law_data cs__law_data ck__law_data
    (sl_cons (ss_set 2 2 (se_ix (se_lst (sa_cons (se_bin os_mod (se_var 0 0) (se_int)) (sa_cons (se_var 1 1) (sa_cons (se_bin os_add (se_var 1 1) (se_int)) (sa_cons (se_int) (sa_nil)))))) (se_bin os_mul (se_bin os_mod (se_bin os_mod (se_bin os_fdiv (se_var 0 0) (se_int)) (se_int)) (se_int)) (e_int 0 E.B (sa_cons (se_cmp os_lt (se_bin os_mod (se_bin os_fdiv (se_var 0 0) (se_int)) (se_int)) (se_int)) (sa_nil))))))
    (sl_cons (ss_set 3 3 (se_cal 1 (ok__law_bytes E) (sa_cons (se_bin os_fdiv (se_var 0 0) (se_int)) (sa_cons (se_var 2 2) (sa_nil))) (len_cons (len_cons (len_nil)))))
    (sl_cons (ss_if (st_w (sw_and (st_cmp os_eq (se_bin os_mod (se_bin os_fdiv (se_var 0 0) (se_int)) (se_int)) (se_int)) (sw_one (st_cmp os_gt (se_var 2 2) (se_int))))) (sl_one (ss_sub ss_setW (se_var 3 3) (se_bin os_mod (se_bin os_fdiv (se_var 0 0) (se_int)) (se_var 2 2)) (se_ix (se_lst (sa_cons (se_int) (sa_cons (se_un us_neg (se_int)) (sa_cons (se_bl) (sa_cons (se_str) (sa_nil)))))) (se_bin os_mod (se_bin os_fdiv (se_var 0 0) (se_int)) (se_int))))) (sl_nil))
    (sl_one (ss_ret (e_tuple 2 E.B (sa_cons (se_var 3 3) (sa_nil)))))))), E.g__law_data⟩
/-! _law_rights -/
def c__law_rights : Cfg := ⟨["_law_cell_here"], ["_law_cell_here"], ["_law_cell_here"], [], defScope (topS 27), true, true⟩
theorem ck__law_rights : cfgOk c__law_rights = true := by decide +kernel
theorem cs__law_rights : FnScope c__law_rights.N ["_law_cell_here"] (defScope (topS 27)) := ⟨rfl, rfl, rfl, by decide +kernel, rfl, by decide +kernel, by decide +kernel⟩
theorem cb__law_rights : BindsN (topS 27) "_law_rights" "_law_rights" ["_law_cell_here"] := fun _ _ _ _ _ _ us hl => match us, hl with | [_], _ => rfl
abbrev b__law_rights : XS :=
    sRet (xBin ixW (xLst (xCons (xK (.str "asw")) (xCons (xK (.str "")) (xCons (xK (.str "a")) (xCons (xK (.str "s")) (xCons (xK (.str "w")) (xCons (xK (.str "as")) (xCons (xK (.str "aw")) (xCons (xK (.str "sw")) (xCons (xK (.str "sa")) (xCons (xK (.str "aa")) (xCons (xK (.str "b")) (xCons (xK (.str "asww")) (xNil)))))))))))))) (xBin modW (xVar 0) (xK (.int 12))))
def F__law_rights : List W → Hm → Out W := mkF 1 b__law_rights
set_option maxHeartbeats 0 in
theorem ok__law_rights {Γ : Gam} (E : Env Γ) : Cal Γ 1 "_law_rights" ["_law_cell_here"] F__law_rights := ⟨cal_mk E.d__law_rights cb__law_rights cs__law_rights ck__law_rights
    (sl_one (ss_ret (se_ix (se_lst (sa_cons (se_str) (sa_cons (se_str) (sa_cons (se_str) (sa_cons (se_str) (sa_cons (se_str) (sa_cons (se_str) (sa_cons (se_str) (sa_cons (se_str) (sa_cons (se_str) (sa_cons (se_str) (sa_cons (se_str) (sa_cons (se_str) (sa_nil)))))))))))))) (se_bin os_mod (se_var 0 0) (se_int))))), E.g__law_rights⟩
/-! _law_body -/
def c__law_body : Cfg := ⟨["_law_kind", "_law_cell_here"], ["_law_kind", "_law_cell_here"], ["_law_kind", "_law_cell_here"], ["_law_data", "_law_text", "_law_rights"], defScope (topS 28), true, true⟩
theorem ck__law_body : cfgOk c__law_body = true := by decide +kernel
theorem cs__law_body : FnScope c__law_body.N ["_law_kind", "_law_cell_here"] (defScope (topS 28)) := ⟨rfl, rfl, rfl, by decide +kernel, rfl, by decide +kernel, by decide +kernel⟩
theorem cb__law_body : BindsN (topS 28) "_law_body" "_law_body" ["_law_kind", "_law_cell_here"] := fun _ _ _ _ _ _ us hl => match us, hl with | [_, _], _ => rfl
abbrev b__law_body : XS :=
    sSeq (sIf (xB (xBin eqW (xVar 0) (xK (.str "state")))) (sRet (xTup (xCons (xFn F__law_data (xCons (xVar 1) (xCons (xK (.int 1024)) (xNil)))) (xNil)))) (sSkip))
    (sSeq (sIf (xB (xBin eqW (xVar 0) (xK (.str "withdraw")))) (sRet (xTup (xCons (xFn F__law_text (xCons (xVar 1) (xNil))) (xNil)))) (sSkip))
    (sSeq (sIf (xB (xBin eqW (xVar 0) (xK (.str "admit")))) (sRet (xTup (xCons (xFn F__law_text (xCons (xVar 1) (xNil))) (xCons (xFn F__law_rights (xCons (xBin fdivW (xVar 1) (xK (.int 50))) (xNil))) (xNil))))) (sSkip))
    (sRet (xTup (xCons (xFn F__law_text (xCons (xVar 1) (xNil))) (xCons (xFn F__law_data (xCons (xBin fdivW (xVar 1) (xK (.int 50))) (xCons (xK (.int 256)) (xNil)))) (xNil)))))))
def F__law_body : List W → Hm → Out W := mkF 2 b__law_body
set_option maxHeartbeats 0 in
theorem ok__law_body {Γ : Gam} (E : Env Γ) : Cal Γ 4 "_law_body" ["_law_kind", "_law_cell_here"] F__law_body := ⟨cal_mk E.d__law_body cb__law_body cs__law_body ck__law_body
    (sl_cons (ss_if (st_cmp os_eq (se_var 0 0) (se_str)) (sl_one (ss_ret (se_tup (sa_cons (se_cal 0 (ok__law_data E) (sa_cons (se_var 1 1) (sa_cons (se_int) (sa_nil))) (len_cons (len_cons (len_nil)))) (sa_nil))))) (sl_nil))
    (sl_cons (ss_if (st_cmp os_eq (se_var 0 0) (se_str)) (sl_one (ss_ret (se_tup (sa_cons (se_cal 1 (ok__law_text E) (sa_cons (se_var 1 1) (sa_nil)) (len_cons (len_nil))) (sa_nil))))) (sl_nil))
    (sl_cons (ss_if (st_cmp os_eq (se_var 0 0) (se_str)) (sl_one (ss_ret (se_tup (sa_cons (se_cal 1 (ok__law_text E) (sa_cons (se_var 1 1) (sa_nil)) (len_cons (len_nil))) (sa_cons (se_cal 2 (ok__law_rights E) (sa_cons (se_bin os_fdiv (se_var 1 1) (se_int)) (sa_nil)) (len_cons (len_nil))) (sa_nil)))))) (sl_nil))
    (sl_one (ss_ret (se_tup (sa_cons (se_cal 1 (ok__law_text E) (sa_cons (se_var 1 1) (sa_nil)) (len_cons (len_nil))) (sa_cons (se_cal 0 (ok__law_data E) (sa_cons (se_bin os_fdiv (se_var 1 1) (se_int)) (sa_cons (se_int) (sa_nil))) (len_cons (len_cons (len_nil)))) (sa_nil))))))))), E.g__law_body⟩
/-! _law_other -/
def c__law_other : Cfg := ⟨["_law_cell_here"], ["_law_cell_here"], ["_law_cell_here"], [], defScope (topS 29), true, true⟩
theorem ck__law_other : cfgOk c__law_other = true := by decide +kernel
theorem cs__law_other : FnScope c__law_other.N ["_law_cell_here"] (defScope (topS 29)) := ⟨rfl, rfl, rfl, by decide +kernel, rfl, by decide +kernel, by decide +kernel⟩
theorem cb__law_other : BindsN (topS 29) "_law_other" "_law_other" ["_law_cell_here"] := fun _ _ _ _ _ _ us hl => match us, hl with | [_], _ => rfl
abbrev b__law_other : XS :=
    sRet (xBin ixW (xLst (xCons (xK .non) (xCons (xK (.int 5)) (xCons (xLst (xCons (xK (.int 1)) (xNil))) (xCons (xK (.str "text")) (xCons (xTup (xNil)) (xCons (xTup (xCons (xK (.int 1)) (xCons (xK (.int 2)) (xNil)))) (xCons (xK (.bl true)) (xCons (xDic) (xNil)))))))))) (xBin modW (xVar 0) (xK (.int 8))))
def F__law_other : List W → Hm → Out W := mkF 1 b__law_other
set_option maxHeartbeats 0 in
theorem ok__law_other {Γ : Gam} (E : Env Γ) : Cal Γ 1 "_law_other" ["_law_cell_here"] F__law_other := ⟨cal_mk E.d__law_other cb__law_other cs__law_other ck__law_other
    (sl_one (ss_ret (se_ix (se_lst (sa_cons (se_non) (sa_cons (se_int) (sa_cons (se_lst (sa_cons (se_int) (sa_nil))) (sa_cons (se_str) (sa_cons (se_tup (sa_nil)) (sa_cons (se_tup (sa_cons (se_int) (sa_cons (se_int) (sa_nil)))) (sa_cons (se_bl) (sa_cons (se_dic) (sa_nil)))))))))) (se_bin os_mod (se_var 0 0) (se_int))))), E.g__law_other⟩
/-! _law_value -/
def c__law_value : Cfg := ⟨["_law_script", "_law_k", "_law_cell_here", "_law_kind", "_law_body_here", "_law_value_here", "_law_how"], ["_law_script", "_law_k", "_law_cell_here", "_law_kind", "_law_body_here", "_law_value_here", "_law_how"], ["_law_script", "_law_k", "_law_cell_here", "_law_kind", "_law_body_here", "_law_value_here", "_law_how"], ["abs", "_law_cell", "_law_body", "_law_text", "_law_data", "_law_other", "tuple"], defScope (topS 30), true, true⟩
theorem ck__law_value : cfgOk c__law_value = true := by decide +kernel
theorem cs__law_value : FnScope c__law_value.N ["_law_script", "_law_k"] (defScope (topS 30)) := ⟨rfl, rfl, rfl, by decide +kernel, rfl, by decide +kernel, by decide +kernel⟩
theorem cb__law_value : BindsN (topS 30) "_law_value" "_law_value" ["_law_script", "_law_k"] := fun _ _ _ _ _ _ us hl => match us, hl with | [_, _], _ => rfl
abbrev b__law_value : XS :=
    sSeq (sSet 2 (xCall absW (xCons (xFn F__law_cell (xCons (xVar 0) (xCons (xBin mulW (xK (.int 4)) (xVar 1)) (xNil)))) (xNil))))
    (sSeq (sSet 3 (xBin ixW (xLst (xCons (xK (.str "state")) (xCons (xK (.str "admit")) (xCons (xK (.str "replace")) (xCons (xK (.str "withdraw")) (xCons (xK (.str "State")) (xCons (xK (.str "admits")) (xNil)))))))) (xBin modW (xBin modW (xVar 2) (xK (.int 6))) (xBin addW (xK (.int 4)) (xBin modW (xBin fdivW (xVar 2) (xK (.int 6))) (xK (.int 3)))))))
    (sSeq (sSet 4 (xFn F__law_body (xCons (xBin ixW (xLst (xCons (xK (.str "state")) (xCons (xK (.str "admit")) (xCons (xK (.str "replace")) (xCons (xK (.str "withdraw")) (xNil)))))) (xBin modW (xBin fdivW (xVar 2) (xK (.int 18))) (xK (.int 4)))) (xCons (xCall absW (xCons (xFn F__law_cell (xCons (xVar 0) (xCons (xBin addW (xBin mulW (xK (.int 4)) (xVar 1)) (xK (.int 2))) (xNil)))) (xNil))) (xNil)))))
    (sSeq (sIf (xB (xBin gtW (xBin modW (xBin fdivW (xVar 2) (xK (.int 72))) (xK (.int 4))) (xK (.int 0)))) (sSet 4 (xFn F__law_body (xCons (xVar 3) (xCons (xCall absW (xCons (xFn F__law_cell (xCons (xVar 0) (xCons (xBin addW (xBin mulW (xK (.int 4)) (xVar 1)) (xK (.int 2))) (xNil)))) (xNil))) (xNil))))) (sSkip))
    (sSeq (sSet 5 (xLst (xCons (xVar 3) (xCons (xFn F__law_text (xCons (xCall absW (xCons (xFn F__law_cell (xCons (xVar 0) (xCons (xBin addW (xBin mulW (xK (.int 4)) (xVar 1)) (xK (.int 1))) (xNil)))) (xNil))) (xNil))) (xCons (xVar 4) (xCons (xFn F__law_data (xCons (xCall absW (xCons (xFn F__law_cell (xCons (xVar 0) (xCons (xBin addW (xBin mulW (xK (.int 4)) (xVar 1)) (xK (.int 3))) (xNil)))) (xNil))) (xCons (xK (.int 256)) (xNil)))) (xNil)))))))
    (sSeq (sSet 6 (xBin modW (xBin fdivW (xVar 2) (xK (.int 288))) (xK (.int 12))))
    (sSeq (sIf (xB (xBin eqW (xVar 6) (xK (.int 1)))) (sSub (xVar 5) (xBin modW (xBin fdivW (xVar 2) (xK (.int 3456))) (xK (.int 4))) (xFn F__law_other (xCons (xBin fdivW (xVar 2) (xK (.int 13824))) (xNil))) setW) (sSkip))
    (sSeq (sIf (xB (xBin eqW (xVar 6) (xK (.int 2)))) (sSet 5 (xSl (xVar 5) (xoNone) (xoSome (xK (.int 3))))) (sSkip))
    (sSeq (sIf (xB (xBin eqW (xVar 6) (xK (.int 3)))) (sSet 5 (xBin addW (xVar 5) (xLst (xCons (xTup (xNil)) (xNil))))) (sSkip))
    (sSeq (sIf (xB (xBin eqW (xVar 6) (xK (.int 4)))) (sRet (xVar 5)) (sSkip))
    (sSeq (sIf (xB (xBin eqW (xVar 6) (xK (.int 5)))) (sSub (xVar 5) (xK (.int 2)) (xBin addW (xBin ixW (xVar 5) (xK (.int 2))) (xTup (xCons (xK (.int 1)) (xNil)))) setW) (sSkip))
    (sRet (xCall tupleW (xCons (xVar 5) (xNil))))))))))))))
def F__law_value : List W → Hm → Out W := mkF 7 b__law_value
set_option maxHeartbeats 0 in
theorem ok__law_value {Γ : Gam} (E : Env Γ) : Cal Γ 5 "_law_value" ["_law_script", "_law_k"] F__law_value := ⟨cal_mk E.d__law_value cb__law_value cs__law_value ck__law_value
    (sl_cons (ss_set 2 2 (e_abs 0 E.B (sa_cons (se_cal 1 (ok__law_cell E) (sa_cons (se_var 0 0) (sa_cons (se_bin os_mul (se_int) (se_var 1 1)) (sa_nil))) (len_cons (len_cons (len_nil)))) (sa_nil))))
    (sl_cons (ss_set 3 3 (se_ix (se_lst (sa_cons (se_str) (sa_cons (se_str) (sa_cons (se_str) (sa_cons (se_str) (sa_cons (se_str) (sa_cons (se_str) (sa_nil)))))))) (se_bin os_mod (se_bin os_mod (se_var 2 2) (se_int)) (se_bin os_add (se_int) (se_bin os_mod (se_bin os_fdiv (se_var 2 2) (se_int)) (se_int))))))
    (sl_cons (ss_set 4 4 (se_cal 2 (ok__law_body E) (sa_cons (se_ix (se_lst (sa_cons (se_str) (sa_cons (se_str) (sa_cons (se_str) (sa_cons (se_str) (sa_nil)))))) (se_bin os_mod (se_bin os_fdiv (se_var 2 2) (se_int)) (se_int))) (sa_cons (e_abs 0 E.B (sa_cons (se_cal 1 (ok__law_cell E) (sa_cons (se_var 0 0) (sa_cons (se_bin os_add (se_bin os_mul (se_int) (se_var 1 1)) (se_int)) (sa_nil))) (len_cons (len_cons (len_nil)))) (sa_nil))) (sa_nil))) (len_cons (len_cons (len_nil)))))
    (sl_cons (ss_if (st_cmp os_gt (se_bin os_mod (se_bin os_fdiv (se_var 2 2) (se_int)) (se_int)) (se_int)) (sl_one (ss_set 4 4 (se_cal 2 (ok__law_body E) (sa_cons (se_var 3 3) (sa_cons (e_abs 0 E.B (sa_cons (se_cal 1 (ok__law_cell E) (sa_cons (se_var 0 0) (sa_cons (se_bin os_add (se_bin os_mul (se_int) (se_var 1 1)) (se_int)) (sa_nil))) (len_cons (len_cons (len_nil)))) (sa_nil))) (sa_nil))) (len_cons (len_cons (len_nil)))))) (sl_nil))
    (sl_cons (ss_set 5 5 (se_lst (sa_cons (se_var 3 3) (sa_cons (se_cal 3 (ok__law_text E) (sa_cons (e_abs 0 E.B (sa_cons (se_cal 1 (ok__law_cell E) (sa_cons (se_var 0 0) (sa_cons (se_bin os_add (se_bin os_mul (se_int) (se_var 1 1)) (se_int)) (sa_nil))) (len_cons (len_cons (len_nil)))) (sa_nil))) (sa_nil)) (len_cons (len_nil))) (sa_cons (se_var 4 4) (sa_cons (se_cal 4 (ok__law_data E) (sa_cons (e_abs 0 E.B (sa_cons (se_cal 1 (ok__law_cell E) (sa_cons (se_var 0 0) (sa_cons (se_bin os_add (se_bin os_mul (se_int) (se_var 1 1)) (se_int)) (sa_nil))) (len_cons (len_cons (len_nil)))) (sa_nil))) (sa_cons (se_int) (sa_nil))) (len_cons (len_cons (len_nil)))) (sa_nil)))))))
    (sl_cons (ss_set 6 6 (se_bin os_mod (se_bin os_fdiv (se_var 2 2) (se_int)) (se_int)))
    (sl_cons (ss_if (st_cmp os_eq (se_var 6 6) (se_int)) (sl_one (ss_sub ss_setW (se_var 5 5) (se_bin os_mod (se_bin os_fdiv (se_var 2 2) (se_int)) (se_int)) (se_cal 5 (ok__law_other E) (sa_cons (se_bin os_fdiv (se_var 2 2) (se_int)) (sa_nil)) (len_cons (len_nil))))) (sl_nil))
    (sl_cons (ss_if (st_cmp os_eq (se_var 6 6) (se_int)) (sl_one (ss_set 5 5 (se_sl (se_var 5 5) (so_none) (so_some (se_int))))) (sl_nil))
    (sl_cons (ss_if (st_cmp os_eq (se_var 6 6) (se_int)) (sl_one (ss_set 5 5 (se_bin os_add (se_var 5 5) (se_lst (sa_cons (se_tup (sa_nil)) (sa_nil)))))) (sl_nil))
    (sl_cons (ss_if (st_cmp os_eq (se_var 6 6) (se_int)) (sl_one (ss_ret (se_var 5 5))) (sl_nil))
    (sl_cons (ss_if (st_cmp os_eq (se_var 6 6) (se_int)) (sl_one (ss_sub ss_setW (se_var 5 5) (se_int) (se_bin os_add (se_ix (se_var 5 5) (se_int)) (se_tup (sa_cons (se_int) (sa_nil)))))) (sl_nil))
    (sl_one (ss_ret (e_tuple 6 E.B (sa_cons (se_var 5 5) (sa_nil)))))))))))))))), E.g__law_value⟩
/-! _law_is_text -/
def c__law_is_text : Cfg := ⟨["_law_value_here", "_law_sign"], ["_law_value_here", "_law_sign"], ["_law_value_here", "_law_sign"], ["isinstance", "str", "len", "ord"], defScope (topS 31), true, true⟩
theorem ck__law_is_text : cfgOk c__law_is_text = true := by decide +kernel
theorem cs__law_is_text : FnScope c__law_is_text.N ["_law_value_here"] (defScope (topS 31)) := ⟨rfl, rfl, rfl, by decide +kernel, rfl, by decide +kernel, by decide +kernel⟩
theorem cb__law_is_text : BindsN (topS 31) "_law_is_text" "_law_is_text" ["_law_value_here"] := fun _ _ _ _ _ _ us hl => match us, hl with | [_], _ => rfl
abbrev b__law_is_text : XS :=
    sSeq (sIf (xOrT (xNotT (xB (xIsi "str" (xVar 0)))) (xB (xBin gtW (xCall lenW (xCons (xVar 0) (xNil))) (xK (.int 600))))) (sRet (xK (.bl false))) (sSkip))
    (sSeq (sFor (iAny (xVar 0)) (gN 1) (sIf (xOrT (xNotT (xB (xChain leW leW (xK (.str " ")) (xVar 1) (xK (.str "~"))))) (xB (xBin eqW (xCall ordW (xCons (xVar 1) (xNil))) (xK (.int 37))))) (sRet (xK (.bl false))) (sSkip)))
    (sRet (xK (.bl true))))
def F__law_is_text : List W → Hm → Out W := mkF 2 b__law_is_text
set_option maxHeartbeats 0 in
theorem ok__law_is_text {Γ : Gam} (E : Env Γ) : Cal Γ 1 "_law_is_text" ["_law_value_here"] F__law_is_text := ⟨cal_mk E.d__law_is_text cb__law_is_text cs__law_is_text ck__law_is_text
    (sl_cons (ss_if (st_w (sw_or (st_not (st_val (e_is_str 0 1 E.B (se_var 0 0)))) (sw_one (st_cmp os_gt (e_len 2 E.B (sa_cons (se_var 0 0) (sa_nil))) (se_int))))) (sl_one (ss_ret (se_bl))) (sl_nil))
    (sl_cons (ss_for (si_any (se_var 0 0)) (sg_name 1 1) (sl_one (ss_if (st_w (sw_or (st_not (st_chain os_le os_le (se_str) (se_var 1 1) (se_str))) (sw_one (st_cmp os_eq (e_ord 3 E.B (sa_cons (se_var 1 1) (sa_nil))) (se_int))))) (sl_one (ss_ret (se_bl))) (sl_nil))))
    (sl_one (ss_ret (se_bl))))), E.g__law_is_text⟩
/-! _law_is_data -/
def c__law_is_data : Cfg := ⟨["_law_value_here", "_law_most", "_law_byte"], ["_law_value_here", "_law_most", "_law_byte"], ["_law_value_here", "_law_most", "_law_byte"], ["isinstance", "tuple", "len", "_law_integer"], defScope (topS 32), true, true⟩
theorem ck__law_is_data : cfgOk c__law_is_data = true := by decide +kernel
theorem cs__law_is_data : FnScope c__law_is_data.N ["_law_value_here", "_law_most"] (defScope (topS 32)) := ⟨rfl, rfl, rfl, by decide +kernel, rfl, by decide +kernel, by decide +kernel⟩
theorem cb__law_is_data : BindsN (topS 32) "_law_is_data" "_law_is_data" ["_law_value_here", "_law_most"] := fun _ _ _ _ _ _ us hl => match us, hl with | [_, _], _ => rfl
abbrev b__law_is_data : XS :=
    sSeq (sIf (xOrT (xNotT (xB (xIsi "tuple" (xVar 0)))) (xB (xBin gtW (xCall lenW (xCons (xVar 0) (xNil))) (xVar 1)))) (sRet (xK (.bl false))) (sSkip))
    (sSeq (sFor (iAny (xVar 0)) (gN 2) (sIf (xOrT (xNotT (xB (xFn F__law_integer (xCons (xVar 2) (xNil))))) (xOrT (xB (xBin ltW (xVar 2) (xK (.int 0)))) (xB (xBin gtW (xVar 2) (xK (.int 255)))))) (sRet (xK (.bl false))) (sSkip)))
    (sRet (xK (.bl true))))
def F__law_is_data : List W → Hm → Out W := mkF 3 b__law_is_data
set_option maxHeartbeats 0 in
theorem ok__law_is_data {Γ : Gam} (E : Env Γ) : Cal Γ 2 "_law_is_data" ["_law_value_here", "_law_most"] F__law_is_data := ⟨cal_mk E.d__law_is_data cb__law_is_data cs__law_is_data ck__law_is_data
    (sl_cons (ss_if (st_w (sw_or (st_not (st_val (e_is_tuple 0 1 E.B (se_var 0 0)))) (sw_one (st_cmp os_gt (e_len 2 E.B (sa_cons (se_var 0 0) (sa_nil))) (se_var 1 1))))) (sl_one (ss_ret (se_bl))) (sl_nil))
    (sl_cons (ss_for (si_any (se_var 0 0)) (sg_name 2 2) (sl_one (ss_if (st_w (sw_or (st_not (st_val (se_cal 3 (ok__law_integer E) (sa_cons (se_var 2 2) (sa_nil)) (len_cons (len_nil))))) (sw_or (st_cmp os_lt (se_var 2 2) (se_int)) (sw_one (st_cmp os_gt (se_var 2 2) (se_int)))))) (sl_one (ss_ret (se_bl))) (sl_nil))))
    (sl_one (ss_ret (se_bl))))), E.g__law_is_data⟩
/-! _law_is_body -/
def c__law_is_body : Cfg := ⟨["_law_kind", "_law_body_here"], ["_law_kind", "_law_body_here"], ["_law_kind", "_law_body_here"], ["isinstance", "tuple", "len", "_law_is_data", "_law_is_text", "str"], defScope (topS 33), true, true⟩
theorem ck__law_is_body : cfgOk c__law_is_body = true := by decide +kernel
theorem cs__law_is_body : FnScope c__law_is_body.N ["_law_kind", "_law_body_here"] (defScope (topS 33)) := ⟨rfl, rfl, rfl, by decide +kernel, rfl, by decide +kernel, by decide +kernel⟩
theorem cb__law_is_body : BindsN (topS 33) "_law_is_body" "_law_is_body" ["_law_kind", "_law_body_here"] := fun _ _ _ _ _ _ us hl => match us, hl with | [_, _], _ => rfl
abbrev b__law_is_body : XS :=
    sSeq (sIf (xOrT (xNotT (xB (xIsi "tuple" (xVar 1)))) (xB (xBin neW (xCall lenW (xCons (xVar 1) (xNil))) (xBin ixW (xLst (xCons (xK (.int 1)) (xCons (xK (.int 2)) (xCons (xK (.int 2)) (xCons (xK (.int 1)) (xNil)))))) (xVar 0))))) (sRet (xK (.bl false))) (sSkip))
    (sSeq (sIf (xB (xBin eqW (xVar 0) (xK (.int 0)))) (sRet (xFn F__law_is_data (xCons (xBin ixW (xVar 1) (xK (.int 0))) (xCons (xK (.int 1024)) (xNil))))) (sSkip))
    (sSeq (sIf (xNotT (xB (xFn F__law_is_text (xCons (xBin ixW (xVar 1) (xK (.int 0))) (xNil))))) (sRet (xK (.bl false))) (sSkip))
    (sSeq (sIf (xB (xBin eqW (xVar 0) (xK (.int 1)))) (sRet (xAnd (xIsi "str" (xBin ixW (xVar 1) (xK (.int 1)))) (xBin inW (xBin ixW (xVar 1) (xK (.int 1))) (xTup (xCons (xK (.str "")) (xCons (xK (.str "a")) (xCons (xK (.str "s")) (xCons (xK (.str "w")) (xCons (xK (.str "as")) (xCons (xK (.str "aw")) (xCons (xK (.str "sw")) (xCons (xK (.str "asw")) (xNil))))))))))))) (sSkip))
    (sRet (xOr (xBin eqW (xVar 0) (xK (.int 3))) (xFn F__law_is_data (xCons (xBin ixW (xVar 1) (xK (.int 1))) (xCons (xK (.int 256)) (xNil)))))))))
def F__law_is_body : List W → Hm → Out W := mkF 2 b__law_is_body
set_option maxHeartbeats 0 in
theorem ok__law_is_body {Γ : Gam} (E : Env Γ) : Cal Γ 3 "_law_is_body" ["_law_kind", "_law_body_here"] F__law_is_body := ⟨cal_mk E.d__law_is_body cb__law_is_body cs__law_is_body ck__law_is_body
    (sl_cons (ss_if (st_w (sw_or (st_not (st_val (e_is_tuple 0 1 E.B (se_var 1 1)))) (sw_one (st_cmp os_ne (e_len 2 E.B (sa_cons (se_var 1 1) (sa_nil))) (se_ix (se_lst (sa_cons (se_int) (sa_cons (se_int) (sa_cons (se_int) (sa_cons (se_int) (sa_nil)))))) (se_var 0 0)))))) (sl_one (ss_ret (se_bl))) (sl_nil))
    (sl_cons (ss_if (st_cmp os_eq (se_var 0 0) (se_int)) (sl_one (ss_ret (se_cal 3 (ok__law_is_data E) (sa_cons (se_ix (se_var 1 1) (se_int)) (sa_cons (se_int) (sa_nil))) (len_cons (len_cons (len_nil)))))) (sl_nil))
    (sl_cons (ss_if (st_not (st_val (se_cal 4 (ok__law_is_text E) (sa_cons (se_ix (se_var 1 1) (se_int)) (sa_nil)) (len_cons (len_nil))))) (sl_one (ss_ret (se_bl))) (sl_nil))
    (sl_cons (ss_if (st_cmp os_eq (se_var 0 0) (se_int)) (sl_one (ss_ret (se_and (e_is_str 0 5 E.B (se_ix (se_var 1 1) (se_int))) (se_one (se_cmp os_in (se_ix (se_var 1 1) (se_int)) (se_tup (sa_cons (se_str) (sa_cons (se_str) (sa_cons (se_str) (sa_cons (se_str) (sa_cons (se_str) (sa_cons (se_str) (sa_cons (se_str) (sa_cons (se_str) (sa_nil))))))))))))))) (sl_nil))
    (sl_one (ss_ret (se_or (se_cmp os_eq (se_var 0 0) (se_int)) (se_one (se_cal 3 (ok__law_is_data E) (sa_cons (se_ix (se_var 1 1) (se_int)) (sa_cons (se_int) (sa_nil))) (len_cons (len_cons (len_nil)))))))))))), E.g__law_is_body⟩
/-! _law_due -/
def c__law_due : Cfg := ⟨["_law_value_here", "_law_kinds"], ["_law_value_here", "_law_kinds"], ["_law_value_here", "_law_kinds"], ["isinstance", "tuple", "len", "str", "_law_is_text", "_law_is_data", "_law_is_body"], defScope (topS 34), true, true⟩
theorem ck__law_due : cfgOk c__law_due = true := by decide +kernel
theorem cs__law_due : FnScope c__law_due.N ["_law_value_here"] (defScope (topS 34)) := ⟨rfl, rfl, rfl, by decide +kernel, rfl, by decide +kernel, by decide +kernel⟩
theorem cb__law_due : BindsN (topS 34) "_law_due" "_law_due" ["_law_value_here"] := fun _ _ _ _ _ _ us hl => match us, hl with | [_], _ => rfl
abbrev b__law_due : XS :=
    sSeq (sIf (xOrT (xNotT (xB (xIsi "tuple" (xVar 0)))) (xOrT (xB (xBin neW (xCall lenW (xCons (xVar 0) (xNil))) (xK (.int 4)))) (xNotT (xB (xIsi "str" (xBin ixW (xVar 0) (xK (.int 0)))))))) (sRet (xK (.bl false))) (sSkip))
    (sSeq (sSet 1 (xLst (xCons (xK (.str "state")) (xCons (xK (.str "admit")) (xCons (xK (.str "replace")) (xCons (xK (.str "withdraw")) (xNil)))))))
    (sSeq (sIf (xOrT (xB (xBin ninW (xBin ixW (xVar 0) (xK (.int 0))) (xVar 1))) (xOrT (xNotT (xB (xFn F__law_is_text (xCons (xBin ixW (xVar 0) (xK (.int 1))) (xNil))))) (xNotT (xB (xFn F__law_is_data (xCons (xBin ixW (xVar 0) (xK (.int 3))) (xCons (xK (.int 256)) (xNil)))))))) (sRet (xK (.bl false))) (sSkip))
    (sRet (xFn F__law_is_body (xCons (xMeth isL idxW (xVar 1) (xCons (xBin ixW (xVar 0) (xK (.int 0))) (xNil))) (xCons (xBin ixW (xVar 0) (xK (.int 2))) (xNil)))))))
def F__law_due : List W → Hm → Out W := mkF 2 b__law_due
set_option maxHeartbeats 0 in
theorem ok__law_due {Γ : Gam} (E : Env Γ) : Cal Γ 4 "_law_due" ["_law_value_here"] F__law_due := ⟨cal_mk E.d__law_due cb__law_due cs__law_due ck__law_due
    (sl_cons (ss_if (st_w (sw_or (st_not (st_val (e_is_tuple 0 1 E.B (se_var 0 0)))) (sw_or (st_cmp os_ne (e_len 2 E.B (sa_cons (se_var 0 0) (sa_nil))) (se_int)) (sw_one (st_not (st_val (e_is_str 0 3 E.B (se_ix (se_var 0 0) (se_int))))))))) (sl_one (ss_ret (se_bl))) (sl_nil))
    (sl_cons (ss_set 1 1 (se_lst (sa_cons (se_str) (sa_cons (se_str) (sa_cons (se_str) (sa_cons (se_str) (sa_nil)))))))
    (sl_cons (ss_if (st_w (sw_or (st_cmp os_nin (se_ix (se_var 0 0) (se_int)) (se_var 1 1)) (sw_or (st_not (st_val (se_cal 4 (ok__law_is_text E) (sa_cons (se_ix (se_var 0 0) (se_int)) (sa_nil)) (len_cons (len_nil))))) (sw_one (st_not (st_val (se_cal 5 (ok__law_is_data E) (sa_cons (se_ix (se_var 0 0) (se_int)) (sa_cons (se_int) (sa_nil))) (len_cons (len_cons (len_nil)))))))))) (sl_one (ss_ret (se_bl))) (sl_nil))
    (sl_one (ss_ret (se_cal 6 (ok__law_is_body E) (sa_cons (e_index (se_var 1 1) (sa_cons (se_ix (se_var 0 0) (se_int)) (sa_nil))) (sa_cons (se_ix (se_var 0 0) (se_int)) (sa_nil))) (len_cons (len_cons (len_nil))))))))), E.g__law_due⟩
/-! _law_pack -/
def c__law_pack : Cfg := ⟨["_law_parts", "_law_data_here", "_law_part"], ["_law_parts", "_law_data_here", "_law_part"], ["_law_parts", "_law_data_here", "_law_part"], ["len"], defScope (topS 35), true, true⟩
theorem ck__law_pack : cfgOk c__law_pack = true := by decide +kernel
theorem cs__law_pack : FnScope c__law_pack.N ["_law_parts"] (defScope (topS 35)) := ⟨rfl, rfl, rfl, by decide +kernel, rfl, by decide +kernel, by decide +kernel⟩
theorem cb__law_pack : BindsN (topS 35) "_law_pack" "_law_pack" ["_law_parts"] := fun _ _ _ _ _ _ us hl => match us, hl with | [_], _ => rfl
abbrev b__law_pack : XS :=
    sSeq (sSet 1 (xLst (xNil)))
    (sSeq (sFor (iAny (xVar 0)) (gN 2) (sSet 1 (xBin addW (xBin addW (xVar 1) (xLst (xCons (xBin fdivW (xCall lenW (xCons (xVar 2) (xNil))) (xK (.int 65536))) (xCons (xBin modW (xBin fdivW (xCall lenW (xCons (xVar 2) (xNil))) (xK (.int 256))) (xK (.int 256))) (xCons (xBin modW (xCall lenW (xCons (xVar 2) (xNil))) (xK (.int 256))) (xNil)))))) (xVar 2))))
    (sRet (xVar 1)))
def F__law_pack : List W → Hm → Out W := mkF 3 b__law_pack
set_option maxHeartbeats 0 in
theorem ok__law_pack {Γ : Gam} (E : Env Γ) : Cal Γ 1 "_law_pack" ["_law_parts"] F__law_pack := ⟨cal_mk E.d__law_pack cb__law_pack cs__law_pack ck__law_pack
    (sl_cons (ss_set 1 1 (se_lst (sa_nil)))
    (sl_cons (ss_for (si_any (se_var 0 0)) (sg_name 2 2) (sl_one (ss_set 1 1 (se_bin os_add (se_bin os_add (se_var 1 1) (se_lst (sa_cons (se_bin os_fdiv (e_len 0 E.B (sa_cons (se_var 2 2) (sa_nil))) (se_int)) (sa_cons (se_bin os_mod (se_bin os_fdiv (e_len 0 E.B (sa_cons (se_var 2 2) (sa_nil))) (se_int)) (se_int)) (sa_cons (se_bin os_mod (e_len 0 E.B (sa_cons (se_var 2 2) (sa_nil))) (se_int)) (sa_nil)))))) (se_var 2 2)))))
    (sl_one (ss_ret (se_var 1 1))))), E.g__law_pack⟩
/-! law -/
def c_law : Cfg := ⟨["_law_script", "_law_k", "_law_value_here", "_law_found", "_law_parts", "_law_cell_here", "_law_given", "_law_part"], ["_law_script", "_law_k", "_law_value_here", "_law_found", "_law_parts", "_law_cell_here", "_law_given"], ["_law_script", "_law_k", "_law_value_here", "_law_found", "_law_parts", "_law_cell_here", "_law_given"], ["range", "_law_value", "is_entry", "isinstance", "bool", "_law_due", "_law_other", "_law_cell", "abs", "_law_bytes", "_law_is_list", "pack", "_law_pack"], defScope (topS 36), true, true⟩
theorem ck_law : cfgOk c_law = true := by decide +kernel
theorem cs_law : FnScope c_law.N ["_law_script"] (defScope (topS 36)) := ⟨rfl, rfl, rfl, by decide +kernel, rfl, by decide +kernel, by decide +kernel⟩
theorem cb_law : BindsN (topS 36) "law" "law" ["_law_script"] := fun _ _ _ _ _ _ us hl => match us, hl with | [_], _ => rfl
abbrev b_law : XS :=
    sSeq (sFor (iRng1 (xCons (xK (.int 6)) (xNil))) (gN 1) (sSeq (sSet 2 (xFn F__law_value (xCons (xVar 0) (xCons (xVar 1) (xNil)))))
    (sSeq (sSet 3 (xFn F_is_entry (xCons (xVar 2) (xNil))))
    (sIf (xOrT (xNotT (xB (xIsi "bool" (xVar 3)))) (xB (xBin neW (xVar 3) (xFn F__law_due (xCons (xVar 2) (xNil)))))) (sRet (xK (.bl false))) (sSkip)))))
    (sSeq (sFor (iRng1 (xCons (xK (.int 8)) (xNil))) (gN 1) (sIf (xB (xBin isnW (xFn F_is_entry (xCons (xFn F__law_other (xCons (xVar 1) (xNil))) (xNil))) (xK (.bl false)))) (sRet (xK (.bl false))) (sSkip)))
    (sSeq (sSet 4 (xLst (xNil)))
    (sSeq (sFor (iRng1 (xCons (xBin modW (xFn F__law_cell (xCons (xVar 0) (xCons (xK (.int 24)) (xNil)))) (xK (.int 5))) (xNil))) (gN 1) (sSeq (sSet 5 (xCall absW (xCons (xFn F__law_cell (xCons (xVar 0) (xCons (xBin addW (xK (.int 25)) (xVar 1)) (xNil)))) (xNil))))
    (sExpr (xMeth isL appW (xVar 4) (xCons (xFn F__law_bytes (xCons (xBin fdivW (xVar 5) (xK (.int 300))) (xCons (xBin modW (xVar 5) (xK (.int 300))) (xNil)))) (xNil))))))
    (sSeq (sSet 6 (xComp (iAny (xVar 4)) (gN 7) (xTrue) (xCall listW (xCons (xVar 7) (xNil))) [7]))
    (sRet (xAnd (xFn F__law_is_list (xCons (xFn F_pack (xCons (xVar 6) (xNil))) (xCons (xFn F__law_pack (xCons (xVar 4) (xNil))) (xNil)))) (xBin eqW (xVar 6) (xVar 4))))))))
def F_law : List W → Hm → Out W := mkF 8 b_law
set_option maxHeartbeats 0 in
theorem ok_law {Γ : Gam} (E : Env Γ) : Cal Γ 6 "law" ["_law_script"] F_law := ⟨cal_mk E.d_law cb_law cs_law ck_law
    (sl_cons (ss_for (si_rng1 0 E.B (sa_cons (se_int) (sa_nil))) (sg_name 1 1) (sl_cons (ss_set 2 2 (se_cal 1 (ok__law_value E) (sa_cons (se_var 0 0) (sa_cons (se_var 1 1) (sa_nil))) (len_cons (len_cons (len_nil)))))
    (sl_cons (ss_set 3 3 (se_cal 2 (ok_is_entry E) (sa_cons (se_var 2 2) (sa_nil)) (len_cons (len_nil))))
    (sl_one (ss_if (st_w (sw_or (st_not (st_val (e_is_bool 3 4 E.B (se_var 3 3)))) (sw_one (st_cmp os_ne (se_var 3 3) (se_cal 5 (ok__law_due E) (sa_cons (se_var 2 2) (sa_nil)) (len_cons (len_nil))))))) (sl_one (ss_ret (se_bl))) (sl_nil))))))
    (sl_cons (ss_for (si_rng1 0 E.B (sa_cons (se_int) (sa_nil))) (sg_name 1 1) (sl_one (ss_if (st_cmp os_isn (se_cal 2 (ok_is_entry E) (sa_cons (se_cal 6 (ok__law_other E) (sa_cons (se_var 1 1) (sa_nil)) (len_cons (len_nil))) (sa_nil)) (len_cons (len_nil))) (se_bl)) (sl_one (ss_ret (se_bl))) (sl_nil))))
    (sl_cons (ss_set 4 4 (se_lst (sa_nil)))
    (sl_cons (ss_for (si_rng1 0 E.B (sa_cons (se_bin os_mod (se_cal 7 (ok__law_cell E) (sa_cons (se_var 0 0) (sa_cons (se_int) (sa_nil))) (len_cons (len_cons (len_nil)))) (se_int)) (sa_nil))) (sg_name 1 1) (sl_cons (ss_set 5 5 (e_abs 8 E.B (sa_cons (se_cal 7 (ok__law_cell E) (sa_cons (se_var 0 0) (sa_cons (se_bin os_add (se_int) (se_var 1 1)) (sa_nil))) (len_cons (len_cons (len_nil)))) (sa_nil))))
    (sl_one (ss_expr (e_append (se_var 4 4) (sa_cons (se_cal 9 (ok__law_bytes E) (sa_cons (se_bin os_fdiv (se_var 5 5) (se_int)) (sa_cons (se_bin os_mod (se_var 5 5) (se_int)) (sa_nil))) (len_cons (len_cons (len_nil)))) (sa_nil)))))))
    (sl_cons (ss_lc 6 6 [("_law_part", 7)] ["_law_part"] ["_law_part"] ["list"] (si_any (se_var 4 4)) (so_name 7 0) (sts_nil) (e_list 0 E.B (sa_cons (se_var 7 0) (sa_nil))) (by decide +kernel) (by decide +kernel) (by decide +kernel) (by decide +kernel))
    (sl_one (ss_ret (se_and (se_cal 10 (ok__law_is_list E) (sa_cons (se_cal 11 (ok_pack E) (sa_cons (se_var 6 6) (sa_nil)) (len_cons (len_nil))) (sa_cons (se_cal 12 (ok__law_pack E) (sa_cons (se_var 4 4) (sa_nil)) (len_cons (len_nil))) (sa_nil))) (len_cons (len_cons (len_nil)))) (se_one (se_cmp os_eq (se_var 6 6) (se_var 4 4))))))))))), E.g_law⟩
end L_curveseal_k65_entries

local macro_rules | `(tactic| array_get_dec) => `(tactic| repeat (first | (with_reducible (apply Z.is_S; first | apply Z.w_seq | apply Z.w_set | apply Z.w_if | apply Z.w_ret | apply Z.w_expr | apply Z.w_For | apply Z.w_asg | apply Z.w_skip | apply Z.w_sub | apply Z.w_retN | apply Z.w_break | apply Z.w_cont)) | (with_reducible (apply Z.is_O; first | apply Z.o_addI | apply Z.o_subI | apply Z.o_eqI | apply Z.o_neI | apply Z.o_ltI | apply Z.o_gtI | apply Z.o_leI | apply Z.o_geI | apply Z.o_andI | apply Z.o_orI | apply Z.o_xorI | apply Z.o_negI | apply Z.o_eqS | apply Z.o_neS | apply Z.o_eqB | apply Z.o_neB | apply Z.o_isN | apply Z.o_isnN | apply Z.o_isB | apply Z.o_isnB | apply Z.o_lenT | apply Z.o_abs | apply Z.o_int | apply Z.o_intB | apply Z.o_ord1 | apply Z.o_leS)) | ((with_reducible apply Z.w_var); exact rfl) | (with_reducible (apply Z.is_E; first | apply Z.w_bin | apply Z.w_cons | apply Z.w_nil | apply Z.w_K | apply Z.w_call | apply Z.w_Fn | apply Z.w_B | apply Z.w_asB | apply Z.w_tup | apply Z.w_OrT | apply Z.w_AndT | apply Z.w_NotT | apply Z.w_lst | apply Z.w_Meth | apply Z.w_Isi | apply Z.w_And | apply Z.w_Or | apply Z.w_Not | apply Z.w_If | apply Z.w_Chain | apply Z.w_un | apply Z.w_oNone | apply Z.w_oSome | apply Z.w_Sl | apply Z.w_iRng1 | apply Z.w_iAny | apply Z.w_iRng2 | apply Z.w_iRev | apply Z.w_iZip | apply Z.w_iEnum | apply Z.w_comp | apply Z.w_true | apply Z.w_dic)) | (with_reducible (apply Z.is_D; first | apply Z.d_T | apply Z.d_F | apply Z.d_not)) | (with_reducible apply Z.d_bl) | (with_reducible apply Z.d_int) | (with_reducible refine Z.d_len (by simp) ?_)))
local macro_rules | `(tactic| sizeOf_list_dec) => `(tactic| repeat (first | (with_reducible (apply Z.is_S; first | apply Z.w_seq | apply Z.w_set | apply Z.w_if | apply Z.w_ret | apply Z.w_expr | apply Z.w_For | apply Z.w_asg | apply Z.w_skip | apply Z.w_sub | apply Z.w_retN | apply Z.w_break | apply Z.w_cont)) | (with_reducible (apply Z.is_O; first | apply Z.o_addI | apply Z.o_subI | apply Z.o_eqI | apply Z.o_neI | apply Z.o_ltI | apply Z.o_gtI | apply Z.o_leI | apply Z.o_geI | apply Z.o_andI | apply Z.o_orI | apply Z.o_xorI | apply Z.o_negI | apply Z.o_eqS | apply Z.o_neS | apply Z.o_eqB | apply Z.o_neB | apply Z.o_isN | apply Z.o_isnN | apply Z.o_isB | apply Z.o_isnB | apply Z.o_lenT | apply Z.o_abs | apply Z.o_int | apply Z.o_intB | apply Z.o_ord1 | apply Z.o_leS)) | ((with_reducible apply Z.w_var); exact rfl) | (with_reducible (apply Z.is_E; first | apply Z.w_bin | apply Z.w_cons | apply Z.w_nil | apply Z.w_K | apply Z.w_call | apply Z.w_Fn | apply Z.w_B | apply Z.w_asB | apply Z.w_tup | apply Z.w_OrT | apply Z.w_AndT | apply Z.w_NotT | apply Z.w_lst | apply Z.w_Meth | apply Z.w_Isi | apply Z.w_And | apply Z.w_Or | apply Z.w_Not | apply Z.w_If | apply Z.w_Chain | apply Z.w_un | apply Z.w_oNone | apply Z.w_oSome | apply Z.w_Sl | apply Z.w_iRng1 | apply Z.w_iAny | apply Z.w_iRng2 | apply Z.w_iRev | apply Z.w_iZip | apply Z.w_iEnum | apply Z.w_comp | apply Z.w_true | apply Z.w_dic)) | (with_reducible (apply Z.is_D; first | apply Z.d_T | apply Z.d_F | apply Z.d_not)) | (with_reducible apply Z.d_bl) | (with_reducible apply Z.d_int) | (with_reducible refine Z.d_len (by simp) ?_) | (with_reducible (apply Z.is_D; first | refine Z.d_decF (by omega) ?_ | refine Z.d_decT (by omega) ?_)) | (with_reducible (apply Z.is_O; first | refine Z.o_mulS (by first | decide | omega) ?_ | refine Z.o_mulSR (by first | decide | omega) ?_ | refine Z.o_modI (by first | decide | omega) ?_ | refine Z.o_fdivI (by first | decide | omega) ?_ | refine Z.o_shrI (by first | decide | omega) ?_ | refine Z.o_lenS (by first | decide | omega) ?_))))
namespace Z
open PySem PySem.Spec PyProof.Rows L2
open L_curveseal_k65_entries
section
variable {h : Hm} {V : W → Hm → Prop} {E : Exn → Hm → Prop}
theorem shr_lt {n : Int} {k : Nat} (h2 : 0 ≤ n) (h3 : n < 2 ^ k) : n / 2 ^ k = 0 := Int.ediv_eq_zero_of_lt h2 h3
def littleW (n : Int) (s : Nat) : List W := (List.range s).map fun i => .int (n / 256 ^ i % 256)
theorem littleW_succ (n : Int) (s : Nat) : littleW n s ++ [.int (n / 256 ^ s % 256)] = littleW n (s + 1) := by
  unfold littleW
  rw [List.range_succ, List.map_append]
  rfl
theorem littleW_len (n : Int) (s : Nat) : (littleW n s).length = s := by simp [littleW]
theorem div_step (n : Int) (i : Nat) : n / 256 ^ i / 256 = n / 256 ^ (i + 1) := by
  rw [Int.ediv_ediv_of_nonneg (by exact Int.pow_nonneg (by omega)), Int.pow_succ]
theorem sp_to_little {n s : Int} (h0 : 0 ≤ s) (h1 : s ≤ 4096) (h2 : 0 ≤ n) (h3 : n < 2 ^ (8 * s).toNat) (q : V (.ref h.length) (h ++ [.lst (littleW n s.toNat)])) : (F_to_little [.int n, .int s] h).wp V E := by
  refine w_mk ?_
  sizeOf_list_dec
  refine d_decT (shr_lt h2 h3) ?_
  sizeOf_list_dec
  refine ⟨_, rfl, smallI_ok (by omega), ?_⟩
  refine w_rng0 (fun i σ h1 => ∃ z, σ = [some (.int (n / 256 ^ i)), some (.int s), some (.ref h.length), z] ∧ h1 = h ++ [.lst (littleW n i)]) (lt_fuel (by omega)) ⟨none, by simp, rfl⟩ ?_ ?_
  · rintro i σ h1 hi ⟨z, rfl, rfl⟩
    refine ⟨_, rfl, ?_⟩
    sizeOf_list_dec
    refine ⟨isL_new, ?_⟩
    sizeOf_list_dec
    refine o_appN (by rw [littleW_len]; omega) ?_
    sizeOf_list_dec
    exact ⟨_, by rw [← div_step]; rfl, by rw [bitAnd_m8, littleW_succ]⟩
  · rintro σ h1 ⟨z, rfl, rfl⟩
    sizeOf_list_dec
    exact q
theorem all_false {α : Type} {P : α → Bool} {xs : List α} {i : Nat} {w : α} (e : xs[i]? = some w) (p : P w = false) : xs.all P = false := by
  rw [List.all_eq_false]
  exact ⟨w, List.mem_of_getElem? e, by rw [p]; decide⟩
theorem all_take {α : Type} {P : α → Bool} {xs : List α} {i : Nat} {w : α} (e : xs[i]? = some w) (p : P w = true) (a : (xs.take i).all P = true) : (xs.take (i + 1)).all P = true := by
  rw [List.take_add_one, e, List.all_append, a]
  simp [p]
def byteB : W → Bool
  | .int i => decide (0 ≤ i) && decide (i ≤ 255)
  | _ => false
def ctB (c : Nat) : Bool := decide (32 ≤ c) && decide (c ≤ 126) && !decide (c = 37)
def txtB : W → Bool
  | .str z => decide (z.length ≤ 600) && z.cps.toList.all ctB
  | _ => false
def datB (m : Int) : W → Bool
  | .tup xs => decide ((xs.length : Int) ≤ m) && xs.all byteB
  | _ => false
/-- tame values: with a type, sizes within the line -/
def Tm (h : Hm) : Nat → W → Prop
  | n + 1, .tup xs => ∀ x ∈ xs, Tm h n x
  | _, .str z => z.length ≤ 1000
  | _, .ref r => ∃ o, h[r]? = some o ∧ ((∃ xs, o = .lst xs) ∨ ∃ kvs, o = .dic kvs)
  | _, .non => True
  | _, .bl _ => True
  | _, .int _ => True
  | _, _ => False
theorem Tm.pre {h h' : Hm} (p : h <+: h') : ∀ {n : Nat} {x : W}, Tm h n x → Tm h' n x
  | n + 1, .tup xs, t => fun x hx => Tm.pre p (t x hx)
  | 0, .tup xs, t => t
  | 0, .str z, t => t
  | n + 1, .str z, t => t
  | 0, .ref r, ⟨o, e, q⟩ => ⟨o, pre_get p e, q⟩
  | n + 1, .ref r, ⟨o, e, q⟩ => ⟨o, pre_get p e, q⟩
  | 0, .non, t => t
  | n + 1, .non, t => t
  | 0, .bl _, t => t
  | n + 1, .bl _, t => t
  | 0, .int _, t => t
  | n + 1, .int _, t => t
  | 0, .exn _ _, t => t
  | n + 1, .exn _ _, t => t
/-- its type, the answers of isinstance -/
theorem Tm.ty {h : Hm} {n : Nat} {x : W} (t : Tm h (n + 1) x) (T : String) (ts : List String) (e : kitT.lookup T = some ts) : ∃ y, tyC x h = some y ∧ isiC T x h = some (ts.contains y) := by
  have go : ∀ {y : String}, tyC x h = some y → ∃ y, tyC x h = some y ∧ isiC T x h = some (ts.contains y) := fun {y} e1 => ⟨y, e1, by
    unfold isiC
    rw [e1, e]
    rfl⟩
  cases x with
  | ref r =>
    obtain ⟨o, e1, ⟨xs, rfl⟩ | ⟨kvs, rfl⟩⟩ := t
    · exact go (y := "list") (by
        unfold tyC
        simp only [e1])
    · exact go (y := "dict") (by
        unfold tyC
        simp only [e1])
  | exn _ _ => exact t.elim
  | non => exact go rfl
  | bl _ => exact go rfl
  | int _ => exact go rfl
  | str _ => exact go rfl
  | tup _ => exact go rfl
theorem Tm.isInt {h : Hm} {n : Nat} {x : W} (t : Tm h (n + 1) x) : (∃ i, x = .int i) ∨ (∃ b, x = .bl b) ∨ isiC "int" x h = some false ∧ isiC "bool" x h = some false ∧ byteB x = false := by
  cases x with
  | ref r =>
    obtain ⟨o, e1, ⟨xs, rfl⟩ | ⟨kvs, rfl⟩⟩ := t
    · refine .inr (.inr ⟨?_, ?_, rfl⟩) <;> unfold isiC tyC <;> simp only [e1] <;> rfl
    · refine .inr (.inr ⟨?_, ?_, rfl⟩) <;> unfold isiC tyC <;> simp only [e1] <;> rfl
  | exn _ _ => exact t.elim
  | non => exact .inr (.inr ⟨rfl, rfl, rfl⟩)
  | bl b => exact .inr (.inl ⟨b, rfl⟩)
  | int i => exact .inl ⟨i, rfl⟩
  | str _ => exact .inr (.inr ⟨rfl, rfl, rfl⟩)
  | tup _ => exact .inr (.inr ⟨rfl, rfl, rfl⟩)
theorem Tm.isStr {h : Hm} {n : Nat} {x : W} (t : Tm h (n + 1) x) : (∃ z, x = .str z ∧ z.length ≤ 1000) ∨ isiC "str" x h = some false ∧ txtB x = false := by
  cases x with
  | ref r =>
    obtain ⟨o, e1, ⟨xs, rfl⟩ | ⟨kvs, rfl⟩⟩ := t
    · refine .inr ⟨?_, rfl⟩ <;> unfold isiC tyC <;> simp only [e1] <;> rfl
    · refine .inr ⟨?_, rfl⟩ <;> unfold isiC tyC <;> simp only [e1] <;> rfl
  | exn _ _ => exact t.elim
  | str z => exact .inl ⟨z, rfl, t⟩
  | non => exact .inr ⟨rfl, rfl⟩
  | bl b => exact .inr ⟨rfl, rfl⟩
  | int i => exact .inr ⟨rfl, rfl⟩
  | tup _ => exact .inr ⟨rfl, rfl⟩
theorem Tm.isTup {h : Hm} {n : Nat} {x : W} (t : Tm h (n + 1) x) : (∃ xs, x = .tup xs ∧ ∀ y ∈ xs, Tm h n y) ∨ isiC "tuple" x h = some false ∧ (∀ m, datB m x = false) ∧ ∀ xs, x ≠ .tup xs := by
  cases x with
  | ref r =>
    obtain ⟨o, e1, ⟨xs, rfl⟩ | ⟨kvs, rfl⟩⟩ := t
    · refine .inr ⟨?_, fun _ => rfl, nofun⟩ <;> unfold isiC tyC <;> simp only [e1] <;> rfl
    · refine .inr ⟨?_, fun _ => rfl, nofun⟩ <;> unfold isiC tyC <;> simp only [e1] <;> rfl
  | exn _ _ => exact t.elim
  | tup xs => exact .inl ⟨xs, rfl, t⟩
  | str z => exact .inr ⟨rfl, fun _ => rfl, nofun⟩
  | non => exact .inr ⟨rfl, fun _ => rfl, nofun⟩
  | bl b => exact .inr ⟨rfl, fun _ => rfl, nofun⟩
  | int i => exact .inr ⟨rfl, fun _ => rfl, nofun⟩
theorem isi_at {h : Hm} {r : Nat} {xs : List W} (e : h[r]? = some (.lst xs)) : isiC "list" (.ref r) h = some true := by
  unfold isiC tyC
  simp only [e]
  rfl
theorem sp_is_bytes {r n : Nat} {xs : List W} (e : h[r]? = some (.lst xs)) (hx : ∀ x ∈ xs, Tm h (n + 1) x) (hl : xs.length < 1000000000) (q : V (.bl (xs.all byteB)) h) : (F_is_bytes [.ref r] h).wp V E := by
  refine w_mk ?_
  sizeOf_list_dec
  refine ⟨true, isi_at e, ?_⟩
  sizeOf_list_dec
  refine .inl ⟨xs, seqC_at e, ?_⟩
  refine w_items (xs := xs) (fun i σ h1 => ∃ z, σ = [some (.ref r), z] ∧ h1 = h ∧ (xs.take i).all byteB = true) (lt_fuel hl) ⟨none, rfl, rfl, by simp⟩ ?_ ?_ ?_
  · rintro i σ h1 ⟨z, rfl, rfl, _⟩
    exact seqC_at e
  · rintro i σ h1 w ew ⟨z, rfl, rfl, ha⟩
    refine ⟨_, rfl, ?_⟩
    sizeOf_list_dec
    rcases (hx w (List.mem_of_getElem? ew)).isInt with ⟨j, rfl⟩ | ⟨b, rfl⟩ | ⟨e1, e2, e3⟩
    · refine ⟨true, rfl, ?_⟩
      sizeOf_list_dec
      refine ⟨false, rfl, ?_⟩
      sizeOf_list_dec
      refine d_dec (fun hc => ?_) fun hc => ?_
      · sizeOf_list_dec
        rw [all_false ew (by simp [byteB]; omega)] at q
        exact q
      · sizeOf_list_dec
        refine d_dec (fun hd => ?_) fun hd => ?_
        · sizeOf_list_dec
          rw [all_false ew (by simp [byteB]; omega)] at q
          exact q
        · sizeOf_list_dec
          exact ⟨_, rfl, rfl, all_take ew (by simp [byteB]; omega) ha⟩
    · refine ⟨true, rfl, ?_⟩
      sizeOf_list_dec
      refine ⟨true, rfl, ?_⟩
      sizeOf_list_dec
      rw [all_false ew rfl] at q
      exact q
    · refine ⟨false, e1, ?_⟩
      sizeOf_list_dec
      rw [all_false ew e3] at q
      exact q
  · rintro σ h1 ⟨z, rfl, rfl, ha⟩
    sizeOf_list_dec
    rw [List.take_length] at ha
    rw [ha] at q
    exact q
end
end Z

namespace Z
open PySem PySem.Spec PyProof.Rows L2
open L_curveseal_k65_entries
section
variable {h : Hm} {V : W → Hm → Prop} {E : Exn → Hm → Prop}
theorem chars_all {P : Nat → Bool} {z : Str} {i c : Nat} (e : z.cps[i]? = some c) (p : P c = false) : z.cps.toList.all P = false := all_false (i := i) (by rw [← Array.getElem?_toList] at e; exact e) p
theorem chars_take {P : Nat → Bool} {z : Str} {i c : Nat} (e : z.cps[i]? = some c) (p : P c = true) (a : (z.cps.toList.take i).all P = true) : (z.cps.toList.take (i + 1)).all P = true := all_take (by rw [← Array.getElem?_toList] at e; exact e) p a
theorem chars_end {P : Nat → Bool} {z : Str} (a : (z.cps.toList.take z.length).all P = true) : z.cps.toList.all P = true := by
  rw [show z.length = z.cps.toList.length from by rw [Array.length_toList]; rfl, List.take_length] at a
  exact a
theorem txt_long {z : Str} (m : 600 < z.length) : txtB (.str z) = false := by
  show (decide (z.length ≤ 600) && _) = _
  rw [decide_eq_false (by omega)]
  rfl
theorem txt_short {z : Str} (m : ¬ (600 : Int) < z.length) : txtB (.str z) = z.cps.toList.all ctB := by
  show (decide (z.length ≤ 600) && _) = _
  rw [decide_eq_true (by omega)]
  rfl
theorem sp_is_text {n : Nat} {x : W} (t : Tm h (n + 1) x) (q : V (.bl (txtB x)) h) : (F_is_text [x] h).wp V E := by
  refine w_mk ?_
  sizeOf_list_dec
  rcases t.isStr with ⟨z, rfl, hz⟩ | ⟨e1, e2⟩
  · refine ⟨true, rfl, ?_⟩
    sizeOf_list_dec
    refine d_dec (fun hc => ?_) fun hc => ?_
    · sizeOf_list_dec
      rw [txt_long (by omega)] at q
      exact q
    · rw [txt_short hc] at q
      sizeOf_list_dec
      refine .inr ⟨z, rfl, ?_⟩
      refine w_chars (fun i σ h1 => ∃ y, σ = [some (.str z), y] ∧ h1 = h ∧ (z.cps.toList.take i).all ctB = true) (lt_fuel (by omega)) ⟨none, rfl, rfl, by simp⟩ ?_ ?_
      · rintro i σ h1 c ec ⟨y, rfl, rfl, ha⟩
        refine ⟨_, rfl, ?_⟩
        have no : ctB c = false → V (.bl false) h1 := fun p => by
          rw [chars_all ec p] at q
          exact q
        sizeOf_list_dec
        refine d_dec (fun h1 => ?_) fun h1 => ?_
        · sizeOf_list_dec
          exact no (by simp [ctB]; omega)
        · sizeOf_list_dec
          refine d_dec (fun h2 => ?_) fun h2 => ?_
          · sizeOf_list_dec
            exact no (by simp [ctB]; omega)
          · sizeOf_list_dec
            refine d_dec (fun h3 => ?_) fun h3 => ?_
            · sizeOf_list_dec
              exact no (by simp [ctB]; omega)
            · sizeOf_list_dec
              exact ⟨_, rfl, rfl, chars_take ec (by simp [ctB]; omega) ha⟩
      · rintro σ h1 ⟨y, rfl, rfl, ha⟩
        sizeOf_list_dec
        rw [chars_end ha] at q
        exact q
  · refine ⟨false, e1, ?_⟩
    sizeOf_list_dec
    rw [e2] at q
    exact q
theorem lt1 {a b : Nat} : decide ((#[a] : Array Nat).toList < (#[b] : Array Nat).toList) = decide (a < b) := by
  apply decide_eq_decide.mpr
  simp [List.cons_lt_cons_iff]
theorem lt_1 {a b : Nat} : decide ((⟨#[a]⟩ : Str).cps.toList < (⟨#[b]⟩ : Str).cps.toList) = decide (a < b) := lt1
theorem spc_eq : (" " : Str) = ⟨#[32]⟩ := by decide +kernel
theorem tld_eq : ("~" : Str) = ⟨#[126]⟩ := by decide +kernel
theorem sp_law_is_text {n : Nat} {x : W} (t : Tm h (n + 1) x) (q : V (.bl (txtB x)) h) : (F__law_is_text [x] h).wp V E := by
  refine w_mk ?_
  sizeOf_list_dec
  rcases t.isStr with ⟨z, rfl, hz⟩ | ⟨e1, e2⟩
  · refine ⟨true, rfl, ?_⟩
    sizeOf_list_dec
    refine d_dec (fun hc => ?_) fun hc => ?_
    · sizeOf_list_dec
      rw [txt_long (by omega)] at q
      exact q
    · rw [txt_short hc] at q
      sizeOf_list_dec
      refine .inr ⟨z, rfl, ?_⟩
      refine w_chars (fun i σ h1 => ∃ y, σ = [some (.str z), y] ∧ h1 = h ∧ (z.cps.toList.take i).all ctB = true) (lt_fuel (by omega)) ⟨none, rfl, rfl, by simp⟩ ?_ ?_
      · rintro i σ h1 c ec ⟨y, rfl, rfl, ha⟩
        refine ⟨_, rfl, ?_⟩
        have no : ctB c = false → V (.bl false) h1 := fun p => by
          rw [chars_all ec p] at q
          exact q
        rw [spc_eq, tld_eq]
        sizeOf_list_dec
        rw [lt_1]
        refine d_dec (fun h1 => ?_) fun h1 => ?_
        · sizeOf_list_dec
          exact no (by simp [ctB]; omega)
        · sizeOf_list_dec
          rw [lt_1]
          refine d_dec (fun h2 => ?_) fun h2 => ?_
          · sizeOf_list_dec
            exact no (by simp [ctB]; omega)
          · sizeOf_list_dec
            refine d_dec (fun h3 => ?_) fun h3 => ?_
            · sizeOf_list_dec
              exact no (by simp [ctB]; omega)
            · sizeOf_list_dec
              exact ⟨_, rfl, rfl, chars_take ec (by simp [ctB]; omega) ha⟩
      · rintro σ h1 ⟨y, rfl, rfl, ha⟩
        sizeOf_list_dec
        rw [chars_end ha] at q
        exact q
  · refine ⟨false, e1, ?_⟩
    sizeOf_list_dec
    rw [e2] at q
    exact q
theorem dat_tup {xs : List W} {m : Int} : datB m (.tup xs) = (decide ((xs.length : Int) ≤ m) && xs.all byteB) := rfl
theorem sp_is_data {n : Nat} {x : W} {m : Int} (t : Tm h (n + 2) x) (hm : m < 1000000000) (q : ∀ h', h <+: h' → V (.bl (datB m x)) h') : (F_is_data [x, .int m] h).wp V E := by
  refine w_mk ?_
  sizeOf_list_dec
  rcases t.isTup with ⟨xs, rfl, ht⟩ | ⟨e1, e2, _⟩
  · refine ⟨true, rfl, ?_⟩
    sizeOf_list_dec
    refine d_dec (fun hc => ?_) fun hc => ?_
    · sizeOf_list_dec
      refine o_list (ys := xs) rfl ?_
      sizeOf_list_dec
      refine sp_is_bytes (n := n) get_new (fun y hy => (ht y hy).pre ⟨_, rfl⟩) (by omega) ?_
      have := q _ ⟨[.lst xs], rfl⟩
      rw [dat_tup, decide_eq_true hc, Bool.true_and] at this
      exact this
    · have := q _ (List.prefix_refl _)
      rw [dat_tup, decide_eq_false hc, Bool.false_and] at this
      exact this
  · refine ⟨false, e1, ?_⟩
    sizeOf_list_dec
    have := q _ (List.prefix_refl _)
    rw [e2] at this
    exact this
def intB : W → Bool
  | .int _ => true
  | _ => false
theorem sp_law_integer {n : Nat} {x : W} (t : Tm h (n + 1) x) (q : V (.bl (intB x)) h) : (F__law_integer [x] h).wp V E := by
  refine w_mk ?_
  sizeOf_list_dec
  rcases t.isInt with ⟨j, rfl⟩ | ⟨b, rfl⟩ | ⟨e1, e2, e3⟩
  · refine ⟨true, rfl, ?_⟩
    sizeOf_list_dec
    refine ⟨false, rfl, ?_⟩
    sizeOf_list_dec
    exact q
  · refine ⟨true, rfl, ?_⟩
    sizeOf_list_dec
    refine ⟨true, rfl, ?_⟩
    sizeOf_list_dec
    exact q
  · refine ⟨false, e1, ?_⟩
    sizeOf_list_dec
    cases x with
    | int i => cases e1
    | _ => exact q
theorem sp_law_is_data {n : Nat} {x : W} {m : Int} (t : Tm h (n + 2) x) (hm : m < 1000000000) (q : V (.bl (datB m x)) h) : (F__law_is_data [x, .int m] h).wp V E := by
  refine w_mk ?_
  sizeOf_list_dec
  rcases t.isTup with ⟨xs, rfl, ht⟩ | ⟨e1, e2, _⟩
  · refine ⟨true, rfl, ?_⟩
    sizeOf_list_dec
    refine d_dec (fun hc => ?_) fun hc => ?_
    · sizeOf_list_dec
      rw [dat_tup, decide_eq_false (by omega), Bool.false_and] at q
      exact q
    · rw [dat_tup, decide_eq_true (by omega), Bool.true_and] at q
      sizeOf_list_dec
      refine .inl ⟨xs, rfl, ?_⟩
      refine w_items (xs := xs) (fun i σ h1 => ∃ z, σ = [some (.tup xs), some (.int m), z] ∧ h1 = h ∧ (xs.take i).all byteB = true) (lt_fuel (by omega)) ⟨none, rfl, rfl, by simp⟩ (fun _ _ _ _ => rfl) ?_ ?_
      · rintro i σ h1 w ew ⟨z, rfl, rfl, ha⟩
        refine ⟨_, rfl, ?_⟩
        have no : byteB w = false → V (.bl false) h1 := fun p => by
          rw [all_false ew p] at q
          exact q
        have tw := ht w (List.mem_of_getElem? ew)
        sizeOf_list_dec
        refine sp_law_integer (n := n) tw ?_
        cases w with
        | int j =>
          dsimp only [intB]
          sizeOf_list_dec
          refine d_dec (fun hc => ?_) fun hc => ?_
          · sizeOf_list_dec
            exact no (by simp [byteB]; omega)
          · sizeOf_list_dec
            refine d_dec (fun hd => ?_) fun hd => ?_
            · sizeOf_list_dec
              exact no (by simp [byteB]; omega)
            · sizeOf_list_dec
              exact ⟨_, rfl, rfl, all_take ew (by simp [byteB]; omega) ha⟩
        | _ =>
          dsimp only [intB]
          sizeOf_list_dec
          exact no rfl
      · rintro σ h1 ⟨z, rfl, rfl, ha⟩
        sizeOf_list_dec
        rw [List.take_length] at ha
        rw [ha] at q
        exact q
  · refine ⟨false, e1, ?_⟩
    sizeOf_list_dec
    rw [e2] at q
    exact q
end
end Z

namespace Z
open PySem PySem.Spec PyProof.Rows L2
open L_curveseal_k65_entries
section
variable {h : Hm} {V : W → Hm → Prop} {E : Exn → Hm → Prop}
def rgs : List Str := ["", "a", "s", "w", "as", "aw", "sw", "asw"]
def rgtB : W → Bool
  | .str z => decide (z ∈ rgs)
  | _ => false
def inS (z : Str) (i : Str) : Bool := !(Builtin.Str.occurrences z i 0 z.length 1).isEmpty
def pick (b0 b1 b2 : Bool) : List W := (if b0 then [.str "a"] else []) ++ (if b1 then [.str "s"] else []) ++ if b2 then [.str "w"] else []
theorem in_str {z i : Str} : inC (.str i) (.str z) h = some (inS z i) := rfl
theorem let_at : ∀ i c, ("asw" : Str).cps[i]? = some c → (i = 0 ∧ (⟨#[c]⟩ : Str) = "a") ∨ (i = 1 ∧ (⟨#[c]⟩ : Str) = "s") ∨ (i = 2 ∧ (⟨#[c]⟩ : Str) = "w") := by
  intro i c e
  have hl : ("asw" : Str).cps = #[97, 115, 119] := by decide +kernel
  rw [hl] at e
  have hi : i < 3 := (Array.getElem?_eq_some_iff.mp e).1
  match i, hi with
  | 0, _ =>
    cases e
    exact .inl ⟨rfl, by decide +kernel⟩
  | 1, _ =>
    cases e
    exact .inr (.inl ⟨rfl, by decide +kernel⟩)
  | 2, _ =>
    cases e
    exact .inr (.inr ⟨rfl, by decide +kernel⟩)
def pickN (b0 b1 b2 : Bool) : Nat → List W
  | 0 => []
  | 1 => if b0 then [.str "a"] else []
  | 2 => (if b0 then [.str "a"] else []) ++ (if b1 then [.str "s"] else [])
  | _ => pick b0 b1 b2
def pickS (b0 b1 b2 : Bool) : List Str := (if b0 then [("a" : Str)] else []) ++ (if b1 then [("s" : Str)] else []) ++ if b2 then [("w" : Str)] else []
theorem pick_strs : ∀ b0 b1 b2 : Bool, strs? (pick b0 b1 b2) = some (pickS b0 b1 b2) := fun b0 b1 b2 => by cases b0 <;> cases b1 <;> cases b2 <;> rfl
def res (b0 b1 b2 : Bool) : Str := Txt.join "" (pickS b0 b1 b2)
theorem res_in : ∀ b0 b1 b2 : Bool, res b0 b1 b2 ∈ rgs := by decide +kernel
theorem res_of : ∀ z ∈ rgs, res (inS z "a") (inS z "s") (inS z "w") = z := by decide +kernel
theorem rgs_len : ∀ z ∈ rgs, z.length ≤ 3 := by decide +kernel
theorem pick_join {d : Nat} {b0 b1 b2 : Bool} (e : h[d]? = some (.lst (pick b0 b1 b2))) : joinW (.str "") [.ref d] h = some (.str (res b0 b1 b2), h) := by
  unfold joinW
  dsimp only
  rw [seqC_at e]
  show (strs? (pick b0 b1 b2)).bind _ = _
  rw [pick_strs]
  show (if _ then _ else _) = _
  rw [if_pos (by cases b0 <;> cases b1 <;> cases b2 <;> decide)]
  rfl
theorem let_len : ("asw" : Str).length = 3 := by decide +kernel
theorem sp_is_rights {n : Nat} {x : W} (t : Tm h (n + 1) x) (q : ∀ h', h <+: h' → V (.bl (rgtB x)) h') : (F_is_rights [x] h).wp V E := by
  refine w_mk ?_
  sizeOf_list_dec
  rcases t.isStr with ⟨z, rfl, hz⟩ | ⟨e1, e2⟩
  · refine ⟨true, rfl, ?_⟩
    sizeOf_list_dec
    refine o_lenS (by rw [let_len]; decide) ?_
    rw [let_len]
    sizeOf_list_dec
    refine d_dec (fun hc => ?_) fun hc => ?_
    · sizeOf_list_dec
      have := q h (List.prefix_refl _)
      rw [show rgtB (.str z) = false from decide_eq_false fun m => by have := rgs_len z m; omega] at this
      exact this
    · sizeOf_list_dec
      refine ⟨rfl, ?_⟩
      sizeOf_list_dec
      refine .inr ⟨_, rfl, ?_⟩
      generalize hb0 : inS z "a" = b0
      generalize hb1 : inS z "s" = b1
      generalize hb2 : inS z "w" = b2
      have hl : ∀ i, (pickN b0 b1 b2 i).length ≤ i := fun i => by
        match i with
        | 0 => exact Nat.zero_le _
        | 1 => cases b0 <;> simp [pickN]
        | 2 => cases b0 <;> cases b1 <;> simp [pickN]
        | k + 3 => cases b0 <;> cases b1 <;> cases b2 <;> simp [pickN, pick] <;> omega
      refine w_compL (n := 3) (fun i acc h1 => acc = pickN b0 b1 b2 i ∧ h1 = h ++ [.lst acc]) (lt_fuel (by decide)) (by decide) ⟨rfl, rfl⟩ (fun i acc h1 ⟨e1, e2⟩ => ⟨by rw [e2]; exact get_new, by rw [e1]; exact hl i⟩) ?_ ?_
      · rintro i acc h1 hi ⟨rfl, rfl⟩
        have hs : i < ("asw" : Str).cps.size := by rw [show ("asw" : Str).cps.size = 3 from let_len]; exact hi
        have ec : ("asw" : Str).cps[i]? = some ("asw" : Str).cps[i] := Array.getElem?_eq_getElem hs
        refine ⟨.str ⟨#[("asw" : Str).cps[i]]⟩, _, ?_, rfl, ?_⟩
        · unfold itStr
          rw [ec]
          rfl
        · have key : ∀ (y : Str) (b : Bool), inS z y = b → pickN b0 b1 b2 (i + 1) = pickN b0 b1 b2 i ++ (if b then [.str y] else []) → (⟨#[("asw" : Str).cps[i]]⟩ : Str) = y →
              (xB (xBin inW (xVar 1) (xVar 0)) ((wipeS (List.map some [W.str z] ++ List.replicate (2 - [W.str z].length) none) [1]).set 1 (some (.str ⟨#[("asw" : Str).cps[i]]⟩))) (h ++ [.lst (pickN b0 b1 b2 i)])).wp
                (fun c h1 => (c = true → (xVar 1 ((wipeS (List.map some [W.str z] ++ List.replicate (2 - [W.str z].length) none) [1]).set 1 (some (.str ⟨#[("asw" : Str).cps[i]]⟩))) h1).wp (fun y h2 => h2[h.length]? = some (.lst (pickN b0 b1 b2 i)) ∧ pickN b0 b1 b2 i ++ [y] = pickN b0 b1 b2 (i + 1) ∧ h2.set h.length (.lst (pickN b0 b1 b2 i ++ [y])) = h ++ [.lst (pickN b0 b1 b2 i ++ [y])]) nE) ∧ (c = false → pickN b0 b1 b2 i = pickN b0 b1 b2 (i + 1) ∧ h1 = h ++ [.lst (pickN b0 b1 b2 i)])) nE := by
            intro y b ey eb ec
            rw [ec]
            sizeOf_list_dec
            refine o_in in_str ?_
            rw [ey]
            sizeOf_list_dec
            cases b with
            | true =>
              sizeOf_list_dec
              exact ⟨get_new, eb.symm, set_new⟩
            | false =>
              sizeOf_list_dec
              exact ⟨by rw [eb]; simp, rfl⟩
          rcases let_at i _ ec with ⟨rfl, ey⟩ | ⟨rfl, ey⟩ | ⟨rfl, ey⟩
          · exact key "a" b0 hb0 (by simp [pickN]) ey
          · exact key "s" b1 hb1 (by simp [pickN]) ey
          · exact key "w" b2 hb2 (by simp [pickN, pick]) ey
      · rintro acc h1 ⟨rfl, rfl⟩
        refine ⟨by
          unfold itStr
          rw [show ("asw" : Str).cps[3]? = none from by decide +kernel]
          rfl, ?_⟩
        sizeOf_list_dec
        refine w_ofO (pick_join (b0 := b0) (b1 := b1) (b2 := b2) get_new) ?_
        sizeOf_list_dec
        have := q _ (pre_new (u := .lst (pickN b0 b1 b2 3)) (List.prefix_refl h))
        have e : decide (res b0 b1 b2 = z) = rgtB (.str z) := by
          by_cases m : z ∈ rgs
          · rw [show rgtB (.str z) = true from decide_eq_true m]
            have := res_of z m
            rw [hb0, hb1, hb2] at this
            rw [this]
            exact decide_eq_true rfl
          · rw [show rgtB (.str z) = false from decide_eq_false m]
            exact decide_eq_false fun w => m (by rw [← w]; exact res_in b0 b1 b2)
        rw [e]
        exact this
  · refine ⟨false, e1, ?_⟩
    sizeOf_list_dec
    have := q h (List.prefix_refl _)
    cases x with
    | str z => cases e1
    | _ => exact this
end
end Z

namespace Z
open PySem PySem.Spec PyProof.Rows L2
open L_curveseal_k65_entries
section
variable {h : Hm} {V : W → Hm → Prop} {E : Exn → Hm → Prop}
def kinds : List Str := ["state", "admit", "replace", "withdraw"]
def one (P : W → Bool) : List W → Bool
  | [x] => P x
  | _ => false
def two (P : W → W → Bool) : List W → Bool
  | [x, y] => P x y
  | _ => false
def bodyB (k : Str) : W → Bool
  | .tup xs => if k = "state" then one (datB 1024) xs else if k = "withdraw" then one txtB xs else two (fun x y => txtB x && (if k = "admit" then rgtB y else datB 256 y)) xs
  | _ => false
theorem sp_is_body {n : Nat} {k : Str} {x : W} (t : Tm h (n + 3) x) (q : ∀ h', h <+: h' → V (.bl (bodyB k x)) h') : (F_is_body [.str k, x] h).wp V E := by
  refine w_mk ?_
  sizeOf_list_dec
  rcases t.isTup with ⟨xs, rfl, ht⟩ | ⟨e1, e2, e3⟩
  · refine ⟨true, rfl, ?_⟩
    sizeOf_list_dec
    refine d_dec (fun h1 => ?_) fun h1 => ?_
    · have q : ∀ h', h <+: h' → V (.bl (one (datB 1024) xs)) h' := fun h' p => by
        have := q h' p
        rw [show bodyB k (.tup xs) = one (datB 1024) xs from if_pos h1] at this
        exact this
      sizeOf_list_dec
      match xs, ht, q with
      | [], ht, q =>
        refine d_decF (by decide) ?_
        exact q h (List.prefix_refl _)
      | [y], ht, q =>
        refine d_decT rfl ?_
        sizeOf_list_dec
        refine o_ix (w := y) rfl rfl ?_
        sizeOf_list_dec
        exact sp_is_data (n := n) (ht y (List.mem_cons_self ..)) (by decide) q
      | _ :: _ :: _, ht, q =>
        refine d_decF (by simp only [List.length_cons]; omega) ?_
        exact q h (List.prefix_refl _)
    · sizeOf_list_dec
      refine d_dec (fun h2 => ?_) fun h2 => ?_
      · have q : ∀ h', h <+: h' → V (.bl (one txtB xs)) h' := fun h' p => by
          have := q h' p
          rw [show bodyB k (.tup xs) = one txtB xs from (if_neg h1).trans (if_pos h2)] at this
          exact this
        sizeOf_list_dec
        match xs, ht, q with
        | [], ht, q =>
          refine d_decF (by decide) ?_
          exact q h (List.prefix_refl _)
        | [y], ht, q =>
          refine d_decT rfl ?_
          sizeOf_list_dec
          refine o_ix (w := y) rfl rfl ?_
          sizeOf_list_dec
          exact sp_is_text (n := n + 1) (ht y (List.mem_cons_self ..)) (q h (List.prefix_refl _))
        | _ :: _ :: _, ht, q =>
          refine d_decF (by simp only [List.length_cons]; omega) ?_
          exact q h (List.prefix_refl _)
      · have q : ∀ h', h <+: h' → V (.bl (two (fun x y => txtB x && (if k = "admit" then rgtB y else datB 256 y)) xs)) h' := fun h' p => by
          have := q h' p
          rw [show bodyB k (.tup xs) = two (fun x y => txtB x && (if k = "admit" then rgtB y else datB 256 y)) xs from (if_neg h1).trans (if_neg h2)] at this
          exact this
        sizeOf_list_dec
        match xs, ht, q with
        | [], ht, q =>
          refine d_decF (by decide) ?_
          sizeOf_list_dec
          exact q h (List.prefix_refl _)
        | [y], ht, q =>
          refine d_decF (by simp) ?_
          sizeOf_list_dec
          exact q h (List.prefix_refl _)
        | [x, y], ht, q =>
          refine d_decT rfl ?_
          sizeOf_list_dec
          refine o_ix (w := x) rfl rfl ?_
          sizeOf_list_dec
          refine sp_is_text (n := n + 1) (ht x (List.mem_cons_self ..)) ?_
          sizeOf_list_dec
          cases hx : txtB x with
          | false =>
            sizeOf_list_dec
            have := q h (List.prefix_refl _)
            dsimp only [two] at this
            rw [hx, Bool.false_and] at this
            exact this
          | true =>
            sizeOf_list_dec
            have q : ∀ h', h <+: h' → V (.bl (if k = "admit" then rgtB y else datB 256 y)) h' := fun h' p => by
              have := q h' p
              dsimp only [two] at this
              rw [hx, Bool.true_and] at this
              exact this
            have ty := ht y (List.mem_cons_of_mem _ (List.mem_cons_self ..))
            refine d_dec (fun h3 => ?_) fun h3 => ?_
            · sizeOf_list_dec
              refine o_ix (w := y) rfl rfl ?_
              sizeOf_list_dec
              refine sp_is_rights (n := n + 1) ty fun h' p => ?_
              have := q h' p
              rw [if_pos h3] at this
              exact this
            · sizeOf_list_dec
              refine o_ix (w := y) rfl rfl ?_
              sizeOf_list_dec
              refine sp_is_data (n := n) ty (by decide) fun h' p => ?_
              have := q h' p
              rw [if_neg h3] at this
              exact this
        | _ :: _ :: _ :: _, ht, q =>
          refine d_decF (by simp only [List.length_cons]; omega) ?_
          sizeOf_list_dec
          exact q h (List.prefix_refl _)
  · refine ⟨false, e1, ?_⟩
    sizeOf_list_dec
    have := q h (List.prefix_refl _)
    cases x with
    | tup xs => exact absurd rfl (e3 xs)
    | _ => exact this
def entB : W → Bool
  | .tup [.str k, a, b, s] => decide (k ∈ kinds) && (txtB a && (bodyB k b && datB 256 s))
  | _ => false
theorem in_kinds {k : Str} : inC (.str k) w_KINDS h = some (decide (k ∈ kinds)) := by
  show some (inV (.str k) [.str "state", .str "admit", .str "replace", .str "withdraw"]) = _
  unfold inV kinds
  simp only [List.any_cons, List.any_nil, eqV, List.mem_cons, List.not_mem_nil, or_false, Bool.or_false]
  congr 1
  have e : ∀ a b : Str, (a == b) = decide (b = a) := fun a b => by
    rw [Bool.eq_iff_iff, beq_iff_eq, decide_eq_true_iff]
    exact eq_comm
  rw [e, e, e, e, Bool.eq_iff_iff]
  simp
theorem sp_is_entry {n : Nat} {x : W} (t : Tm h (n + 4) x) (q : ∀ h', h <+: h' → V (.bl (entB x)) h') : (F_is_entry [x] h).wp V E := by
  refine w_mk ?_
  sizeOf_list_dec
  rcases t.isTup with ⟨xs, rfl, ht⟩ | ⟨e1, e2, e3⟩
  · refine ⟨true, rfl, ?_⟩
    sizeOf_list_dec
    have long : xs.length ≠ 4 → V (.bl false) h := fun hl => by
      have := q h (List.prefix_refl _)
      have e : entB (.tup xs) = false := by
        unfold entB
        split
        · rename_i z
          cases z
          exact absurd rfl hl
        · rfl
      rw [e] at this
      exact this
    refine d_dec (fun hl => ?_) fun hl => ?_
    · sizeOf_list_dec
      obtain ⟨k, a, b, s, rfl⟩ : ∃ k a b s, xs = [k, a, b, s] := by
        match xs, hl with
        | [k, a, b, s], _ => exact ⟨k, a, b, s, rfl⟩
        | [], hl => simp at hl
        | [_], hl => simp at hl
        | [_, _], hl => simp at hl
        | [_, _, _], hl => simp at hl
        | _ :: _ :: _ :: _ :: _ :: _, hl => simp only [List.length_cons] at hl; omega
      have tk := ht k (by simp)
      have ta := ht a (by simp)
      have tb := ht b (by simp)
      have ts := ht s (by simp)
      refine ⟨_, rfl, ?_⟩
      sizeOf_list_dec
      rcases tk.isStr with ⟨z, rfl, hz⟩ | ⟨e1, e2⟩
      · refine ⟨true, rfl, ?_⟩
        have q : ∀ h', h <+: h' → V (.bl (decide (z ∈ kinds) && (txtB a && (bodyB z b && datB 256 s)))) h' := q
        sizeOf_list_dec
        refine o_nin in_kinds ?_
        sizeOf_list_dec
        refine d_dec (fun h1 => ?_) fun h1 => ?_
        · rw [decide_eq_true h1] at q
          sizeOf_list_dec
          refine sp_is_text (n := n + 2) ta ?_
          sizeOf_list_dec
          cases ea : txtB a with
          | false =>
            rw [ea] at q
            sizeOf_list_dec
            exact q h (List.prefix_refl _)
          | true =>
            rw [ea] at q
            sizeOf_list_dec
            refine sp_is_body (n := n) tb fun h' p => ?_
            sizeOf_list_dec
            refine ⟨fun eb => ?_, fun eb => ?_⟩
            · rw [eb] at q
              sizeOf_list_dec
              exact sp_is_data (n := n + 1) (ts.pre p) (by decide) fun h2 p2 => q h2 (p.trans p2)
            · rw [eb] at q
              exact q h' p
        · rw [decide_eq_false h1] at q
          sizeOf_list_dec
          exact q h (List.prefix_refl _)
      · refine ⟨false, e1, ?_⟩
        sizeOf_list_dec
        have := q h (List.prefix_refl _)
        cases k with
        | str z => cases e1
        | _ => exact this
    · sizeOf_list_dec
      exact long fun e => hl (by rw [e]; rfl)
  · refine ⟨false, e1, ?_⟩
    sizeOf_list_dec
    have := q h (List.prefix_refl _)
    cases x with
    | tup xs => exact absurd rfl (e3 xs)
    | _ => exact this
end
end Z

namespace Z
open PySem PySem.Spec PyProof.Rows L2
open L_curveseal_k65_entries
section
variable {h : Hm} {V : W → Hm → Prop} {E : Exn → Hm → Prop}
theorem rgs_in {z : Str} : inB (.str z) [.str "", .str "a", .str "s", .str "w", .str "as", .str "aw", .str "sw", .str "asw"] = some (decide (z ∈ rgs)) := by
  show some (inV (.str z) [.str "", .str "a", .str "s", .str "w", .str "as", .str "aw", .str "sw", .str "asw"]) = _
  unfold inV rgs
  simp only [List.any_cons, List.any_nil, eqV, List.mem_cons, List.not_mem_nil, or_false, Bool.or_false]
  congr 1
  have e : ∀ a b : Str, (a == b) = decide (b = a) := fun a b => by
    rw [Bool.eq_iff_iff, beq_iff_eq, decide_eq_true_iff]
    exact eq_comm
  rw [e, e, e, e, e, e, e, e, Bool.eq_iff_iff]
  simp
theorem len_two {xs : List W} (e : xs.length = 2) : ∃ y z, xs = [y, z] := by
  match xs, e with
  | [y, z], _ => exact ⟨y, z, rfl⟩
theorem tup_body {k : Str} {xs : List W} : bodyB k (.tup xs) = if k = "state" then one (datB 1024) xs else if k = "withdraw" then one txtB xs else two (fun x y => txtB x && (if k = "admit" then rgtB y else datB 256 y)) xs := rfl
def kAt (i : Nat) (k : Str) : Prop := (i = 0 ∧ k = "state") ∨ (i = 1 ∧ k = "admit") ∨ (i = 2 ∧ k = "replace") ∨ (i = 3 ∧ k = "withdraw")
theorem sp_law_is_body {n i : Nat} {k : Str} {x : W} (hk : kAt i k) (t : Tm h (n + 3) x) (q : ∀ h', h <+: h' → V (.bl (bodyB k x)) h') : (F__law_is_body [.int (i : Nat), x] h).wp V E := by
  refine w_mk ?_
  sizeOf_list_dec
  rcases t.isTup with ⟨xs, rfl, ht⟩ | ⟨e1, e2, e3⟩
  · refine ⟨true, rfl, ?_⟩
    sizeOf_list_dec
    have p1 : h <+: h ++ [.lst [.int 1, .int 2, .int 2, .int 1]] := ⟨_, rfl⟩
    refine o_ix (w := .int ((if i = 0 ∨ i = 3 then 1 else 2 : Nat) : Nat)) seqC_new (atI_nat' ?_) ?_
    · rcases hk with ⟨rfl, _⟩ | ⟨rfl, _⟩ | ⟨rfl, _⟩ | ⟨rfl, _⟩ <;> rfl
    sizeOf_list_dec
    have q : ∀ h', h <+: h' → V (.bl (if k = "state" then one (datB 1024) xs else if k = "withdraw" then one txtB xs else two (fun x y => txtB x && (if k = "admit" then rgtB y else datB 256 y)) xs)) h' := q
    have one_no : ∀ {P : W → Bool}, xs.length ≠ 1 → one P xs = false := fun {P} hl => by
      match xs, hl with
      | [], _ => rfl
      | [x], hl => exact absurd rfl hl
      | _ :: _ :: _, _ => rfl
    have two_no : ∀ {P : W → W → Bool}, xs.length ≠ 2 → two P xs = false := fun {P} hl => by
      match xs, hl with
      | [], _ => rfl
      | [x], hl => rfl
      | [x, y], hl => exact absurd rfl hl
      | _ :: _ :: _ :: _, _ => rfl
    rcases hk with ⟨rfl, rfl⟩ | ⟨rfl, rfl⟩ | ⟨rfl, rfl⟩ | ⟨rfl, rfl⟩
    · rw [if_pos (.inl rfl)]
      rw [if_pos rfl] at q
      refine d_dec (fun hl => ?_) fun hl => ?_
      · obtain ⟨y, rfl⟩ : ∃ y, xs = [y] := List.length_eq_one_iff.mp (by omega)
        sizeOf_list_dec
        refine o_ix (w := y) rfl rfl ?_
        sizeOf_list_dec
        exact sp_law_is_data (n := n) ((ht y (List.mem_cons_self ..)).pre p1) (by decide) (q _ p1)
      · sizeOf_list_dec
        rw [one_no (by omega)] at q
        exact q _ p1
    · rw [if_neg (by decide)]
      rw [if_neg (by decide +kernel), if_neg (by decide +kernel)] at q
      refine d_dec (fun hl => ?_) fun hl => ?_
      · obtain ⟨y, z, rfl⟩ : ∃ y z, xs = [y, z] := len_two (by omega)
        have ty := (ht y (List.mem_cons_self ..)).pre p1
        have tz := (ht z (List.mem_cons_of_mem _ (List.mem_cons_self ..))).pre p1
        sizeOf_list_dec
        refine o_ix (w := y) rfl rfl ?_
        sizeOf_list_dec
        refine sp_law_is_text (n := n + 1) ty ?_
        sizeOf_list_dec
        dsimp only [two] at q
        rw [if_pos rfl] at q
        cases hx : txtB y with
        | false =>
          rw [hx] at q
          sizeOf_list_dec
          exact q _ p1
        | true =>
          rw [hx] at q
          sizeOf_list_dec
          refine o_ix (w := z) rfl rfl ?_
          rcases tz.isStr with ⟨z, rfl, hz⟩ | ⟨e1, e2⟩
          · refine ⟨true, rfl, ?_⟩
            sizeOf_list_dec
            refine o_ix (w := .str z) rfl rfl ?_
            sizeOf_list_dec
            refine o_in rgs_in ?_
            exact q _ p1
          · refine ⟨false, e1, ?_⟩
            sizeOf_list_dec
            have := q _ p1
            cases z with
            | str z => cases e1
            | _ => exact this
      · sizeOf_list_dec
        rw [two_no (by omega)] at q
        exact q _ p1
    · rw [if_neg (by decide)]
      rw [if_neg (by decide +kernel), if_neg (by decide +kernel)] at q
      refine d_dec (fun hl => ?_) fun hl => ?_
      · obtain ⟨y, z, rfl⟩ : ∃ y z, xs = [y, z] := len_two (by omega)
        have ty := (ht y (List.mem_cons_self ..)).pre p1
        have tz := (ht z (List.mem_cons_of_mem _ (List.mem_cons_self ..))).pre p1
        sizeOf_list_dec
        refine o_ix (w := y) rfl rfl ?_
        sizeOf_list_dec
        refine sp_law_is_text (n := n + 1) ty ?_
        sizeOf_list_dec
        dsimp only [two] at q
        rw [if_neg (by decide +kernel)] at q
        cases hx : txtB y with
        | false =>
          rw [hx] at q
          sizeOf_list_dec
          exact q _ p1
        | true =>
          rw [hx] at q
          sizeOf_list_dec
          refine o_ix (w := z) rfl rfl ?_
          sizeOf_list_dec
          exact sp_law_is_data (n := n) tz (by decide) (q _ p1)
      · sizeOf_list_dec
        rw [two_no (by omega)] at q
        exact q _ p1
    · rw [if_pos (.inr rfl)]
      rw [if_neg (by decide +kernel), if_pos rfl] at q
      refine d_dec (fun hl => ?_) fun hl => ?_
      · obtain ⟨y, rfl⟩ : ∃ y, xs = [y] := List.length_eq_one_iff.mp (by omega)
        sizeOf_list_dec
        refine o_ix (w := y) rfl rfl ?_
        sizeOf_list_dec
        refine sp_law_is_text (n := n + 1) ((ht y (List.mem_cons_self ..)).pre p1) ?_
        sizeOf_list_dec
        have q : ∀ h', h <+: h' → V (.bl (txtB y)) h' := q
        cases hx : txtB y with
        | false =>
          rw [hx] at q
          sizeOf_list_dec
          exact q _ p1
        | true =>
          rw [hx] at q
          sizeOf_list_dec
          exact q _ p1
      · sizeOf_list_dec
        rw [one_no (by omega)] at q
        exact q _ p1
  · refine ⟨false, e1, ?_⟩
    sizeOf_list_dec
    have := q h (List.prefix_refl _)
    cases x with
    | tup xs => exact absurd rfl (e3 xs)
    | _ => exact this
def kindsW : List W := [.str "state", .str "admit", .str "replace", .str "withdraw"]
theorem kinds_idx {k : Str} (m : k ∈ kinds) : ∃ i, idxB (.str k) kindsW = some i ∧ kAt i k := by
  unfold kinds at m
  simp only [List.mem_cons, List.not_mem_nil, or_false] at m
  rcases m with rfl | rfl | rfl | rfl
  · exact ⟨0, by decide +kernel, .inl ⟨rfl, rfl⟩⟩
  · exact ⟨1, by decide +kernel, .inr (.inl ⟨rfl, rfl⟩)⟩
  · exact ⟨2, by decide +kernel, .inr (.inr (.inl ⟨rfl, rfl⟩))⟩
  · exact ⟨3, by decide +kernel, .inr (.inr (.inr ⟨rfl, rfl⟩))⟩
theorem in_kinds2 {k : Str} : inC (.str k) (.ref h.length) (h ++ [.lst kindsW]) = some (decide (k ∈ kinds)) := by
  unfold inC
  simp only [get_new]
  exact in_kinds (h := h)
theorem sp_law_due {n : Nat} {x : W} (t : Tm h (n + 4) x) (q : ∀ h', h <+: h' → V (.bl (entB x)) h') : (F__law_due [x] h).wp V E := by
  refine w_mk ?_
  sizeOf_list_dec
  rcases t.isTup with ⟨xs, rfl, ht⟩ | ⟨e1, e2, e3⟩
  · refine ⟨true, rfl, ?_⟩
    sizeOf_list_dec
    have long : xs.length ≠ 4 → V (.bl false) h := fun hl => by
      have := q h (List.prefix_refl _)
      have e : entB (.tup xs) = false := by
        unfold entB
        split
        · rename_i z
          cases z
          exact absurd rfl hl
        · rfl
      rw [e] at this
      exact this
    refine d_dec (fun hl => ?_) fun hl => ?_
    · sizeOf_list_dec
      obtain ⟨k, a, b, s, rfl⟩ : ∃ k a b s, xs = [k, a, b, s] := by
        match xs, hl with
        | [k, a, b, s], _ => exact ⟨k, a, b, s, rfl⟩
        | [], hl => simp at hl
        | [_], hl => simp at hl
        | [_, _], hl => simp at hl
        | [_, _, _], hl => simp at hl
        | _ :: _ :: _ :: _ :: _ :: _, hl => simp only [List.length_cons] at hl; omega
      have tk := ht k (by simp)
      have ta := ht a (by simp)
      have tb := ht b (by simp)
      have ts := ht s (by simp)
      refine o_ix (w := k) rfl rfl ?_
      rcases tk.isStr with ⟨z, rfl, hz⟩ | ⟨e1, e2⟩
      · refine ⟨true, rfl, ?_⟩
        have q : ∀ h', h <+: h' → V (.bl (decide (z ∈ kinds) && (txtB a && (bodyB z b && datB 256 s)))) h' := q
        sizeOf_list_dec
        have p1 : h <+: h ++ [.lst kindsW] := ⟨_, rfl⟩
        refine o_ix (w := .str z) rfl rfl ?_
        sizeOf_list_dec
        refine o_nin in_kinds2 ?_
        sizeOf_list_dec
        refine d_dec (fun h1 => ?_) fun h1 => ?_
        · rw [decide_eq_true h1] at q
          sizeOf_list_dec
          refine o_ix (w := a) rfl rfl ?_
          sizeOf_list_dec
          refine sp_law_is_text (n := n + 2) (ta.pre p1) ?_
          sizeOf_list_dec
          cases ea : txtB a with
          | false =>
            rw [ea] at q
            sizeOf_list_dec
            exact q _ p1
          | true =>
            rw [ea] at q
            sizeOf_list_dec
            refine o_ix (w := s) rfl rfl ?_
            sizeOf_list_dec
            refine sp_law_is_data (n := n + 1) (ts.pre p1) (by decide) ?_
            sizeOf_list_dec
            cases es : datB 256 s with
            | false =>
              rw [es, Bool.and_false] at q
              sizeOf_list_dec
              exact q _ p1
            | true =>
              rw [es, Bool.and_true] at q
              sizeOf_list_dec
              refine ⟨isL_new, ?_⟩
              sizeOf_list_dec
              refine o_ix (w := .str z) rfl rfl ?_
              sizeOf_list_dec
              obtain ⟨i, e1, e2⟩ := kinds_idx h1
              refine w_ofO (x := .int (i : Nat)) (h1 := h ++ [.lst kindsW]) ?_ ?_
              · unfold idxW
                simp only [get_new]
                rw [if_pos (by rfl)]
                exact congrArg (Option.map _) e1
              sizeOf_list_dec
              refine o_ix (w := b) rfl rfl ?_
              sizeOf_list_dec
              exact sp_law_is_body (n := n) e2 (tb.pre p1) fun h2 p2 => q h2 (p1.trans p2)
        · rw [decide_eq_false h1] at q
          sizeOf_list_dec
          exact q _ p1
      · refine ⟨false, e1, ?_⟩
        sizeOf_list_dec
        have := q h (List.prefix_refl _)
        cases k with
        | str z => cases e1
        | _ => exact this
    · sizeOf_list_dec
      exact long fun e => hl (by rw [e]; rfl)
  · refine ⟨false, e1, ?_⟩
    sizeOf_list_dec
    have := q h (List.prefix_refl _)
    cases x with
    | tup xs => exact absurd rfl (e3 xs)
    | _ => exact this
end
end Z

namespace Z
open PySem PySem.Spec PyProof.Rows L2
open L_curveseal_k65_entries
section
variable {h : Hm} {V : W → Hm → Prop} {E : Exn → Hm → Prop}
theorem tm_int {n : Nat} {i : Int} : Tm h n (.int i) := by cases n <;> exact trivial
theorem tm_bl {n : Nat} {i : Bool} : Tm h n (.bl i) := by cases n <;> exact trivial
theorem tm_non {n : Nat} : Tm h n .non := by cases n <;> exact trivial
theorem tm_str {n : Nat} {z : Str} (e : z.length ≤ 1000) : Tm h n (.str z) := by cases n <;> exact e
theorem tm_ref {n r : Nat} {o : O} (e : h[r]? = some o) (q : (∃ xs, o = .lst xs) ∨ ∃ kvs, o = .dic kvs) : Tm h n (.ref r) := by cases n <;> exact ⟨o, e, q⟩
theorem sp_cell {ns : List Int} {k : Int} (e : h[0]? = some (.frz (ns.map .int))) (hk : 0 ≤ k) (q : ∀ c, V (.int c) h) : (F__law_cell [.ref 0, .int k] h).wp V E := by
  refine w_mk ?_
  sizeOf_list_dec
  refine o_len (seqC_frz e) ?_
  sizeOf_list_dec
  refine d_dec (fun hl => ?_) fun hl => ?_
  · sizeOf_list_dec
    obtain ⟨j, rfl⟩ := Int.eq_ofNat_of_zero_le hk
    have hj : j < ns.length := by
      rw [List.length_map] at hl
      omega
    refine o_ix (w := .int ns[j]) (seqC_frz e) (atI_nat' ?_) ?_
    · rw [List.getElem?_map, List.getElem?_eq_getElem hj]
      rfl
    sizeOf_list_dec
    exact q _
  · sizeOf_list_dec
    exact q _
theorem sp_twice {c k : Int} (q : ∀ r, V (.int r) h) : (F__law_twice [.int c, .int k] h).wp V E := by
  refine w_mk ?_
  sizeOf_list_dec
  exact q _
def isByte (x : W) : Prop := ∃ i, x = .int i ∧ 0 ≤ i ∧ i < 256
theorem mod_byte {i : Int} : isByte (W.int (i % 256)) := ⟨_, rfl, Int.emod_nonneg _ (by decide), Int.emod_lt_of_pos _ (by decide)⟩
theorem sp_bytes {c s : Int} (h0 : 0 ≤ s) (h1 : s ≤ 5000) (q : ∀ xs : List W, xs.length = s.toNat → (∀ x ∈ xs, isByte x) → V (.ref h.length) (h ++ [.lst xs])) : (F__law_bytes [.int c, .int s] h).wp V E := by
  refine w_mk ?_
  sizeOf_list_dec
  refine o_powI (by decide) ?_
  sizeOf_list_dec
  refine ⟨_, rfl, smallI_ok (by omega), ?_⟩
  generalize decide ((10 : Int) ^ (18 : Int).toNat ≤ (if c < 0 then -c else c)) = g
  generalize (if c < 0 then -c else c) = l0
  refine w_rng0 (fun (i : Nat) (σ : Sg) (h1 : Hm) => ∃ (l : Int) (z : Option W) (xs : List W), σ = [some (.int c), some (.int s), some (.int l), some (.bl g), some (.ref h.length), z] ∧ h1 = h ++ [.lst xs] ∧ xs.length = i ∧ ∀ x ∈ xs, isByte x) (lt_fuel (by omega)) ⟨l0, none, [], rfl, rfl, rfl, nofun⟩ ?_ ?_
  · rintro i σ h1 hi ⟨l, z, xs, rfl, rfl, hl, hx⟩
    refine ⟨_, rfl, ?_⟩
    have grow : ∀ j : Int, (xs ++ [W.int (j % 256)]).length = i + 1 ∧ ∀ x ∈ xs ++ [W.int (j % 256)], isByte x := fun j => ⟨by rw [List.length_append, hl]; rfl, fun x m => by
      rcases List.mem_append.mp m with m | m
      · exact hx x m
      · rw [List.mem_singleton.mp m]
        exact mod_byte⟩
    sizeOf_list_dec
    cases g with
    | false =>
      sizeOf_list_dec
      refine ⟨isL_new, ?_⟩
      sizeOf_list_dec
      refine sp_twice fun r => ?_
      sizeOf_list_dec
      refine o_appN (by omega) ?_
      exact ⟨l, _, _, rfl, rfl, grow r⟩
    | true =>
      sizeOf_list_dec
      refine d_dec (fun hd => ?_) fun hd => ?_
      · sizeOf_list_dec
        refine ⟨isL_new, ?_⟩
        sizeOf_list_dec
        refine o_appN (by omega) ?_
        sizeOf_list_dec
        exact ⟨_, _, _, rfl, rfl, grow l⟩
      · sizeOf_list_dec
        refine ⟨isL_new, ?_⟩
        sizeOf_list_dec
        refine sp_twice fun r => ?_
        sizeOf_list_dec
        refine o_appN (by omega) ?_
        exact ⟨l, _, _, rfl, rfl, grow r⟩
  · rintro σ h1 ⟨l, z, xs, rfl, rfl, hl, hx⟩
    sizeOf_list_dec
    exact q xs hl hx
theorem ix_mod {xs : List W} {c m : Int} (hm : 0 < m) (hl : m ≤ xs.length) : ∃ w, atI xs (c % m) = some w ∧ w ∈ xs := by
  have a := Int.emod_nonneg c (show m ≠ 0 by omega)
  have b := Int.emod_lt_of_pos c hm
  obtain ⟨j, ej⟩ := Int.eq_ofNat_of_zero_le a
  have hj : j < xs.length := by omega
  rw [ej]
  exact ⟨xs[j], atI_nat' (List.getElem?_eq_getElem hj), List.getElem_mem _⟩
def strW1 (x : W) : Prop := ∃ z : Str, x = .str z ∧ z.length ≤ 1000
theorem str_of {z : Str} (e : z.length ≤ 1000) : strW1 (.str z) := ⟨z, rfl, e⟩
theorem lenx : ("x" : Str).length = 1 := by decide +kernel
theorem leny : ("y" : Str).length = 1 := by decide +kernel
theorem mulx : (Txt.mul "x" 600).length ≤ 1000 := by
  have e := PyProof.Rows.len_mul "x" 600
  rw [lenx] at e
  have : (if decide ((600 : Int) < 0) = true then (0 : Int) else 600) = 600 := rfl
  rw [this] at e
  omega
theorem muly : (Txt.mul "y" 601).length ≤ 1000 := by
  have e := PyProof.Rows.len_mul "y" 601
  rw [leny] at e
  have : (if decide ((601 : Int) < 0) = true then (0 : Int) else 601) = 601 := rfl
  rw [this] at e
  omega
theorem sp_text {c : Int} (q : ∀ z h', h <+: h' → z.length ≤ 1000 → V (.str z) h') : (F__law_text [.int c] h).wp V E := by
  refine w_mk ?_
  sizeOf_list_dec
  refine o_mulStr (by rw [lenx]; decide) ?_
  sizeOf_list_dec
  refine o_mulStr (by rw [leny]; decide) ?_
  sizeOf_list_dec
  have all : ∀ w ∈ [W.str "eddsa-e13:0a:12345678", W.str "key", W.str "", W.str "a b", W.str (Txt.mul "x" 600), W.str "~", W.str " ", W.str (Txt.mul "y" 601), W.str "a\t", W.str "a\n", W.str "\nabc"], strW1 w := by
    intro w m
    simp only [List.mem_cons, List.not_mem_nil, or_false] at m
    rcases m with rfl | rfl | rfl | rfl | rfl | rfl | rfl | rfl | rfl | rfl | rfl
    · exact str_of (by decide +kernel)
    · exact str_of (by decide +kernel)
    · exact str_of (by decide +kernel)
    · exact str_of (by decide +kernel)
    · exact str_of mulx
    · exact str_of (by decide +kernel)
    · exact str_of (by decide +kernel)
    · exact str_of muly
    · exact str_of (by decide +kernel)
    · exact str_of (by decide +kernel)
    · exact str_of (by decide +kernel)
  refine d_dec (fun hd => ?_) fun hd => ?_
  · sizeOf_list_dec
    obtain ⟨w, e1, e2⟩ := ix_mod (c := c) (m := 7) (by decide) (xs := [W.str "eddsa-e13:0a:12345678", W.str "key", W.str "", W.str "a b", W.str (Txt.mul "x" 600), W.str "~", W.str " ", W.str (Txt.mul "y" 601), W.str "a\t", W.str "a\n", W.str "\nabc"]) (by decide)
    refine o_ix (w := w) seqC_new e1 ?_
    obtain ⟨z, rfl, hz⟩ := all w e2
    exact q z _ ⟨_, rfl⟩ hz
  · sizeOf_list_dec
    obtain ⟨w, e1, e2⟩ := ix_mod (c := c) (m := 11) (by decide) (xs := [W.str "eddsa-e13:0a:12345678", W.str "key", W.str "", W.str "a b", W.str (Txt.mul "x" 600), W.str "~", W.str " ", W.str (Txt.mul "y" 601), W.str "a\t", W.str "a\n", W.str "\nabc"]) (by decide)
    refine o_ix (w := w) seqC_new e1 ?_
    obtain ⟨z, rfl, hz⟩ := all w e2
    exact q z _ ⟨_, rfl⟩ hz
end
end Z

namespace Z
open PySem PySem.Spec PyProof.Rows L2
open L_curveseal_k65_entries
section
variable {h : Hm} {V : W → Hm → Prop} {E : Exn → Hm → Prop}
theorem tm_byte {n : Nat} {x : W} (b : isByte x) : Tm h n x := by
  obtain ⟨i, rfl, _⟩ := b
  exact tm_int
theorem ixN_ok {n : Nat} {i : Int} (h0 : 0 ≤ i) (h1 : i < n) : ixN n i = some i.toNat := by
  unfold ixN
  rw [if_pos h0, if_pos h1]
theorem setW_ok {r : Nat} {xs : List W} {i : Int} {v : W} (e : h[r]? = some (.lst xs)) (h0 : 0 ≤ i) (h1 : i < xs.length) : setW (.ref r) (.int i) v h = some (h.set r (.lst (xs.set i.toNat v))) := by
  unfold setW
  simp only [e, ixN_ok h0 h1]
  rfl
theorem w4 {c : Int} : 0 ≤ c / 9 % 12 % 4 * (if decide (c / 9 % 12 < 4) then 1 else 0) ∧ c / 9 % 12 % 4 * (if decide (c / 9 % 12 < 4) then 1 else 0) < 4 := by
  split <;> omega
theorem sp_data {n : Nat} {c m : Int} (h0 : 0 ≤ m) (h1 : m ≤ 2000) (q : ∀ xs h', h <+: h' → (∀ x ∈ xs, ∀ n, Tm h' n x) → V (.tup xs) h') : (F__law_data [.int c, .int m] h).wp V E := by
  refine w_mk ?_
  sizeOf_list_dec
  obtain ⟨w0, w1⟩ := w4 (c := c)
  generalize c / 9 % 12 % 4 * (if decide (c / 9 % 12 < 4) then 1 else 0) = u at w0 w1
  obtain ⟨j, rfl⟩ := Int.eq_ofNat_of_zero_le w0
  have hj : j < 4 := by omega
  obtain ⟨s, es, s0, s1⟩ : ∃ s : Int, ([.int (c % 9), .int m, .int (m + 1), .int 0] : List W)[j]? = some (.int s) ∧ 0 ≤ s ∧ s ≤ 2001 := by
    match j, hj with
    | 0, _ => exact ⟨_, rfl, by omega, by omega⟩
    | 1, _ => exact ⟨_, rfl, by omega, by omega⟩
    | 2, _ => exact ⟨_, rfl, by omega, by omega⟩
    | 3, _ => exact ⟨_, rfl, by omega, by omega⟩
  refine o_ix seqC_new (atI_nat' es) ?_
  sizeOf_list_dec
  have p1 : h <+: h ++ [O.lst [.int (c % 9), .int m, .int (m + 1), .int 0]] := ⟨_, rfl⟩
  generalize h ++ [O.lst [.int (c % 9), .int m, .int (m + 1), .int 0]] = k at p1
  refine sp_bytes s0 (by omega) fun xs hl hb => ?_
  sizeOf_list_dec
  have p2 : h <+: k ++ [O.lst xs] := pre_new p1
  have tm : ∀ {h' : Hm}, ∀ x ∈ xs, ∀ n, Tm h' n x := fun x m n => tm_byte (hb x m)
  have out : ∀ {N B C X}, (sSkip ((((List.map some [W.int c, W.int m] ++ List.replicate (4 - [W.int c, W.int m].length) none).set 2 (some (.int s))).set 3 (some (.ref k.length)))) (k ++ [O.lst xs])).wp N V B C X → True := fun _ => trivial
  refine d_dec (fun hd => ?_) fun hd => ?_
  · sizeOf_list_dec
    refine d_dec (fun he => ?_) fun he => ?_
    · sizeOf_list_dec
      obtain ⟨v, e1, e2⟩ := ix_mod (c := c / 7) (m := 4) (by decide) (xs := [.int 256, .int (-1), .bl true, .str "a"]) (by decide)
      refine o_ix seqC_new e1 ?_
      sizeOf_list_dec
      refine ⟨_, setW_ok (get_old get_new) (Int.emod_nonneg _ (by omega)) (by have := Int.emod_lt_of_pos (c / 1728) he; omega), ?_⟩
      generalize (c / 1728 % s).toNat = jj
      have tv : ∀ {h' : Hm} {n : Nat}, Tm h' n v := fun {h' n} => by
        simp only [List.mem_cons, List.not_mem_nil, or_false] at e2
        rcases e2 with rfl | rfl | rfl | rfl
        · exact tm_int
        · exact tm_int
        · exact tm_bl
        · exact tm_str (by decide +kernel)
      sizeOf_list_dec
      refine o_tuple (ys := xs.set jj v) (seqC_at (by rw [List.getElem?_set_self (by simp)])) ?_
      refine q _ _ (pre_set (pre_new p2) p1.length_le) fun x m n => ?_
      rcases List.mem_or_eq_of_mem_set m with m | rfl
      · exact tm x m n
      · exact tv
    · sizeOf_list_dec
      refine o_tuple seqC_new ?_
      exact q _ _ p2 tm
  · sizeOf_list_dec
    refine o_tuple seqC_new ?_
    exact q _ _ p2 tm
theorem sp_rights {c : Int} (q : ∀ z h', h <+: h' → z.length ≤ 1000 → V (.str z) h') : (F__law_rights [.int c] h).wp V E := by
  refine w_mk ?_
  sizeOf_list_dec
  have all : ∀ w ∈ [W.str "asw", W.str "", W.str "a", W.str "s", W.str "w", W.str "as", W.str "aw", W.str "sw", W.str "sa", W.str "aa", W.str "b", W.str "asww"], strW1 w := by
    intro w m
    simp only [List.mem_cons, List.not_mem_nil, or_false] at m
    rcases m with rfl | rfl | rfl | rfl | rfl | rfl | rfl | rfl | rfl | rfl | rfl | rfl
    all_goals exact str_of (by decide +kernel)
  obtain ⟨w, e1, e2⟩ := ix_mod (c := c) (m := 12) (by decide) (xs := [W.str "asw", W.str "", W.str "a", W.str "s", W.str "w", W.str "as", W.str "aw", W.str "sw", W.str "sa", W.str "aa", W.str "b", W.str "asww"]) (by decide)
  refine o_ix (w := w) seqC_new e1 ?_
  obtain ⟨z, rfl, hz⟩ := all w e2
  exact q z _ ⟨_, rfl⟩ hz
/-- a tuple of tame things -/
def tupT (V : W → Hm → Prop) (h : Hm) : Prop := ∀ xs h', h <+: h' → xs.length ≤ 2 → (∀ x ∈ xs, ∀ n, Tm h' (n + 1) x) → V (.tup xs) h'
theorem tm_tup {n : Nat} {xs : List W} (t : ∀ x ∈ xs, ∀ n, Tm h n x) : Tm h (n + 1) (.tup xs) := fun x m => t x m n
theorem sp_body {k : Str} {c : Int} (q : tupT V h) : (F__law_body [.str k, .int c] h).wp V E := by
  refine w_mk ?_
  sizeOf_list_dec
  refine d_dec (fun h1 => ?_) fun h1 => ?_
  · sizeOf_list_dec
    refine sp_data (n := 0) (by decide) (by decide) fun xs h' p t => ?_
    sizeOf_list_dec
    refine q _ _ p (by simp) fun x m n => ?_
    rw [List.mem_singleton.mp m]
    exact tm_tup t
  · sizeOf_list_dec
    refine d_dec (fun h2 => ?_) fun h2 => ?_
    · sizeOf_list_dec
      refine sp_text fun z h' p t => ?_
      sizeOf_list_dec
      refine q _ _ p (by simp) fun x m n => ?_
      rw [List.mem_singleton.mp m]
      exact tm_str t
    · sizeOf_list_dec
      refine d_dec (fun h3 => ?_) fun h3 => ?_
      · sizeOf_list_dec
        refine sp_text fun z h' p t => ?_
        sizeOf_list_dec
        refine sp_rights fun y h2 p2 t2 => ?_
        sizeOf_list_dec
        refine q _ _ (p.trans p2) (by simp) fun x m n => ?_
        simp only [List.mem_cons, List.not_mem_nil, or_false] at m
        rcases m with rfl | rfl
        · exact tm_str t
        · exact tm_str t2
      · sizeOf_list_dec
        refine sp_text fun z h' p t => ?_
        sizeOf_list_dec
        refine sp_data (n := 0) (by decide) (by decide) fun xs h2 p2 t2 => ?_
        sizeOf_list_dec
        refine q _ _ (p.trans p2) (by simp) fun x m n => ?_
        simp only [List.mem_cons, List.not_mem_nil, or_false] at m
        rcases m with rfl | rfl
        · exact tm_str t
        · exact tm_tup t2
theorem sp_other {c : Int} (q : ∀ x h', h <+: h' → (∀ n, Tm h' (n + 1) x) → entB x = false → V x h') : (F__law_other [.int c] h).wp V E := by
  refine w_mk ?_
  sizeOf_list_dec
  have p1 : h <+: h ++ [O.lst [.int 1]] ++ [O.dic []] := pre_new ⟨_, rfl⟩
  have g1 : (h ++ [O.lst [.int 1]] ++ [O.dic []])[h.length]? = some (.lst [.int 1]) := get_old get_new
  have g2 : (h ++ [O.lst [.int 1]] ++ [O.dic []])[(h ++ [O.lst [.int 1]]).length]? = some (.dic []) := get_new
  generalize h ++ [O.lst [.int 1]] ++ [O.dic []] = k at p1 g1 g2
  generalize (h ++ [O.lst [.int 1]]).length = r at g2
  obtain ⟨w, e1, e2⟩ := ix_mod (c := c) (m := 8) (by decide) (xs := [.non, .int 5, .ref h.length, .str "text", .tup [], .tup [.int 1, .int 2], .bl true, .ref r]) (by simp)
  refine o_ix seqC_new e1 ?_
  refine q w _ (pre_new p1) (fun n => ?_) ?_
  · simp only [List.mem_cons, List.not_mem_nil, or_false] at e2
    rcases e2 with rfl | rfl | rfl | rfl | rfl | rfl | rfl | rfl
    · exact tm_non
    · exact tm_int
    · exact tm_ref (get_old g1) (.inl ⟨_, rfl⟩)
    · exact tm_str (by decide +kernel)
    · exact fun x m => by cases m
    · intro x m
      simp only [List.mem_cons, List.not_mem_nil, or_false] at m
      rcases m with rfl | rfl
      · exact tm_int
      · exact tm_int
    · exact tm_bl
    · exact tm_ref (get_old g2) (.inr ⟨_, rfl⟩)
  · simp only [List.mem_cons, List.not_mem_nil, or_false] at e2
    rcases e2 with rfl | rfl | rfl | rfl | rfl | rfl | rfl | rfl <;> rfl
end
end Z

namespace Z
open PySem PySem.Spec PyProof.Rows L2
open L_curveseal_k65_entries
section
variable {h : Hm} {V : W → Hm → Prop} {E : Exn → Hm → Prop}
theorem ix_any' {xs : List W} {i : Int} (h0 : 0 ≤ i) (h1 : i < xs.length) : ∃ w, atI xs i = some w ∧ w ∈ xs := by
  obtain ⟨j, rfl⟩ := Int.eq_ofNat_of_zero_le h0
  have hj : j < xs.length := by omega
  exact ⟨xs[j], atI_nat' (List.getElem?_eq_getElem hj), List.getElem_mem _⟩
theorem Tm.set {r : Nat} {ys : List W} : ∀ {n : Nat} {x : W}, Tm h n x → Tm (h.set r (.lst ys)) n x
  | n + 1, .tup xs, t => fun x hx => Tm.set (t x hx)
  | 0, .tup xs, t => t
  | 0, .str z, t => t
  | n + 1, .str z, t => t
  | 0, .ref s, ⟨o, e, q⟩ => by
    by_cases hrs : r = s
    · subst hrs
      exact ⟨_, List.getElem?_set_self (List.getElem?_eq_some_iff.mp e).1, .inl ⟨_, rfl⟩⟩
    · exact ⟨o, by rw [List.getElem?_set_ne hrs]; exact e, q⟩
  | n + 1, .ref s, ⟨o, e, q⟩ => by
    by_cases hrs : r = s
    · subst hrs
      exact ⟨_, List.getElem?_set_self (List.getElem?_eq_some_iff.mp e).1, .inl ⟨_, rfl⟩⟩
    · exact ⟨o, by rw [List.getElem?_set_ne hrs]; exact e, q⟩
  | 0, .non, t => t
  | n + 1, .non, t => t
  | 0, .bl _, t => t
  | n + 1, .bl _, t => t
  | 0, .int _, t => t
  | n + 1, .int _, t => t
  | 0, .exn _ _, t => t
  | n + 1, .exn _ _, t => t
def nsH (ns : List Int) (h : Hm) : Prop := h[0]? = some (.frz (ns.map .int))
theorem nsH.pre {ns : List Int} {h h' : Hm} (e : nsH ns h) (p : h <+: h') : nsH ns h' := pre_get p e
theorem o_absC {c : Int} (q : ∀ a, 0 ≤ a → V (.int a) h) : (ofO (absW [.int c] h)).wp V E := o_abs (q _ (by split <;> omega))
theorem sp_value {ns : List Int} {k : Int} (e : nsH ns h) (hk : 0 ≤ k) (q : ∀ x h', h <+: h' → (∀ n, Tm h' (n + 3) x) → V x h') : (F__law_value [.ref 0, .int k] h).wp V E := by
  refine w_mk ?_
  sizeOf_list_dec
  refine sp_cell e (by omega) fun c => ?_
  sizeOf_list_dec
  generalize (if c < 0 then -c else c) = c
  have p1 : h <+: h ++ [O.lst [.str "state", .str "admit", .str "replace", .str "withdraw", .str "State", .str "admits"]] := ⟨_, rfl⟩
  obtain ⟨w, e1, e2⟩ := ix_any' (i := c % 6 % (4 + c / 6 % 3)) (xs := [.str "state", .str "admit", .str "replace", .str "withdraw", .str "State", .str "admits"]) (Int.emod_nonneg _ (by omega)) (by
    have a := Int.emod_lt_of_pos (c % 6) (show 0 < 4 + c / 6 % 3 by omega)
    have h0 := Int.emod_nonneg (c % 6) (show 4 + c / 6 % 3 ≠ 0 by omega)
    have b : c % 6 % (4 + c / 6 % 3) ≤ c % 6 := by
      have d := Int.mul_ediv_add_emod (c % 6) (4 + c / 6 % 3)
      have f : 0 ≤ (4 + c / 6 % 3) * (c % 6 / (4 + c / 6 % 3)) := Int.mul_nonneg (by omega) (Int.ediv_nonneg (by omega) (by omega))
      omega
    show _ < (6 : Int)
    omega)
  refine o_ix seqC_new e1 ?_
  obtain ⟨kd, rfl, hz⟩ : strW1 w := by
    simp only [List.mem_cons, List.not_mem_nil, or_false] at e2
    rcases e2 with rfl | rfl | rfl | rfl | rfl | rfl
    all_goals exact str_of (by decide +kernel)
  generalize h ++ [O.lst [.str "state", .str "admit", .str "replace", .str "withdraw", .str "State", .str "admits"]] = h1 at p1
  sizeOf_list_dec
  obtain ⟨w, e1, e2⟩ := ix_mod (c := c / 18) (m := 4) (by decide) (xs := [.str "state", .str "admit", .str "replace", .str "withdraw"]) (by decide)
  refine o_ix seqC_new e1 ?_
  obtain ⟨kb, rfl, _⟩ : strW1 w := by
    simp only [List.mem_cons, List.not_mem_nil, or_false] at e2
    rcases e2 with rfl | rfl | rfl | rfl
    all_goals exact str_of (by decide +kernel)
  have p2 : h <+: h1 ++ [O.lst [.str "state", .str "admit", .str "replace", .str "withdraw"]] := pre_new p1
  generalize h1 ++ [O.lst [.str "state", .str "admit", .str "replace", .str "withdraw"]] = h2 at p2
  sizeOf_list_dec
  refine sp_cell (e.pre p2) (by omega) fun c2 => ?_
  sizeOf_list_dec
  refine sp_body fun bs h3 p3 lb tb => ?_
  refine w_seqM (fun σ h' => ∃ bs, σ = [some (.ref 0), some (.int k), some (.int c), some (.str kd), some (.tup bs), none, none] ∧ h <+: h' ∧ bs.length ≤ 2 ∧ ∀ x ∈ bs, ∀ n, Tm h' (n + 1) x) ?_ ?_
  · sizeOf_list_dec
    refine d_dec (fun hd => ?_) fun hd => ?_
    · sizeOf_list_dec
      refine sp_cell (e.pre (p2.trans p3)) (by omega) fun c3 => ?_
      sizeOf_list_dec
      refine sp_body fun bs h4 p4 lb tb => ?_
      exact ⟨bs, rfl, (p2.trans p3).trans p4, lb, tb⟩
    · sizeOf_list_dec
      exact ⟨bs, rfl, p2.trans p3, lb, tb⟩
  rintro σ h4 ⟨bs, rfl, p4, lb', tb'⟩
  sizeOf_list_dec
  refine sp_cell (e.pre p4) (by omega) fun c4 => ?_
  sizeOf_list_dec
  refine sp_text fun z h5 p5 hz5 => ?_
  sizeOf_list_dec
  refine sp_cell (e.pre (p4.trans p5)) (by omega) fun c5 => ?_
  sizeOf_list_dec
  refine sp_data (n := 0) (by decide) (by decide) fun ds h6 p6 td => ?_
  sizeOf_list_dec
  have t0 : ∀ x ∈ [W.str kd, .str z, .tup bs, .tup ds], ∀ n, Tm (h6 ++ [O.lst [.str kd, .str z, .tup bs, .tup ds]]) (n + 2) x := by
    intro x m n
    simp only [List.mem_cons, List.not_mem_nil, or_false] at m
    rcases m with rfl | rfl | rfl | rfl
    · exact tm_str hz
    · exact tm_str hz5
    · exact fun y my => ((tb' y my n).pre (p5.trans p6)).pre ⟨_, rfl⟩
    · exact fun y my => (td y my (n + 1)).pre ⟨_, rfl⟩
  have p7 : h <+: h6 ++ [O.lst [.str kd, .str z, .tup bs, .tup ds]] := pre_new ((p4.trans p5).trans p6)
  have g7 : (h6 ++ [O.lst [.str kd, .str z, .tup bs, .tup ds]])[h6.length]? = some (.lst [.str kd, .str z, .tup bs, .tup ds]) := get_new
  have r7 : h.length ≤ h6.length := ((p4.trans p5).trans p6).length_le
  generalize h6 ++ [O.lst [.str kd, .str z, .tup bs, .tup ds]] = h7 at t0 p7 g7
  generalize h6.length = r at g7 r7
  refine d_dec (fun hd => ?_) fun hd => ?_
  · sizeOf_list_dec
    refine sp_other fun x h8 p8 tx _ => ?_
    sizeOf_list_dec
    refine ⟨_, setW_ok (pre_get p8 g7) (Int.emod_nonneg _ (by decide)) (Int.emod_lt_of_pos _ (by decide)), ?_⟩
    sizeOf_list_dec
    refine o_tuple (seqC_at (List.getElem?_set_self (List.getElem?_eq_some_iff.mp (pre_get p8 g7)).1)) ?_
    refine q _ _ (pre_set (p7.trans p8) r7) fun n y m => ?_
    rcases List.mem_or_eq_of_mem_set m with m | rfl
    · exact ((t0 y m n).pre p8).set
    · exact (tx (n + 1)).set
  · sizeOf_list_dec
    refine d_dec (fun he => ?_) fun he => ?_
    · sizeOf_list_dec
      refine w_ofO (x := .ref h7.length) (h1 := h7 ++ [O.lst (cutW [.str kd, .str z, .tup bs, .tup ds] none (some 3))]) (by
        unfold slW
        simp only [g7]) ?_
      sizeOf_list_dec
      refine o_tuple seqC_new ?_
      refine q _ _ (pre_new p7) fun n y m => ?_
      exact (t0 y (List.mem_of_mem_drop (List.mem_of_mem_take m)) n).pre ⟨_, rfl⟩
    · sizeOf_list_dec
      refine d_dec (fun hf => ?_) fun hf => ?_
      · sizeOf_list_dec
        refine o_addL (get_old g7) get_new (by simp) ?_
        sizeOf_list_dec
        refine o_tuple seqC_new ?_
        refine q _ _ (pre_new (pre_new p7)) fun n y m => ?_
        rcases List.mem_append.mp m with m | m
        · exact ((t0 y m n).pre ⟨_, rfl⟩).pre ⟨_, rfl⟩
        · rw [List.mem_singleton.mp m]
          exact fun y my => by cases my
      · sizeOf_list_dec
        refine d_dec (fun hg => ?_) fun hg => ?_
        · sizeOf_list_dec
          exact q _ _ p7 fun n => tm_ref g7 (.inl ⟨_, rfl⟩)
        · sizeOf_list_dec
          refine d_dec (fun hi => ?_) fun hi => ?_
          · sizeOf_list_dec
            refine o_ix (w := .tup bs) (seqC_at g7) rfl ?_
            sizeOf_list_dec
            refine o_addT (by simp; omega) ?_
            sizeOf_list_dec
            refine ⟨_, setW_ok g7 (by decide) (by simp), ?_⟩
            sizeOf_list_dec
            refine o_tuple (seqC_at (List.getElem?_set_self (List.getElem?_eq_some_iff.mp g7).1)) ?_
            refine q _ _ (pre_set p7 r7) fun n y m => ?_
            rcases List.mem_or_eq_of_mem_set m with m | rfl
            · exact (t0 y m n).set
            · intro y my
              rcases List.mem_append.mp my with my | my
              · exact (t0 (.tup bs) (by simp) n y my).set
              · rw [List.mem_singleton.mp my]
                exact tm_int
          · sizeOf_list_dec
            refine o_tuple (seqC_at g7) ?_
            exact q _ _ p7 fun n y m => t0 y m n
end
end Z

namespace Z
open PySem PySem.Spec PyProof.Rows L2
open L_curveseal_k65_entries
section
variable {h : Hm} {V : W → Hm → Prop} {E : Exn → Hm → Prop}
/-- a list of lists -/
structure PL (h : Hm) (ws : List W) (xss : List (List W)) : Prop where
  len : ws.length = xss.length
  at_ : ∀ (i : Nat) (w : W), ws[i]? = some w → ∃ r xs, w = .ref r ∧ xss[i]? = some xs ∧ h[r]? = some (.lst xs)
  bytes : ∀ xs ∈ xss, xs.length < 300 ∧ ∀ x ∈ xs, isByte x
theorem PL.pre {h h' : Hm} {ws : List W} {xss : List (List W)} (P : PL h ws xss) (p : h <+: h') : PL h' ws xss := ⟨P.len, fun i w e => by
  obtain ⟨r, xs, e1, e2, e3⟩ := P.at_ i w e
  exact ⟨r, xs, e1, e2, pre_get p e3⟩, P.bytes⟩
theorem PL.nil : PL h [] [] := ⟨rfl, fun i w e => by simp at e, fun xs m => by cases m⟩
theorem PL.add {h : Hm} {ws : List W} {xss : List (List W)} {r : Nat} {xs : List W} (P : PL h ws xss) (e : h[r]? = some (.lst xs)) (l : xs.length < 300) (b : ∀ x ∈ xs, isByte x) : PL h (ws ++ [.ref r]) (xss ++ [xs]) := by
  refine ⟨by rw [List.length_append, List.length_append, P.len]; rfl, fun i w ew => ?_, fun ys m => ?_⟩
  · by_cases hi : i < ws.length
    · rw [List.getElem?_append_left hi] at ew
      obtain ⟨r', xs', e1, e2, e3⟩ := P.at_ i w ew
      exact ⟨r', xs', e1, by rw [List.getElem?_append_left (by rw [← P.len]; exact hi)]; exact e2, e3⟩
    · rw [List.getElem?_append_right (by omega)] at ew
      have hj : i - ws.length = 0 := by
        have := (List.getElem?_eq_some_iff.mp ew).1
        simp at this
        omega
      rw [hj] at ew
      cases ew
      refine ⟨r, xs, rfl, ?_, e⟩
      rw [List.getElem?_append_right (by rw [← P.len]; omega), ← P.len, hj]
      rfl
  · rcases List.mem_append.mp m with m | m
    · exact P.bytes ys m
    · rw [List.mem_singleton.mp m]
      exact ⟨l, b⟩
theorem PL.set {h : Hm} {ws : List W} {xss : List (List W)} {s : Nat} {o : O} (P : PL h ws xss) (n : ∀ (i r : Nat), ws[i]? = some (W.ref r) → r ≠ s) : PL (h.set s o) ws xss := ⟨P.len, fun i w e => by
  obtain ⟨r, xs, rfl, e2, e3⟩ := P.at_ i w e
  exact ⟨r, xs, rfl, e2, by rw [List.getElem?_set_ne (Ne.symm (n i r e))]; exact e3⟩, P.bytes⟩
def packL (xss : List (List W)) : List W := xss.flatMap fun xs => [.int ((xs.length : Int) / 65536), .int ((xs.length : Int) / 256 % 256), .int ((xs.length : Int) % 256)] ++ xs
theorem packL_add (xss : List (List W)) (xs : List W) : packL (xss ++ [xs]) = packL xss ++ ([.int ((xs.length : Int) / 65536), .int ((xs.length : Int) / 256 % 256), .int ((xs.length : Int) % 256)] ++ xs) := by
  unfold packL
  rw [List.flatMap_append]
  simp
theorem packL_len : ∀ (xss : List (List W)), (∀ xs ∈ xss, xs.length < 300) → (packL xss).length ≤ 303 * xss.length
  | [], _ => Nat.le_refl _
  | xs :: r, b => by
    have ih := packL_len r fun x m => b x (List.mem_cons_of_mem _ m)
    have := b xs (List.mem_cons_self ..)
    unfold packL at ih ⊢
    rw [List.flatMap_cons, List.length_append, List.length_cons]
    simp only [List.length_append, List.length_cons, List.length_nil]
    omega
theorem take_snoc {α : Type} {xs : List α} {i : Nat} {x : α} (e : xs[i]? = some x) : xs.take (i + 1) = xs.take i ++ [x] := by
  rw [List.take_add_one, e]
  rfl
theorem little3 {n : Int} (h0 : 0 ≤ n) (h1 : n < 300) : (littleW n 3).reverse = [.int (n / 65536), .int (n / 256 % 256), .int (n % 256)] := by
  have e : littleW n 3 = [.int (n / 256 ^ 0 % 256), .int (n / 256 ^ 1 % 256), .int (n / 256 ^ 2 % 256)] := rfl
  rw [e]
  have a : n / 256 ^ 2 % 256 = n / 65536 := by
    have : (256 : Int) ^ 2 = 65536 := rfl
    rw [this]
    omega
  have b : n / 256 ^ 1 = n / 256 := by rw [show (256 : Int) ^ 1 = 256 from rfl]
  have c : n / 256 ^ 0 = n := by rw [show (256 : Int) ^ 0 = 1 from rfl, Int.ediv_one]
  rw [a, b, c]
  rfl
theorem sp_to_big3 {n : Int} (h0 : 0 ≤ n) (h1 : n < 300) (q : ∀ h' r, h <+: h' → h'[r]? = some (.lst [.int (n / 65536), .int (n / 256 % 256), .int (n % 256)]) → V (.ref r) h') : (F_to_big [.int n, .int 3] h).wp V E := by
  refine w_mk ?_
  sizeOf_list_dec
  refine sp_to_little (by decide) (by decide) h0 (by
    have : ((8 : Int) * 3).toNat = 24 := rfl
    rw [this]
    omega) ?_
  sizeOf_list_dec
  refine o_rev (zs := littleW n 3) seqC_new ?_
  rw [little3 h0 h1]
  exact q _ _ (pre_new ⟨_, rfl⟩) get_new
theorem get_set {h : Hm} {r : Nat} {o : O} (e : r < h.length) : (h.set r o)[r]? = some o := List.getElem?_set_self e
theorem lt_of_get {h : Hm} {r : Nat} {o : O} (e : h[r]? = some o) : r < h.length := (List.getElem?_eq_some_iff.mp e).1
theorem sp_pack {p : Nat} {ws : List W} {xss : List (List W)} (e : h[p]? = some (.lst ws)) (P : PL h ws xss) (hl : xss.length ≤ 10) (q : ∀ h' r, h <+: h' → h'[r]? = some (.lst (packL xss)) → V (.ref r) h') : (F_pack [.ref p] h).wp V E := by
  refine w_mk ?_
  sizeOf_list_dec
  refine .inl ⟨ws, seqC_at (get_old e), ?_⟩
  refine w_items (xs := ws) (fun i σ h1 => ∃ z, σ = [some (.ref p), some (.ref h.length), z] ∧ h <+: h1 ∧ h1[h.length]? = some (.lst (packL (xss.take i)))) (lt_fuel (by rw [P.len]; omega)) ⟨none, rfl, ⟨_, rfl⟩, get_new⟩ ?_ ?_ ?_
  · rintro i σ h1 ⟨z, rfl, p1, g1⟩
    exact seqC_at (pre_get p1 e)
  · rintro i σ h1 w ew ⟨z, rfl, p1, g1⟩
    refine ⟨_, rfl, ?_⟩
    obtain ⟨r, xs, rfl, e2, e3⟩ := P.at_ i w ew
    obtain ⟨l3, b3⟩ := P.bytes xs (List.mem_of_getElem? e2)
    have hlen : (packL (xss.take i)).length ≤ 3030 := by
      have a := packL_len (xss.take i) fun x m => (P.bytes x (List.mem_of_mem_take m)).1
      have b : (xss.take i).length ≤ 10 := Nat.le_trans (by rw [List.length_take]; exact Nat.min_le_right _ _) hl
      omega
    sizeOf_list_dec
    refine ⟨isL_at' g1, ?_⟩
    sizeOf_list_dec
    refine o_len (seqC_at (pre_get p1 e3)) ?_
    sizeOf_list_dec
    refine sp_to_big3 (by omega) (by omega) fun h2 r2 p2 g2 => ?_
    sizeOf_list_dec
    refine o_ext (pre_get p2 g1) g2 (by simp; omega) ?_
    sizeOf_list_dec
    have g3 := get_set (o := .lst (packL (xss.take i) ++ [.int ((xs.length : Int) / 65536), .int ((xs.length : Int) / 256 % 256), .int ((xs.length : Int) % 256)])) (lt_of_get (pre_get p2 g1))
    have p3 := pre_set (o := .lst (packL (xss.take i) ++ [.int ((xs.length : Int) / 65536), .int ((xs.length : Int) / 256 % 256), .int ((xs.length : Int) % 256)])) (p1.trans p2) (Nat.le_refl _)
    refine ⟨isL_at' g3, ?_⟩
    sizeOf_list_dec
    refine o_ext g3 (pre_get p3 e3) (by simp; omega) ?_
    refine ⟨_, rfl, pre_set p3 (Nat.le_refl _), ?_⟩
    rw [get_set (lt_of_get g3), take_snoc e2, packL_add, List.append_assoc]
  · rintro σ h1 ⟨z, rfl, p1, g1⟩
    sizeOf_list_dec
    rw [P.len, List.take_length] at g1
    exact q _ _ p1 g1
theorem sp_law_pack {p : Nat} {ws : List W} {xss : List (List W)} (e : h[p]? = some (.lst ws)) (P : PL h ws xss) (hl : xss.length ≤ 10) (q : ∀ h' r, h <+: h' → h'[r]? = some (.lst (packL xss)) → V (.ref r) h') : (F__law_pack [.ref p] h).wp V E := by
  refine w_mk ?_
  sizeOf_list_dec
  refine .inl ⟨ws, seqC_at (get_old e), ?_⟩
  refine w_items (xs := ws) (fun i σ h1 => ∃ z r, σ = [some (.ref p), some (.ref r), z] ∧ h <+: h1 ∧ h1[r]? = some (.lst (packL (xss.take i)))) (lt_fuel (by rw [P.len]; omega)) ⟨none, _, rfl, ⟨_, rfl⟩, get_new⟩ ?_ ?_ ?_
  · rintro i σ h1 ⟨z, r, rfl, p1, g1⟩
    exact seqC_at (pre_get p1 e)
  · rintro i σ h1 w ew ⟨z, r1, rfl, p1, g1⟩
    refine ⟨_, rfl, ?_⟩
    obtain ⟨r, xs, rfl, e2, e3⟩ := P.at_ i w ew
    obtain ⟨l3, b3⟩ := P.bytes xs (List.mem_of_getElem? e2)
    have hlen : (packL (xss.take i)).length ≤ 3030 := by
      have a := packL_len (xss.take i) fun x m => (P.bytes x (List.mem_of_mem_take m)).1
      have b : (xss.take i).length ≤ 10 := Nat.le_trans (by rw [List.length_take]; exact Nat.min_le_right _ _) hl
      omega
    have e3 := pre_get p1 e3
    sizeOf_list_dec
    refine o_len (seqC_at e3) ?_
    sizeOf_list_dec
    refine o_len (seqC_at e3) ?_
    sizeOf_list_dec
    refine o_len (seqC_at e3) ?_
    sizeOf_list_dec
    refine o_addL (get_old g1) get_new (by simp; omega) ?_
    sizeOf_list_dec
    refine o_addL get_new (get_old (get_old e3)) (by simp; omega) ?_
    refine ⟨_, _, rfl, pre_new (pre_new (pre_new p1)), ?_⟩
    rw [get_new, take_snoc e2, packL_add, List.append_assoc]
  · rintro σ h1 ⟨z, r, rfl, p1, g1⟩
    sizeOf_list_dec
    rw [P.len, List.take_length] at g1
    exact q _ _ p1 g1
theorem sp_law_is_list {r s : Nat} {xs : List W} (e : h[r]? = some (.lst xs)) (e2 : h[s]? = some (.lst xs)) (hx : ∀ x ∈ xs, ∃ i, x = .int i) (hl : xs.length < 1000000) (q : V (.bl true) h) : (F__law_is_list [.ref r, .ref s] h).wp V E := by
  refine w_mk ?_
  sizeOf_list_dec
  refine ⟨true, isi_at e, ?_⟩
  sizeOf_list_dec
  refine o_len (seqC_at e) ?_
  sizeOf_list_dec
  refine o_len (seqC_at e2) ?_
  sizeOf_list_dec
  refine ⟨_, _, rfl, isL_at' e, isL_at' e2, ?_⟩
  refine w_loop (n := xs.length) (fun i σ h1 => ∃ y z, σ = [some (.ref r), some (.ref s), y, z] ∧ h1 = h) (lt_fuel (by omega)) ⟨none, none, rfl, rfl⟩ ?_ ?_
  · rintro i σ h1 hi ⟨y, z, rfl, rfl⟩
    obtain ⟨j, ej⟩ := hx xs[i] (List.getElem_mem _)
    refine ⟨.tup [.int j, .int j], _, ?_, rfl, ?_⟩
    · unfold itZip
      rw [seqC_at e, seqC_at e2]
      simp [List.getElem?_eq_getElem hi, ej]
    sizeOf_list_dec
    refine sp_law_integer (n := 0) tm_int ?_
    dsimp only [intB]
    sizeOf_list_dec
    exact ⟨_, _, rfl, rfl⟩
  · rintro σ h1 ⟨y, z, rfl, rfl⟩
    refine ⟨?_, ?_⟩
    · unfold itZip
      rw [seqC_at e, seqC_at e2]
      simp
    sizeOf_list_dec
    exact q
end
end Z

namespace Z
open PySem PySem.Spec PyProof.Rows L2
open L_curveseal_k65_entries
section
variable {h : Hm} {V : W → Hm → Prop} {E : Exn → Hm → Prop}
def pd : W → PyData
  | .int i => .int i
  | _ => .none
theorem den_bytes {n : Nat} : ∀ {xs : List W}, (∀ x ∈ xs, isByte x) → xs.mapM (den h n) = some (xs.map pd)
  | [], _ => rfl
  | x :: xs, b => by
    obtain ⟨i, rfl, _⟩ := b x (List.mem_cons_self ..)
    rw [List.mapM_cons, den_bytes fun y m => b y (List.mem_cons_of_mem _ m)]
    cases n <;> rfl
theorem pd_ok : ∀ {xs : List W}, (∀ x ∈ xs, isByte x) → PyData.canLayAll0 (xs.map pd) = true ∧ PyData.depthAll (xs.map pd) = 0
  | [], _ => ⟨rfl, rfl⟩
  | x :: xs, b => by
    obtain ⟨i, rfl, _⟩ := b x (List.mem_cons_self ..)
    obtain ⟨e1, e2⟩ := pd_ok fun y m => b y (List.mem_cons_of_mem _ m)
    refine ⟨?_, ?_⟩
    · show (PyData.canLay0 (.int i) && PyData.canLayAll0 (xs.map pd)) = true
      rw [e1]
      rfl
    · show max (PyData.depth (.int i)) (PyData.depthAll (xs.map pd)) = 0
      rw [e2]
      rfl
theorem PL.tail {w : W} {ws : List W} {xs : List W} {xss : List (List W)} (P : PL h (w :: ws) (xs :: xss)) : PL h ws xss := ⟨by simpa using P.len, fun i w e => by
  obtain ⟨r, xs, e1, e2, e3⟩ := P.at_ (i + 1) w (by simpa using e)
  exact ⟨r, xs, e1, by simpa using e2, e3⟩, fun xs m => P.bytes xs (List.mem_cons_of_mem _ m)⟩
theorem den_PL {n : Nat} : ∀ {ws : List W} {xss : List (List W)}, PL h ws xss → ws.mapM (den h (n + 1)) = some (xss.map fun xs => .list (xs.map pd))
  | [], [], _ => rfl
  | [], _ :: _, P => by have := P.len; simp at this
  | _ :: _, [], P => by have := P.len; simp at this
  | w :: ws, xs :: xss, P => by
    obtain ⟨r, ys, rfl, e2, e3⟩ := P.at_ 0 w rfl
    cases e2
    rw [List.mapM_cons, den_PL P.tail]
    have : den h (n + 1) (.ref r) = some (.list (xs.map pd)) := by
      unfold den
      simp only [e3]
      rw [den_bytes (P.bytes xs (List.mem_cons_self ..)).2]
      rfl
    rw [this]
    rfl
theorem pl_ok : ∀ {xss : List (List W)}, (∀ xs ∈ xss, ∀ x ∈ xs, isByte x) → PyData.canLayAll0 (xss.map fun xs => .list (xs.map pd)) = true ∧ PyData.depthAll (xss.map fun xs => .list (xs.map pd)) ≤ 1
  | [], _ => ⟨rfl, Nat.zero_le _⟩
  | xs :: xss, b => by
    obtain ⟨e1, e2⟩ := pl_ok fun y m => b y (List.mem_cons_of_mem _ m)
    obtain ⟨e3, e4⟩ := pd_ok (b xs (List.mem_cons_self ..))
    refine ⟨?_, ?_⟩
    · show (PyData.canLayAll0 (xs.map pd) && PyData.canLayAll0 (xss.map fun xs => .list (xs.map pd))) = true
      rw [e1, e3]
      rfl
    · show max (PyData.depthAll (xs.map pd) + 1) (PyData.depthAll (xss.map fun xs => .list (xs.map pd))) ≤ 1
      rw [e4]
      omega
theorem eq_PL {r s : Nat} {ws us : List W} {xss : List (List W)} (e : h[r]? = some (.lst ws)) (e2 : h[s]? = some (.lst us)) (P : PL h ws xss) (P2 : PL h us xss) : eqB (.ref r) (.ref s) h = some true := by
  have d1 : den h 12 (.ref r) = some (.list (xss.map fun xs => .list (xs.map pd))) := by
    unfold den
    simp only [e]
    rw [den_PL P]
    rfl
  have d2 : den h 12 (.ref s) = some (.list (xss.map fun xs => .list (xs.map pd))) := by
    unfold den
    simp only [e2]
    rw [den_PL P2]
    rfl
  obtain ⟨c1, c2⟩ := pl_ok (xss := xss) fun xs m => (P.bytes xs m).2
  have sh : SeqAt.shaped (.list (xss.map fun xs => .list (xs.map pd))) = true := by
    unfold SeqAt.shaped
    rw [show PyData.canLay0 (.list (xss.map fun xs => .list (xs.map pd))) = true from c1, Bool.true_and]
    apply decide_eq_true
    show PyData.depthAll _ + 1 ≤ 64
    omega
  unfold eqB
  rw [show scalW (.ref r) (.ref s) = false from rfl, if_neg (by decide), d1, d2]
  dsimp only
  rw [sh]
  show (if true = true then _ else _) = _
  rw [if_pos rfl, SeqAt.eqv_refl _ (show PyData.canLay0 (.list (xss.map fun xs => .list (xs.map pd))) = true from c1)]
theorem law_holds {ns : List Int} : ∃ h', F_law [.ref 0] [.frz (ns.map .int)] = .ok (.bl true) h' := by
  have main : (F_law [.ref 0] [.frz (ns.map .int)]).wp (fun v _ => v = .bl true) nE := by
    refine w_mk ?_
    refine w_seqM (fun σ h => ∃ a b c, σ = [some (.ref 0), a, b, c, none, none, none, none] ∧ nsH ns h) ?_ ?_
    · sizeOf_list_dec
      refine ⟨_, rfl, by decide, ?_⟩
      refine w_rng0 (fun i σ h => ∃ a b c, σ = [some (.ref 0), a, b, c, none, none, none, none] ∧ nsH ns h) (lt_fuel (by decide)) ⟨none, none, none, rfl, rfl⟩ ?_ (fun _ _ q => q)
      rintro i σ h hi ⟨a, b, c, rfl, e⟩
      refine ⟨_, rfl, ?_⟩
      sizeOf_list_dec
      refine sp_value e (by omega) fun x h1 p1 t1 => ?_
      sizeOf_list_dec
      refine sp_is_entry (t1 1) fun h2 p2 => ?_
      sizeOf_list_dec
      refine ⟨true, rfl, ?_⟩
      sizeOf_list_dec
      refine sp_law_due ((t1 1).pre p2) fun h3 p3 => ?_
      sizeOf_list_dec
      refine d_decT rfl ?_
      sizeOf_list_dec
      exact ⟨_, _, _, rfl, e.pre ((p1.trans p2).trans p3)⟩
    rintro σ h ⟨a, b, c, rfl, e⟩
    refine w_seqM (fun σ h => ∃ a b c, σ = [some (.ref 0), a, b, c, none, none, none, none] ∧ nsH ns h) ?_ ?_
    · sizeOf_list_dec
      refine ⟨_, rfl, by decide, ?_⟩
      refine w_rng0 (fun i σ h => ∃ a b c, σ = [some (.ref 0), a, b, c, none, none, none, none] ∧ nsH ns h) (lt_fuel (by decide)) ⟨_, _, _, rfl, e⟩ ?_ (fun _ _ q => q)
      rintro i σ h hi ⟨a, b, c, rfl, e⟩
      refine ⟨_, rfl, ?_⟩
      sizeOf_list_dec
      refine sp_other fun x h1 p1 t1 e1 => ?_
      sizeOf_list_dec
      refine sp_is_entry (t1 3) fun h2 p2 => ?_
      rw [e1]
      sizeOf_list_dec
      refine d_decT rfl ?_
      sizeOf_list_dec
      exact ⟨_, _, _, rfl, e.pre (p1.trans p2)⟩
    rintro σ h ⟨a, b, c, rfl, e⟩
    refine w_seqM (fun σ h1 => ∃ b c, σ = [some (.ref 0), a, b, c, some (.ref h.length), none, none, none] ∧ nsH ns h1 ∧ h <+: h1 ∧ h1[h.length]? = some (.lst [])) ?_ ?_
    · sizeOf_list_dec
      exact ⟨_, _, rfl, e.pre ⟨_, rfl⟩, ⟨_, rfl⟩, get_new⟩
    rintro σ h1 ⟨b, c, rfl, e1, p1, g1⟩
    refine w_seqM (fun σ h1 => ∃ a b c y ws xss, σ = [some (.ref 0), a, b, c, some (.ref h.length), y, none, none] ∧ nsH ns h1 ∧ h1[h.length]? = some (.lst ws) ∧ PL h1 ws xss ∧ xss.length ≤ 5) ?_ ?_
    · sizeOf_list_dec
      refine sp_cell e1 (by decide) fun z => ?_
      sizeOf_list_dec
      refine ⟨_, rfl, smallI_ok (by omega), ?_⟩
      refine w_rng0 (fun (i : Nat) (σ : Sg) (h1 : Hm) => ∃ a b c y ws xss, σ = [some (.ref 0), a, b, c, some (.ref h.length), y, none, none] ∧ nsH ns h1 ∧ h <+: h1 ∧ h1[h.length]? = some (.lst ws) ∧ PL h1 ws xss ∧ xss.length = i ∧ ∀ (j r : Nat), ws[j]? = some (W.ref r) → r ≠ h.length) (lt_fuel (by omega)) ⟨_, _, _, _, [], [], rfl, e1, p1, g1, .nil, rfl, fun j r z => by simp at z⟩ ?_ ?_
      · rintro i σ h2 hi ⟨a, b, c, y, ws, xss, rfl, e2, p2, g2, P, hl, hn⟩
        refine ⟨_, rfl, ?_⟩
        sizeOf_list_dec
        refine sp_cell e2 (by omega) fun z => ?_
        sizeOf_list_dec
        generalize (if z < 0 then -z else z) = z
        refine ⟨isL_at' g2, ?_⟩
        sizeOf_list_dec
        refine sp_bytes (by omega) (by omega) fun xs lx bx => ?_
        sizeOf_list_dec
        have hwl : ws.length ≤ 5 := by rw [P.len]; omega
        refine o_app (get_old g2) (by omega) ?_
        have hne : h2.length ≠ h.length := Nat.ne_of_gt (lt_of_get g2)
        have hn' : ∀ (j r : Nat), (ws ++ [W.ref h2.length])[j]? = some (W.ref r) → r ≠ h.length := fun j r ez => by
          by_cases hj : j < ws.length
          · rw [List.getElem?_append_left hj] at ez
            exact hn j r ez
          · rw [List.getElem?_append_right (by omega)] at ez
            have h0 : j - ws.length = 0 := by
              have := (List.getElem?_eq_some_iff.mp ez).1
              simp at this
              omega
            rw [h0] at ez
            cases ez
            exact hne
        refine ⟨_, _, _, _, ws ++ [.ref h2.length], xss ++ [xs], rfl, ?_, pre_set (pre_new p2) (Nat.le_refl _), get_set (by have := lt_of_get g2; simp; omega), ?_, by rw [List.length_append, hl]; rfl, hn'⟩
        · unfold nsH
          rw [List.getElem?_set_ne (Nat.ne_of_gt (lt_of_get e))]
          exact get_old e2
        · exact ((P.pre ⟨_, rfl⟩).add get_new (by omega) bx).set hn'
      · rintro σ h2 ⟨a, b, c, y, ws, xss, rfl, e2, p2, g2, P, hl, hn⟩
        exact ⟨_, _, _, _, ws, xss, rfl, e2, g2, P, by omega⟩
    rintro σ h2 ⟨a, b, c, y, ws, xss, rfl, e2, g2, P, hl⟩
    clear p1 g1 e1
    refine w_seqM (fun σ h3 => ∃ us, σ = [some (.ref 0), a, b, c, some (.ref h.length), y, some (.ref h2.length), none] ∧ h2 <+: h3 ∧ h3[h2.length]? = some (.lst us) ∧ PL h3 us xss) ?_ ?_
    · sizeOf_list_dec
      refine .inl ⟨ws, seqC_at g2, ?_⟩
      refine w_compL (n := ws.length) (fun i acc h3 => h2 <+: h3 ∧ h3[h2.length]? = some (.lst acc) ∧ PL h3 acc (xss.take i) ∧ (∀ (j r : Nat), acc[j]? = some (W.ref r) → r ≠ h2.length) ∧ acc.length ≤ i) (lt_fuel (by rw [P.len]; omega)) (by rw [P.len]; omega) ⟨⟨_, rfl⟩, get_new, by rw [List.take_zero]; exact .nil, fun j r z => by simp at z, Nat.le_refl _⟩ (fun i acc h3 ⟨_, g, _, _, l⟩ => ⟨g, l⟩) ?_ ?_
      · rintro i acc h3 hi ⟨p3, g3, P3, hn, la⟩
        obtain ⟨r, xs, ew, ex, er⟩ := P.at_ i ws[i] (List.getElem?_eq_getElem hi)
        refine ⟨ws[i], _, ?_, rfl, ?_⟩
        · unfold itSeq
          rw [seqC_at (pre_get p3 g2), Option.map_some, List.getElem?_eq_getElem hi]
        rw [ew]
        sizeOf_list_dec
        refine o_list (seqC_at (pre_get p3 er)) ?_
        have hne : h3.length ≠ h2.length := Nat.ne_of_gt (lt_of_get g3)
        have hn' : ∀ (j r : Nat), (acc ++ [W.ref h3.length])[j]? = some (W.ref r) → r ≠ h2.length := fun j r ez => by
          by_cases hj : j < acc.length
          · rw [List.getElem?_append_left hj] at ez
            exact hn j r ez
          · rw [List.getElem?_append_right (by omega)] at ez
            have h0 : j - acc.length = 0 := by
              have := (List.getElem?_eq_some_iff.mp ez).1
              simp at this
              omega
            rw [h0] at ez
            cases ez
            exact hne
        obtain ⟨lx, bx⟩ := P.bytes xs (List.mem_of_getElem? ex)
        refine ⟨get_old g3, pre_set (pre_new p3) (Nat.le_refl _), get_set (by have := lt_of_get g3; simp; omega), ?_, hn', by rw [List.length_append]; exact Nat.succ_le_succ la⟩
        rw [take_snoc ex]
        exact ((P3.pre ⟨_, rfl⟩).add get_new lx bx).set hn'
      · rintro acc h3 ⟨p3, g3, P3, hn, la⟩
        refine ⟨?_, acc, rfl, p3, g3, ?_⟩
        · unfold itSeq
          rw [seqC_at (pre_get p3 g2), Option.map_some, List.getElem?_eq_none (Nat.le_refl _)]
        · rw [P.len, List.take_length] at P3
          exact P3
    rintro σ h3 ⟨us, rfl, p3, g3, P3⟩
    sizeOf_list_dec
    refine sp_pack g3 P3 (by omega) fun h4 r4 p4 g4 => ?_
    sizeOf_list_dec
    refine sp_law_pack (pre_get (p3.trans p4) g2) (P.pre (p3.trans p4)) (by omega) fun h5 r5 p5 g5 => ?_
    sizeOf_list_dec
    refine sp_law_is_list (pre_get p5 g4) g5 (fun x m => ?_) ?_ ?_
    · unfold packL at m
      obtain ⟨xs, m1, m2⟩ := List.mem_flatMap.mp m
      rcases List.mem_append.mp m2 with m2 | m2
      · simp only [List.mem_cons, List.not_mem_nil, or_false] at m2
        rcases m2 with rfl | rfl | rfl
        · exact ⟨_, rfl⟩
        · exact ⟨_, rfl⟩
        · exact ⟨_, rfl⟩
      · obtain ⟨i, e, _⟩ := (P.bytes xs m1).2 x m2
        exact ⟨i, e⟩
    · have := packL_len xss fun xs m => (P.bytes xs m).1
      omega
    sizeOf_list_dec
    refine o_eq (eq_PL (pre_get (p4.trans p5) g3) (pre_get ((p3.trans p4).trans p5) g2) (P3.pre (p4.trans p5)) (P.pre ((p3.trans p4).trans p5))) ?_
    rfl
  obtain ⟨a, h', e1, e2⟩ := Out.wp_get main
  exact ⟨h', by rw [e1, e2]⟩
end
end Z

namespace L_curveseal_k65_entries
open PySem PySem.Spec PyProof.Rows L2 Z
def D_to_little : He.DefD := ⟨("to_little", none), "to_little", "to_little", defArgs (topS 4), defBody (topS 4), defScope (topS 4), [], []⟩
def D_to_big : He.DefD := ⟨("to_big", none), "to_big", "to_big", defArgs (topS 5), defBody (topS 5), defScope (topS 5), [], []⟩
def D_is_bytes : He.DefD := ⟨("is_bytes", none), "is_bytes", "is_bytes", defArgs (topS 6), defBody (topS 6), defScope (topS 6), [], []⟩
def D_is_text : He.DefD := ⟨("is_text", none), "is_text", "is_text", defArgs (topS 13), defBody (topS 13), defScope (topS 13), [], []⟩
def D_is_data : He.DefD := ⟨("is_data", none), "is_data", "is_data", defArgs (topS 14), defBody (topS 14), defScope (topS 14), [], []⟩
def D_is_rights : He.DefD := ⟨("is_rights", none), "is_rights", "is_rights", defArgs (topS 15), defBody (topS 15), defScope (topS 15), [], []⟩
def D_is_body : He.DefD := ⟨("is_body", none), "is_body", "is_body", defArgs (topS 16), defBody (topS 16), defScope (topS 16), [], []⟩
def D_is_entry : He.DefD := ⟨("is_entry", none), "is_entry", "is_entry", defArgs (topS 17), defBody (topS 17), defScope (topS 17), [], []⟩
def D_pack : He.DefD := ⟨("pack", none), "pack", "pack", defArgs (topS 18), defBody (topS 18), defScope (topS 18), [], []⟩
def D__law_cell : He.DefD := ⟨("_law_cell", none), "_law_cell", "_law_cell", defArgs (topS 20), defBody (topS 20), defScope (topS 20), [], []⟩
def D__law_twice : He.DefD := ⟨("_law_twice", none), "_law_twice", "_law_twice", defArgs (topS 21), defBody (topS 21), defScope (topS 21), [], []⟩
def D__law_bytes : He.DefD := ⟨("_law_bytes", none), "_law_bytes", "_law_bytes", defArgs (topS 22), defBody (topS 22), defScope (topS 22), [], []⟩
def D__law_integer : He.DefD := ⟨("_law_integer", none), "_law_integer", "_law_integer", defArgs (topS 23), defBody (topS 23), defScope (topS 23), [], []⟩
def D__law_is_list : He.DefD := ⟨("_law_is_list", none), "_law_is_list", "_law_is_list", defArgs (topS 24), defBody (topS 24), defScope (topS 24), [], []⟩
def D__law_text : He.DefD := ⟨("_law_text", none), "_law_text", "_law_text", defArgs (topS 25), defBody (topS 25), defScope (topS 25), [], []⟩
def D__law_data : He.DefD := ⟨("_law_data", none), "_law_data", "_law_data", defArgs (topS 26), defBody (topS 26), defScope (topS 26), [], []⟩
def D__law_rights : He.DefD := ⟨("_law_rights", none), "_law_rights", "_law_rights", defArgs (topS 27), defBody (topS 27), defScope (topS 27), [], []⟩
def D__law_body : He.DefD := ⟨("_law_body", none), "_law_body", "_law_body", defArgs (topS 28), defBody (topS 28), defScope (topS 28), [], []⟩
def D__law_other : He.DefD := ⟨("_law_other", none), "_law_other", "_law_other", defArgs (topS 29), defBody (topS 29), defScope (topS 29), [], []⟩
def D__law_value : He.DefD := ⟨("_law_value", none), "_law_value", "_law_value", defArgs (topS 30), defBody (topS 30), defScope (topS 30), [], []⟩
def D__law_is_text : He.DefD := ⟨("_law_is_text", none), "_law_is_text", "_law_is_text", defArgs (topS 31), defBody (topS 31), defScope (topS 31), [], []⟩
def D__law_is_data : He.DefD := ⟨("_law_is_data", none), "_law_is_data", "_law_is_data", defArgs (topS 32), defBody (topS 32), defScope (topS 32), [], []⟩
def D__law_is_body : He.DefD := ⟨("_law_is_body", none), "_law_is_body", "_law_is_body", defArgs (topS 33), defBody (topS 33), defScope (topS 33), [], []⟩
def D__law_due : He.DefD := ⟨("_law_due", none), "_law_due", "_law_due", defArgs (topS 34), defBody (topS 34), defScope (topS 34), [], []⟩
def D__law_pack : He.DefD := ⟨("_law_pack", none), "_law_pack", "_law_pack", defArgs (topS 35), defBody (topS 35), defScope (topS 35), [], []⟩
def D_law : He.DefD := ⟨("law", none), "law", "law", defArgs (topS 36), defBody (topS 36), defScope (topS 36), [], []⟩
def fnL : List He.DefD := [D_to_little, D_to_big, D_is_bytes, D_is_text, D_is_data, D_is_rights, D_is_body, D_is_entry, D_pack, D__law_cell, D__law_twice, D__law_bytes, D__law_integer, D__law_is_list, D__law_text, D__law_data, D__law_rights, D__law_body, D__law_other, D__law_value, D__law_is_text, D__law_is_data, D__law_is_body, D__law_due, D__law_pack, D_law]
def faL_0 : List FaZ := [gloZ "to_little", gloZ "to_big", gloZ "is_bytes", gloZ "is_text", gloZ "is_data", gloZ "is_rights", gloZ "is_body", gloZ "is_entry", gloZ "pack", gloZ "_law_cell", gloZ "_law_twice", gloZ "_law_bytes", gloZ "_law_integer", gloZ "_law_is_list", gloZ "_law_text", gloZ "_law_data", gloZ "_law_rights", gloZ "_law_body", gloZ "_law_other", gloZ "_law_value", gloZ "_law_is_text", gloZ "_law_is_data", gloZ "_law_is_body", gloZ "_law_due", gloZ "_law_pack", gloZ "law", freeZ "abs", freeZ "all", freeZ "bool", freeZ "enumerate"]
def faL_1 : List FaZ := [freeZ "int", freeZ "isinstance", freeZ "len", freeZ "list", freeZ "max", freeZ "min", freeZ "ord", freeZ "range", freeZ "reversed", freeZ "sorted", freeZ "str", freeZ "sum", freeZ "tuple", freeZ "zip", kC "KINDS" (.tup [.str "state", .str "admit", .str "replace", .str "withdraw"]), kC "LETTERS" (.str "asw"), kC "LONGEST_DATA" (.int 1024), kC "LONGEST_SIGNATURE" (.int 256), kC "LONGEST_TEXT" (.int 600)]
def faL : List FaZ := faL_0 ++ faL_1
def looseL_0 : List PySem.Str := ["CurveError", "OutOfRange", "to_little", "to_big", "is_bytes", "KINDS", "LETTERS", "LONGEST_DATA", "LONGEST_SIGNATURE", "LONGEST_TEXT", "is_text", "is_data", "is_rights", "is_body", "is_entry", "pack", "_law_cell", "_law_twice", "_law_bytes", "_law_integer", "_law_is_list", "_law_text", "_law_data", "_law_rights", "_law_body", "_law_other", "_law_value", "_law_is_text", "_law_is_data", "_law_is_body"]
def looseL_1 : List PySem.Str := ["_law_due", "_law_pack"]
def looseL : List PySem.Str := looseL_0 ++ looseL_1
abbrev R : PySem.W.OpenRow := PySem.W.OpenLaw.row PySem.Challenge.rw_curveseal_k65_entries
abbrev hk : PySem.W.Hook := hookZ 4 faL fnL
def ob (s : PySem.W.SharedT) : He.AlD := obsZG 4 faL fnL (HandSHeadRun.getT s)
theorem ob_eq (s : PySem.W.SharedT) : ob s = hk.obs s.abs := obsZG_eq (HandSHeadRun.getT_eq s)
set_option maxHeartbeats 0 in
theorem run (w : World) : HandSHeadRun.RunEq R (PySem.W.view R.prog [36]) hk ob 2000 looseL w := by
  intro os
  kernel_rfl
theorem env_of {P : Program} {w : World} {K : PySem.W.Frag} {base h : Heap} {mg : Str → Option Value} {cl : Nat → Addr} (X : K.In h) (G : h.Ns mainGlobals mg) (c : SaysZ faL fnL K) : Env ⟨P, w, K, mg, base, cl⟩ where
  B := ⟨He.free_ok X G (c.fact 32), He.free_ok X G (c.fact 37), He.free_ok X G (c.fact 26), He.free_ok X G (c.fact 35), He.free_ok X G (c.fact 34), He.free_ok X G (c.fact 30), He.free_ok X G (c.fact 28), He.free_ok X G (c.fact 40), He.free_ok X G (c.fact 33), He.free_ok X G (c.fact 42), He.free_ok X G (c.fact 36), He.free_ok X G (c.fact 41), He.free_ok X G (c.fact 27), He.free_ok X G (c.fact 39), He.free_ok X G (c.fact 43), He.free_ok X G (c.fact 29), He.free_ok X G (c.fact 38), He.free_ok X G (c.fact 31)⟩
  d_to_little := c.def_ 0 (d := D_to_little)
  g_to_little := He.glo_ok X G (c.fact 0)
  d_to_big := c.def_ 1 (d := D_to_big)
  g_to_big := He.glo_ok X G (c.fact 1)
  d_is_bytes := c.def_ 2 (d := D_is_bytes)
  g_is_bytes := He.glo_ok X G (c.fact 2)
  d_is_text := c.def_ 3 (d := D_is_text)
  g_is_text := He.glo_ok X G (c.fact 3)
  d_is_data := c.def_ 4 (d := D_is_data)
  g_is_data := He.glo_ok X G (c.fact 4)
  d_is_rights := c.def_ 5 (d := D_is_rights)
  g_is_rights := He.glo_ok X G (c.fact 5)
  d_is_body := c.def_ 6 (d := D_is_body)
  g_is_body := He.glo_ok X G (c.fact 6)
  d_is_entry := c.def_ 7 (d := D_is_entry)
  g_is_entry := He.glo_ok X G (c.fact 7)
  d_pack := c.def_ 8 (d := D_pack)
  g_pack := He.glo_ok X G (c.fact 8)
  d__law_cell := c.def_ 9 (d := D__law_cell)
  g__law_cell := He.glo_ok X G (c.fact 9)
  d__law_twice := c.def_ 10 (d := D__law_twice)
  g__law_twice := He.glo_ok X G (c.fact 10)
  d__law_bytes := c.def_ 11 (d := D__law_bytes)
  g__law_bytes := He.glo_ok X G (c.fact 11)
  d__law_integer := c.def_ 12 (d := D__law_integer)
  g__law_integer := He.glo_ok X G (c.fact 12)
  d__law_is_list := c.def_ 13 (d := D__law_is_list)
  g__law_is_list := He.glo_ok X G (c.fact 13)
  d__law_text := c.def_ 14 (d := D__law_text)
  g__law_text := He.glo_ok X G (c.fact 14)
  d__law_data := c.def_ 15 (d := D__law_data)
  g__law_data := He.glo_ok X G (c.fact 15)
  d__law_rights := c.def_ 16 (d := D__law_rights)
  g__law_rights := He.glo_ok X G (c.fact 16)
  d__law_body := c.def_ 17 (d := D__law_body)
  g__law_body := He.glo_ok X G (c.fact 17)
  d__law_other := c.def_ 18 (d := D__law_other)
  g__law_other := He.glo_ok X G (c.fact 18)
  d__law_value := c.def_ 19 (d := D__law_value)
  g__law_value := He.glo_ok X G (c.fact 19)
  d__law_is_text := c.def_ 20 (d := D__law_is_text)
  g__law_is_text := He.glo_ok X G (c.fact 20)
  d__law_is_data := c.def_ 21 (d := D__law_is_data)
  g__law_is_data := He.glo_ok X G (c.fact 21)
  d__law_is_body := c.def_ 22 (d := D__law_is_body)
  g__law_is_body := He.glo_ok X G (c.fact 22)
  d__law_due := c.def_ 23 (d := D__law_due)
  g__law_due := He.glo_ok X G (c.fact 23)
  d__law_pack := c.def_ 24 (d := D__law_pack)
  g__law_pack := He.glo_ok X G (c.fact 24)
  d_law := c.def_ 25 (d := D_law)
  g_law := He.glo_ok X G (c.fact 25)
  k_KINDS := kon_cn (Γ := ⟨P, w, K, mg, base, cl⟩) X G (c.fact 44)
  k_LETTERS := kon_cn (Γ := ⟨P, w, K, mg, base, cl⟩) X G (c.fact 45)
  k_LONGEST_DATA := kon_cn (Γ := ⟨P, w, K, mg, base, cl⟩) X G (c.fact 46)
  k_LONGEST_SIGNATURE := kon_cn (Γ := ⟨P, w, K, mg, base, cl⟩) X G (c.fact 47)
  k_LONGEST_TEXT := kon_cn (Γ := ⟨P, w, K, mg, base, cl⟩) X G (c.fact 48)
/-- the plain law -/
def LAW : Prop := ∀ ns : List Int, ns.length ≤ 63 → (∀ z ∈ ns, Builtin.Int.intBits z ≤ 1048576) → ∃ h', F_law [.ref 0] [.frz (ns.map .int)] = .ok (.bl true) h'
end L_curveseal_k65_entries

open PySem PySem.W PySem.Calls PyProof.Rows
set_option maxHeartbeats 0 in
theorem PySem.Challenge.cw_curveseal_k65_entries_holds : PySem.Challenge.rw_curveseal_k65_entries.Holds := by
  w_on; o_law
  refine HandSHeadRun.head_any (r := OpenLaw.row PySem.Challenge.rw_curveseal_k65_entries) (q := view (OpenLaw.row PySem.Challenge.rw_curveseal_k65_entries).prog [36]) (H := L_curveseal_k65_entries.hk) (ob := L_curveseal_k65_entries.ob) (M := 2000) (loose := L_curveseal_k65_entries.looseL) (d := HandSHeadRun.topDef (OpenLaw.row PySem.Challenge.rw_curveseal_k65_entries).prog 36) (kwd := []) L_curveseal_k65_entries.ob_eq
    (by kernel_rfl) (fun s => by kernel_rfl) L_curveseal_k65_entries.run (by kernel_rfl) (by kernel_rfl) (by kernel_rfl) (by rfl) (by first | assumption | decide +kernel) (by decide +kernel) ⟨rfl, rfl, rfl, rfl, rfl, by decide +kernel⟩ ?hw ?hc
  case hw => w_witness2
  case hc =>
    refine Z.walk_z (l := PySem.Challenge.rw_curveseal_k65_entries) (n := 63) (k := 6) (x := "_law_script") (F := L_curveseal_k65_entries.F_law) (fun _ _ => 0) rfl (by decide) (by kernel_rfl) ⟨rfl, by decide, by decide⟩ ?F fun ns _ _ => Z.law_holds
    intro w mg fa h Y G hmg0
    obtain ⟨K, KX, c⟩ := Y
    have en : (HandSHeadRun.topDef (OpenLaw.row PySem.Challenge.rw_curveseal_k65_entries).prog 36).name = ("law" : PySem.Str) := by kernel_rfl
    have hmg : mg ("law" : PySem.Str) = some (.ref fa) := by
      rw [← en]
      exact hmg0
    have eg := He.glo_ok KX G (c.fact 25 (f := Z.gloZ "law") rfl)
    have efa : fa = He.ga K "law" := by
      have := hmg.symm.trans eg
      cases this
      rfl
    obtain ⟨fd, FD⟩ := c.def_ 25 (d := L_curveseal_k65_entries.D_law) rfl
    subst efa
    have b := FD.bindsA (ps := ["_law_script"]) L_curveseal_k65_entries.cb_law
    refine ⟨K, KX, by rw [en], fd, fun s u => b s [u] rfl, fun base h1 h2 => ?_⟩
    exact (L_curveseal_k65_entries.ok_law (L_curveseal_k65_entries.env_of (P := (PySem.Challenge.rw_curveseal_k65_entries).prog) (w := w) (base := base) (cl := fun _ => 0) KX G c)).1.at FD

