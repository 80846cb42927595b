import PyProof.Rows.All
import Wide.All
import OpenK.AllK
import Wide.FinOn
import HandS.ForMost
import HandS.Exc
import HandS.ExcOwn
import HandS.TryOnly
import HandS.TryMany
import HandS.CallSlots
import PyProof.Rows.StrMul
import HandS.TupAny
import HandS.Style
import HandS.Wide
import HandS.WideBits
import HandS.WordsExc
import HandS.Rev
import HandS.IsInst
import KE.KStateDown
import HandS.Defaults
import HandS.Head0
import HandS.Head1
import HandS.Head2
import HandS.HeadEnd
import HandS.HeadHook1
import HandS.HeadHook2
import HandS.EndBits
import KE.BitLaws
import KE.KBits
import PySem.Challenge.RW_curveseal_k75_whole_curves_and_their_twi
set_option Elab.async false
set_option linter.all false
set_option maxRecDepth 100000
namespace Z
open PySem PySem.Spec PyProof.Rows L2

/-! ### values and objects of the mirror -/
inductive W where
  | non | bl (b : Bool) | int (i : Int) | str (x : Str) | tup (xs : List W) | ref (i : Nat) | exn (c : Nat) (d : Option Int)
inductive O where
  | lst (xs : List W)
  | frz (xs : List W)
  | ins (c : Nat) (fs : List (Str × W))
  | dic (kvs : List (Key × W))
abbrev Hm := List O
abbrev Sg := List (Option W)
structure Exn where
  c : Nat
  d : Option Int
inductive Out (α : Type) where
  | ok (a : α) (h : Hm)
  | err (x : Exn) (h : Hm)
  | bad
def Out.bind {α β : Type} (o : Out α) (f : α → Hm → Out β) : Out β :=
  match o with
  | .ok a h => f a h
  | .err x h => .err x h
  | .bad => .bad
inductive SOut where
  | nx (s : Sg) (h : Hm)
  | rt (w : W) (h : Hm)
  | bk (s : Sg) (h : Hm)
  | ct (s : Sg) (h : Hm)
  | err (x : Exn) (s : Sg) (h : Hm)
  | bad
abbrev XE := Sg → Hm → Out W
abbrev XT := Sg → Hm → Out Bool
abbrev XA := Sg → Hm → Out (List W)
abbrev XS := Sg → Hm → SOut

/-! ### the world of a run -/
structure Gam where
  P : Program
  w : World
  K : PySem.W.Frag
  mg : Str → Option Value
  base : Heap
  cl : Nat → Addr

/-- what is known of a caught exception, as an object that nobody writes -/
def ExnAt (a : Addr) (C : Addr) (d : Option Addr) (h : Heap) : Prop := ∃ o : Obj, h.get? a = some o ∧ o.cls = .ref C ∧ o.dict = d ∧ ∃ vs, o.data = .fields vs

mutual
def RelW (Γ : Gam) (ρ : List Addr) (H : Hp) : W → V → Prop
  | .non, v => v = .non
  | .bl b, v => v = .bl b
  | .int i, v => v = .int i
  | .str x, v => v = .str x
  | .ref i, v => ∃ a, ρ[i]? = some a ∧ v = .ref a
  | .tup xs, v => ∃ a ys, v = .ref a ∧ SqT Γ.K H a ys ∧ RelWs Γ ρ H xs ys
  | .exn c d, v => ∃ a dx, v = .ref a ∧ H a = some (.ext (ExnAt a (Γ.cl c) dx)) ∧ (match d with | none => dx = none | some n => ∃ b, dx = some b ∧ H b = some (.xd [("line", .int n)]))
def RelWs (Γ : Gam) (ρ : List Addr) (H : Hp) : List W → List V → Prop
  | [], ys => ys = []
  | x :: xs, ys => ∃ y r, ys = y :: r ∧ RelW Γ ρ H x y ∧ RelWs Γ ρ H xs r
end
def RelFs (Γ : Gam) (ρ : List Addr) (H : Hp) : List (Str × W) → List (Str × V) → Prop
  | [], ys => ys = []
  | x :: xs, ys => ∃ y r, ys = (x.1, y) :: r ∧ RelW Γ ρ H x.2 y ∧ RelFs Γ ρ H xs r
def RelKs (Γ : Gam) (ρ : List Addr) (H : Hp) : List (Key × W) → List (Key × V) → Prop
  | [], ys => ys = []
  | x :: xs, ys => ∃ y r, ys = (x.1, y) :: r ∧ RelW Γ ρ H x.2 y ∧ RelKs Γ ρ H xs r

/-- the script's list, locked or the module's own -/
def FzL (K : PySem.W.Frag) (H : Hp) (a : Addr) (ys : List V) : Prop :=
  (∃ o, H a = some (.frz o (.lst ys))) ∨
    ∃ (o : Obj) (its : Array Value) (n : Nat), K.lookup a = some o ∧ o.cls = .type "list" ∧ o.dict = none ∧ o.data = .seq its n ∧ its.size ≤ sizeLine ∧ Vals ys its.toList
theorem FzL.sq {K : PySem.W.Frag} {H : Hp} {a : Addr} {ys : List V} (h : FzL K H a ys) : SqL K H a ys := by
  rcases h with ⟨o, h⟩ | h
  · exact .inl (.inr ⟨o, h⟩)
  · exact .inr h

def RelO (Γ : Gam) (ρ : List Addr) (H : Hp) (a : Addr) : O → Prop
  | .lst xs => ∃ ys, H a = some (.lst ys) ∧ RelWs Γ ρ H xs ys
  | .frz xs => ∃ ys, FzL Γ.K H a ys ∧ RelWs Γ ρ H xs ys
  | .ins c fs => ∃ dx gs, H a = some (.ins (Γ.cl c) dx gs) ∧ RelFs Γ ρ H fs gs
  | .dic kvs => ∃ gs, H a = some (.dK gs) ∧ RelKs Γ ρ H kvs gs
def O.mut : O → Prop
  | .frz _ => False
  | _ => True
structure Rel (Γ : Gam) (ρ : List Addr) (h : Hm) (H : Hp) : Prop where
  len : ρ.length = h.length
  obj : ∀ (i : Nat) (o : O), h[i]? = some o → ∃ a, ρ[i]? = some a ∧ RelO Γ ρ H a o
  inj : ∀ (i j : Nat) (oi oj : O) (a : Addr), h[i]? = some oi → h[j]? = some oj → oi.mut → oj.mut → ρ[i]? = some a → ρ[j]? = some a → i = j
/-- slots -/
def RelS (Γ : Gam) (ρ : List Addr) (H : Hp) (σ : Sg) (τ : L2.St) : Prop :=
  σ.length = τ.length ∧ ∀ (i : Nat) (w : W), σ[i]? = some (some w) → ∃ v, τ[i]? = some (some v) ∧ RelW Γ ρ H w v
structure Le (Γ : Gam) (ρ ρ' : List Addr) (H H' : Hp) : Prop where
  pre : ∃ l, ρ' = ρ ++ l
  tup : ∀ a xs, SqT Γ.K H a xs → SqT Γ.K H' a xs
  ext : ∀ a φ, H a = some (.ext φ) → H' a = some (.ext φ)
  xd : ∀ a fs, H a = some (.xd fs) → H' a = some (.xd fs)
  frz : ∀ a ob u, H a = some (.frz ob u) → H' a = some (.frz ob u)
section
variable {Γ : Gam} {ρ ρ' ρ2 : List Addr} {H H' H2 : Hp}
theorem Le.refl : Le Γ ρ ρ H H := ⟨⟨[], by simp⟩, fun _ _ h => h, fun _ _ h => h, fun _ _ h => h, fun _ _ _ h => h⟩
theorem Le.trans (a : Le Γ ρ ρ' H H') (b : Le Γ ρ' ρ2 H' H2) : Le Γ ρ ρ2 H H2 := by
  obtain ⟨l, e⟩ := a.pre
  obtain ⟨m, e'⟩ := b.pre
  exact ⟨⟨l ++ m, by rw [e', e, List.append_assoc]⟩, fun x xs h => b.tup x xs (a.tup x xs h), fun x xs h => b.ext x xs (a.ext x xs h), fun x xs h => b.xd x xs (a.xd x xs h), fun x o u h => b.frz x o u (a.frz x o u h)⟩
theorem Le.at (a : Le Γ ρ ρ' H H') {i : Nat} {x : Addr} (e : ρ[i]? = some x) : ρ'[i]? = some x := by
  obtain ⟨l, rfl⟩ := a.pre
  rw [List.getElem?_append_left (List.getElem?_eq_some_iff.mp e).1]
  exact e
mutual
theorem RelW.mono (a : Le Γ ρ ρ' H H') : ∀ (w : W) (v : V), RelW Γ ρ H w v → RelW Γ ρ' H' w v
  | .non, v, h => by simpa [RelW] using h
  | .bl b, v, h => by simpa [RelW] using h
  | .int b, v, h => by simpa [RelW] using h
  | .str b, v, h => by simpa [RelW] using h
  | .ref i, v, h => by
    unfold RelW at h ⊢
    obtain ⟨x, e, r⟩ := h
    exact ⟨x, a.at e, r⟩
  | .tup xs, v, h => by
    unfold RelW at h ⊢
    obtain ⟨x, ys, e, t, r⟩ := h
    exact ⟨x, ys, e, a.tup _ _ t, RelWs.mono a xs ys r⟩
  | .exn c d, v, h => by
    unfold RelW at h ⊢
    obtain ⟨x, dx, e, t, r⟩ := h
    refine ⟨x, dx, e, a.ext _ _ t, ?_⟩
    cases d with
    | none => exact r
    | some n =>
      obtain ⟨b, e1, e2⟩ := r
      exact ⟨b, e1, a.xd _ _ e2⟩
theorem RelWs.mono (a : Le Γ ρ ρ' H H') : ∀ (w : List W) (v : List V), RelWs Γ ρ H w v → RelWs Γ ρ' H' w v
  | [], v, h => by simpa [RelWs] using h
  | x :: xs, v, h => by
    unfold RelWs at h ⊢
    obtain ⟨y, r, e, h1, h2⟩ := h
    exact ⟨y, r, e, RelW.mono a x y h1, RelWs.mono a xs r h2⟩
end
theorem RelFs.mono (a : Le Γ ρ ρ' H H') : ∀ (w : List (Str × W)) (v : List (Str × V)), RelFs Γ ρ H w v → RelFs Γ ρ' H' w v
  | [], v, h => by simpa [RelFs] using h
  | x :: xs, v, h => by
    unfold RelFs at h ⊢
    obtain ⟨y, r, e, h1, h2⟩ := h
    exact ⟨y, r, e, RelW.mono a x.2 y h1, RelFs.mono a xs r h2⟩
theorem RelKs.mono (a : Le Γ ρ ρ' H H') : ∀ (w : List (Key × W)) (v : List (Key × V)), RelKs Γ ρ H w v → RelKs Γ ρ' H' w v
  | [], v, h => by simpa [RelKs] using h
  | x :: xs, v, h => by
    unfold RelKs at h ⊢
    obtain ⟨y, r, e, h1, h2⟩ := h
    exact ⟨y, r, e, RelW.mono a x.2 y h1, RelKs.mono a xs r h2⟩
theorem RelS.mono {σ : Sg} {τ : L2.St} (a : Le Γ ρ ρ' H H') (r : RelS Γ ρ H σ τ) : RelS Γ ρ' H' σ τ :=
  ⟨r.1, fun i w e => let ⟨v, e1, q⟩ := r.2 i w e; ⟨v, e1, RelW.mono a w v q⟩⟩
theorem RelS.set {σ : Sg} {τ : L2.St} {i : Nat} {w : W} {v : V} (r : RelS Γ ρ H σ τ) (q : RelW Γ ρ H w v) : RelS Γ ρ H (σ.set i (some w)) (τ.set i (some v)) := by
  refine ⟨by simp [r.1], fun j w' e => ?_⟩
  by_cases hj : i = j
  · subst hj
    by_cases hl : i < σ.length
    · rw [List.getElem?_set_self hl] at e
      cases e
      exact ⟨v, List.getElem?_set_self (by rw [← r.1]; exact hl), q⟩
    · rw [List.getElem?_eq_none (by simpa using hl)] at e
      cases e
  · rw [List.getElem?_set_ne hj] at e
    obtain ⟨v', e', q'⟩ := r.2 j w' e
    exact ⟨v', by rw [List.getElem?_set_ne hj]; exact e', q'⟩
theorem RelWs.length : ∀ {ws : List W} {vs : List V}, RelWs Γ ρ H ws vs → ws.length = vs.length
  | [], vs, h => by unfold RelWs at h; subst h; rfl
  | x :: xs, vs, h => by
    unfold RelWs at h
    obtain ⟨y, r, e, h1, h2⟩ := h
    subst e
    simp [RelWs.length h2]
theorem RelWs.get : ∀ {ws : List W} {vs : List V} {i : Nat} {w : W}, RelWs Γ ρ H ws vs → ws[i]? = some w → ∃ v, vs[i]? = some v ∧ RelW Γ ρ H w v
  | [], vs, i, w, h, e => by simp at e
  | x :: xs, vs, 0, w, h, e => by
    unfold RelWs at h
    obtain ⟨y, r, e', h1, h2⟩ := h
    subst e'
    simp at e
    subst e
    exact ⟨y, rfl, h1⟩
  | x :: xs, vs, i + 1, w, h, e => by
    unfold RelWs at h
    obtain ⟨y, r, e', h1, h2⟩ := h
    subst e'
    simp at e
    obtain ⟨v, e1, q⟩ := RelWs.get h2 e
    exact ⟨v, by simpa using e1, q⟩
theorem RelWs.append : ∀ {ws ws' : List W} {vs vs' : List V}, RelWs Γ ρ H ws vs → RelWs Γ ρ H ws' vs' → RelWs Γ ρ H (ws ++ ws') (vs ++ vs')
  | [], ws', vs, vs', h, h' => by unfold RelWs at h; subst h; exact h'
  | x :: xs, ws', vs, vs', h, h' => by
    unfold RelWs at h
    obtain ⟨y, r, e', h1, h2⟩ := h
    subst e'
    show RelWs Γ ρ H (x :: (xs ++ ws')) _
    unfold RelWs
    exact ⟨y, r ++ vs', rfl, h1, RelWs.append h2 h'⟩
theorem RelWs.nil : RelWs Γ ρ H [] [] := by unfold RelWs; rfl
theorem RelWs.cons {w : W} {v : V} {ws : List W} {vs : List V} (a : RelW Γ ρ H w v) (b : RelWs Γ ρ H ws vs) : RelWs Γ ρ H (w :: ws) (v :: vs) := by
  unfold RelWs
  exact ⟨v, vs, rfl, a, b⟩
theorem RelWs.take : ∀ (n : Nat) {ws : List W} {vs : List V}, RelWs Γ ρ H ws vs → RelWs Γ ρ H (ws.take n) (vs.take n)
  | 0, ws, vs, h => by simpa using RelWs.nil
  | n + 1, [], vs, h => by unfold RelWs at h; subst h; exact RelWs.nil
  | n + 1, x :: xs, vs, h => by
    unfold RelWs at h
    obtain ⟨y, r, e', h1, h2⟩ := h
    subst e'
    exact RelWs.cons h1 (RelWs.take n h2)
theorem RelWs.drop : ∀ (n : Nat) {ws : List W} {vs : List V}, RelWs Γ ρ H ws vs → RelWs Γ ρ H (ws.drop n) (vs.drop n)
  | 0, ws, vs, h => by simpa using h
  | n + 1, [], vs, h => by unfold RelWs at h; subst h; exact RelWs.nil
  | n + 1, x :: xs, vs, h => by
    unfold RelWs at h
    obtain ⟨y, r, e', h1, h2⟩ := h
    subst e'
    exact RelWs.drop n h2
theorem RelWs.set : ∀ {ws : List W} {vs : List V} {w : W} {v : V} (i : Nat), RelWs Γ ρ H ws vs → RelW Γ ρ H w v → RelWs Γ ρ H (ws.set i w) (vs.set i v)
  | [], vs, w, v, i, h, q => by unfold RelWs at h; subst h; exact RelWs.nil
  | x :: xs, vs, w, v, 0, h, q => by
    unfold RelWs at h
    obtain ⟨y, r, e', h1, h2⟩ := h
    subst e'
    exact RelWs.cons q h2
  | x :: xs, vs, w, v, i + 1, h, q => by
    unfold RelWs at h
    obtain ⟨y, r, e', h1, h2⟩ := h
    subst e'
    exact RelWs.cons h1 (RelWs.set i h2 q)
theorem RelWs.rep {ws : List W} {vs : List V} (h : RelWs Γ ρ H ws vs) : ∀ k : Nat, RelWs Γ ρ H (List.replicate k ws).flatten (List.replicate k vs).flatten
  | 0 => by simpa using RelWs.nil
  | k + 1 => by
    rw [List.replicate_succ, List.replicate_succ, List.flatten_cons, List.flatten_cons]
    exact h.append (RelWs.rep h k)
theorem RelWs.reverse : ∀ {ws : List W} {vs : List V}, RelWs Γ ρ H ws vs → RelWs Γ ρ H ws.reverse vs.reverse
  | [], vs, h => by unfold RelWs at h; subst h; exact RelWs.nil
  | x :: xs, vs, h => by
    unfold RelWs at h
    obtain ⟨y, r, e', h1, h2⟩ := h
    subst e'
    rw [List.reverse_cons, List.reverse_cons]
    exact (RelWs.reverse h2).append (RelWs.cons h1 RelWs.nil)

/-- an object that nobody wrote is as it was -/
theorem RelO.mono {a : Addr} {o : O} (l : Le Γ ρ ρ' H H') (k : o.mut → ∀ u, H a = some u → H' a = some u) (r : RelO Γ ρ H a o) : RelO Γ ρ' H' a o := by
  cases o with
  | lst xs =>
    obtain ⟨ys, e, q⟩ := r
    exact ⟨ys, k trivial _ e, RelWs.mono l _ _ q⟩
  | frz xs =>
    obtain ⟨ys, e, q⟩ := r
    refine ⟨ys, ?_, RelWs.mono l _ _ q⟩
    rcases e with ⟨o, e⟩ | e
    · exact .inl ⟨o, l.frz _ _ _ e⟩
    · exact .inr e
  | ins c fs =>
    obtain ⟨dx, gs, e, q⟩ := r
    exact ⟨dx, gs, k trivial _ e, RelFs.mono l _ _ q⟩
  | dic kvs =>
    obtain ⟨gs, e, q⟩ := r
    exact ⟨gs, k trivial _ e, RelKs.mono l _ _ q⟩
theorem RelO.some {a : Addr} {o : O} (r : RelO Γ ρ H a o) (m : o.mut) : ∃ u, H a = some u := by
  cases o with
  | lst xs => obtain ⟨ys, e, q⟩ := r; exact ⟨_, e⟩
  | frz xs => exact m.elim
  | ins c fs => obtain ⟨dx, gs, e, q⟩ := r; exact ⟨_, e⟩
  | dic kvs => obtain ⟨gs, e, q⟩ := r; exact ⟨_, e⟩

/-- laid anew: something that is not of ours (a tuple, say) or is -/
theorem Le.laid {p : Addr} {o : HO} (n : H p = none) (l : List Addr) : Le Γ ρ (ρ ++ l) H (upd H p o) :=
  ⟨⟨l, rfl⟩, fun a xs h => by
    rcases h with (h | ⟨ob, h⟩) | h
    · exact .inl (.inl (by rw [upd_ne (ne_of_none h n)]; exact h))
    · exact .inl (.inr ⟨ob, by rw [upd_ne (ne_of_none h n)]; exact h⟩)
    · exact .inr h, fun a φ h => by rw [upd_ne (ne_of_none h n)]; exact h, fun a φ h => by rw [upd_ne (ne_of_none h n)]; exact h, fun a φ u h => by rw [upd_ne (ne_of_none h n)]; exact h⟩
theorem Rel.keep {h : Hm} (R : Rel Γ ρ h H) (l : Le Γ ρ ρ H H') (k : ∀ a u, H a = some u → H' a = some u) : Rel Γ ρ h H' :=
  ⟨R.len, fun i o e => let ⟨a, e1, r⟩ := R.obj i o e; ⟨a, e1, r.mono l fun _ => k a⟩, R.inj⟩
theorem Rel.other {h : Hm} {p : Addr} {o : HO} (R : Rel Γ ρ h H) (n : H p = none) : Rel Γ ρ h (upd H p o) := by
  have l := Le.laid (Γ := Γ) (ρ := ρ) (o := o) n []
  rw [List.append_nil] at l
  exact R.keep l fun a u e => by rw [upd_ne (ne_of_none e n)]; exact e
theorem Rel.alloc {h : Hm} {p : Addr} {o : HO} {o' : O} (R : Rel Γ ρ h H) (n : H p = none) (r : RelO Γ (ρ ++ [p]) (upd H p o) p o') : Rel Γ (ρ ++ [p]) (h ++ [o']) (upd H p o) := by
  have l := Le.laid (Γ := Γ) (ρ := ρ) (o := o) n [p]
  have look : ∀ i u, (h ++ [o'])[i]? = some u → (i < h.length ∧ h[i]? = some u) ∨ (i = h.length ∧ u = o') := fun i u e => by
    by_cases hi : i < h.length
    · rw [List.getElem?_append_left hi] at e
      exact .inl ⟨hi, e⟩
    · rw [List.getElem?_append_right (by omega)] at e
      have : i - h.length = 0 := by
        have := (List.getElem?_eq_some_iff.mp e).1
        simp at this
        omega
      rw [this] at e
      simp at e
      exact .inr ⟨by omega, e.symm⟩
  have last : (ρ ++ [p])[h.length]? = some p := by
    rw [← R.len]
    simp
  refine ⟨by simp [R.len], fun i u e => ?_, fun i j oi oj a e1 e2 m1 m2 r1 r2 => ?_⟩
  · rcases look i u e with ⟨_, e⟩ | ⟨rfl, rfl⟩
    · obtain ⟨a, e1, r⟩ := R.obj i u e
      exact ⟨a, l.at e1, r.mono l fun _ u e => by rw [upd_ne (ne_of_none e n)]; exact e⟩
    · exact ⟨p, last, r⟩
  · have old : ∀ {i : Nat} {oi : O} {a : Addr}, h[i]? = some oi → oi.mut → (ρ ++ [p])[i]? = some a → ρ[i]? = some a ∧ a ≠ p := fun {i oi a} e m r => by
      obtain ⟨a', e1, r1⟩ := R.obj i oi e
      have := l.at e1
      rw [r] at this
      cases this
      obtain ⟨u, q⟩ := r1.some m
      exact ⟨e1, ne_of_none q n⟩
    rcases look i oi e1 with ⟨_, f1⟩ | ⟨q1, _⟩ <;> rcases look j oj e2 with ⟨_, f2⟩ | ⟨q2, _⟩
    · exact R.inj i j oi oj a f1 f2 m1 m2 (old f1 m1 r1).1 (old f2 m2 r2).1
    · rw [q2, last] at r2
      cases r2
      exact absurd rfl (old f1 m1 r1).2
    · rw [q1, last] at r1
      cases r1
      exact absurd rfl (old f2 m2 r2).2
    · rw [q1, q2]
/-- an object of ours is written -/
def Wr (u : HO) : Prop := match u with
  | .lst _ => True
  | .ins _ _ _ => True
  | .dK _ => True
  | _ => False
theorem Le.write {a : Addr} {u o : HO} (e : H a = some u) (m : Wr u) : Le Γ ρ ρ H (upd H a o) := by
  have ne : ∀ {b : Addr} {v : HO}, H b = some v → ¬ Wr v → b ≠ a := fun {b v} q n z => by
    subst z
    rw [e] at q
    cases q
    exact n m
  exact ⟨⟨[], by simp⟩, fun b xs h => by
    rcases h with (h | ⟨ob, h⟩) | h
    · exact .inl (.inl (by rw [upd_ne (ne h fun z => z)]; exact h))
    · exact .inl (.inr ⟨ob, by rw [upd_ne (ne h fun z => z)]; exact h⟩)
    · exact .inr h, fun b φ h => by rw [upd_ne (ne h fun z => z)]; exact h, fun b φ h => by rw [upd_ne (ne h fun z => z)]; exact h, fun b φ u h => by rw [upd_ne (ne h fun z => z)]; exact h⟩
theorem Rel.write {h : Hm} {a : Addr} {i : Nat} {o o' : O} {u v : HO} (R : Rel Γ ρ h H) (hi : h[i]? = some o) (ha : ρ[i]? = some a) (m : o.mut) (m' : o'.mut) (e : H a = some v) (wv : Wr v) (r : RelO Γ ρ (upd H a u) a o') : Rel Γ ρ (h.set i o') (upd H a u) := by
  have l : Le Γ ρ ρ H (upd H a u) := Le.write e wv
  have lt := (List.getElem?_eq_some_iff.mp hi).1
  have look : ∀ (j : Nat) (v : O), (h.set i o')[j]? = some v → (j = i ∧ v = o') ∨ (j ≠ i ∧ h[j]? = some v) := fun j v e => by
    by_cases hj : i = j
    · subst hj
      rw [List.getElem?_set_self lt] at e
      cases e
      exact .inl ⟨rfl, rfl⟩
    · rw [List.getElem?_set_ne hj] at e
      exact .inr ⟨Ne.symm hj, e⟩
  refine ⟨by simp [R.len], fun j v e => ?_, fun j k oj ok b e1 e2 m1 m2 r1 r2 => ?_⟩
  · rcases look j v e with ⟨rfl, rfl⟩ | ⟨hj, e⟩
    · exact ⟨a, ha, r⟩
    · obtain ⟨b, eb, rb⟩ := R.obj j v e
      refine ⟨b, eb, rb.mono l fun mv x q => ?_⟩
      rw [upd_ne fun z => hj (R.inj j i v o b e hi mv m eb (by rw [z]; exact ha))]
      exact q
  · rcases look j oj e1 with ⟨q1, _⟩ | ⟨hj, f1⟩ <;> rcases look k ok e2 with ⟨q2, _⟩ | ⟨hk, f2⟩
    · rw [q1, q2]
    · rw [q1] at r1 ⊢
      exact R.inj _ _ _ _ b hi f2 m m2 r1 r2
    · rw [q2] at r2 ⊢
      exact R.inj _ _ _ _ b f1 hi m1 m r1 r2
    · exact R.inj _ _ _ _ b f1 f2 m1 m2 r1 r2
end
end Z

namespace Z
open PySem PySem.Spec PyProof.Rows L2

/-- an exception of ours, in the air -/
def ExnR (Γ : Gam) (H : Hp) (x : Exn) (cls : Value) (d : Option Addr) : Prop :=
  cls = .ref (Γ.cl x.c) ∧ match x.d with
    | none => d = none
    | some n => ∃ b, d = some b ∧ H b = some (.xd [("line", .int n)])
def O1 {α β : Type} (Γ : Gam) (R : List Addr → Hp → α → β → Prop) (ρ : List Addr) (H : Hp) (o : Out α) (Q : β → Hp → Prop) (E : XK) : Prop :=
  match o with
  | .ok a h' => ∀ ρ' H' b, Le Γ ρ ρ' H H' → Rel Γ ρ' h' H' → R ρ' H' a b → Q b H'
  | .err x h' => ∀ ρ' H' cls d, Le Γ ρ ρ' H H' → Rel Γ ρ' h' H' → ExnR Γ H' x cls d → E cls d H'
  | .bad => False
theorem Out.bind_assoc {α β γ : Type} (o : Out α) (f : α → Hm → Out β) (g : β → Hm → Out γ) : (o.bind f).bind g = o.bind fun x h => (f x h).bind g := by cases o <;> rfl
abbrev RB : List Addr → Hp → Bool → Bool → Prop := fun _ _ a b => a = b
section
variable {Γ : Gam} {ρ ρ' : List Addr} {H H' : Hp} {α β α' β' : Type} {R : List Addr → Hp → α → β → Prop} {R' : List Addr → Hp → α' → β' → Prop} {o : Out α} {Q Q2 : β → Hp → Prop} {Q' : β' → Hp → Prop} {E : XK}
theorem O1.mono (l : Le Γ ρ ρ' H H') (x : O1 Γ R ρ H o Q E) : O1 Γ R ρ' H' o Q E := by
  cases o with
  | ok a h => exact fun ρ2 H2 b l2 r q => x ρ2 H2 b (l.trans l2) r q
  | err a h => exact fun ρ2 H2 c d l2 r q => x ρ2 H2 c d (l.trans l2) r q
  | bad => exact x
theorem O1.imp (x : O1 Γ R ρ H o Q E) (f : ∀ b H', Q b H' → Q2 b H') : O1 Γ R ρ H o Q2 E := by
  cases o with
  | ok a h => exact fun ρ2 H2 b l2 r q => f _ _ (x ρ2 H2 b l2 r q)
  | err a h => exact x
  | bad => exact x
theorem O1.bind {f : α → Hm → Out α'} (x : O1 Γ R' ρ H (o.bind f) Q' E) :
    O1 Γ R ρ H o (fun v H1 => ∃ ρ1 h1 a, Le Γ ρ ρ1 H H1 ∧ Rel Γ ρ1 h1 H1 ∧ R ρ1 H1 a v ∧ O1 Γ R' ρ1 H1 (f a h1) Q' E) E := by
  cases o with
  | ok a h => exact fun ρ2 H2 b l2 r q => ⟨ρ2, h, a, l2, r, q, O1.mono l2 x⟩
  | err a h => exact x
  | bad => exact x
end

/-! ### contexts -/
structure Cfg where
  N : List Str
  V : List Str
  L : List Str
  G : List Str
  sc : Scope
  fa : Bool
  calm : Bool
structure CfgOk (c : Cfg) : Prop where
  nd : c.N.Nodup
  vis : ∀ x ∈ c.V, Vis c.sc x
  loc : ∀ x ∈ c.L, c.sc.names.lookup x = some .local ∨ (c.fa = true ∧ c.sc.names.lookup x = some .cell)
  gl : ∀ x ∈ c.G, c.sc.names.lookup x = some .globalImplicit
def cfgOk (c : Cfg) : Bool :=
  decide c.N.Nodup && (c.V.all fun x => match c.sc.names.lookup x with | some .local => true | some .cell => true | some .free => true | _ => false) &&
  (c.L.all fun x => match c.sc.names.lookup x with | some .local => true | some .cell => c.fa | _ => false) &&
  (c.G.all fun x => match c.sc.names.lookup x with | some .globalImplicit => true | _ => false)
theorem cfgOk_of {c : Cfg} (h : cfgOk c = true) : CfgOk c := by
  unfold cfgOk at h
  simp only [Bool.and_eq_true, List.all_eq_true, decide_eq_true_eq] at h
  obtain ⟨⟨⟨h1, h2⟩, h3⟩, h4⟩ := h
  refine ⟨h1, fun x hx => ?_, fun x hx => ?_, fun x hx => ?_⟩
  · have q := h2 x hx
    split at q
    · exact .inl (by assumption)
    · exact .inr (.inl (by assumption))
    · exact .inr (.inr (by assumption))
    · cases q
  · have q := h3 x hx
    split at q
    · exact .inl (by assumption)
    · exact .inr ⟨q, by assumption⟩
    · cases q
  · have q := h4 x hx
    split at q
    · assumption
    · cases q

structure Good (Γ : Gam) (c : Cfg) (k : Nat) (W : WX) (X : Cx) : Prop where
  prog : X.prog = Γ.P
  w : X.w = Γ.w
  K : X.K = Γ.K
  mg : X.mg = Γ.mg
  base : X.base = Γ.base
  N : X.N = c.N
  sc : X.env.scope = c.sc
  ok : CfgOk c
  fn : c.fa = true → ∀ x, X.fn x = true
  calm : X.calm = c.calm
  room : c.calm = true → Room k X.A
  takes : Takes X W
  pass : PassesOwn (model X.prog X.w) X.A X.env X.xe
  fr : c.fa = true → X.stack = X.env :: X.outer ∧ X.env.frame = some X.env.locals

def tI (Γ : Gam) (W : WX) (f : XE) : TE := fun τ H Q => ∃ ρ σ h, Rel Γ ρ h H ∧ RelS Γ ρ H σ τ ∧ O1 Γ (RelW Γ) ρ H (f σ h) Q (fun cls d H' => W cls d τ H')
def tIT (Γ : Gam) (W : WX) (f : XT) : TT := fun τ H Q => ∃ ρ σ h, Rel Γ ρ h H ∧ RelS Γ ρ H σ τ ∧ O1 Γ RB ρ H (f σ h) Q (fun cls d H' => W cls d τ H')
def tIA (Γ : Gam) (W : WX) (f : XA) : TA := fun τ H Q => ∃ ρ σ h, Rel Γ ρ h H ∧ RelS Γ ρ H σ τ ∧ O1 Γ (RelWs Γ) ρ H (f σ h) Q (fun cls d H' => W cls d τ H')
def SE (Γ : Gam) (c : Cfg) (k : Nat) (e : Expr) (f : XE) : Prop := ∀ W X, Good Γ c k W X → PE X e (tI Γ W f)
def ST (Γ : Gam) (c : Cfg) (k : Nat) (e : Expr) (f : XT) : Prop := ∀ W X, Good Γ c k W X → PT X e (tIT Γ W f)
def SA (Γ : Gam) (c : Cfg) (k : Nat) (es : List Expr) (f : XA) : Prop := ∀ W X, Good Γ c k W X → PA X es (tIA Γ W f)
/-- tests with and, or -/
def SW (Γ : Gam) (c : Cfg) (k : Nat) (e : Expr) (f : XT) : Prop := ∀ W X, Good Γ c k W X → PW X e (tIT Γ W f)

theorem PE.imp {X : Cx} {e : Expr} {t t' : TE} (h : PE X e t) (i : ∀ σ H Q, t' σ H Q → t σ H Q) : PE X e t' := ⟨fun pins s σ H Q I q => h.run pins s σ H Q I (i _ _ _ q)⟩
theorem PT.imp {X : Cx} {e : Expr} {t t' : TT} (h : PT X e t) (i : ∀ σ H Q, t' σ H Q → t σ H Q) : PT X e t' := ⟨fun pins s σ H Q I q => h.run pins s σ H Q I (i _ _ _ q)⟩
theorem PW.imp {X : Cx} {e : Expr} {t t' : TT} (h : PW X e t) (i : ∀ σ H Q, t' σ H Q → t σ H Q) : PW X e t' := ⟨fun wh pins s σ H Q I q => h.run wh pins s σ H Q I (i _ _ _ q)⟩
theorem PA.imp {X : Cx} {e : List Expr} {t t' : TA} (h : PA X e t) (i : ∀ σ H Q, t' σ H Q → t σ H Q) : PA X e t' := ⟨fun pos pins s σ H Q I q => h.run pos pins s σ H Q I (i _ _ _ q)⟩

/-! ### operations on values -/
abbrev Pr := Option (W × Hm)
def ofO : Pr → Out W
  | some (w, h) => .ok w h
  | none => .bad
def new (h : Hm) (o : O) : W × Hm := (.ref h.length, h ++ [o])
/-- what an operation asks, by our values -/
def r2 (Γ : Gam) (g : W → W → Hm → Pr) : R2 := fun x y H Q => ∃ ρ h u w u' h', Rel Γ ρ h H ∧ RelW Γ ρ H u x ∧ RelW Γ ρ H w y ∧ g u w h = some (u', h') ∧ ∀ ρ' H' v, Le Γ ρ ρ' H H' → Rel Γ ρ' h' H' → RelW Γ ρ' H' u' v → Q v H'
def r1 (Γ : Gam) (g : W → Hm → Pr) : V → Hp → VK → Prop := fun x H Q => ∃ ρ h u u' h', Rel Γ ρ h H ∧ RelW Γ ρ H u x ∧ g u h = some (u', h') ∧ ∀ ρ' H' v, Le Γ ρ ρ' H H' → Rel Γ ρ' h' H' → RelW Γ ρ' H' u' v → Q v H'
def rN (Γ : Gam) (g : List W → Hm → Pr) : List V → Hp → VK → Prop := fun xs H Q => ∃ ρ h us u' h', Rel Γ ρ h H ∧ RelWs Γ ρ H us xs ∧ g us h = some (u', h') ∧ ∀ ρ' H' v, Le Γ ρ ρ' H H' → Rel Γ ρ' h' H' → RelW Γ ρ' H' u' v → Q v H'
def OpS (Γ : Gam) (c : Cfg) (k : Nat) (f : Value → Value → Sem Value) (g : W → W → Hm → Pr) : Prop := ∀ W X, Good Γ c k W X → OpR X f (r2 Γ g)
def UnS (Γ : Gam) (c : Cfg) (k : Nat) (f : Value → Sem Value) (g : W → Hm → Pr) : Prop := ∀ W X, Good Γ c k W X → UnR X f (r1 Γ g)
def CaS (Γ : Gam) (c : Cfg) (k : Nat) (f : Value) (g : List W → Hm → Pr) : Prop := ∀ W X, Good Γ c k W X → CallR X f (rN Γ g)

/-! ### the combinators -/
def xK (w : W) : XE := fun _ h => .ok w h
def xVar (i : Nat) : XE := fun σ h => match σ[i]? with
  | some (some w) => .ok w h
  | _ => .bad
def xBin (g : W → W → Hm → Pr) (a b : XE) : XE := fun σ h => (a σ h).bind fun x h1 => (b σ h1).bind fun y h2 => ofO (g x y h2)
def xUn (g : W → Hm → Pr) (a : XE) : XE := fun σ h => (a σ h).bind fun x h1 => ofO (g x h1)
def xNil : XA := fun _ h => .ok [] h
def xCons (a : XE) (r : XA) : XA := fun σ h => (a σ h).bind fun x h1 => (r σ h1).bind fun xs h2 => .ok (x :: xs) h2
def xCall (g : List W → Hm → Pr) (a : XA) : XE := fun σ h => (a σ h).bind fun xs h1 => ofO (g xs h1)
def xTup (a : XA) : XE := fun σ h => (a σ h).bind fun xs h1 => if xs.length ≤ 16777216 then .ok (.tup xs) h1 else .bad
def xLst (a : XA) : XE := fun σ h => (a σ h).bind fun xs h1 => if xs.length ≤ 16777216 then .ok (.ref h1.length) (h1 ++ [.lst xs]) else .bad
def asB : W → Hm → Out Bool
  | .bl b, h => .ok b h
  | _, _ => .bad
def xB (a : XE) : XT := fun σ h => (a σ h).bind asB
def xAndT (a b : XT) : XT := fun σ h => (a σ h).bind fun c h1 => if c then b σ h1 else .ok false h1
def xOrT (a b : XT) : XT := fun σ h => (a σ h).bind fun c h1 => if c then .ok true h1 else b σ h1
def xNotT (a : XT) : XT := fun σ h => (a σ h).bind fun c h1 => .ok (!c) h1
def xAnd (a b : XE) : XE := fun σ h => (a σ h).bind fun x h1 => match x with
  | .bl true => b σ h1
  | .bl false => .ok (.bl false) h1
  | _ => .bad
def xOr (a b : XE) : XE := fun σ h => (a σ h).bind fun x h1 => match x with
  | .bl true => .ok (.bl true) h1
  | .bl false => b σ h1
  | _ => .bad
def xNot (a : XE) : XE := fun σ h => (a σ h).bind fun x h1 => match x with
  | .bl b => .ok (.bl !b) h1
  | _ => .bad
def xIf (t : XT) (a b : XE) : XE := fun σ h => (t σ h).bind fun c h1 => if c then a σ h1 else b σ h1
def xChain (g g' : W → W → Hm → Pr) (a b c : XE) : XE := fun σ h => (a σ h).bind fun x h1 => (b σ h1).bind fun y h2 => (ofO (g x y h2)).bind fun z h3 => match z with
  | .bl true => (c σ h3).bind fun w h4 => ofO (g' y w h4)
  | .bl false => .ok (.bl false) h3
  | _ => .bad

section
variable {Γ : Gam} {c : Cfg} {k : Nat} {a b e d : Expr} {es : List Expr} {fa fb fc : XE} {ft fu : XT} {fr : XA} {pos p : Pos}
theorem Good.nd {W : WX} {X : Cx} (g : Good Γ c k W X) : X.N.Nodup := by rw [g.N]; exact g.ok.nd
theorem Good.gl {W : WX} {X : Cx} (g : Good Γ c k W X) {x : Str} (h : x ∈ c.G) : Gl X x := by
  have := g.ok.gl x h
  unfold Gl Env.kindOf
  rw [g.sc]
  exact this
theorem relS_at {ρ : List Addr} {H : Hp} {σ : Sg} {τ : L2.St} (r : RelS Γ ρ H σ τ) {i : Nat} {w : W} (e : σ[i]? = some (some w)) : ∃ v, τ[i]? = some (some v) ∧ RelW Γ ρ H w v := r.2 i w e

theorem se_var (i j : Nat) {x : Str} (hN : c.N[i]? = some x := by rfl) (hV : c.V[j]? = some x := by rfl) (hd : (x == ("__debug__" : Str)) = false := by decide) (hcd : (x == ("__classdict__" : Str)) = false := by decide) : SE Γ c k (.Name x pos) (xVar i) := by
  intro W X g
  have hv : Vis X.env.scope x := by rw [g.sc]; exact g.ok.vis x (List.mem_of_getElem? hV)
  refine PE.imp (pe_var (i := i) (by rw [g.N]; exact hN) hv hd hcd) fun τ H Q h => ?_
  obtain ⟨ρ, σ, h, R, S, q⟩ := h
  unfold xVar at q
  split at q
  · rename_i w e
    obtain ⟨v, ev, rv⟩ := S.2 i w e
    exact ⟨v, ev, q ρ H v .refl R rv⟩
  · exact q.elim
theorem se_k {v : V} {w : W} (h : ∀ X : Cx, PE X e (tC v)) (r : ∀ ρ H, RelW Γ ρ H w v) : SE Γ c k e (xK w) := by
  intro W X g
  refine PE.imp (h X) fun τ H Q h => ?_
  obtain ⟨ρ, σ, h, R, S, q⟩ := h
  exact q ρ H v .refl R (r ρ H)
theorem se_int {i : Int} {j} : SE Γ c k (.Constant (.int i) j pos) (xK (.int i)) := se_k (fun _ => pe_int) fun _ _ => by simp [RelW]
theorem se_bl {i : Bool} {j} : SE Γ c k (.Constant (.bool i) j pos) (xK (.bl i)) := se_k (fun _ => pe_bl) fun _ _ => by simp [RelW]
theorem se_str {i : Str} {j} : SE Γ c k (.Constant (.str i) j pos) (xK (.str i)) := se_k (fun _ => pe_str) fun _ _ => by simp [RelW]
theorem se_non {j} : SE Γ c k (.Constant .none j pos) (xK .non) := se_k (fun _ => pe_non) fun _ _ => by simp [RelW]
/-- a constant of the module -/
def Kon (Γ : Gam) (x : Str) (w : W) : Prop := ∃ u v, Γ.mg x = some u ∧ RelV v u ∧ ∀ ρ H, RelW Γ ρ H w v
theorem se_glo (j : Nat) {x : Str} {w : W} (hk : Kon Γ x w) (hG : c.G[j]? = some x := by rfl) (hd : (x == ("__debug__" : Str)) = false := by decide) : SE Γ c k (.Name x pos) (xK w) := by
  intro W X g
  obtain ⟨u, v, hm, r, q⟩ := hk
  refine PE.imp (pe_glob (v := v) (g.gl (List.mem_of_getElem? hG)) (by rw [g.mg]; exact hm) r hd) fun τ H Q h => ?_
  obtain ⟨ρ, σ, h, R, S, q'⟩ := h
  exact q' ρ H v .refl R (q ρ H)

theorem O1.ofO {ρ : List Addr} {H : Hp} {p : Pr} {Q : VK} {E : XK} (x : O1 Γ (RelW Γ) ρ H (ofO p) Q E) : ∃ w h, p = some (w, h) ∧ ∀ ρ' H' v, Le Γ ρ ρ' H H' → Rel Γ ρ' h H' → RelW Γ ρ' H' w v → Q v H' := by
  cases p with
  | none => exact x.elim
  | some y => exact ⟨y.1, y.2, rfl, x⟩
theorem se_bin {op : Operator} {g : W → W → Hm → Pr} (ho : OpS Γ c k (binaryOp op) g) (ha : SE Γ c k a fa) (hb : SE Γ c k b fb) : SE Γ c k (.BinOp a op b pos) (xBin g fa fb) := by
  intro W X G
  refine PE.imp (pe_op (ho W X G) (ha W X G) (hb W X G)) fun τ H Q h => ?_
  obtain ⟨ρ, σ, h, R, S, q⟩ := h
  refine ⟨ρ, σ, h, R, S, (O1.bind (R := RelW Γ) q).imp fun x H1 ⟨ρ1, h1, u, l1, R1, r1, q1⟩ => ?_⟩
  refine ⟨ρ1, σ, h1, R1, S.mono l1, (O1.bind (R := RelW Γ) q1).imp fun y H2 ⟨ρ2, h2, w, l2, R2, r2, q2⟩ => ?_⟩
  obtain ⟨u', h', e, q3⟩ := q2.ofO
  exact ⟨ρ2, h2, u, w, u', h', R2, RelW.mono l2 _ _ r1, r2, e, q3⟩
theorem se_un {op : UnaryOp} {g : W → Hm → Pr} (ho : UnS Γ c k (unaryOp op) g) (ha : SE Γ c k a fa) : SE Γ c k (.UnaryOp op a pos) (xUn g fa) := by
  intro W X G
  refine PE.imp (pe_un (ho W X G) (ha W X G)) fun τ H Q h => ?_
  obtain ⟨ρ, σ, h, R, S, q⟩ := h
  refine ⟨ρ, σ, h, R, S, (O1.bind (R := RelW Γ) q).imp fun x H1 ⟨ρ1, h1, u, l1, R1, r1, q1⟩ => ?_⟩
  obtain ⟨u', h', e, q3⟩ := q1.ofO
  exact ⟨ρ1, h1, u, u', h', R1, r1, e, q3⟩
theorem se_cmp {op : CmpOp} {g : W → W → Hm → Pr} (ho : OpS Γ c k (compareOp op) g) (ha : SE Γ c k a fa) (hb : SE Γ c k b fb) (hm : behindInMarks op b = false := by rfl) : SE Γ c k (.Compare a [op] [b] pos) (xBin g fa fb) := by
  intro W X G
  refine PE.imp (pe_cmpR (ho W X G) (ha W X G) (hb W X G) hm) fun τ H Q h => ?_
  obtain ⟨ρ, σ, h, R, S, q⟩ := h
  refine ⟨ρ, σ, h, R, S, (O1.bind (R := RelW Γ) q).imp fun x H1 ⟨ρ1, h1, u, l1, R1, r1, q1⟩ => ?_⟩
  refine ⟨ρ1, σ, h1, R1, S.mono l1, (O1.bind (R := RelW Γ) q1).imp fun y H2 ⟨ρ2, h2, w, l2, R2, r2, q2⟩ => ?_⟩
  obtain ⟨u', h', e, q3⟩ := q2.ofO
  exact ⟨ρ2, h2, u, w, u', h', R2, RelW.mono l2 _ _ r1, r2, e, q3⟩
theorem asB_o {ρ : List Addr} {H : Hp} {u : W} {h1 : Hm} {Q : Bool → Hp → Prop} {E : XK} {v : V} (R : Rel Γ ρ h1 H) (r : RelW Γ ρ H u v) (q : O1 Γ RB ρ H (asB u h1) Q E) : ∃ b, v = .bl b ∧ u = .bl b ∧ Q b H := by
  cases u with
  | bl b =>
    unfold RelW at r
    exact ⟨b, r, rfl, q ρ H b .refl R rfl⟩
  | _ => exact q.elim
theorem st_cmp {op : CmpOp} {g : W → W → Hm → Pr} (ho : OpS Γ c k (compareOp op) g) (ha : SE Γ c k a fa) (hb : SE Γ c k b fb) (hm : behindInMarks op b = false := by rfl) : ST Γ c k (.Compare a [op] [b] pos) (xB (xBin g fa fb)) := by
  intro W X G
  refine PT.imp (pt_cmpR (ho W X G) (ha W X G) (hb W X G) hm) fun τ H Q h => ?_
  obtain ⟨ρ, σ, h, R, S, q⟩ := h
  have q : O1 Γ RB ρ H ((fa σ h).bind fun x h1 => (fb σ h1).bind fun y h2 => (ofO (g x y h2)).bind asB) Q (fun cls d H' => W cls d τ H') := by
    have e : xB (xBin g fa fb) σ h = ((fa σ h).bind fun x h1 => (fb σ h1).bind fun y h2 => (ofO (g x y h2)).bind asB) := by
      unfold xB xBin
      cases fa σ h with
      | ok x h1 =>
        show ((fb σ h1).bind _).bind _ = (fb σ h1).bind _
        cases fb σ h1 <;> rfl
      | err => rfl
      | bad => rfl
    rw [← e]
    exact q
  refine ⟨ρ, σ, h, R, S, (O1.bind (R := RelW Γ) q).imp fun x H1 ⟨ρ1, h1, u, l1, R1, r1, q1⟩ => ?_⟩
  refine ⟨ρ1, σ, h1, R1, S.mono l1, (O1.bind (R := RelW Γ) q1).imp fun y H2 ⟨ρ2, h2, w, l2, R2, r2, q2⟩ => ?_⟩
  obtain ⟨u', h', e, q3⟩ := (O1.bind (R := RelW Γ) q2).ofO
  refine ⟨ρ2, h2, u, w, u', h', R2, RelW.mono l2 _ _ r1, r2, e, fun ρ3 H3 v l3 R3 r3 => ?_⟩
  obtain ⟨ρ4, h4, z, l4, R4, r4, q4⟩ := q3 ρ3 H3 v l3 R3 r3
  obtain ⟨bb, e1, _, q5⟩ := asB_o R4 r4 q4
  exact ⟨bb, e1, q5⟩
/-- a value that is a bool, as a test -/
theorem st_val (he : SE Γ c k e fa) (hs : ∀ (env : Env) (whole : Sem Value), isTrue e env whole = (do let v ← whole; standAt e.pos; holding [v] (truthy v)) := by intros; rfl) : ST Γ c k e (xB fa) := by
  intro W X G
  refine PT.imp (pt_val (he W X G) (hs X.env)) fun τ H Q h => ?_
  obtain ⟨ρ, σ, h, R, S, q⟩ := h
  refine ⟨ρ, σ, h, R, S, (O1.bind (R := RelW Γ) q).imp fun x H1 ⟨ρ1, h1, u, l1, R1, r1, q1⟩ => ?_⟩
  obtain ⟨bb, e1, _, q5⟩ := asB_o R1 r1 q1
  exact ⟨bb, e1, q5⟩
theorem st_not (ha : ST Γ c k a ft) : ST Γ c k (.UnaryOp .Not a pos) (xNotT ft) := by
  intro W X G
  refine PT.imp (pt_not (ha W X G)) fun τ H Q h => ?_
  obtain ⟨ρ, σ, h, R, S, q⟩ := h
  refine ⟨ρ, σ, h, R, S, (O1.bind (R := RB) q).imp fun x H1 ⟨ρ1, h1, u, l1, R1, r1, q1⟩ => ?_⟩
  have r1 : u = x := r1
  subst r1
  exact q1 ρ1 H1 _ .refl R1 rfl
theorem sw_one {op : BoolOp} (ha : ST Γ c k a ft) : SW Γ c k (.BoolOp op [a] pos) ft := by
  intro W X G
  cases op with
  | And => exact pw_and1 (ha W X G)
  | Or => exact pw_or1 (ha W X G)
theorem sw_and {rest : List Expr} (ha : ST Γ c k a ft) (hb : SW Γ c k (.BoolOp .And (b :: rest) pos) fu) : SW Γ c k (.BoolOp .And (a :: b :: rest) pos) (xAndT ft fu) := by
  intro W X G
  refine PW.imp (pw_and (ha W X G) (hb W X G)) fun τ H Q h => ?_
  obtain ⟨ρ, σ, h, R, S, q⟩ := h
  refine ⟨ρ, σ, h, R, S, (O1.bind (R := RB) q).imp fun x H1 ⟨ρ1, h1, u, l1, R1, r1, q1⟩ => ?_⟩
  have r1 : u = x := r1
  subst r1
  cases u with
  | true => exact iteT ⟨ρ1, σ, h1, R1, S.mono l1, q1⟩
  | false => exact iteF (q1 ρ1 H1 _ .refl R1 rfl)
theorem sw_or {rest : List Expr} (ha : ST Γ c k a ft) (hb : SW Γ c k (.BoolOp .Or (b :: rest) pos) fu) : SW Γ c k (.BoolOp .Or (a :: b :: rest) pos) (xOrT ft fu) := by
  intro W X G
  refine PW.imp (pw_or (ha W X G) (hb W X G)) fun τ H Q h => ?_
  obtain ⟨ρ, σ, h, R, S, q⟩ := h
  refine ⟨ρ, σ, h, R, S, (O1.bind (R := RB) q).imp fun x H1 ⟨ρ1, h1, u, l1, R1, r1, q1⟩ => ?_⟩
  have r1 : u = x := r1
  subst r1
  cases u with
  | true => exact iteT (q1 ρ1 H1 _ .refl R1 rfl)
  | false => exact iteF ⟨ρ1, σ, h1, R1, S.mono l1, q1⟩
theorem st_w (h : SW Γ c k e ft) : ST Γ c k e ft := fun W X G => (h W X G).pt
theorem se_one {op : BoolOp} (ha : SE Γ c k a fa) : SE Γ c k (.BoolOp op [a] pos) fa := fun W X G => pe_one (ha W X G)
theorem relW_bl {ρ : List Addr} {H : Hp} {b : Bool} {v : V} (r : RelW Γ ρ H (.bl b) v) : v = .bl b := by unfold RelW at r; exact r
theorem se_and {rest : List Expr} (ha : SE Γ c k a fa) (hb : SE Γ c k (.BoolOp .And (b :: rest) pos) fb) : SE Γ c k (.BoolOp .And (a :: b :: rest) pos) (xAnd fa fb) := by
  intro W X G
  refine PE.imp (pe_and (ha W X G) (hb W X G)) fun τ H Q h => ?_
  obtain ⟨ρ, σ, h, R, S, q⟩ := h
  refine ⟨ρ, σ, h, R, S, (O1.bind (R := RelW Γ) q).imp fun x H1 ⟨ρ1, h1, u, l1, R1, r1, q1⟩ => ?_⟩
  split at q1
  · exact ⟨true, relW_bl r1, iteT ⟨ρ1, σ, h1, R1, S.mono l1, q1⟩⟩
  · exact ⟨false, relW_bl r1, iteF (q1 ρ1 H1 _ .refl R1 (by simp [RelW]))⟩
  · exact q1.elim
theorem se_or {rest : List Expr} (ha : SE Γ c k a fa) (hb : SE Γ c k (.BoolOp .Or (b :: rest) pos) fb) : SE Γ c k (.BoolOp .Or (a :: b :: rest) pos) (xOr fa fb) := by
  intro W X G
  refine PE.imp (pe_or (ha W X G) (hb W X G)) fun τ H Q h => ?_
  obtain ⟨ρ, σ, h, R, S, q⟩ := h
  refine ⟨ρ, σ, h, R, S, (O1.bind (R := RelW Γ) q).imp fun x H1 ⟨ρ1, h1, u, l1, R1, r1, q1⟩ => ?_⟩
  split at q1
  · exact ⟨true, relW_bl r1, iteT (q1 ρ1 H1 _ .refl R1 (by simp [RelW]))⟩
  · exact ⟨false, relW_bl r1, iteF ⟨ρ1, σ, h1, R1, S.mono l1, q1⟩⟩
  · exact q1.elim
theorem se_not (ha : SE Γ c k a fa) : SE Γ c k (.UnaryOp .Not a pos) (xNot fa) := by
  intro W X G
  refine PE.imp (pe_not (ha W X G)) fun τ H Q h => ?_
  obtain ⟨ρ, σ, h, R, S, q⟩ := h
  refine ⟨ρ, σ, h, R, S, (O1.bind (R := RelW Γ) q).imp fun x H1 ⟨ρ1, h1, u, l1, R1, r1, q1⟩ => ?_⟩
  split at q1
  · exact ⟨_, relW_bl r1, q1 ρ1 H1 _ .refl R1 (by simp [RelW])⟩
  · exact q1.elim
theorem se_if (ht : ST Γ c k d ft) (ha : SE Γ c k a fa) (hb : SE Γ c k b fb) : SE Γ c k (.IfExp d a b pos) (xIf ft fa fb) := by
  intro W X G
  refine PE.imp (pe_ifExp (ht W X G) (ha W X G) (hb W X G)) fun τ H Q h => ?_
  obtain ⟨ρ, σ, h, R, S, q⟩ := h
  refine ⟨ρ, σ, h, R, S, (O1.bind (R := RB) q).imp fun x H1 ⟨ρ1, h1, u, l1, R1, r1, q1⟩ => ?_⟩
  have r1 : u = x := r1
  subst r1
  cases u with
  | true => exact iteT ⟨ρ1, σ, h1, R1, S.mono l1, q1⟩
  | false => exact iteF ⟨ρ1, σ, h1, R1, S.mono l1, q1⟩
theorem se_chain {op op' : CmpOp} {g g' : W → W → Hm → Pr} (ho : OpS Γ c k (compareOp op) g) (ho' : OpS Γ c k (compareOp op') g') (ha : SE Γ c k a fa) (hb : SE Γ c k b fb) (hd : SE Γ c k d fc)
    (h2 : behindInMarks op' d = false := by rfl) : SE Γ c k (.Compare a [op, op'] [b, d] pos) (xChain g g' fa fb fc) := by
  intro W X G
  refine PE.imp (pe_chain (ho W X G) (ho' W X G) (ha W X G) (hb W X G) (hd W X G) (hm := h2)) fun τ H Q h => ?_
  obtain ⟨ρ, σ, h, R, S, q⟩ := h
  refine ⟨ρ, σ, h, R, S, (O1.bind (R := RelW Γ) q).imp fun x H1 ⟨ρ1, h1, u, l1, R1, r1, q1⟩ => ?_⟩
  refine ⟨ρ1, σ, h1, R1, S.mono l1, (O1.bind (R := RelW Γ) q1).imp fun y H2 ⟨ρ2, h2, w, l2, R2, r2, q2⟩ => ?_⟩
  obtain ⟨u', h', e, q3⟩ := (O1.bind (R := RelW Γ) q2).ofO
  refine ⟨ρ2, h2, u, w, u', h', R2, RelW.mono l2 _ _ r1, r2, e, fun ρ3 H3 v l3 R3 r3 => ?_⟩
  obtain ⟨ρ4, h4, z, l4, R4, r4, q4⟩ := q3 ρ3 H3 v l3 R3 r3
  split at q4
  · refine ⟨true, relW_bl r4, iteT ⟨ρ4, σ, h4, R4, ((S.mono l1).mono l2).mono l4, (O1.bind (R := RelW Γ) q4).imp fun v5 H5 ⟨ρ5, h5, w5, l5, R5, r5, q5⟩ => ?_⟩⟩
    obtain ⟨u6, h6, e6, q6⟩ := q5.ofO
    exact ⟨ρ5, h5, w, w5, u6, h6, R5, RelW.mono (l4.trans l5) _ _ r2, r5, e6, q6⟩
  · exact ⟨false, relW_bl r4, iteF (q4 ρ4 H3 _ .refl R4 (by simp [RelW]))⟩
  · exact q4.elim
theorem st_chain {op op' : CmpOp} {g g' : W → W → Hm → Pr} (ho : OpS Γ c k (compareOp op) g) (ho' : OpS Γ c k (compareOp op') g') (ha : SE Γ c k a fa) (hb : SE Γ c k b fb) (hd : SE Γ c k d fc)
    (h2 : behindInMarks op' d = false := by rfl) : ST Γ c k (.Compare a [op, op'] [b, d] pos) (xB (xChain g g' fa fb fc)) := by
  intro W X G
  refine PT.imp (pt_chain (ho W X G) (ho' W X G) (ha W X G) (hb W X G) (hd W X G) (hm := h2)) fun τ H Q h => ?_
  obtain ⟨ρ, σ, h, R, S, q⟩ := h
  have q : O1 Γ RB ρ H ((fa σ h).bind fun x h1 => (fb σ h1).bind fun y h2 => (ofO (g x y h2)).bind fun z h3 => (match (generalizing := false) z with
      | .bl true => (fc σ h3).bind fun w h4 => ofO (g' y w h4)
      | .bl false => .ok (.bl false) h3
      | _ => .bad).bind asB) Q (fun cls d H' => W cls d τ H') := by
    unfold xB xChain at q
    simp only [Out.bind_assoc] at q
    exact q
  refine ⟨ρ, σ, h, R, S, (O1.bind (R := RelW Γ) q).imp fun x H1 ⟨ρ1, h1, u, l1, R1, r1, q1⟩ => ?_⟩
  refine ⟨ρ1, σ, h1, R1, S.mono l1, (O1.bind (R := RelW Γ) q1).imp fun y H2 ⟨ρ2, h2, w, l2, R2, r2, q2⟩ => ?_⟩
  obtain ⟨u', h', e, q3⟩ := (O1.bind (R := RelW Γ) q2).ofO
  refine ⟨ρ2, h2, u, w, u', h', R2, RelW.mono l2 _ _ r1, r2, e, fun ρ3 H3 v l3 R3 r3 => ?_⟩
  obtain ⟨ρ4, h4, z, l4, R4, r4, q4⟩ := q3 ρ3 H3 v l3 R3 r3
  split at q4
  · rw [Out.bind_assoc] at q4
    refine ⟨true, relW_bl r4, iteT ⟨ρ4, σ, h4, R4, ((S.mono l1).mono l2).mono l4, (O1.bind (R := RelW Γ) q4).imp fun v5 H5 ⟨ρ5, h5, w5, l5, R5, r5, q5⟩ => ?_⟩⟩
    obtain ⟨u6, h6, e6, q6⟩ := (O1.bind (R := RelW Γ) q5).ofO
    refine ⟨ρ5, h5, w, w5, u6, h6, R5, RelW.mono (l4.trans l5) _ _ r2, r5, e6, fun ρ7 H7 v7 l7 R7 r7 => ?_⟩
    obtain ⟨ρ8, h8, z8, l8, R8, r8, q8⟩ := q6 ρ7 H7 v7 l7 R7 r7
    obtain ⟨bb, e1, _, q9⟩ := asB_o R8 r8 q8
    exact ⟨bb, e1, q9⟩
  · exact ⟨false, relW_bl r4, iteF ⟨false, rfl, q4 ρ4 H3 _ .refl R4 rfl⟩⟩
  · exact q4.elim
theorem sa_nil : SA Γ c k [] xNil := by
  intro W X G
  refine PA.imp pa_nil fun τ H Q h => ?_
  obtain ⟨ρ, σ, h, R, S, q⟩ := h
  exact q ρ H _ .refl R (by simp [RelWs])
theorem sa_cons (ha : SE Γ c k e fa) (hr : SA Γ c k es fr) (hs : ∀ env, starEach (e :: es) env = (false, eval e env) :: starEach es env := by intros; rfl) : SA Γ c k (e :: es) (xCons fa fr) := by
  intro W X G
  refine PA.imp (pa_cons (ha W X G) (hr W X G) (hs X.env)) fun τ H Q h => ?_
  obtain ⟨ρ, σ, h, R, S, q⟩ := h
  refine ⟨ρ, σ, h, R, S, (O1.bind (R := RelW Γ) q).imp fun x H1 ⟨ρ1, h1, u, l1, R1, r1, q1⟩ => ?_⟩
  refine ⟨ρ1, σ, h1, R1, S.mono l1, (O1.bind (R := RelWs Γ) q1).imp fun y H2 ⟨ρ2, h2, w, l2, R2, r2, q2⟩ => ?_⟩
  exact q2 ρ2 H2 _ .refl R2 (RelWs.cons (RelW.mono l2 _ _ r1) r2)
theorem se_tup {x1} (ha : SA Γ c k es fr) : SE Γ c k (.Tuple es x1 pos) (xTup fr) := by
  intro W X G
  refine PE.imp (pe_tup (ha W X G)) fun τ H Q h => ?_
  obtain ⟨ρ, σ, h, R, S, q⟩ := h
  refine ⟨ρ, σ, h, R, S, (O1.bind (R := RelWs Γ) q).imp fun x H1 ⟨ρ1, h1, u, l1, R1, r1, q1⟩ => ?_⟩
  split at q1
  · rename_i hl
    refine ⟨by rw [sizeLine_eq, ← r1.length]; exact hl, fun p hp => ?_⟩
    have l := Le.laid (Γ := Γ) (ρ := ρ1) (o := .tup x) hp []
    rw [List.append_nil] at l
    refine q1 ρ1 _ _ l (R1.other hp) ?_
    unfold RelW
    exact ⟨p, x, rfl, SqT.of upd_same, RelWs.mono l _ _ r1⟩
  · exact q1.elim
theorem se_lst (ha : SA Γ c k es fr) : SE Γ c k (.List es pos) (xLst fr) := by
  intro W X G
  refine PE.imp (pe_lst (ha W X G)) fun τ H Q h => ?_
  obtain ⟨ρ, σ, h, R, S, q⟩ := h
  refine ⟨ρ, σ, h, R, S, (O1.bind (R := RelWs Γ) q).imp fun x H1 ⟨ρ1, h1, u, l1, R1, r1, q1⟩ => ?_⟩
  split at q1
  · rename_i hl
    refine ⟨by rw [sizeLine_eq, ← r1.length]; exact hl, fun p hp => ?_⟩
    have l := Le.laid (Γ := Γ) (ρ := ρ1) (o := .lst x) hp [p]
    refine q1 _ _ _ l (R1.alloc hp ⟨x, upd_same, RelWs.mono l _ _ r1⟩) ?_
    unfold RelW
    exact ⟨p, by rw [← R1.len]; simp, rfl⟩
  · exact q1.elim
end
end Z

namespace Z
open PySem PySem.Spec PyProof.Rows L2

def S1 (Γ : Gam) (ρ : List Addr) (H : Hp) (o : SOut) (D : Ends) (W : WX) : Prop :=
  match o with
  | .nx σ' h' => ∀ ρ' H' τ', Le Γ ρ ρ' H H' → Rel Γ ρ' h' H' → RelS Γ ρ' H' σ' τ' → D.nx τ' H'
  | .ct σ' h' => ∀ ρ' H' τ', Le Γ ρ ρ' H H' → Rel Γ ρ' h' H' → RelS Γ ρ' H' σ' τ' → D.ct τ' H'
  | .bk σ' h' => ∀ ρ' H' τ', Le Γ ρ ρ' H H' → Rel Γ ρ' h' H' → RelS Γ ρ' H' σ' τ' → D.bk τ' H'
  | .rt w h' => ∀ ρ' H' v, Le Γ ρ ρ' H H' → Rel Γ ρ' h' H' → RelW Γ ρ' H' w v → D.rt v H'
  | .err x σ' h' => ∀ ρ' H' τ' cls d, Le Γ ρ ρ' H H' → Rel Γ ρ' h' H' → RelS Γ ρ' H' σ' τ' → ExnR Γ H' x cls d → W cls d τ' H'
  | .bad => False
def sI (Γ : Gam) (W : WX) (f : XS) : TS := fun D τ H => ∃ ρ σ h, Rel Γ ρ h H ∧ RelS Γ ρ H σ τ ∧ S1 Γ ρ H (f σ h) D W
def SS (Γ : Gam) (c : Cfg) (k : Nat) (st : Stmt) (f : XS) : Prop := ∀ W X, Good Γ c k W X → PS X st (sI Γ W f)
def SL (Γ : Gam) (c : Cfg) (k : Nat) (sts : List Stmt) (f : XS) : Prop := ∀ W X, Good Γ c k W X → PSs X sts (sI Γ W f)
theorem PS.imp {X : Cx} {st : Stmt} {t t' : TS} (h : PS X st t) (i : ∀ D σ H, t' D σ H → t D σ H) : PS X st t' := ⟨fun pins s σ H D I q => h.run pins s σ H D I (i _ _ _ q)⟩
theorem PSs.imp {X : Cx} {st : List Stmt} {t t' : TS} (h : PSs X st t) (i : ∀ D σ H, t' D σ H → t D σ H) : PSs X st t' := ⟨fun pins s σ H D I q => h.run pins s σ H D I (i _ _ _ q)⟩

def fuel : Nat := 1000000000
def sOf {α : Type} (o : Out α) (σ : Sg) (f : α → Hm → SOut) : SOut :=
  match o with
  | .ok a h => f a h
  | .err x h => .err x σ h
  | .bad => .bad
def sSkip : XS := fun σ h => .nx σ h
def sSeq (a b : XS) : XS := fun σ h => match a σ h with
  | .nx σ' h' => b σ' h'
  | o => o
def sSet (i : Nat) (e : XE) : XS := fun σ h => sOf (e σ h) σ fun w h1 => .nx (σ.set i (some w)) h1
def sRet (e : XE) : XS := fun σ h => sOf (e σ h) σ fun w h1 => .rt w h1
def sRetN : XS := fun _ h => .rt .non h
def sIf (t : XT) (a b : XS) : XS := fun σ h => sOf (t σ h) σ fun c h1 => if c then a σ h1 else b σ h1
def sExpr (e : XE) : XS := fun σ h => sOf (e σ h) σ fun _ h1 => .nx σ h1
def sBreak : XS := fun σ h => .bk σ h
def sCont : XS := fun σ h => .ct σ h
def sNever : XS := fun _ _ => .bad
def sOp (p : Pr) (f : W → Hm → SOut) : SOut := match p with
  | some (w, h) => f w h
  | none => .bad
def sAug (i : Nat) (g : W → W → Hm → Pr) (e : XE) : XS := fun σ h => match σ[i]? with
  | some (some x) => sOf (e σ h) σ fun y h1 => sOp (g x y h1) fun z h2 => .nx (σ.set i (some z)) h2
  | _ => .bad
/-- o[i] = e : the value first -/
def sSub (o i e : XE) (g : W → W → W → Hm → Option Hm) : XS := fun σ h => sOf (e σ h) σ fun v h1 => sOf (o σ h1) σ fun x h2 => sOf (i σ h2) σ fun y h3 => match g x y v h3 with
  | some h4 => .nx σ h4
  | none => .bad
/-- targets that touch slots alone -/
abbrev XG := W → Sg → Hm → Option Sg
abbrev XGs := List W → Sg → Hm → Option Sg
def gN (i : Nat) : XG := fun w σ _ => some (σ.set i (some w))
def gT (g : XGs) : XG := fun w σ h => match w with
  | .tup xs => g xs σ h
  | .ref r => match h[r]? with
    | some (.lst xs) => g xs σ h
    | _ => none
  | _ => none
def gsNil : XGs := fun ws σ _ => match ws with
  | [] => some σ
  | _ => none
def gsCons (g : XG) (r : XGs) : XGs := fun ws σ h => match ws with
  | w :: ws => match g w σ h with
    | some σ' => r ws σ' h
    | none => none
  | [] => none
def sAsg (g : XG) (e : XE) : XS := fun σ h => sOf (e σ h) σ fun w h1 => match g w σ h1 with
  | some σ' => .nx σ' h1
  | none => .bad
def sTurn (o : SOut) (next : Sg → Hm → SOut) : SOut := match o with
  | .nx σ h => next σ h
  | .ct σ h => next σ h
  | .bk σ h => .nx σ h
  | o => o
def sWhile (t : XT) (b : XS) : Nat → XS
  | 0 => fun _ _ => .bad
  | n + 1 => fun σ h => sOf (t σ h) σ fun c h1 => if c then sTurn (b σ h1) (sWhile t b n) else .nx σ h1
abbrev Itr := Nat → Hm → Option (Option W)
abbrev XI := Sg → Hm → Out Itr
def sForL (it : Itr) (g : XG) (b : XS) : Nat → Nat → XS
  | 0, _ => fun _ _ => .bad
  | n + 1, i => fun σ h => match it i h with
    | none => .bad
    | some none => .nx σ h
    | some (some w) => match g w σ h with
      | none => .bad
      | some σ1 => sTurn (b σ1 h) (sForL it g b n (i + 1))
def sFor (fi : XI) (g : XG) (b : XS) : XS := fun σ h => sOf (fi σ h) σ fun it h1 => sForL it g b fuel 0 σ h1

section
variable {Γ : Gam} {ρ ρ' : List Addr} {H H' : Hp} {α β : Type} {R : List Addr → Hp → α → β → Prop}
theorem S1.mono {o : SOut} {D : Ends} {W : WX} (l : Le Γ ρ ρ' H H') (x : S1 Γ ρ H o D W) : S1 Γ ρ' H' o D W := by
  cases o with
  | nx σ h => exact fun ρ2 H2 b l2 r q => x ρ2 H2 b (l.trans l2) r q
  | ct σ h => exact fun ρ2 H2 b l2 r q => x ρ2 H2 b (l.trans l2) r q
  | bk σ h => exact fun ρ2 H2 b l2 r q => x ρ2 H2 b (l.trans l2) r q
  | rt σ h => exact fun ρ2 H2 b l2 r q => x ρ2 H2 b (l.trans l2) r q
  | err a σ h => exact fun ρ2 H2 t c d l2 r s q => x ρ2 H2 t c d (l.trans l2) r s q
  | bad => exact x
theorem S1.of {o : Out α} {f : α → Hm → SOut} {σ : Sg} {τ : L2.St} {D : Ends} {W : WX} (S : RelS Γ ρ H σ τ) (x : S1 Γ ρ H (sOf o σ f) D W) :
    O1 Γ R ρ H o (fun v H1 => ∃ ρ1 h1 a, Le Γ ρ ρ1 H H1 ∧ Rel Γ ρ1 h1 H1 ∧ R ρ1 H1 a v ∧ S1 Γ ρ1 H1 (f a h1) D W) (fun cls d H' => W cls d τ H') := by
  cases o with
  | ok a h => exact fun ρ2 H2 b l2 r q => ⟨ρ2, h, a, l2, r, q, S1.mono l2 x⟩
  | err a h => exact fun ρ2 H2 c d l2 r q => x ρ2 H2 τ c d l2 r (S.mono l2) q
  | bad => exact x
theorem S1.op {p : Pr} {f : W → Hm → SOut} {D : Ends} {W : WX} (x : S1 Γ ρ H (sOp p f) D W) : ∃ w h, p = some (w, h) ∧ S1 Γ ρ H (f w h) D W := by
  cases p with
  | none => exact x.elim
  | some y => exact ⟨y.1, y.2, rfl, x⟩
end

section
variable {Γ : Gam} {c : Cfg} {k : Nat} {a b e d o i : Expr} {es : List Expr} {fa fb fc : XE} {ft fu : XT} {st : Stmt} {sts body : List Stmt} {f g : XS} {pos p : Pos}
theorem sl_nil : SL Γ c k [] sSkip := by
  intro W X G
  refine PSs.imp pss_nil fun D τ H h => ?_
  obtain ⟨ρ, σ, h, R, S, q⟩ := h
  exact q ρ H τ .refl R S
theorem sl_cons (h1 : SS Γ c k st f) (h2 : SL Γ c k sts g) : SL Γ c k (st :: sts) (sSeq f g) := by
  intro W X G
  refine PSs.imp (pss_cons (h1 W X G) (h2 W X G)) fun D τ H h => ?_
  obtain ⟨ρ, σ, h, R, S, q⟩ := h
  refine ⟨ρ, σ, h, R, S, ?_⟩
  unfold sSeq at q
  cases e : f σ h with
  | nx σ' h' =>
    rw [e] at q
    exact fun ρ' H' τ' l R' S' => ⟨ρ', σ', h', R', S', S1.mono l q⟩
  | _ => rw [e] at q; exact q
theorem sl_one (h1 : SS Γ c k st f) : SL Γ c k [st] f := fun W X G => pss_one (h1 W X G)
theorem ss_pass : SS Γ c k (.Pass pos) sSkip := by
  intro W X G
  refine PS.imp ps_pass fun D τ H h => ?_
  obtain ⟨ρ, σ, h, R, S, q⟩ := h
  exact q ρ H τ .refl R S
theorem ss_break : SS Γ c k (.Break pos) sBreak := by
  intro W X G
  refine PS.imp ps_break fun D τ H h => ?_
  obtain ⟨ρ, σ, h, R, S, q⟩ := h
  exact q ρ H τ .refl R S
theorem ss_cont : SS Γ c k (.Continue pos) sCont := by
  intro W X G
  refine PS.imp ps_continue fun D τ H h => ?_
  obtain ⟨ρ, σ, h, R, S, q⟩ := h
  exact q ρ H τ .refl R S
theorem ss_never : SS Γ c k st sNever := by
  intro W X G
  refine PS.imp ps_never fun D τ H h => ?_
  obtain ⟨ρ, σ, h, R, S, q⟩ := h
  exact q
theorem ss_expr (he : SE Γ c k e fa) (hs : ∀ env, swapsWith e none pos.line env = pure false := by intros; rfl) : SS Γ c k (.Expr e pos) (sExpr fa) := by
  intro W X G
  refine PS.imp (ps_expr (he W X G) (hs X.env)) fun D τ H h => ?_
  obtain ⟨ρ, σ, h, R, S, q⟩ := h
  refine ⟨ρ, σ, h, R, S, (S1.of (R := RelW Γ) S q).imp fun x H1 ⟨ρ1, h1, u, l1, R1, r1, q1⟩ => ?_⟩
  exact q1 ρ1 H1 τ .refl R1 (S.mono l1)
theorem ss_ret (he : SE Γ c k e fa) : SS Γ c k (.Return (some e) pos) (sRet fa) := by
  intro W X G
  refine PS.imp (ps_ret (he W X G)) fun D τ H h => ?_
  obtain ⟨ρ, σ, h, R, S, q⟩ := h
  refine ⟨ρ, σ, h, R, S, (S1.of (R := RelW Γ) S q).imp fun x H1 ⟨ρ1, h1, u, l1, R1, r1, q1⟩ => ?_⟩
  exact q1 ρ1 H1 x .refl R1 r1
theorem ss_retN : SS Γ c k (.Return none pos) sRetN := by
  intro W X G
  refine PS.imp ps_retN fun D τ H h => ?_
  obtain ⟨ρ, σ, h, R, S, q⟩ := h
  exact q ρ H .non .refl R (by simp [RelW])
theorem ss_if (hc : ST Γ c k e ft) (ha : SL Γ c k sts f) (hb : SL Γ c k body g) : SS Γ c k (.If e sts body pos) (sIf ft f g) := by
  intro W X G
  refine PS.imp (ps_if (hc W X G) (ha W X G) (hb W X G)) fun D τ H h => ?_
  obtain ⟨ρ, σ, h, R, S, q⟩ := h
  refine ⟨ρ, σ, h, R, S, (S1.of (R := RB) S q).imp fun x H1 ⟨ρ1, h1, u, l1, R1, r1, q1⟩ => ?_⟩
  have r1 : u = x := r1
  subst r1
  cases u with
  | true => exact iteT ⟨ρ1, σ, h1, R1, S.mono l1, q1⟩
  | false => exact iteF ⟨ρ1, σ, h1, R1, S.mono l1, q1⟩
theorem Good.loc {W : WX} {X : Cx} (G : Good Γ c k W X) {x : Str} (h : x ∈ c.L) : Loc X.env.scope x ∧ (X.fn x = true ∨ X.env.scope.names.lookup x = some .local) := by
  rw [G.sc]
  rcases G.ok.loc x h with e | ⟨e, q⟩
  · exact ⟨.inl e, .inr e⟩
  · exact ⟨.inr q, .inl (G.fn e x)⟩
theorem ss_set (i j : Nat) {x : Str} {pos' : Pos} (he : SE Γ c k e fa) (hN : c.N[i]? = some x := by rfl) (hL : c.L[j]? = some x := by rfl) (hs : ∀ env, swapsWith e (some (.Name x pos')) pos.line env = pure false := by intros; rfl) :
    SS Γ c k (.Assign [.Name x pos'] e pos) (sSet i fa) := by
  intro W X G
  obtain ⟨h1, h2⟩ := G.loc (List.mem_of_getElem? hL)
  refine PS.imp (ps_set (i := i) G.nd (by rw [G.N]; exact hN) h1 (he W X G) (hs X.env) h2) fun D τ H h => ?_
  obtain ⟨ρ, σ, h, R, S, q⟩ := h
  refine ⟨ρ, σ, h, R, S, (S1.of (R := RelW Γ) S q).imp fun x H1 ⟨ρ1, h1, u, l1, R1, r1, q1⟩ => ?_⟩
  exact q1 ρ1 H1 _ .refl R1 ((S.mono l1).set r1)
/-- a op= b on values -/
def IpS (Γ : Gam) (c : Cfg) (k : Nat) (op : Operator) (g : W → W → Hm → Pr) : Prop := ∀ W X, Good Γ c k W X → PIp X op (r2 Γ g)
theorem ss_aug (i j : Nat) {x : Str} {op : Operator} {g : W → W → Hm → Pr} {pos' : Pos} (ho : IpS Γ c k op g) (he : SE Γ c k e fa) (hN : c.N[i]? = some x := by rfl) (hL : c.L[j]? = some x := by rfl) :
    SS Γ c k (.AugAssign (.Name x pos') op e pos) (sAug i g fa) := by
  intro W X G
  obtain ⟨h1, h2⟩ := G.loc (List.mem_of_getElem? hL)
  refine PS.imp (ps_aug (i := i) G.nd (by rw [G.N]; exact hN) h1 (he W X G) (ho W X G) h2) fun D τ H h => ?_
  obtain ⟨ρ, σ, h, R, S, q⟩ := h
  unfold sAug at q
  split at q
  · rename_i w ew
    obtain ⟨v, ev, rv⟩ := S.2 i w ew
    refine ⟨v, ev, ρ, σ, h, R, S, (S1.of (R := RelW Γ) S q).imp fun y H1 ⟨ρ1, h1, u, l1, R1, r1, q1⟩ => ?_⟩
    obtain ⟨z, h2, e2, q2⟩ := q1.op
    refine ⟨ρ1, h1, w, u, z, h2, R1, RelW.mono l1 _ _ rv, r1, e2, fun ρ3 H3 v3 l3 R3 r3 => ?_⟩
    exact q2 ρ3 H3 _ l3 R3 (((S.mono l1).mono l3).set r3)
  · exact q.elim
/-- o[i] = v on values -/
def rS (Γ : Gam) (g : W → W → W → Hm → Option Hm) : TSet := fun x y v H Q => ∃ ρ h u w z h', Rel Γ ρ h H ∧ RelW Γ ρ H u x ∧ RelW Γ ρ H w y ∧ RelW Γ ρ H z v ∧ g u w z h = some h' ∧ ∀ ρ' H', Le Γ ρ ρ' H H' → Rel Γ ρ' h' H' → Q H'
def StS (Γ : Gam) (c : Cfg) (k : Nat) (g : W → W → W → Hm → Option Hm) : Prop := ∀ W X, Good Γ c k W X → PSet X (rS Γ g)
theorem ss_sub {g : W → W → W → Hm → Option Hm} {pos' : Pos} (hg : StS Γ c k g) (ho : SE Γ c k o fa) (hi : SE Γ c k i fb) (he : SE Γ c k e fc)
    (ha : ∀ env v, assign (.Subscript o i pos') env v = (do
      let ov ← holding [v] (eval o env)
      let iv ← holding [v, ov] (eval i env)
      standAt pos'
      holding [v, ov, iv] (setItem ov iv v)
      release [v, ov, iv] []) := by intros; rfl)
    (hs : ∀ env, swapsWithSole [.Subscript o i pos'] e pos.line env = pure false := by intros; rfl) (hw : ∀ env, swappedStores [.Subscript o i pos'] e env = pure none := by intros; rfl) :
    SS Γ c k (.Assign [.Subscript o i pos'] e pos) (sSub fa fb fc g) := by
  intro W X G
  refine PS.imp (ps_asg (he W X G) (pg_sub (ho W X G) (hi W X G) (hg W X G) (ha X.env)) (hs X.env) (hw X.env)) fun D τ H h => ?_
  obtain ⟨ρ, σ, h, R, S, q⟩ := h
  refine ⟨ρ, σ, h, R, S, (S1.of (R := RelW Γ) S q).imp fun v H1 ⟨ρ1, h1, u, l1, R1, r1, q1⟩ => ?_⟩
  refine ⟨ρ1, σ, h1, R1, S.mono l1, (S1.of (R := RelW Γ) (S.mono l1) q1).imp fun x H2 ⟨ρ2, h2, u2, l2, R2, r2, q2⟩ => ?_⟩
  refine ⟨ρ2, σ, h2, R2, (S.mono l1).mono l2, (S1.of (R := RelW Γ) ((S.mono l1).mono l2) q2).imp fun y H3 ⟨ρ3, h3, u3, l3, R3, r3, q3⟩ => ?_⟩
  split at q3
  · rename_i h4 e4
    refine ⟨ρ3, h3, u2, u3, u, h4, R3, RelW.mono l3 _ _ r2, r3, RelW.mono (l2.trans l3) _ _ r1, e4, fun ρ4 H4 l4 R4 => ?_⟩
    exact q3 ρ4 H4 τ l4 R4 (((S.mono l1).mono l2).mono (l3.trans l4))
  · exact q3.elim

/-! ### targets -/
def gI (Γ : Gam) (g : XG) : TG := fun v τ H Q => ∃ ρ σ h w σ', Rel Γ ρ h H ∧ RelS Γ ρ H σ τ ∧ RelW Γ ρ H w v ∧ g w σ h = some σ' ∧ ∀ τ', RelS Γ ρ H σ' τ' → Q τ' H
def gIs (Γ : Gam) (g : XGs) : TGs := fun v τ H Q => ∃ ρ σ h w σ', Rel Γ ρ h H ∧ RelS Γ ρ H σ τ ∧ RelWs Γ ρ H w v ∧ g w σ h = some σ' ∧ ∀ τ', RelS Γ ρ H σ' τ' → Q τ' H
def SG (Γ : Gam) (c : Cfg) (k : Nat) (e : Expr) (g : XG) : Prop := ∀ W X, Good Γ c k W X → PG X e (gI Γ g)
def SGs (Γ : Gam) (c : Cfg) (k : Nat) (es : List Expr) (g : XGs) : Prop := ∀ W X, Good Γ c k W X → PGs X es (gIs Γ g)
theorem sg_name (i j : Nat) {x : Str} (hN : c.N[i]? = some x := by rfl) (hL : c.L[j]? = some x := by rfl) : SG Γ c k (.Name x pos) (gN i) := by
  intro W X G
  obtain ⟨h1, h2⟩ := G.loc (List.mem_of_getElem? hL)
  refine ⟨fun pins s τ H v u Q I r h => (pg_name (i := i) G.nd (by rw [G.N]; exact hN) h1 h2).run pins s τ H v u Q I r ?_⟩
  obtain ⟨ρ, σ, h, w, σ', R, S, rw', e, q⟩ := h
  cases e
  exact q _ (S.set rw')
theorem sgs_nil : SGs Γ c k [] gsNil := by
  intro W X G
  refine ⟨fun pins s τ H v u Q I r h => pgs_nil.run pins s τ H v u Q I r ?_⟩
  obtain ⟨ρ, σ, h, w, σ', R, S, rw', e, q⟩ := h
  cases w with
  | nil =>
    cases e
    unfold RelWs at rw'
    exact ⟨rw', q _ S⟩
  | cons _ _ => cases e
theorem sgs_cons {g : XG} {r : XGs} (h1 : SG Γ c k e g) (h2 : SGs Γ c k es r) (hs : ∀ env, (assignEach (e :: es) env).map (·.2) = assign e env :: (assignEach es env).map (·.2) := by intros; rfl) : SGs Γ c k (e :: es) (gsCons g r) := by
  intro W X G
  refine ⟨fun pins s τ H v u Q I r h => (pgs_cons (h1 W X G) (h2 W X G) (hs X.env)).run pins s τ H v u Q I r ?_⟩
  obtain ⟨ρ, σ, h, w, σ', R, S, rw', e, q⟩ := h
  cases w with
  | nil => cases e
  | cons w ws =>
    unfold RelWs at rw'
    obtain ⟨y, r', e', q1, q2⟩ := rw'
    unfold gsCons at e
    dsimp only at e
    split at e
    · rename_i σ1 e1
      exact ⟨y, r', e', ρ, σ, h, w, σ1, R, S, q1, e1, fun τ1 S1 => ⟨ρ, σ1, h, ws, σ', R, S1, q2, e, q⟩⟩
    · cases e
theorem gsLen {g : XGs} : True := trivial
theorem sg_tup {n : Nat} {kk : Nat} {g : XGs} (h : SGs Γ c k es g) (hg : ∀ ws σ h, (g ws σ h).isSome = true → ws.length = n) (hc : c.calm = true := by rfl)
    (hn : ∀ env, (assignEach es env).length = n := by intros; rfl) (hst : ∀ env, (assignEach es env).findIdx? (·.1) = none := by intros; rfl) : SG Γ c k (.Tuple es kk pos) (gT g) := by
  intro W X G
  have hC : X.calm = true := G.calm.trans hc
  refine ⟨fun pins s τ H v u Q I r hh => ?_⟩
  obtain ⟨ρ, σ, hm, w, σ', R, S, rw', e, q⟩ := hh
  cases w with
  | tup xs =>
    unfold RelW at rw'
    obtain ⟨a, ys, ev, ht, rr⟩ := rw'
    have e : g xs σ hm = some σ' := e
    refine (pg_tup (n := n) hC (h W X G) (hn X.env) (hst X.env)).run pins s τ H v u Q I r ⟨a, ys, ev, by rw [G.K]; exact ht, ?_, ρ, σ, hm, xs, σ', R, S, rr, e, q⟩
    rw [← rr.length]
    exact hg xs σ hm (by rw [e]; rfl)
  | ref r0 =>
    unfold RelW at rw'
    obtain ⟨a, ea, ev⟩ := rw'
    unfold gT at e
    dsimp only at e
    split at e
    · rename_i xs ex
      obtain ⟨a', ea', ys, hy, rr⟩ := R.obj r0 _ ex
      rw [ea] at ea'
      cases ea'
      refine (pg_lst (n := n) hC (h W X G) (hn X.env) (hst X.env)).run pins s τ H v u Q I r ⟨a, ys, ev, SqL.of hy, ?_, ρ, σ, hm, xs, σ', R, S, rr, e, q⟩
      rw [← rr.length]
      exact hg xs σ hm (by rw [e]; rfl)
    · cases e
  | _ => cases e
theorem gs_len0 : ∀ ws σ h, (gsNil ws σ h).isSome = true → ws.length = 0 := fun ws σ h e => by
  cases ws with
  | nil => rfl
  | cons _ _ => cases e
theorem gs_lenS {g : XG} {r : XGs} {n : Nat} (h : ∀ ws σ h, (r ws σ h).isSome = true → ws.length = n) : ∀ ws σ h, (gsCons g r ws σ h).isSome = true → ws.length = n + 1 := fun ws σ hm e => by
  cases ws with
  | nil => cases e
  | cons w ws =>
    unfold gsCons at e
    dsimp only at e
    split at e
    · rw [List.length_cons, h _ _ _ e]
    · cases e
theorem ss_asg {t : Expr} {g : XG} (he : SE Γ c k e fa) (hg : SG Γ c k t g) (hs : ∀ env, swapsWithSole [t] e pos.line env = pure false := by intros; rfl) (hw : ∀ env, swappedStores [t] e env = pure none := by intros; rfl)
    (h1 : ∀ env, (assignEach [t] env).map (·.2) = [assign t env] := by intros; rfl) : SS Γ c k (.Assign [t] e pos) (sAsg g fa) := by
  intro W X G
  refine PS.imp (ps_asg (he W X G) (hg W X G) (hs X.env) (hw X.env) (h1 X.env)) fun D τ H h => ?_
  obtain ⟨ρ, σ, h, R, S, q⟩ := h
  refine ⟨ρ, σ, h, R, S, (S1.of (R := RelW Γ) S q).imp fun v H1 ⟨ρ1, h1, u, l1, R1, r1, q1⟩ => ?_⟩
  split at q1
  · rename_i σ2 e2
    exact ⟨ρ1, σ, h1, u, σ2, R1, S.mono l1, r1, e2, fun τ' S' => q1 ρ1 H1 τ' .refl R1 S'⟩
  · exact q1.elim

/-! ### loops -/
theorem S1.turn {ρ : List Addr} {H : Hp} {o : SOut} {next : Sg → Hm → SOut} {D : Ends} {W : WX} {N : L2.St → Hp → Prop} (x : S1 Γ ρ H (sTurn o next) D W)
    (hN : ∀ ρ' H' τ' σ' h', Rel Γ ρ' h' H' → RelS Γ ρ' H' σ' τ' → S1 Γ ρ' H' (next σ' h') D W → N τ' H') : S1 Γ ρ H o { D with nx := N, ct := N, bk := D.nx } W := by
  cases o with
  | nx σ h => exact fun ρ' H' τ' l R S => hN ρ' H' τ' σ h R S (S1.mono l x)
  | ct σ h => exact fun ρ' H' τ' l R S => hN ρ' H' τ' σ h R S (S1.mono l x)
  | _ => exact x
theorem ss_while {n : Nat} (hc : ST Γ c k e ft) (hb : SL Γ c k body f) : SS Γ c k (.While e body [] pos) (sWhile ft f n) := by
  intro W X G
  refine PS.imp (ps_while G.pass (hc W X G) (hb W X G)) fun D τ H h => ?_
  obtain ⟨ρ, σ, h, R, S, q⟩ := h
  refine ⟨fun m τ H => ∃ ρ σ h, Rel Γ ρ h H ∧ RelS Γ ρ H σ τ ∧ S1 Γ ρ H (sWhile ft f m σ h) D W, ⟨n, ρ, σ, h, R, S, q⟩, ?_⟩
  rintro m τ H ⟨ρ, σ, h, R, S, q⟩
  cases m with
  | zero => exact q.elim
  | succ m =>
    refine ⟨ρ, σ, h, R, S, (S1.of (R := RB) S q).imp fun x H1 ⟨ρ1, h1, u, l1, R1, r1, q1⟩ => ?_⟩
    have r1 : u = x := r1
    subst r1
    cases u with
    | true =>
      refine iteT ⟨fun τ H => ∃ ρ σ h, Rel Γ ρ h H ∧ RelS Γ ρ H σ τ ∧ S1 Γ ρ H (sWhile ft f m σ h) D W, fun τ' H' hh => ⟨m, Nat.lt_succ_self _, hh⟩, ρ1, σ, h1, R1, S.mono l1, ?_⟩
      exact S1.turn q1 fun ρ' H' τ' σ' h' R' S' x => ⟨ρ', σ', h', R', S', x⟩
    | false => exact iteF (q1 ρ1 H1 τ .refl R1 (S.mono l1))
/-- an iterator of ours and one of the layer -/
def ItR (Γ : Gam) (ρ0 : List Addr) (H0 : Hp) (it : Itr) (J : It) : Prop :=
  ∀ (i : Nat) (ρ : List Addr) (h : Hm) (H : Hp), Le Γ ρ0 ρ H0 H → Rel Γ ρ h H →
    (it i h = some none → J.stop i H) ∧ ∀ w, it i h = some (some w) → J.go i H ∧ ∀ x H', J.yld i H x H' → Le Γ ρ ρ H H' ∧ Rel Γ ρ h H' ∧ RelW Γ ρ H' w x
def iI (Γ : Gam) (W : WX) (f : XI) : TI := fun τ H Q => ∃ ρ σ h, Rel Γ ρ h H ∧ RelS Γ ρ H σ τ ∧ O1 Γ (ItR Γ) ρ H (f σ h) Q (fun cls d H' => W cls d τ H')
def SI (Γ : Gam) (c : Cfg) (k : Nat) (tg e : Expr) (f : XI) : Prop := ∀ W X, Good Γ c k W X → PI X tg e (iI Γ W f)
theorem PI.imp {X : Cx} {tg e : Expr} {t t' : TI} (h : PI X tg e t) (i : ∀ σ H Q, t' σ H Q → t σ H Q) : PI X tg e t' := ⟨fun pins s σ H Q I q => h.run pins s σ H Q I (i _ _ _ q)⟩
theorem ss_for {t : Expr} {fi : XI} {gg : XG} (hi : SI Γ c k t e fi) (hg : SG Γ c k t gg) (hb : SL Γ c k body f) (hs : ∀ env x, foldedSetIterable e env x = pure x := by intros; rfl) (hc : c.calm = true := by rfl) :
    SS Γ c k (.For t e body [] pos) (sFor fi gg f) := by
  intro W X G
  refine PS.imp (ps_for G.pass (G.calm.trans hc) (hi W X G) (hg W X G) (hb W X G) (hs X.env)) fun D τ H h => ?_
  obtain ⟨ρ, σ, h, R, S, q⟩ := h
  refine ⟨ρ, σ, h, R, S, (S1.of (R := ItR Γ) S q).imp fun J H1 ⟨ρ1, h1, it, l1, R1, r1, q1⟩ => ?_⟩
  refine ⟨fun i m τ H => ∃ ρ σ h, Le Γ ρ1 ρ H1 H ∧ Rel Γ ρ h H ∧ RelS Γ ρ H σ τ ∧ S1 Γ ρ H (sForL it gg f m i σ h) D W, ⟨fuel, ρ1, σ, h1, .refl, R1, S.mono l1, q1⟩, ?_⟩
  rintro i m τ H ⟨ρ, σ, h, l, R, S, q⟩
  cases m with
  | zero => exact q.elim
  | succ m =>
    obtain ⟨s1, s2⟩ := r1 i ρ h H l R
    unfold sForL at q
    split at q
    · exact q.elim
    · rename_i e1
      exact .inl ⟨s1 e1, q ρ H τ .refl R S⟩
    · rename_i w e1
      obtain ⟨go, yl⟩ := s2 w e1
      split at q
      · exact q.elim
      · rename_i σ1 e2
        refine .inr ⟨go, fun τ H => ∃ ρ σ h, Le Γ ρ1 ρ H1 H ∧ Rel Γ ρ h H ∧ RelS Γ ρ H σ τ ∧ S1 Γ ρ H (sForL it gg f m (i + 1) σ h) D W, fun τ' H' hh => ⟨m, Nat.lt_succ_self _, hh⟩, fun x H' y => ?_⟩
        obtain ⟨l2, R2, rw'⟩ := yl x H' y
        refine ⟨ρ, σ, h, w, σ1, R2, S.mono l2, rw', e2, fun τ' S' => ?_⟩
        refine ⟨ρ, σ1, h, R2, S', ?_⟩
        have q := S1.mono l2 q
        -- the turn, with the iterator's base kept
        have key : S1 Γ ρ H' (f σ1 h) { D with nx := fun τ H => ∃ ρ σ h, Le Γ ρ1 ρ H1 H ∧ Rel Γ ρ h H ∧ RelS Γ ρ H σ τ ∧ S1 Γ ρ H (sForL it gg f m (i + 1) σ h) D W, ct := fun τ H => ∃ ρ σ h, Le Γ ρ1 ρ H1 H ∧ Rel Γ ρ h H ∧ RelS Γ ρ H σ τ ∧ S1 Γ ρ H (sForL it gg f m (i + 1) σ h) D W, bk := D.nx } W := by
          cases e3 : f σ1 h with
          | nx σ' h' =>
            rw [e3] at q
            exact fun ρ' H2 τ' l3 R3 S3 => ⟨ρ', σ', h', (l.trans l2).trans l3, R3, S3, S1.mono l3 q⟩
          | ct σ' h' =>
            rw [e3] at q
            exact fun ρ' H2 τ' l3 R3 S3 => ⟨ρ', σ', h', (l.trans l2).trans l3, R3, S3, S1.mono l3 q⟩
          | _ => rw [e3] at q; exact q
        exact key
end
end Z

namespace Z
open PySem PySem.Spec PyProof.Rows L2

/-! ### what values are as data -/
def den (h : Hm) : Nat → W → Option PyData
  | _, .non => some .none
  | _, .bl b => some (.bool b)
  | _, .int i => some (.int i)
  | _, .str x => some (.str x)
  | n + 1, .tup xs => (xs.mapM (den h n)).map .tuple
  | n + 1, .ref r => match h[r]? with
    | some (.lst xs) => (xs.mapM (den h n)).map .list
    | some (.frz xs) => (xs.mapM (den h n)).map .list
    | _ => none
  | _, _ => none
def scalW : W → W → Bool
  | .non, .non => true | .non, .int _ => true | .int _, .non => true | .non, .bl _ => true | .bl _, .non => true | .non, .str _ => true | .str _, .non => true
  | .int _, .int _ => true | .bl _, .bl _ => true | .str _, .str _ => true
  | .int _, .str _ => true | .str _, .int _ => true | .bl _, .str _ => true | .str _, .bl _ => true
  | _, _ => false
def scalEq : W → W → Bool
  | .non, .non => true
  | .int i, .int j => decide (i = j)
  | .bl i, .bl j => decide (i = j)
  | .str i, .str j => decide (i = j)
  | _, _ => false
def eqB (a b : W) (h : Hm) : Option Bool :=
  if scalW a b then some (scalEq a b) else
    match den h 12 a, den h 12 b with
    | some d, some e => if SeqAt.shaped d && SeqAt.shaped e then some (PyData.eqv d e) else none
    | _, _ => none
def eqW (a b : W) (h : Hm) : Pr := (eqB a b h).map fun b => (.bl b, h)
def neW (a b : W) (h : Hm) : Pr := (eqB a b h).map fun b => (.bl !b, h)
def mulOk (i j : Int) : Bool := decide (-(2 ^ 64) < i ∧ i < 2 ^ 64) || decide (-(2 ^ 64) < j ∧ j < 2 ^ 64) || decide ((Builtin.Int.intBits i : Int) + (Builtin.Int.intBits j : Int) ≤ 134217728)
def addW : W → W → Hm → Pr
  | .int i, .int j, h => some (.int (i + j), h)
  | .str x, .str y, h => if x.length + y.length ≤ 16777216 then some (.str (x ++ y), h) else none
  | .ref a, .ref b, h => match h[a]?, h[b]? with
    | some (.lst xs), some (.lst ys) => if xs.length + ys.length ≤ 16777216 then some (.ref h.length, h ++ [.lst (xs ++ ys)]) else none
    | _, _ => none
  | .tup xs, .tup ys, h => if xs.length + ys.length ≤ 16777216 then some (.tup (xs ++ ys), h) else none
  | _, _, _ => none
def subW : W → W → Hm → Pr
  | .int i, .int j, h => some (.int (i - j), h)
  | _, _, _ => none
def mulW : W → W → Hm → Pr
  | .int i, .int j, h => if mulOk i j then some (.int (i * j), h) else none
  | .ref a, .int k, h => match h[a]? with
    | some (.lst xs) => if -(2 ^ 63) ≤ k ∧ k < 2 ^ 63 ∧ xs.length * k.toNat ≤ 16777216 then some (.ref h.length, h ++ [.lst (List.replicate k.toNat xs).flatten]) else none
    | _ => none
  | .str x, .int k, h => if -(2 ^ 63) ≤ k ∧ k ≤ 16777216 ∧ x.length * k.toNat ≤ 16777216 then some (.str (Txt.mul x k), h) else none
  | _, _, _ => none
def fdivW : W → W → Hm → Pr
  | .int i, .int j, h => if 0 < j ∧ j.natAbs.log2 < 9000 then some (.int (i / j), h) else none
  | _, _, _ => none
def modW : W → W → Hm → Pr
  | .int i, .int j, h => if 0 < j then some (.int (i % j), h) else none
  | _, _, _ => none
def powW : W → W → Hm → Pr
  | .int i, .int j, h => if 0 ≤ j ∧ j ≤ 1000000 ∧ i.natAbs < 2 ^ 64 then some (.int (i ^ j.toNat), h) else none
  | _, _, _ => none
def shlW : W → W → Hm → Pr
  | .int i, .int j, h => if 0 ≤ j ∧ (Builtin.Int.intBits i : Int) + j ≤ 2 ^ 27 then some (.int (i * 2 ^ j.toNat), h) else none
  | _, _, _ => none
def shrW : W → W → Hm → Pr
  | .int i, .int j, h => if 0 ≤ j then some (.int (i / 2 ^ j.toNat), h) else none
  | _, _, _ => none
def andW : W → W → Hm → Pr
  | .int i, .int j, h => some (.int (Builtin.bitAnd i j), h)
  | _, _, _ => none
def orW : W → W → Hm → Pr
  | .int i, .int j, h => some (.int (Builtin.bitOr i j), h)
  | _, _, _ => none
def xorW : W → W → Hm → Pr
  | .int i, .int j, h => some (.int (Builtin.bitXor i j), h)
  | _, _, _ => none
def negW : W → Hm → Pr
  | .int i, h => some (.int (-i), h)
  | _, _ => none
def ltW : W → W → Hm → Pr
  | .int i, .int j, h => some (.bl (decide (i < j)), h)
  | .str x, .str y, h => some (.bl (decide (x.cps.toList < y.cps.toList)), h)
  | _, _, _ => none
def leW : W → W → Hm → Pr
  | .int i, .int j, h => some (.bl (decide (i ≤ j)), h)
  | .str x, .str y, h => some (.bl (!decide (y.cps.toList < x.cps.toList)), h)
  | _, _, _ => none
def gtW : W → W → Hm → Pr
  | .int i, .int j, h => some (.bl (decide (j < i)), h)
  | .str x, .str y, h => some (.bl (decide (y.cps.toList < x.cps.toList)), h)
  | _, _, _ => none
def geW : W → W → Hm → Pr
  | .int i, .int j, h => some (.bl (decide (j ≤ i)), h)
  | .str x, .str y, h => some (.bl (!decide (x.cps.toList < y.cps.toList)), h)
  | _, _, _ => none
def isNonW : W → Bool
  | .non => true
  | _ => false
def isW : W → W → Hm → Pr
  | x, .non, h => some (.bl (isNonW x), h)
  | .bl a, .bl b, h => some (.bl (decide (a = b)), h)
  | _, _, _ => none
def isnW : W → W → Hm → Pr
  | x, .non, h => some (.bl (!isNonW x), h)
  | .bl a, .bl b, h => some (.bl (!decide (a = b)), h)
  | _, _, _ => none
def flatW : W → Bool
  | .non => true
  | .bl _ => true
  | .int _ => true
  | .str _ => true
  | _ => false
def toV : W → V
  | .non => .non
  | .bl b => .bl b
  | .int i => .int i
  | .str x => .str x
  | _ => .non
def inB (x : W) (xs : List W) : Option Bool := if flatW x && xs.all flatW then some (inV (toV x) (xs.map toV)) else none
/-- in: a list or tuple of flat items, a text in a text -/
def inC (x y : W) (h : Hm) : Option Bool := match y with
  | .tup xs => inB x xs
  | .ref r => match h[r]? with
    | some (.lst xs) => inB x xs
    | some (.frz xs) => inB x xs
    | _ => none
  | .str z => match x with
    | .str i => some (!(Builtin.Str.occurrences z i 0 z.length 1).isEmpty)
    | _ => none
  | _ => none
def inW (x y : W) (h : Hm) : Pr := (inC x y h).map fun b => (.bl b, h)
def ninW (x y : W) (h : Hm) : Pr := (inC x y h).map fun b => (.bl !b, h)

section
variable {Γ : Gam} {c : Cfg} {k : Nat} {ρ : List Addr} {H : Hp}
theorem rwI {i : Int} {v : V} (r : RelW Γ ρ H (.int i) v) : v = .int i := by unfold RelW at r; exact r
theorem rwS {i : Str} {v : V} (r : RelW Γ ρ H (.str i) v) : v = .str i := by unfold RelW at r; exact r
theorem rwB {i : Bool} {v : V} (r : RelW Γ ρ H (.bl i) v) : v = .bl i := by unfold RelW at r; exact r
theorem rwN {v : V} (r : RelW Γ ρ H .non v) : v = .non := by unfold RelW at r; exact r
theorem rwR {i : Nat} {v : V} (r : RelW Γ ρ H (.ref i) v) : ∃ a, ρ[i]? = some a ∧ v = .ref a := by unfold RelW at r; exact r
theorem rwT {xs : List W} {v : V} (r : RelW Γ ρ H (.tup xs) v) : ∃ a ys, v = .ref a ∧ SqT Γ.K H a ys ∧ RelWs Γ ρ H xs ys := by unfold RelW at r; exact r
theorem iI' {i : Int} : RelW Γ ρ H (.int i) (.int i) := by unfold RelW; rfl
theorem iS {i : Str} : RelW Γ ρ H (.str i) (.str i) := by unfold RelW; rfl
theorem iB {i : Bool} : RelW Γ ρ H (.bl i) (.bl i) := by unfold RelW; rfl
theorem iN : RelW Γ ρ H .non .non := by unfold RelW; rfl
theorem iR {i : Nat} {a : Addr} (e : ρ[i]? = some a) : RelW Γ ρ H (.ref i) (.ref a) := by unfold RelW; exact ⟨a, e, rfl⟩
theorem iT {xs : List W} {a : Addr} {ys : List V} (h : SqT Γ.K H a ys) (r : RelWs Γ ρ H xs ys) : RelW Γ ρ H (.tup xs) (.ref a) := by unfold RelW; exact ⟨a, ys, rfl, h, r⟩
/-- a list of ours behind a value -/
theorem Rel.lst {h : Hm} {r : Nat} {xs : List W} {v : V} (R : Rel Γ ρ h H) (e : h[r]? = some (.lst xs)) (q : RelW Γ ρ H (.ref r) v) : ∃ a ys, v = .ref a ∧ ρ[r]? = some a ∧ H a = some (.lst ys) ∧ RelWs Γ ρ H xs ys := by
  obtain ⟨a, ea, rfl⟩ := rwR q
  obtain ⟨a', ea', ys, hy, rr⟩ := R.obj r _ e
  rw [ea] at ea'
  cases ea'
  exact ⟨a, ys, rfl, ea, hy, rr⟩
theorem Rel.frz {h : Hm} {r : Nat} {xs : List W} {v : V} (R : Rel Γ ρ h H) (e : h[r]? = some (.frz xs)) (q : RelW Γ ρ H (.ref r) v) : ∃ a ys, v = .ref a ∧ SqL Γ.K H a ys ∧ RelWs Γ ρ H xs ys := by
  obtain ⟨a, ea, rfl⟩ := rwR q
  obtain ⟨a', ea', ys, hy, rr⟩ := R.obj r _ e
  rw [ea] at ea'
  cases ea'
  exact ⟨a, ys, rfl, hy.sq, rr⟩
/-- a new list of ours -/
theorem Rel.newL {h : Hm} {p : Addr} {xs : List W} {ys : List V} (R : Rel Γ ρ h H) (n : H p = none) (r : RelWs Γ ρ H xs ys) :
    Le Γ ρ (ρ ++ [p]) H (upd H p (.lst ys)) ∧ Rel Γ (ρ ++ [p]) (h ++ [.lst xs]) (upd H p (.lst ys)) ∧ RelW Γ (ρ ++ [p]) (upd H p (.lst ys)) (.ref h.length) (.ref p) := by
  have l := Le.laid (Γ := Γ) (ρ := ρ) (o := .lst ys) n [p]
  exact ⟨l, R.alloc n ⟨ys, upd_same, RelWs.mono l _ _ r⟩, iR (by rw [← R.len]; simp)⟩
/-- a new tuple -/
theorem Rel.newT {h : Hm} {p : Addr} {xs : List W} {ys : List V} (R : Rel Γ ρ h H) (n : H p = none) (r : RelWs Γ ρ H xs ys) :
    Le Γ ρ ρ H (upd H p (.tup ys)) ∧ Rel Γ ρ h (upd H p (.tup ys)) ∧ RelW Γ ρ (upd H p (.tup ys)) (.tup xs) (.ref p) := by
  have l := Le.laid (Γ := Γ) (ρ := ρ) (o := .tup ys) n []
  rw [List.append_nil] at l
  exact ⟨l, R.other n, iT (SqT.of upd_same) (RelWs.mono l _ _ r)⟩
/-- a list of ours is rewritten -/
theorem Rel.setL {h : Hm} {r : Nat} {a : Addr} {xs xs' : List W} {ys ys' : List V} (R : Rel Γ ρ h H) (e : h[r]? = some (.lst xs)) (ea : ρ[r]? = some a) (hy : H a = some (.lst ys)) (rr : RelWs Γ ρ H xs' ys') :
    Le Γ ρ ρ H (upd H a (.lst ys')) ∧ Rel Γ ρ (h.set r (.lst xs')) (upd H a (.lst ys')) := by
  have l : Le Γ ρ ρ H (upd H a (.lst ys')) := Le.write hy trivial
  exact ⟨l, R.write e ea trivial trivial hy trivial ⟨ys', upd_same, RelWs.mono l _ _ rr⟩⟩

mutual
theorem den_dp {h : Hm} (R : Rel Γ ρ h H) : ∀ (n : Nat) (w : W) (d : PyData) (v : V), den h n w = some d → RelW Γ ρ H w v → Dp Γ.K H v d
  | n, .non, d, v, e, r => by rw [den] at e; cases e; rw [rwN r]; exact .non
  | n, .bl b, d, v, e, r => by rw [den] at e; cases e; rw [rwB r]; exact .bl b
  | n, .int b, d, v, e, r => by rw [den] at e; cases e; rw [rwI r]; exact .int b
  | n, .str b, d, v, e, r => by rw [den] at e; cases e; rw [rwS r]; exact .str b
  | 0, .tup xs, d, v, e, r => by simp [den] at e
  | n + 1, .tup xs, d, v, e, r => by
    rw [den] at e
    obtain ⟨a, ys, rfl, ht, rr⟩ := rwT r
    obtain ⟨ds, e1, rfl⟩ := Option.map_eq_some_iff.mp e
    exact .tup ht (den_dps R n xs ds ys e1 rr)
  | 0, .ref xs, d, v, e, r => by simp [den] at e
  | n + 1, .ref i, d, v, e, r => by
    rw [den] at e
    split at e
    · rename_i xs ex
      obtain ⟨a, ys, rfl, _, hy, rr⟩ := R.lst ex r
      obtain ⟨ds, e1, rfl⟩ := Option.map_eq_some_iff.mp e
      exact .lst (SqL.of hy) (den_dps R n xs ds ys e1 rr)
    · rename_i xs ex
      obtain ⟨a, ys, rfl, hy, rr⟩ := R.frz ex r
      obtain ⟨ds, e1, rfl⟩ := Option.map_eq_some_iff.mp e
      exact .lst hy (den_dps R n xs ds ys e1 rr)
    · cases e
  | n, .exn _ _, d, v, e, r => by cases n <;> simp [den] at e
theorem den_dps {h : Hm} (R : Rel Γ ρ h H) : ∀ (n : Nat) (ws : List W) (ds : List PyData) (vs : List V), ws.mapM (den h n) = some ds → RelWs Γ ρ H ws vs → DpAll Γ.K H vs ds
  | n, [], ds, vs, e, r => by
    unfold RelWs at r
    subst r
    simp at e
    subst e
    exact .nil
  | n, w :: ws, ds, vs, e, r => by
    unfold RelWs at r
    obtain ⟨y, r', rfl, r1, r2⟩ := r
    rw [List.mapM_cons] at e
    cases e1 : den h n w with
    | none => rw [e1] at e; cases e
    | some d =>
      rw [e1] at e
      cases e2 : ws.mapM (den h n) with
      | none => rw [e2] at e; cases e
      | some ds' =>
        rw [e2] at e
        cases e
        exact .cons (den_dp R n w d y e1 r1) (den_dps R n ws ds' r' e2 r2)
end
theorem scal_of {a b : W} {x y : V} (e : scalW a b = true) (ra : RelW Γ ρ H a x) (rb : RelW Γ ρ H b y) : scal x y = true ∧ decide (x = y) = scalEq a b := by
  cases a <;> cases b <;> first
    | (exfalso; revert e; decide)
    | (cases e; done)
    | (first | have q1 := rwI ra | have q1 := rwS ra | have q1 := rwB ra | have q1 := rwN ra
       first | have q2 := rwI rb | have q2 := rwS rb | have q2 := rwB rb | have q2 := rwN rb
       subst q1 q2
       refine ⟨rfl, ?_⟩
       first
         | simp [scalEq]
         | rfl)

section
variable {x y : V} {Q : VK}
theorem os_eq (hc : c.calm = true := by rfl) : OpS Γ c k (compareOp .Eq) eqW := by
  intro W X G pins s σ H x y v u Q I rx ry h
  obtain ⟨ρ, hm, a, b, u', h', R, ra, rb, e, q⟩ := h
  obtain ⟨bb, e1, e2⟩ := Option.map_eq_some_iff.mp e
  cases e2
  unfold eqB at e1
  split at e1
  · rename_i hs
    cases e1
    obtain ⟨s1, s2⟩ := scal_of hs ra rb
    exact op_eq pins s σ H x y v u Q I rx ry ⟨s1, q ρ H _ .refl R (by rw [s2]; exact iB)⟩
  · split at e1
    · rename_i d1 d2 f1 f2
      split at e1
      · rename_i hsh
        cases e1
        rw [Bool.and_eq_true] at hsh
        exact op_eqD (G.room hc).units pins s σ H x y v u Q I rx ry ⟨d1, d2, by rw [G.K]; exact den_dp R _ _ _ _ f1 ra, by rw [G.K]; exact den_dp R _ _ _ _ f2 rb, hsh.1, hsh.2, q ρ H _ .refl R iB⟩
      · cases e1
    · cases e1
theorem os_ne (hc : c.calm = true := by rfl) : OpS Γ c k (compareOp .NotEq) neW := by
  intro W X G pins s σ H x y v u Q I rx ry h
  obtain ⟨ρ, hm, a, b, u', h', R, ra, rb, e, q⟩ := h
  obtain ⟨bb, e1, e2⟩ := Option.map_eq_some_iff.mp e
  cases e2
  unfold eqB at e1
  split at e1
  · rename_i hs
    cases e1
    obtain ⟨s1, s2⟩ := scal_of hs ra rb
    exact op_ne pins s σ H x y v u Q I rx ry ⟨s1, q ρ H _ .refl R (by rw [s2]; exact iB)⟩
  · split at e1
    · rename_i d1 d2 f1 f2
      split at e1
      · rename_i hsh
        cases e1
        rw [Bool.and_eq_true] at hsh
        exact op_neD (G.room hc).units pins s σ H x y v u Q I rx ry ⟨d1, d2, by rw [G.K]; exact den_dp R _ _ _ _ f1 ra, by rw [G.K]; exact den_dp R _ _ _ _ f2 rb, hsh.1, hsh.2, q ρ H _ .refl R iB⟩
      · cases e1
    · cases e1
theorem os_add : OpS Γ c k (binaryOp .Add) addW := by
  intro W X G pins s σ H x y v u Q I rx ry h
  obtain ⟨ρ, hm, a, b, u', h', R, ra, rb, e, q⟩ := h
  unfold addW at e
  split at e
  · cases e
    exact op_add pins s σ H x y v u Q I rx ry ⟨_, _, rwI ra, rwI rb, q ρ H _ .refl R iI'⟩
  · split at e
    · rename_i hl
      cases e
      exact op_add_str pins s σ H x y v u Q I rx ry ⟨_, _, rwS ra, rwS rb, by rw [sizeLine_eq]; exact hl, q ρ H _ .refl R iS⟩
    · cases e
  · split at e
    · rename_i xs ys e1 e2
      split at e
      · rename_i hl
        cases e
        obtain ⟨l, xs', rfl, _, hx, r1⟩ := R.lst e1 ra
        obtain ⟨l2, ys', rfl, _, hy, r2⟩ := R.lst e2 rb
        refine op_cat pins s σ H _ _ v u Q I rx ry ⟨l, l2, xs', ys', rfl, rfl, hx, hy, by rw [sizeLine_eq, ← r1.length, ← r2.length]; exact hl, fun p hp => ?_⟩
        obtain ⟨q1, q2, q3⟩ := R.newL hp (r1.append r2)
        exact q _ _ _ q1 q2 q3
      · cases e
    · cases e
  · split at e
    · rename_i _ xs ys hl
      cases e
      obtain ⟨l, xs', rfl, hx, r1⟩ := rwT ra
      obtain ⟨l2, ys', rfl, hy, r2⟩ := rwT rb
      refine op_catA pins s σ H _ _ v u Q I rx ry ⟨l, l2, xs', ys', rfl, rfl, by rw [G.K]; exact hx, by rw [G.K]; exact hy, by rw [sizeLine_eq, ← r1.length, ← r2.length]; exact hl, fun e => ?_, fun _ e => ?_, fun _ _ p hp => ?_⟩
      · refine q ρ H _ .refl R (iT hy ?_)
        have : xs = [] := List.eq_nil_of_length_eq_zero (by rw [r1.length, e]; rfl)
        rw [this]
        exact r2
      · refine q ρ H _ .refl R (iT hx ?_)
        have : ys = [] := List.eq_nil_of_length_eq_zero (by rw [r2.length, e]; rfl)
        rw [this, List.append_nil]
        exact r1
      · obtain ⟨q1, q2, q3⟩ := R.newT hp (r1.append r2)
        exact q _ _ _ q1 q2 q3
    · cases e
  · cases e
theorem os_sub : OpS Γ c k (binaryOp .Sub) subW := by
  intro W X G pins s σ H x y v u Q I rx ry h
  obtain ⟨ρ, hm, a, b, u', h', R, ra, rb, e, q⟩ := h
  unfold subW at e
  split at e
  · cases e
    exact op_sub pins s σ H x y v u Q I rx ry ⟨_, _, rwI ra, rwI rb, q ρ H _ .refl R iI'⟩
  · cases e
theorem mulOk_of' {x : Str} {n : Int} (hlo : -(2 ^ 63 : Int) ≤ n) (hn : n ≤ 16777216) (hp : x.length * n.toNat ≤ 16777216) : MulOk x n := by
  refine ⟨?_, fun h1 _ => ?_, fun h1 _ => short24 hp⟩
  · have a1 : ¬ n < -(2 ^ 63 : Int) := by omega
    have a2 : ¬ n ≥ (2 ^ 63 : Int) := by omega
    rw [decide_eq_false a1, decide_eq_false a2]
    rfl
  · have hpos : 0 < n := by omega
    have e : ((x.length * n.toNat : Nat) : Int) = (x.length : Int) * n := by
      rw [Int.natCast_mul, Int.toNat_of_nonneg (by omega)]
    have h3 : (x.length : Int) * n ≤ 2 ^ 63 - 1 := by rw [← e]; omega
    have h4 : (x.length : Int) ≤ (2 ^ 63 - 1) / n := (Int.le_ediv_iff_mul_le hpos).mpr h3
    omega
theorem os_mul : OpS Γ c k (binaryOp .Mult) mulW := by
  intro W X G pins s σ H x y v u Q I rx ry h
  obtain ⟨ρ, hm, a, b, u', h', R, ra, rb, e, q⟩ := h
  unfold mulW at e
  split at e
  · split at e
    · rename_i hl
      cases e
      unfold mulOk at hl
      rw [Bool.or_eq_true, Bool.or_eq_true, decide_eq_true_eq, decide_eq_true_eq, decide_eq_true_eq] at hl
      rcases hl with hl | hl
      · exact op_mul pins s σ H x y v u Q I rx ry ⟨_, _, rwI ra, rwI rb, hl, q ρ H _ .refl R iI'⟩
      · exact op_mulX pins s σ H x y v u Q I rx ry ⟨_, _, rwI ra, rwI rb, hl, q ρ H _ .refl R iI'⟩
    · cases e
  · split at e
    · rename_i xs e1
      split at e
      · rename_i hl
        cases e
        obtain ⟨l, xs', rfl, _, hx, r1⟩ := R.lst e1 ra
        refine op_rep pins s σ H _ _ v u Q I rx ry ⟨l, _, xs', rfl, rwI rb, hx, hl.1, hl.2.1, by rw [sizeLine_eq, ← r1.length]; exact hl.2.2, fun p hp => ?_⟩
        obtain ⟨q1, q2, q3⟩ := R.newL hp (r1.rep _)
        exact q _ _ _ q1 q2 q3
      · cases e
    · cases e
  · split at e
    · rename_i hl
      cases e
      have ea := rwS ra
      have eb := rwI rb
      subst ea eb
      obtain ⟨t, rfl⟩ := rx
      obtain ⟨t', rfl⟩ := ry
      refine SB.mul (mulOk_of' hl.1 hl.2.1 hl.2.2) fun t1 tk => ?_
      exact ⟨.str _, H, I.tok _, ⟨t1, rfl⟩, q ρ H _ .refl R iS⟩
    · cases e
  · cases e
theorem os_fdiv : OpS Γ c k (binaryOp .FloorDiv) fdivW := by
  intro W X G pins s σ H x y v u Q I rx ry h
  obtain ⟨ρ, hm, a, b, u', h', R, ra, rb, e, q⟩ := h
  unfold fdivW at e
  split at e
  · split at e
    · rename_i hl
      cases e
      exact op_fdivW pins s σ H x y v u Q I rx ry ⟨_, _, rwI ra, rwI rb, hl, q ρ H _ .refl R iI'⟩
    · cases e
  · cases e
theorem os_mod : OpS Γ c k (binaryOp .Mod) modW := by
  intro W X G pins s σ H x y v u Q I rx ry h
  obtain ⟨ρ, hm, a, b, u', h', R, ra, rb, e, q⟩ := h
  unfold modW at e
  split at e
  · split at e
    · rename_i hl
      cases e
      exact op_mod pins s σ H x y v u Q I rx ry ⟨_, _, rwI ra, rwI rb, hl, q ρ H _ .refl R iI'⟩
    · cases e
  · cases e
theorem os_pow : OpS Γ c k (binaryOp .Pow) powW := by
  intro W X G pins s σ H x y v u Q I rx ry h
  obtain ⟨ρ, hm, a, b, u', h', R, ra, rb, e, q⟩ := h
  unfold powW at e
  split at e
  · split at e
    · rename_i hl
      cases e
      exact op_pow pins s σ H x y v u Q I rx ry ⟨_, _, rwI ra, rwI rb, hl, q ρ H _ .refl R iI'⟩
    · cases e
  · cases e
theorem os_shl : OpS Γ c k (binaryOp .LShift) shlW := by
  intro W X G pins s σ H x y v u Q I rx ry h
  obtain ⟨ρ, hm, a, b, u', h', R, ra, rb, e, q⟩ := h
  unfold shlW at e
  split at e
  · split at e
    · rename_i hl
      cases e
      exact op_shlW pins s σ H x y v u Q I rx ry ⟨_, _, rwI ra, rwI rb, hl, q ρ H _ .refl R iI'⟩
    · cases e
  · cases e
theorem os_shr : OpS Γ c k (binaryOp .RShift) shrW := by
  intro W X G pins s σ H x y v u Q I rx ry h
  obtain ⟨ρ, hm, a, b, u', h', R, ra, rb, e, q⟩ := h
  unfold shrW at e
  split at e
  · split at e
    · rename_i hl
      cases e
      exact op_shr pins s σ H x y v u Q I rx ry ⟨_, _, rwI ra, rwI rb, hl, q ρ H _ .refl R iI'⟩
    · cases e
  · cases e
theorem os_and : OpS Γ c k (binaryOp .BitAnd) andW := by
  intro W X G pins s σ H x y v u Q I rx ry h
  obtain ⟨ρ, hm, a, b, u', h', R, ra, rb, e, q⟩ := h
  unfold andW at e
  split at e
  · cases e
    exact op_and pins s σ H x y v u Q I rx ry ⟨_, _, rwI ra, rwI rb, q ρ H _ .refl R iI'⟩
  · cases e
theorem os_or : OpS Γ c k (binaryOp .BitOr) orW := by
  intro W X G pins s σ H x y v u Q I rx ry h
  obtain ⟨ρ, hm, a, b, u', h', R, ra, rb, e, q⟩ := h
  unfold orW at e
  split at e
  · cases e
    exact op_or pins s σ H x y v u Q I rx ry ⟨_, _, rwI ra, rwI rb, q ρ H _ .refl R iI'⟩
  · cases e
theorem os_xor : OpS Γ c k (binaryOp .BitXor) xorW := by
  intro W X G pins s σ H x y v u Q I rx ry h
  obtain ⟨ρ, hm, a, b, u', h', R, ra, rb, e, q⟩ := h
  unfold xorW at e
  split at e
  · cases e
    exact op_xor pins s σ H x y v u Q I rx ry ⟨_, _, rwI ra, rwI rb, q ρ H _ .refl R iI'⟩
  · cases e
theorem us_neg : UnS Γ c k (unaryOp .USub) negW := by
  intro W X G pins s σ H x v Q I rx h
  obtain ⟨ρ, hm, a, u', h', R, ra, e, q⟩ := h
  unfold negW at e
  split at e
  · cases e
    exact un_neg pins s σ H x v Q I rx ⟨_, rwI ra, q ρ H _ .refl R iI'⟩
  · cases e
theorem os_lt : OpS Γ c k (compareOp .Lt) ltW := by
  intro W X G pins s σ H x y v u Q I rx ry h
  obtain ⟨ρ, hm, a, b, u', h', R, ra, rb, e, q⟩ := h
  unfold ltW at e
  split at e
  · cases e
    exact op_lt pins s σ H x y v u Q I rx ry ⟨_, _, rwI ra, rwI rb, q ρ H _ .refl R iB⟩
  · cases e
    exact op_lt_str pins s σ H x y v u Q I rx ry ⟨_, _, rwS ra, rwS rb, q ρ H _ .refl R iB⟩
  · cases e
theorem os_le : OpS Γ c k (compareOp .LtE) leW := by
  intro W X G pins s σ H x y v u Q I rx ry h
  obtain ⟨ρ, hm, a, b, u', h', R, ra, rb, e, q⟩ := h
  unfold leW at e
  split at e
  · cases e
    exact op_le pins s σ H x y v u Q I rx ry ⟨_, _, rwI ra, rwI rb, q ρ H _ .refl R iB⟩
  · cases e
    exact op_le_str pins s σ H x y v u Q I rx ry ⟨_, _, rwS ra, rwS rb, q ρ H _ .refl R iB⟩
  · cases e
theorem os_gt : OpS Γ c k (compareOp .Gt) gtW := by
  intro W X G pins s σ H x y v u Q I rx ry h
  obtain ⟨ρ, hm, a, b, u', h', R, ra, rb, e, q⟩ := h
  unfold gtW at e
  split at e
  · cases e
    exact op_gt pins s σ H x y v u Q I rx ry ⟨_, _, rwI ra, rwI rb, q ρ H _ .refl R iB⟩
  · cases e
    exact op_gt_str pins s σ H x y v u Q I rx ry ⟨_, _, rwS ra, rwS rb, q ρ H _ .refl R iB⟩
  · cases e
theorem os_ge : OpS Γ c k (compareOp .GtE) geW := by
  intro W X G pins s σ H x y v u Q I rx ry h
  obtain ⟨ρ, hm, a, b, u', h', R, ra, rb, e, q⟩ := h
  unfold geW at e
  split at e
  · cases e
    exact op_ge pins s σ H x y v u Q I rx ry ⟨_, _, rwI ra, rwI rb, q ρ H _ .refl R iB⟩
  · cases e
    exact op_ge_str pins s σ H x y v u Q I rx ry ⟨_, _, rwS ra, rwS rb, q ρ H _ .refl R iB⟩
  · cases e
theorem isNon_of {a : W} {x : V} (r : RelW Γ ρ H a x) : decide (x = .non) = isNonW a := by
  cases a with
  | non => rw [rwN r]; rfl
  | bl b => rw [rwB r]; rfl
  | int b => rw [rwI r]; rfl
  | str b => rw [rwS r]; rfl
  | tup b => obtain ⟨a, ys, rfl, _⟩ := rwT r; rfl
  | ref b => obtain ⟨a, _, rfl⟩ := rwR r; rfl
  | exn b d => unfold RelW at r; obtain ⟨a, _, rfl, _⟩ := r; rfl
theorem os_is : OpS Γ c k (compareOp .Is) isW := by
  intro W X G pins s σ H x y v u Q I rx ry h
  obtain ⟨ρ, hm, a, b, u', h', R, ra, rb, e, q⟩ := h
  unfold isW at e
  split at e
  · cases e
    exact op_isN pins s σ H x y v u Q I rx ry ⟨rwN rb, q ρ H _ .refl R (by rw [isNon_of ra]; exact iB)⟩
  · cases e
    exact op_isBl pins s σ H x y v u Q I rx ry ⟨_, _, rwB ra, rwB rb, q ρ H _ .refl R iB⟩
  · cases e
theorem os_isn : OpS Γ c k (compareOp .IsNot) isnW := by
  intro W X G pins s σ H x y v u Q I rx ry h
  obtain ⟨ρ, hm, a, b, u', h', R, ra, rb, e, q⟩ := h
  unfold isnW at e
  split at e
  · cases e
    exact op_notN pins s σ H x y v u Q I rx ry ⟨rwN rb, q ρ H _ .refl R (by rw [isNon_of ra]; exact iB)⟩
  · cases e
    exact op_notBl pins s σ H x y v u Q I rx ry ⟨_, _, rwB ra, rwB rb, q ρ H _ .refl R iB⟩
  · cases e
theorem flat_of {a : W} {x : V} (f : flatW a = true) (r : RelW Γ ρ H a x) : x = toV a ∧ flatV x = true := by
  cases a with
  | non => rw [rwN r]; exact ⟨rfl, rfl⟩
  | bl b => rw [rwB r]; exact ⟨rfl, rfl⟩
  | int b => rw [rwI r]; exact ⟨rfl, rfl⟩
  | str b => rw [rwS r]; exact ⟨rfl, rfl⟩
  | _ => cases f
theorem flats_of : ∀ {xs : List W} {ys : List V}, xs.all flatW = true → RelWs Γ ρ H xs ys → ys = xs.map toV ∧ ys.all flatV = true
  | [], ys, f, r => by unfold RelWs at r; subst r; exact ⟨rfl, rfl⟩
  | x :: xs, ys, f, r => by
    unfold RelWs at r
    obtain ⟨y, r', rfl, r1, r2⟩ := r
    rw [List.all_cons, Bool.and_eq_true] at f
    obtain ⟨e1, e2⟩ := flat_of f.1 r1
    obtain ⟨e3, e4⟩ := flats_of f.2 r2
    exact ⟨by rw [e1, e3]; rfl, by rw [List.all_cons, e2, e4]; rfl⟩
theorem inC_of {a b : W} {hm : Hm} {x y : V} {bb : Bool} (R : Rel Γ ρ hm H) (ra : RelW Γ ρ H a x) (rb : RelW Γ ρ H b y) (e : inC a b hm = some bb) :
    (∃ p xs, y = .ref p ∧ (SqL Γ.K H p xs ∨ SqT Γ.K H p xs) ∧ flatV x = true ∧ xs.all flatV = true ∧ inV x xs = bb) ∨ (∃ i j, x = .str i ∧ y = .str j ∧ (!(Builtin.Str.occurrences j i 0 j.length 1).isEmpty) = bb) := by
  have go : ∀ {xs : List W} {ys : List V}, inB a xs = some bb → RelWs Γ ρ H xs ys → flatV x = true ∧ ys.all flatV = true ∧ inV x ys = bb := fun {xs ys} e r => by
    unfold inB at e
    split at e
    · rename_i f
      cases e
      rw [Bool.and_eq_true] at f
      obtain ⟨e1, e2⟩ := flat_of f.1 ra
      obtain ⟨e3, e4⟩ := flats_of f.2 r
      exact ⟨e2, e4, by rw [e1, e3]⟩
    · cases e
  unfold inC at e
  split at e
  · obtain ⟨p, ys, rfl, ht, rr⟩ := rwT rb
    exact .inl ⟨p, ys, rfl, .inr ht, go e rr⟩
  · split at e
    · rename_i xs ex
      obtain ⟨p, ys, rfl, _, hy, rr⟩ := R.lst ex rb
      exact .inl ⟨p, ys, rfl, .inl (SqL.of hy), go e rr⟩
    · rename_i xs ex
      obtain ⟨p, ys, rfl, hy, rr⟩ := R.frz ex rb
      exact .inl ⟨p, ys, rfl, .inl hy, go e rr⟩
    · cases e
  · split at e
    · cases e
      exact .inr ⟨_, _, rwS ra, rwS rb, rfl⟩
    · cases e
  · cases e
theorem os_in : OpS Γ c k (compareOp .In) inW := by
  intro W X G pins s σ H x y v u Q I rx ry h
  obtain ⟨ρ, hm, a, b, u', h', R, ra, rb, e, q⟩ := h
  obtain ⟨bb, e1, e2⟩ := Option.map_eq_some_iff.mp e
  cases e2
  rcases inC_of R ra rb e1 with ⟨p, xs, ey, hs, f1, f2, e3⟩ | ⟨i, j, ex, ey, e3⟩
  · exact op_in_seq pins s σ H x y v u Q I rx ry ⟨p, xs, ey, by rw [G.K]; exact hs, f1, f2, by rw [if_neg Bool.false_ne_true, e3]; exact q ρ H _ .refl R iB⟩
  · exact op_in_str pins s σ H x y v u Q I rx ry ⟨i, j, ex, ey, by rw [e3]; exact q ρ H _ .refl R iB⟩
theorem os_nin : OpS Γ c k (compareOp .NotIn) ninW := by
  intro W X G pins s σ H x y v u Q I rx ry h
  obtain ⟨ρ, hm, a, b, u', h', R, ra, rb, e, q⟩ := h
  obtain ⟨bb, e1, e2⟩ := Option.map_eq_some_iff.mp e
  cases e2
  rcases inC_of R ra rb e1 with ⟨p, xs, ey, hs, f1, f2, e3⟩ | ⟨i, j, ex, ey, e3⟩
  · exact op_notIn_seq pins s σ H x y v u Q I rx ry ⟨p, xs, ey, by rw [G.K]; exact hs, f1, f2, by rw [if_pos rfl, e3]; exact q ρ H _ .refl R iB⟩
  · exact L2.op_notIn_str pins s σ H x y v u Q I rx ry ⟨i, j, ex, ey, by rw [e3]; exact q ρ H _ .refl R iB⟩
end
end
end Z

namespace Z
open PySem PySem.Spec PyProof.Rows L2

/-- the built-in names are not hidden by the module -/
structure Bs (Γ : Gam) : Prop where
  len : Γ.mg "len" = none
  range : Γ.mg "range" = none
  abs : Γ.mg "abs" = none
  min : Γ.mg "min" = none
  max : Γ.mg "max" = none
  int : Γ.mg "int" = none
  bool : Γ.mg "bool" = none
  str : Γ.mg "str" = none
  list : Γ.mg "list" = none
  tuple : Γ.mg "tuple" = none
  ord : Γ.mg "ord" = none
  sum : Γ.mg "sum" = none
  all : Γ.mg "all" = none
  sorted : Γ.mg "sorted" = none
  zip : Γ.mg "zip" = none
  enumerate : Γ.mg "enumerate" = none
  reversed : Γ.mg "reversed" = none
  isinstance : Γ.mg "isinstance" = none

/-! ### subscripts -/
def ixW (x y : W) (h : Hm) : Pr := match x, y with
  | .tup xs, .int i => (atI xs i).map fun w => (w, h)
  | .ref r, .int i => match h[r]? with
    | some (.lst xs) => (atI xs i).map fun w => (w, h)
    | some (.frz xs) => (atI xs i).map fun w => (w, h)
    | _ => none
  | .str z, .int i => if z.length ≤ 16777216 then (atI z.cps.toList i).map fun c => (.str ⟨#[c]⟩, h) else none
  | _, _ => none
def cutW (xs : List W) (lo hi : Option Int) : List W := (xs.drop (HT.sIx xs.length 0 lo)).take (HT.sIx xs.length xs.length hi - HT.sIx xs.length 0 lo)
def slW (x : W) (lo hi : Option Int) (h : Hm) : Pr := match x with
  | .tup xs => some (.tup (cutW xs lo hi), h)
  | .ref r => match h[r]? with
    | some (.lst xs) => some (.ref h.length, h ++ [.lst (cutW xs lo hi)])
    | some (.frz xs) => some (.ref h.length, h ++ [.lst (cutW xs lo hi)])
    | _ => none
  | .str z => if z.length ≤ 16777216 then some (.str (cutS z lo hi), h) else none
  | _ => none
abbrev XO := Sg → Hm → Out (Option Int)
def xoNone : XO := fun _ h => .ok none h
def xoSome (a : XE) : XO := fun σ h => (a σ h).bind fun x h1 => match x with
  | .int i => .ok (some i) h1
  | _ => .bad
def xSl (a : XE) (lo hi : XO) : XE := fun σ h => (a σ h).bind fun x h1 => (lo σ h1).bind fun l h2 => (hi σ h2).bind fun u h3 => ofO (slW x l u h3)
def setW (x y v : W) (h : Hm) : Option Hm := match x, y with
  | .ref r, .int i => match h[r]? with
    | some (.lst xs) => (ixN xs.length i).map fun j => h.set r (.lst (xs.set j v))
    | _ => none
  | _, _ => none
section
variable {Γ : Gam} {c : Cfg} {k : Nat} {a b e d o i : Expr} {es : List Expr} {fa fb fc : XE} {ft fu : XT} {fr : XA} {pos p : Pos} {ρ : List Addr} {H : Hp}
theorem RelWs.at {xs : List W} {ys : List V} {i : Int} {w : W} (r : RelWs Γ ρ H xs ys) (e : atI xs i = some w) : ∃ v, atI ys i = some v ∧ RelW Γ ρ H w v := by
  unfold atI at e ⊢
  rw [← r.length]
  cases e1 : ixN xs.length i with
  | none => rw [e1] at e; cases e
  | some j =>
    rw [e1] at e
    exact r.get e
theorem RelWs.cut {xs : List W} {ys : List V} {lo hi : Option Int} (r : RelWs Γ ρ H xs ys) : RelWs Γ ρ H (cutW xs lo hi) (cutV ys lo hi) := by
  unfold cutW cutV
  rw [← r.length]
  exact (r.drop _).take _
/-- IxR of ours -/
theorem ix_any {W : WX} {X : Cx} (G : Good Γ c k W X) : IxR X (r2 Γ ixW) := by
  intro value slice pins s σ H x y v u Q I rx ry h hs
  obtain ⟨ρ, hm, a, b, u', h', R, ra, rb, e, q⟩ := h
  unfold ixW at e
  split at e
  · obtain ⟨w, e1, e2⟩ := Option.map_eq_some_iff.mp e
    cases e2
    obtain ⟨l, ys, rfl, hy, r1⟩ := rwT ra
    obtain ⟨v', e3, r3⟩ := r1.at e1
    exact ix_tup value slice pins s σ H _ y v u Q I rx ry ⟨l, ys, _, v', rfl, rwI rb, by rw [G.K]; exact hy, e3, q ρ H _ .refl R r3⟩ hs
  · split at e
    · rename_i ex
      obtain ⟨w, e1, e2⟩ := Option.map_eq_some_iff.mp e
      cases e2
      obtain ⟨l, ys, rfl, _, hy, r1⟩ := R.lst ex ra
      obtain ⟨v', e3, r3⟩ := r1.at e1
      exact ix_list value slice pins s σ H _ y v u Q I rx ry ⟨l, ys, _, v', rfl, rwI rb, SqL.of hy, e3, q ρ H _ .refl R r3⟩ hs
    · rename_i ex
      obtain ⟨w, e1, e2⟩ := Option.map_eq_some_iff.mp e
      cases e2
      obtain ⟨l, ys, rfl, hy, r1⟩ := R.frz ex ra
      obtain ⟨v', e3, r3⟩ := r1.at e1
      exact ix_list value slice pins s σ H _ y v u Q I rx ry ⟨l, ys, _, v', rfl, rwI rb, by rw [G.K]; exact hy, e3, q ρ H _ .refl R r3⟩ hs
    · cases e
  · split at e
    · rename_i hl
      obtain ⟨w, e1, e2⟩ := Option.map_eq_some_iff.mp e
      cases e2
      exact ix_str value slice pins s σ H _ y v u Q I rx ry ⟨_, _, w, rwS ra, rwI rb, by rw [sizeLine_eq]; exact hl, e1, q ρ H _ .refl R iS⟩ hs
    · cases e
  · cases e
theorem se_ix (ha : SE Γ c k a fa) (hb : SE Γ c k b fb) (hs : PlainIx b := by exact fun _ _ => rfl) : SE Γ c k (.Subscript a b pos) (xBin ixW fa fb) := by
  intro W X G
  refine PE.imp (pe_ix (ix_any G) (ha W X G) (hb W X G) hs) fun τ H Q h => ?_
  obtain ⟨ρ, σ, h, R, S, q⟩ := h
  refine ⟨ρ, σ, h, R, S, (O1.bind (R := RelW Γ) q).imp fun x H1 ⟨ρ1, h1, u, l1, R1, r1, q1⟩ => ?_⟩
  refine ⟨ρ1, σ, h1, R1, S.mono l1, (O1.bind (R := RelW Γ) q1).imp fun y H2 ⟨ρ2, h2, w, l2, R2, r2, q2⟩ => ?_⟩
  obtain ⟨u', h', e, q3⟩ := q2.ofO
  exact ⟨ρ2, h2, u, w, u', h', R2, RelW.mono l2 _ _ r1, r2, e, q3⟩
/-! slices -/
def tIO (Γ : Gam) (W : WX) (f : XO) : TO := fun τ H Q => ∃ ρ σ h, Rel Γ ρ h H ∧ RelS Γ ρ H σ τ ∧ O1 Γ (fun _ _ (a b : Option Int) => a = b) ρ H (f σ h) Q (fun cls d H' => W cls d τ H')
def SO (Γ : Gam) (c : Cfg) (k : Nat) (e : Option Expr) (f : XO) : Prop := ∀ W X, Good Γ c k W X → PO X e (tIO Γ W f)
theorem PO.imp {X : Cx} {e : Option Expr} {t t' : TO} (h : PO X e t) (i : ∀ σ H Q, t' σ H Q → t σ H Q) : PO X e t' := ⟨fun pins s σ H Q I q => h.run pins s σ H Q I (i _ _ _ q)⟩
theorem so_none : SO Γ c k none xoNone := by
  intro W X G
  refine PO.imp po_none fun τ H Q h => ?_
  obtain ⟨ρ, σ, h, R, S, q⟩ := h
  exact q ρ H _ .refl R rfl
theorem so_some (ha : SE Γ c k a fa) : SO Γ c k (some a) (xoSome fa) := by
  intro W X G
  refine PO.imp (po_some (ha W X G)) fun τ H Q h => ?_
  obtain ⟨ρ, σ, h, R, S, q⟩ := h
  refine ⟨ρ, σ, h, R, S, (O1.bind (R := RelW Γ) q).imp fun x H1 ⟨ρ1, h1, u, l1, R1, r1, q1⟩ => ?_⟩
  split at q1
  · exact ⟨_, rwI r1, q1 ρ1 H1 _ .refl R1 rfl⟩
  · exact q1.elim
def rSl (Γ : Gam) : V → Option Int → Option Int → Hp → VK → Prop := fun x lo hi H Q => ∃ ρ h u u' h', Rel Γ ρ h H ∧ RelW Γ ρ H u x ∧ slW u lo hi h = some (u', h') ∧ ∀ ρ' H' v, Le Γ ρ ρ' H H' → Rel Γ ρ' h' H' → RelW Γ ρ' H' u' v → Q v H'
theorem sl_any {W : WX} {X : Cx} (G : Good Γ c k W X) : SlR X (rSl Γ) := by
  intro pins s σ H x v vl vu lo hi sl Q I rx hs pl pu h
  obtain ⟨ρ, hm, a, u', h', R, ra, e, q⟩ := h
  unfold slW at e
  split at e
  · cases e
    obtain ⟨l, ys, rfl, hy, r1⟩ := rwT ra
    refine sl_tupA pins s σ H _ v vl vu lo hi sl Q I rx hs pl pu ⟨l, ys, rfl, by rw [G.K]; exact hy, fun hw => ?_, fun _ p hp => ?_⟩
    · refine q ρ H _ .refl R (iT hy ?_)
      rename_i xs
      have e : cutW xs lo hi = xs := by
        unfold cutW
        rw [r1.length, hw.1, hw.2, ← r1.length]
        simp
      rw [e]
      exact r1
    · obtain ⟨q1, q2, q3⟩ := R.newT hp (r1.cut (lo := lo) (hi := hi))
      exact q _ _ _ q1 q2 q3
  · split at e
    · rename_i ex
      cases e
      obtain ⟨l, ys, rfl, _, hy, r1⟩ := R.lst ex ra
      refine sl_list pins s σ H _ v vl vu lo hi sl Q I rx hs pl pu ⟨l, ys, rfl, SqL.of hy, fun p hp => ?_⟩
      obtain ⟨q1, q2, q3⟩ := R.newL hp (r1.cut (lo := lo) (hi := hi))
      exact q _ _ _ q1 q2 q3
    · rename_i ex
      cases e
      obtain ⟨l, ys, rfl, hy, r1⟩ := R.frz ex ra
      refine sl_list pins s σ H _ v vl vu lo hi sl Q I rx hs pl pu ⟨l, ys, rfl, by rw [G.K]; exact hy, fun p hp => ?_⟩
      obtain ⟨q1, q2, q3⟩ := R.newL hp (r1.cut (lo := lo) (hi := hi))
      exact q _ _ _ q1 q2 q3
    · cases e
  · split at e
    · rename_i hl
      cases e
      exact sl_str pins s σ H _ v vl vu lo hi sl Q I rx hs pl pu ⟨_, rwS ra, by rw [sizeLine_eq]; exact hl, q ρ H _ .refl R iS⟩
    · cases e
  · cases e
theorem se_sl {lo hi : Option Expr} {fl fh : XO} {p2 : Pos} (ha : SE Γ c k a fa) (hl : SO Γ c k lo fl) (hh : SO Γ c k hi fh) : SE Γ c k (.Subscript a (.Slice lo hi none p2) pos) (xSl fa fl fh) := by
  intro W X G
  refine PE.imp (pe_slice (sl_any G) (ha W X G) (hl W X G) (hh W X G)) fun τ H Q h => ?_
  obtain ⟨ρ, σ, h, R, S, q⟩ := h
  refine ⟨ρ, σ, h, R, S, (O1.bind (R := RelW Γ) q).imp fun x H1 ⟨ρ1, h1, u, l1, R1, r1, q1⟩ => ?_⟩
  refine ⟨ρ1, σ, h1, R1, S.mono l1, (O1.bind (R := fun _ _ (a b : Option Int) => a = b) q1).imp fun y H2 ⟨ρ2, h2, w, l2, R2, r2, q2⟩ => ?_⟩
  refine ⟨ρ2, σ, h2, R2, (S.mono l1).mono l2, (O1.bind (R := fun _ _ (a b : Option Int) => a = b) q2).imp fun z H3 ⟨ρ3, h3, w3, l3, R3, r3, q3⟩ => ?_⟩
  have r2 : w = y := r2
  have r3 : w3 = z := r3
  subst r2 r3
  obtain ⟨u', h', e, q4⟩ := q3.ofO
  exact ⟨ρ3, h3, u, u', h', R3, RelW.mono (l2.trans l3) _ _ r1, e, q4⟩
theorem ss_setW : StS Γ c k setW := by
  intro W X G pins s σ H o i v ov iv u Q I ro ri rv h
  obtain ⟨ρ, hm, x, y, z, h', R, rx, ry, rz, e, q⟩ := h
  unfold setW at e
  split at e
  · split at e
    · rename_i ex
      obtain ⟨j, e1, rfl⟩ := Option.map_eq_some_iff.mp e
      obtain ⟨l, ys, rfl, ea, hy, r1⟩ := R.lst ex rx
      refine set_list pins s σ H _ i v ov iv u Q I ro ri rv ⟨l, ys, _, j, rfl, rwI ry, hy, by rw [← r1.length]; exact e1, ?_⟩
      obtain ⟨q1, q2⟩ := R.setL ex ea hy (r1.set j rz)
      exact q _ _ q1 q2
    · cases e
  · cases e

/-! ### calls of built-in functions and types -/
theorem se_callB {x : Str} {id : String} {g : List W → Hm → Pr} (hc : CaS Γ c k (.builtin id) g) (j : Nat) (hm : Γ.mg x = none) (hv : bootBuiltins x = some (.builtin id)) (ha : SA Γ c k (e :: es) fr) (hG : c.G[j]? = some x := by rfl)
    (hn : x ≠ "__name__" := by decide) (hd : (x == ("__debug__" : Str)) = false := by decide) (he : ∀ env, starEach (e :: es) env = (false, eval e env) :: starEach es env := by intros; rfl) (hpl : ∀ env, (backTo pos (starEach es env)).any (·.1) = false := by intros; rfl) :
    SE Γ c k (.Call (.Name x p) (e :: es) [] pos) (xCall g fr) := by
  intro W X G
  refine PE.imp (pe_callB (hc W X G) (G.gl (List.mem_of_getElem? hG)) (by rw [G.mg]; exact hm) hv (ha W X G) hn hd (he X.env) (hpl X.env)) fun τ H Q h => ?_
  obtain ⟨ρ, σ, h, R, S, q⟩ := h
  refine ⟨ρ, σ, h, R, S, (O1.bind (R := RelWs Γ) q).imp fun x H1 ⟨ρ1, h1, u, l1, R1, r1, q1⟩ => ?_⟩
  obtain ⟨u', h', e, q3⟩ := q1.ofO
  exact ⟨ρ1, h1, u, u', h', R1, r1, e, q3⟩
theorem se_callT {x : Str} {T : String} {g : List W → Hm → Pr} (hc : CaS Γ c k (.type T) g) (j : Nat) (hm : Γ.mg x = none) (hv : bootBuiltins x = some (.type T)) (ha : SA Γ c k (e :: es) fr) (hG : c.G[j]? = some x := by rfl)
    (hn : x ≠ "__name__" := by decide) (hd : (x == ("__debug__" : Str)) = false := by decide) (he : ∀ env, starEach (e :: es) env = (false, eval e env) :: starEach es env := by intros; rfl) (hpl : ∀ env, (backTo pos (starEach es env)).any (·.1) = false := by intros; rfl) :
    SE Γ c k (.Call (.Name x p) (e :: es) [] pos) (xCall g fr) := by
  intro W X G
  refine PE.imp (pe_callTy (hc W X G) (G.gl (List.mem_of_getElem? hG)) (by rw [G.mg]; exact hm) hv (ha W X G) hn hd (he X.env) (hpl X.env)) fun τ H Q h => ?_
  obtain ⟨ρ, σ, h, R, S, q⟩ := h
  refine ⟨ρ, σ, h, R, S, (O1.bind (R := RelWs Γ) q).imp fun x H1 ⟨ρ1, h1, u, l1, R1, r1, q1⟩ => ?_⟩
  obtain ⟨u', h', e, q3⟩ := q1.ofO
  exact ⟨ρ1, h1, u, u', h', R1, r1, e, q3⟩
def lenC (x : W) (h : Hm) : Option Int := match x with
  | .str z => if z.length ≤ 16777216 then some z.length else none
  | .tup xs => some xs.length
  | .ref r => match h[r]? with
    | some (.lst xs) => some xs.length
    | some (.frz xs) => some xs.length
    | _ => none
  | _ => none
def lenW (xs : List W) (h : Hm) : Pr := match xs with
  | [x] => (lenC x h).map fun n => (.int n, h)
  | _ => none
def absW (xs : List W) (h : Hm) : Pr := match xs with
  | [.int i] => some (.int (if i < 0 then -i else i), h)
  | _ => none
def minW (xs : List W) (h : Hm) : Pr := match xs with
  | [.int i, .int j] => some (.int (if j < i then j else i), h)
  | _ => none
def maxW (xs : List W) (h : Hm) : Pr := match xs with
  | [.int i, .int j] => some (.int (if j > i then j else i), h)
  | _ => none
def intW (xs : List W) (h : Hm) : Pr := match xs with
  | [.int i] => some (.int i, h)
  | [.bl b] => some (.int (if b then 1 else 0), h)
  | _ => none
def ordW (xs : List W) (h : Hm) : Pr := match xs with
  | [.str x] => if x.length = 1 then some (.int (x.cps.getD 0 0 : Nat), h) else none
  | _ => none
def strW (xs : List W) (h : Hm) : Pr := match xs with
  | [.int i] => if i.natAbs.log2 < 1920 then some (.str (toString i), h) else none
  | _ => none
def seqC (x : W) (h : Hm) : Option (List W) := match x with
  | .tup xs => some xs
  | .ref r => match h[r]? with
    | some (.lst xs) => some xs
    | some (.frz xs) => some xs
    | _ => none
  | _ => none
def listW (xs : List W) (h : Hm) : Pr := match xs with
  | [x] => (seqC x h).map fun ys => (.ref h.length, h ++ [.lst ys])
  | _ => none
def tupleW (xs : List W) (h : Hm) : Pr := match xs with
  | [x] => (seqC x h).map fun ys => (.tup ys, h)
  | _ => none
theorem rws1 {w : W} {vs : List V} (r : RelWs Γ ρ H [w] vs) : ∃ v, vs = [v] ∧ RelW Γ ρ H w v := by
  unfold RelWs at r
  obtain ⟨y, r', rfl, h1, h2⟩ := r
  unfold RelWs at h2
  subst h2
  exact ⟨y, rfl, h1⟩
theorem rws2 {w w' : W} {vs : List V} (r : RelWs Γ ρ H [w, w'] vs) : ∃ v v', vs = [v, v'] ∧ RelW Γ ρ H w v ∧ RelW Γ ρ H w' v' := by
  unfold RelWs at r
  obtain ⟨y, r', rfl, h1, h2⟩ := r
  obtain ⟨v', rfl, h3⟩ := rws1 h2
  exact ⟨y, v', rfl, h1, h3⟩
/-- the items of a list or tuple that is read -/
theorem seq_of {h : Hm} {x : W} {xs : List W} {v : V} (R : Rel Γ ρ h H) (e : seqC x h = some xs) (r : RelW Γ ρ H x v) : ∃ a ys, v = .ref a ∧ (SqL Γ.K H a ys ∨ SqT Γ.K H a ys) ∧ RelWs Γ ρ H xs ys := by
  unfold seqC at e
  split at e
  · cases e
    obtain ⟨a, ys, rfl, hy, rr⟩ := rwT r
    exact ⟨a, ys, rfl, .inr hy, rr⟩
  · split at e
    · rename_i ex
      cases e
      obtain ⟨a, ys, rfl, _, hy, rr⟩ := R.lst ex r
      exact ⟨a, ys, rfl, .inl (SqL.of hy), rr⟩
    · rename_i ex
      cases e
      obtain ⟨a, ys, rfl, hy, rr⟩ := R.frz ex r
      exact ⟨a, ys, rfl, .inl hy, rr⟩
    · cases e
  · cases e
theorem cs_len : CaS Γ c k (.builtin "len") lenW := by
  intro W X G pins s σ H xs us Q I rx h
  obtain ⟨ρ, hm, ws, u', h', R, rr, e, q⟩ := h
  unfold lenW at e
  split at e
  · obtain ⟨n, e1, e2⟩ := Option.map_eq_some_iff.mp e
    cases e2
    obtain ⟨v, rfl, r1⟩ := rws1 rr
    unfold lenC at e1
    split at e1
    · split at e1
      · rename_i hl
        cases e1
        exact call_len_str pins s σ H _ us Q I rx ⟨_, by rw [rwS r1], by rw [sizeLine_eq]; exact hl, q ρ H _ .refl R iI'⟩
      · cases e1
    · cases e1
      obtain ⟨a, ys, rfl, hy, r2⟩ := rwT r1
      exact call_len_seq pins s σ H _ us Q I rx ⟨a, ys, rfl, by rw [G.K]; exact .inr hy, by rw [← r2.length]; exact q ρ H _ .refl R iI'⟩
    · split at e1
      · rename_i ex
        cases e1
        obtain ⟨a, ys, rfl, _, hy, r2⟩ := R.lst ex r1
        exact call_len_seq pins s σ H _ us Q I rx ⟨a, ys, rfl, .inl (SqL.of hy), by rw [← r2.length]; exact q ρ H _ .refl R iI'⟩
      · rename_i ex
        cases e1
        obtain ⟨a, ys, rfl, hy, r2⟩ := R.frz ex r1
        exact call_len_seq pins s σ H _ us Q I rx ⟨a, ys, rfl, by rw [G.K]; exact .inl hy, by rw [← r2.length]; exact q ρ H _ .refl R iI'⟩
      · cases e1
    · cases e1
  · cases e
theorem cs_abs : CaS Γ c k (.builtin "abs") absW := by
  intro W X G pins s σ H xs us Q I rx h
  obtain ⟨ρ, hm, ws, u', h', R, rr, e, q⟩ := h
  unfold absW at e
  split at e
  · cases e
    obtain ⟨v, rfl, r1⟩ := rws1 rr
    exact call_abs pins s σ H _ us Q I rx ⟨_, by rw [rwI r1], q ρ H _ .refl R iI'⟩
  · cases e
theorem cs_min (hc : c.calm = true := by rfl) : CaS Γ c k (.builtin "min") minW := by
  intro W X G pins s σ H xs us Q I rx h
  obtain ⟨ρ, hm, ws, u', h', R, rr, e, q⟩ := h
  unfold minW at e
  split at e
  · cases e
    obtain ⟨v, v', rfl, r1, r2⟩ := rws2 rr
    exact call_min2 (G.calm.trans hc) pins s σ H _ us Q I rx ⟨_, _, by rw [rwI r1, rwI r2], q ρ H _ .refl R iI'⟩
  · cases e
theorem cs_max (hc : c.calm = true := by rfl) : CaS Γ c k (.builtin "max") maxW := by
  intro W X G pins s σ H xs us Q I rx h
  obtain ⟨ρ, hm, ws, u', h', R, rr, e, q⟩ := h
  unfold maxW at e
  split at e
  · cases e
    obtain ⟨v, v', rfl, r1, r2⟩ := rws2 rr
    exact call_max2 (G.calm.trans hc) pins s σ H _ us Q I rx ⟨_, _, by rw [rwI r1, rwI r2], q ρ H _ .refl R iI'⟩
  · cases e
theorem cs_int : CaS Γ c k (.type "int") intW := by
  intro W X G pins s σ H xs us Q I rx h
  obtain ⟨ρ, hm, ws, u', h', R, rr, e, q⟩ := h
  unfold intW at e
  split at e
  · cases e
    obtain ⟨v, rfl, r1⟩ := rws1 rr
    exact call_int1 pins s σ H _ us Q I rx (.inl ⟨_, by rw [rwI r1], q ρ H _ .refl R iI'⟩)
  · cases e
    obtain ⟨v, rfl, r1⟩ := rws1 rr
    exact call_int1 pins s σ H _ us Q I rx (.inr ⟨_, by rw [rwB r1], q ρ H _ .refl R iI'⟩)
  · cases e
theorem cs_ord : CaS Γ c k (.builtin "ord") ordW := by
  intro W X G pins s σ H xs us Q I rx h
  obtain ⟨ρ, hm, ws, u', h', R, rr, e, q⟩ := h
  unfold ordW at e
  split at e
  · split at e
    · rename_i hl
      cases e
      obtain ⟨v, rfl, r1⟩ := rws1 rr
      exact call_ord pins s σ H _ us Q I rx ⟨_, by rw [rwS r1], hl, q ρ H _ .refl R iI'⟩
    · cases e
  · cases e
theorem cs_str : CaS Γ c k (.type "str") strW := by
  intro W X G pins s σ H xs us Q I rx h
  obtain ⟨ρ, hm, ws, u', h', R, rr, e, q⟩ := h
  unfold strW at e
  split at e
  · split at e
    · rename_i hl
      cases e
      obtain ⟨v, rfl, r1⟩ := rws1 rr
      exact call_str_int pins s σ H _ us Q I rx ⟨_, by rw [rwI r1], hl, q ρ H _ .refl R iS⟩
    · cases e
  · cases e
theorem cs_list : CaS Γ c k (.type "list") listW := by
  intro W X G pins s σ H xs us Q I rx h
  obtain ⟨ρ, hm, ws, u', h', R, rr, e, q⟩ := h
  unfold listW at e
  split at e
  · obtain ⟨ys, e1, e2⟩ := Option.map_eq_some_iff.mp e
    cases e2
    obtain ⟨v, rfl, r1⟩ := rws1 rr
    obtain ⟨a, zs, rfl, hs, r2⟩ := seq_of R e1 r1
    refine call_list_of pins s σ H _ us Q I rx ⟨a, zs, rfl, by rw [G.K]; exact hs, fun p hp => ?_⟩
    obtain ⟨q1, q2, q3⟩ := R.newL hp r2
    exact q _ _ _ q1 q2 q3
  · cases e
theorem cs_tuple : CaS Γ c k (.type "tuple") tupleW := by
  intro W X G pins s σ H xs us Q I rx h
  obtain ⟨ρ, hm, ws, u', h', R, rr, e, q⟩ := h
  unfold tupleW at e
  split at e
  · obtain ⟨ys, e1, e2⟩ := Option.map_eq_some_iff.mp e
    cases e2
    obtain ⟨v, rfl, r1⟩ := rws1 rr
    obtain ⟨a, zs, rfl, hs, r2⟩ := seq_of R e1 r1
    refine call_tuple_of pins s σ H _ us Q I rx ⟨a, zs, rfl, ?_⟩
    rcases hs with hs | hs
    · refine .inl ⟨by rw [G.K]; exact hs, fun p hp => ?_⟩
      obtain ⟨q1, q2, q3⟩ := R.newT hp r2
      exact q _ _ _ q1 q2 q3
    · exact .inr ⟨by rw [G.K]; exact hs, q ρ H _ .refl R (iT hs r2)⟩
  · cases e

/-! ### isinstance of built-in types -/
def tyC (x : W) (h : Hm) : Option String := match x with
  | .non => some "NoneType"
  | .bl _ => some "bool"
  | .int _ => some "int"
  | .str _ => some "str"
  | .tup _ => some "tuple"
  | .ref r => match h[r]? with
    | some (.lst _) => some "list"
    | some (.frz _) => some "list"
    | some (.dic _) => some "dict"
    | _ => none
  | _ => none
/-- the answers, for the types that occur -/
def kitT : List (String × List String) := [("int", ["int", "bool"]), ("bool", ["bool"]), ("str", ["str"]), ("list", ["list"]), ("tuple", ["tuple"])]
def isiC (T : String) (x : W) (h : Hm) : Option Bool := (tyC x h).bind fun t => (kitT.lookup T).map fun ts => ts.contains t
def xIsi (T : String) (a : XE) : XE := fun σ h => (a σ h).bind fun x h1 => ofO ((isiC T x h1).map fun b => (.bl b, h1))
theorem lookup_mem {α β : Type} [BEq α] [LawfulBEq α] {x : α} {y : β} : ∀ {l : List (α × β)}, l.lookup x = some y → (x, y) ∈ l
  | [], h => by simp at h
  | (a, b) :: r, h => by
    rw [List.lookup_cons] at h
    cases hb : x == a with
    | true =>
      rw [hb] at h
      cases h
      rw [eq_of_beq hb]
      exact List.mem_cons_self
    | false =>
      rw [hb] at h
      exact List.mem_cons_of_mem _ (lookup_mem h)
theorem kitT_ok : ∀ t ∈ ["NoneType", "bool", "int", "str", "tuple", "list", "dict"], ∀ T ∈ kitT, kitB t T.1 = some (T.2.contains t) := by decide +kernel
theorem tyC_of {h : Hm} {x : W} {t : String} {v : V} (R : Rel Γ ρ h H) (e : tyC x h = some t) (r : RelW Γ ρ H x v) : TyX Γ.K H v (.type t) ∧ t ∈ ["NoneType", "bool", "int", "str", "tuple", "list", "dict"] := by
  unfold tyC at e
  split at e
  · cases e; rw [rwN r]; exact ⟨.base .non, by decide⟩
  · cases e; rw [rwB r]; exact ⟨.base (.bl _), by decide⟩
  · cases e; rw [rwI r]; exact ⟨.base (.int _), by decide⟩
  · cases e; rw [rwS r]; exact ⟨.base (.str _), by decide⟩
  · cases e
    obtain ⟨a, ys, rfl, hy, rr⟩ := rwT r
    rcases hy with (hy | ⟨o, hy⟩) | ⟨o, its, n, hk, hc, _⟩
    · exact ⟨.base (.tup hy), by decide⟩
    · exact ⟨.fTuple hy, by decide⟩
    · exact ⟨.kTuple hk hc, by decide⟩
  · split at e
    · rename_i ex
      cases e
      obtain ⟨a, ys, rfl, _, hy, rr⟩ := R.lst ex r
      exact ⟨.base (.lst hy), by decide⟩
    · rename_i ex
      cases e
      obtain ⟨a, ea, rfl⟩ := rwR r
      obtain ⟨a', ea', ys, hy, rr⟩ := R.obj _ _ ex
      rw [ea] at ea'
      cases ea'
      rcases hy with ⟨o, hy⟩ | ⟨o, its, n, hk, hc, _⟩
      · exact ⟨.base (.frz hy), by decide⟩
      · exact ⟨.kList hk hc, by decide⟩
    · rename_i ex
      cases e
      obtain ⟨a, ea, rfl⟩ := rwR r
      obtain ⟨a', ea', gs, hy, rr⟩ := R.obj _ _ ex
      rw [ea] at ea'
      cases ea'
      exact ⟨.base (.dK hy), by decide⟩
    · cases e
  · cases e
theorem se_isi (T : String) (j j' : Nat) (B : Bs Γ) {x : Str} {p1 p2 : Pos} (hx : bootBuiltins x = some (.type T)) (hm : Γ.mg x = none) (hT : (kitT.lookup T).isSome = true) (ha : SE Γ c k a fa) (hG : c.G[j]? = some ("isinstance" : Str) := by rfl) (hG' : c.G[j']? = some x := by rfl) (hn : x ≠ "__name__" := by decide) (hd : (x == ("__debug__" : Str)) = false := by decide)
    (he : ∀ env, starEach [a, .Name x p2] env = (false, eval a env) :: starEach [.Name x p2] env := by intros; rfl) (hpl : ∀ env, (backTo pos (starEach [.Name x p2] env)).any (·.1) = false := by intros; rfl) (hs : ∀ env, starEach [.Name x p2] env = (false, eval (.Name x p2) env) :: starEach [] env := by intros; rfl) :
    SE Γ c k (.Call (.Name "isinstance" p1) [a, .Name x p2] [] pos) (xIsi T fa) := by
  intro W X G
  have ht : PE X (.Name x p2) (tC (.ty T)) := pe_bltn (G.gl (List.mem_of_getElem? hG')) (by rw [G.mg]; exact hm) hx rfl hn hd
  refine PE.imp (pe_callB call_isi (G.gl (List.mem_of_getElem? hG)) (by rw [G.mg]; exact B.isinstance) boot_isinstance (pa_cons (ha W X G) (pa_cons ht pa_nil (hs X.env)) (he X.env)) (by decide) (by decide) (he X.env) (hpl X.env)) fun τ H Q h => ?_
  obtain ⟨ρ, σ, h, R, S, q⟩ := h
  refine ⟨ρ, σ, h, R, S, (O1.bind (R := RelW Γ) q).imp fun v H1 ⟨ρ1, h1, u, l1, R1, r1, q1⟩ => ?_⟩
  obtain ⟨u', h', e, q3⟩ := q1.ofO
  obtain ⟨b, e1, e2⟩ := Option.map_eq_some_iff.mp e
  cases e2
  unfold isiC at e1
  cases e3 : tyC u h1 with
  | none => rw [e3] at e1; cases e1
  | some t =>
    rw [e3] at e1
    obtain ⟨ts, e4, rfl⟩ := Option.map_eq_some_iff.mp e1
    obtain ⟨h3, h4⟩ := tyC_of R1 e3 r1
    refine ⟨v, .ty T, .type t, .type T, ts.contains t, rfl, .ty T, by rw [G.K]; exact h3, ?_, q3 ρ1 H1 _ .refl R1 iB⟩
    exact kit_ty (kitT_ok t h4 (T, ts) (lookup_mem e4))
end
end Z

namespace Z
open PySem PySem.Spec PyProof.Rows L2

/-! ### what loops walk -/
def itSeq (x : W) : Itr := fun i h => (seqC x h).map fun xs => xs[i]?
def itStr (z : Str) : Itr := fun i _ => some (z.cps[i]?.map fun c => .str ⟨#[c]⟩)
def itRng (lo st : Int) (n : Nat) : Itr := fun i _ => some (if i < n then some (.int (lo + (i : Nat) * st)) else none)
def itRev (x : W) (n : Nat) : Itr := fun i h => if i < n then (seqC x h).bind fun xs => (xs[n - 1 - i]?).map fun w => some w else some none
def itZip (x y : W) : Itr := fun i h => (seqC x h).bind fun xs => (seqC y h).map fun ys => match xs[i]?, ys[i]? with
  | some a, some b => some (.tup [a, b])
  | _, _ => none
def itEnum (x : W) : Itr := fun i h => (seqC x h).map fun xs => xs[i]?.map fun w => .tup [.int i, w]
def isL (x : W) (h : Hm) : Bool := match x with
  | .ref r => match h[r]? with
    | some (.lst _) => true
    | some (.frz _) => true
    | _ => false
  | _ => false
def iAny (a : XE) : XI := fun σ h => (a σ h).bind fun x h1 => match x with
  | .str z => .ok (itStr z) h1
  | x => if (seqC x h1).isSome then .ok (itSeq x) h1 else .bad
def smallI (i : Int) : Bool := decide (-(2 ^ 62) ≤ i ∧ i < 2 ^ 62)
def iRng1 (a : XA) : XI := fun σ h => (a σ h).bind fun xs h1 => match xs with
  | [.int j] => if smallI j then .ok (itRng 0 1 j.toNat) h1 else .bad
  | _ => .bad
def iRng2 (a : XA) : XI := fun σ h => (a σ h).bind fun xs h1 => match xs with
  | [.int i, .int j] => if smallI i && smallI j then .ok (itRng i 1 (j - i).toNat) h1 else .bad
  | _ => .bad
def iRng3 (a : XA) : XI := fun σ h => (a σ h).bind fun xs h1 => match xs with
  | [.int i, .int j, .int st] => if st ≠ 0 ∧ st.natAbs < 1073741824 ∧ Builtin.Range.small i j st = true ∧ 0 ≤ Builtin.Range.rangeSize i j st then .ok (itRng i st (Builtin.Range.rangeSize i j st).toNat) h1 else .bad
  | _ => .bad
def iRev (a : XE) : XI := fun σ h => (a σ h).bind fun x h1 => match seqC x h1 with
  | some xs => .ok (itRev x xs.length) h1
  | none => .bad
def iZip (a : XA) : XI := fun σ h => (a σ h).bind fun xs h1 => match xs with
  | [x, y] => if isL x h1 && isL y h1 then .ok (itZip x y) h1 else .bad
  | _ => .bad
def iEnum (a : XA) : XI := fun σ h => (a σ h).bind fun xs h1 => match xs with
  | [x] => if isL x h1 then .ok (itEnum x) h1 else .bad
  | _ => .bad

section
variable {Γ : Gam} {c : Cfg} {k : Nat} {a b e d o i tg : Expr} {es : List Expr} {fa fb fc : XE} {ft fu : XT} {fr : XA} {pos p : Pos} {ρ : List Addr} {H : Hp}
/-- which lists stand behind a value that is walked -/
theorem seqC_later {h h' : Hm} {x : W} {v : V} {ρ' : List Addr} {H' : Hp} {xs : List W} (l : Le Γ ρ ρ' H H') (R' : Rel Γ ρ' h' H') (r : RelW Γ ρ H x v) (e : seqC x h' = some xs) :
    ∃ a ys, v = .ref a ∧ (SqL Γ.K H' a ys ∨ SqT Γ.K H' a ys) ∧ RelWs Γ ρ' H' xs ys := seq_of R' e (RelW.mono l _ _ r)
theorem isL_at {h : Hm} {x : W} {v : V} (R : Rel Γ ρ h H) (e : isL x h = true) (r : RelW Γ ρ H x v) : ∃ r0 a xs ys, x = .ref r0 ∧ v = .ref a ∧ ρ[r0]? = some a ∧ seqC x h = some xs ∧ SqL Γ.K H a ys ∧ RelWs Γ ρ H xs ys := by
  unfold isL at e
  split at e
  · rename_i r0
    obtain ⟨a, ea, rfl⟩ := rwR r
    split at e
    · rename_i xs ex
      obtain ⟨a', ys, e1, _, hy, rr⟩ := R.lst ex r
      cases e1
      exact ⟨r0, a, xs, ys, rfl, rfl, ea, by unfold seqC; simp only [ex], SqL.of hy, rr⟩
    · rename_i xs ex
      obtain ⟨a', ys, e1, hy, rr⟩ := R.frz ex r
      cases e1
      exact ⟨r0, a, xs, ys, rfl, rfl, ea, by unfold seqC; simp only [ex], hy, rr⟩
    · cases e
  · cases e
/-- a list's address stays a list's -/
theorem seqL_later {h : Hm} {r0 : Nat} {xs : List W} {ad : Addr} (R : Rel Γ ρ h H) (ea : ρ[r0]? = some ad) (e : seqC (.ref r0) h = some xs) : ∃ ys, SqL Γ.K H ad ys ∧ RelWs Γ ρ H xs ys := by
  unfold seqC at e
  dsimp only at e
  split at e
  · rename_i ex
    cases e
    obtain ⟨a', ys, e1, _, hy, rr⟩ := R.lst ex (iR ea)
    cases e1
    exact ⟨ys, SqL.of hy, rr⟩
  · rename_i ex
    cases e
    obtain ⟨a', ys, e1, hy, rr⟩ := R.frz ex (iR ea)
    cases e1
    exact ⟨ys, hy, rr⟩
  · cases e
theorem it_list {h : Hm} {r0 : Nat} {ad : Addr} (ea : ρ[r0]? = some ad) : ItR Γ ρ H (itSeq (.ref r0)) (Itl Γ.K ad) := by
  intro i ρ' h' H' l R'
  refine ⟨fun e => ?_, fun w e => ?_⟩
  · obtain ⟨xs, e1, e2⟩ := Option.map_eq_some_iff.mp e
    obtain ⟨ys, hy, rr⟩ := seqL_later R' (l.at ea) e1
    exact ⟨ys, hy, by rw [← rr.length]; exact List.getElem?_eq_none_iff.mp e2⟩
  · obtain ⟨xs, e1, e2⟩ := Option.map_eq_some_iff.mp e
    obtain ⟨ys, hy, rr⟩ := seqL_later R' (l.at ea) e1
    obtain ⟨v, e3, r3⟩ := rr.get e2
    refine ⟨⟨ys, v, hy, e3⟩, fun x H2 y => ?_⟩
    obtain ⟨rfl, y⟩ := y
    have := y ys hy
    rw [e3] at this
    cases this
    exact ⟨.refl, R', r3⟩
theorem it_tup {ys : List V} {xs : List W} {ad : Addr} (hy : SqT Γ.K H ad ys) (rr : RelWs Γ ρ H xs ys) : ItR Γ ρ H (itSeq (.tup xs)) (Itt Γ.K ad) := by
  intro i ρ' h' H' l R'
  have hy' := l.tup _ _ hy
  have rr' := RelWs.mono l _ _ rr
  refine ⟨fun e => ?_, fun w e => ?_⟩
  · obtain ⟨xs', e1, e2⟩ := Option.map_eq_some_iff.mp e
    cases e1
    exact ⟨ys, hy', by rw [← rr.length]; exact List.getElem?_eq_none_iff.mp e2⟩
  · obtain ⟨xs', e1, e2⟩ := Option.map_eq_some_iff.mp e
    cases e1
    obtain ⟨v, e3, r3⟩ := rr'.get e2
    refine ⟨⟨ys, v, hy', e3⟩, fun x H2 y => ?_⟩
    obtain ⟨rfl, y⟩ := y
    have := y ys hy'
    rw [e3] at this
    cases this
    exact ⟨.refl, R', r3⟩
theorem it_str {z : Str} : ItR Γ ρ H (itStr z) (Its z) := by
  intro i ρ' h' H' l R'
  refine ⟨fun e => ?_, fun w e => ?_⟩
  · have e : z.cps[i]?.map (fun c => W.str ⟨#[c]⟩) = none := Option.some.inj e
    have e : z.cps[i]? = none := by simpa using e
    exact Array.getElem?_eq_none_iff.mp e
  · have e : z.cps[i]?.map (fun c => W.str ⟨#[c]⟩) = some w := Option.some.inj e
    obtain ⟨cp, e1, rfl⟩ := Option.map_eq_some_iff.mp e
    refine ⟨(Array.getElem?_eq_some_iff.mp e1).1, fun x H2 y => ?_⟩
    obtain ⟨rfl, cp', e2, rfl⟩ := y
    rw [e1] at e2
    cases e2
    exact ⟨.refl, R', iS⟩
theorem it_rng {lo : Int} {n : Nat} : ItR Γ ρ H (itRng lo 1 n) (L2.Itr lo n) := by
  intro i ρ' h' H' l R'
  refine ⟨fun e => ?_, fun w e => ?_⟩
  · have e : (if i < n then some (W.int (lo + (i : Nat) * 1)) else none) = none := Option.some.inj e
    split at e
    · cases e
    · show n ≤ i
      omega
  · have e : (if i < n then some (W.int (lo + (i : Nat) * 1)) else none) = some w := Option.some.inj e
    split at e
    · rename_i hi
      cases e
      refine ⟨hi, fun x H2 y => ?_⟩
      obtain ⟨rfl, rfl⟩ := y
      rw [Int.mul_one]
      exact ⟨.refl, R', iI'⟩
    · cases e
theorem it_rngC {lo st : Int} {n : Nat} : ItR Γ ρ H (itRng lo st n) (Itc lo st n) := by
  intro i ρ' h' H' l R'
  refine ⟨fun e => ?_, fun w e => ?_⟩
  · have e : (if i < n then some (W.int (lo + (i : Nat) * st)) else none) = none := Option.some.inj e
    split at e
    · cases e
    · show n ≤ i
      omega
  · have e : (if i < n then some (W.int (lo + (i : Nat) * st)) else none) = some w := Option.some.inj e
    split at e
    · rename_i hi
      cases e
      refine ⟨hi, fun x H2 y => ?_⟩
      obtain ⟨rfl, rfl⟩ := y
      exact ⟨.refl, R', iI'⟩
    · cases e
theorem it_rev {r0 : Nat} {ad : Addr} {n : Nat} (ea : ρ[r0]? = some ad) : ItR Γ ρ H (itRev (.ref r0) n) (Itv Γ.K ad n) := by
  intro i ρ' h' H' l R'
  unfold itRev
  refine ⟨fun e => ?_, fun w e => ?_⟩
  · split at e
    · obtain ⟨xs, e1, e2⟩ := Option.bind_eq_some_iff.mp e
      obtain ⟨w, e3, e4⟩ := Option.map_eq_some_iff.mp e2
      cases e4
    · show n ≤ i
      omega
  · split at e
    · rename_i hi
      obtain ⟨xs, e1, e2⟩ := Option.bind_eq_some_iff.mp e
      obtain ⟨w', e3, e4⟩ := Option.map_eq_some_iff.mp e2
      cases e4
      obtain ⟨ys, hy, rr⟩ := seqL_later R' (l.at ea) e1
      obtain ⟨v, e5, r5⟩ := rr.get e3
      refine ⟨⟨hi, ys, v, hy, e5⟩, fun x H2 y => ?_⟩
      obtain ⟨rfl, y⟩ := y
      have := y ys hy
      rw [e5] at this
      cases this
      exact ⟨.refl, R', r5⟩
    · cases e
theorem it_zip {r0 r1 : Nat} {a0 a1 : Addr} (e0 : ρ[r0]? = some a0) (e1 : ρ[r1]? = some a1) : ItR Γ ρ H (itZip (.ref r0) (.ref r1)) (Itz Γ.K a0 a1) := by
  intro i ρ' h' H' l R'
  unfold itZip
  refine ⟨fun e => ?_, fun w e => ?_⟩
  · obtain ⟨xs, f1, f2⟩ := Option.bind_eq_some_iff.mp e
    obtain ⟨ys, f3, f4⟩ := Option.map_eq_some_iff.mp f2
    obtain ⟨vs, hx, rx⟩ := seqL_later R' (l.at e0) f1
    obtain ⟨us, hy, ry⟩ := seqL_later R' (l.at e1) f3
    refine ⟨vs, us, hx, hy, ?_⟩
    rw [← rx.length, ← ry.length]
    split at f4
    · cases f4
    · rename_i hne
      cases g1 : xs[i]? with
      | none => exact .inl (List.getElem?_eq_none_iff.mp g1)
      | some a =>
        cases g2 : ys[i]? with
        | none => exact .inr (List.getElem?_eq_none_iff.mp g2)
        | some b => exact (hne a b g1 g2).elim
  · obtain ⟨xs, f1, f2⟩ := Option.bind_eq_some_iff.mp e
    obtain ⟨ys, f3, f4⟩ := Option.map_eq_some_iff.mp f2
    obtain ⟨vs, hx, rx⟩ := seqL_later R' (l.at e0) f1
    obtain ⟨us, hy, ry⟩ := seqL_later R' (l.at e1) f3
    split at f4
    · rename_i a b g1 g2
      cases f4
      obtain ⟨v, h1, q1⟩ := rx.get g1
      obtain ⟨u, h2, q2⟩ := ry.get g2
      refine ⟨⟨vs, us, v, u, hx, hy, h1, h2⟩, fun x H2 y => ?_⟩
      obtain ⟨T, x1, y1, rfl, hT, rfl, y3, y4⟩ := y
      have z1 := y3 vs hx
      have z2 := y4 us hy
      rw [h1] at z1
      rw [h2] at z2
      cases z1
      cases z2
      exact R'.newT hT (RelWs.cons q1 (RelWs.cons q2 RelWs.nil))
    · cases f4
theorem it_enum {r0 : Nat} {a0 : Addr} (e0 : ρ[r0]? = some a0) : ItR Γ ρ H (itEnum (.ref r0)) (Ite Γ.K a0) := by
  intro i ρ' h' H' l R'
  unfold itEnum
  refine ⟨fun e => ?_, fun w e => ?_⟩
  · obtain ⟨xs, f1, f2⟩ := Option.map_eq_some_iff.mp e
    obtain ⟨vs, hx, rx⟩ := seqL_later R' (l.at e0) f1
    refine ⟨vs, hx, ?_⟩
    rw [← rx.length]
    have : xs[i]? = none := by simpa using f2
    exact List.getElem?_eq_none_iff.mp this
  · obtain ⟨xs, f1, f2⟩ := Option.map_eq_some_iff.mp e
    obtain ⟨vs, hx, rx⟩ := seqL_later R' (l.at e0) f1
    obtain ⟨a, g1, rfl⟩ := Option.map_eq_some_iff.mp f2
    obtain ⟨v, h1, q1⟩ := rx.get g1
    refine ⟨⟨vs, v, hx, h1⟩, fun x H2 y => ?_⟩
    obtain ⟨T, x1, rfl, hT, rfl, y3⟩ := y
    have z1 := y3 vs hx
    rw [h1] at z1
    cases z1
    exact R'.newT hT (RelWs.cons iI' (RelWs.cons q1 RelWs.nil))

/-- an expression that gives a list, a tuple or a text -/
theorem si_any (ha : SE Γ c k a fa) : SI Γ c k tg a (iAny fa) := by
  intro W X G
  refine ⟨fun pins s τ H R' I h => ?_⟩
  obtain ⟨ρ, σ, h, R, S, q⟩ := h
  refine thn ((ha W X G).run pins s τ H (fun v H1 => ∃ ρ1 h1 x, Rel Γ ρ1 h1 H1 ∧ RelW Γ ρ1 H1 x v ∧ O1 Γ (ItR Γ) ρ1 H1 (match x with
      | .str z => .ok (itStr z) h1
      | x => if (seqC x h1).isSome then .ok (itSeq x) h1 else .bad) R' (fun cls d H' => W cls d τ H')) I ⟨ρ, σ, h, R, S, (O1.bind (R := RelW Γ) q).imp fun x H1 ⟨ρ1, h1, u, l1, R1, r1, q1⟩ => ⟨ρ1, h1, u, R1, r1, q1⟩⟩) fun v s1 ⟨x, H1, I1, r1, ρ1, h1, u, R1, ru, q1⟩ => ?_
  split at q1
  · rename_i z
    have e := rwS ru
    subst e
    obtain ⟨t, rfl⟩ := r1
    have q2 := q1 ρ1 H1 (Its z) .refl R1 it_str
    cases ha : z.cps.all (· < 128)
    · exact wpAny_pyIter_wide ha (pi_one (tk := s1.toks) I1 _ (turn_str _ z t "str_iterator" (.inr rfl)) ⟨_, Heap.get?_push_size _ rfl, rfl, rfl⟩ q2)
    · exact wpAny_pyIter_ascii ha (pi_one (tk := s1.toks) I1 _ (turn_str _ z t "str_ascii_iterator" (.inl rfl)) ⟨_, Heap.get?_push_size _ rfl, rfl, rfl⟩ q2)
  · split at q1
    · rename_i hs
      have list : ∀ {r0 : Nat} {ad : Addr} {ys : List V}, u = .ref r0 → ρ1[r0]? = some ad → x = .ref ad → SqL Γ.K H1 ad ys → wpAny (model X.prog X.w) X.A (pyIter v) (PIE X pins τ tg R') X.xe s1 := fun {r0 ad ys} e1 e2 e3 hq => by
        subst e1 e3
        cases (show v = Value.ref ad from r1)
        have q2 := q1 ρ1 H1 (Itl Γ.K ad) .refl R1 (it_list (h := h1) e2)
        rw [← G.K] at hq q2
        obtain ⟨its, rv, p, hz⟩ := I1.list hq
        refine wpAny_pyIter_list p.isList ?_
        refine ⟨s1.heap.objs.size, [s1.heap.objs.size], _, _, H1, rfl, I1.kept (t' := s1.toks) fun b o e => Heap.get?_push_of_some _ e, turn_list ad _, ⟨_, Heap.get?_push_size _ rfl, rfl, rfl⟩, fun b hb => ?_, q2⟩
        have e : b = s1.heap.objs.size := by simpa using hb
        subst e
        exact I1.fpOk (Nat.le_refl _) (I1.hok.fresh (Nat.le_refl _))
      cases u with
      | tup xs =>
        obtain ⟨ad, ys, e3, hq, rr⟩ := rwT ru
        subst e3
        cases (show v = Value.ref ad from r1)
        have q2 := q1 ρ1 H1 (Itt Γ.K ad) .refl R1 (it_tup hq rr)
        rw [← G.K] at hq q2
        obtain ⟨its, rv, p, hz⟩ := I1.tuple hq
        refine wpAny_pyIter_tuple (show s1.heap.IsTuple ad its.toArray from p) ?_
        refine ⟨s1.heap.objs.size, [s1.heap.objs.size], _, _, H1, rfl, I1.kept (t' := s1.toks) fun b o e => Heap.get?_push_of_some _ e, turn_tuple ad _, ⟨_, Heap.get?_push_size _ rfl, rfl, rfl⟩, fun b hb => ?_, q2⟩
        have e : b = s1.heap.objs.size := by simpa using hb
        subst e
        exact I1.fpOk (Nat.le_refl _) (I1.hok.fresh (Nat.le_refl _))
      | ref r0 =>
        obtain ⟨ad, ea, e3⟩ := rwR ru
        cases e4 : seqC (.ref r0) h1 with
        | none => rw [e4] at hs; cases hs
        | some xs =>
          obtain ⟨ys, hq, _⟩ := seqL_later R1 ea e4
          exact list rfl ea e3 hq
      | _ => cases hs
    · exact q1.elim
theorem smallI_of {i : Int} (h : smallI i = true) : -(2 ^ 62) ≤ i ∧ i < 2 ^ 62 := of_decide_eq_true h
theorem si_rng1 (j : Nat) (B : Bs Γ) (ha : SA Γ c k [a] fr) (hG : c.G[j]? = some ("range" : Str) := by rfl) (hs : ∀ env, starEach [a] env = [(false, eval a env)] := by intros; rfl) : SI Γ c k tg (.Call (.Name "range" p) [a] [] pos) (iRng1 fr) := by
  intro W X G
  refine PI.imp (pi_range1 (G.gl (List.mem_of_getElem? hG)) (by rw [G.mg]; exact B.range) (ha W X G) (hs X.env)) fun τ H Q h => ?_
  obtain ⟨ρ, σ, h, R, S, q⟩ := h
  refine ⟨ρ, σ, h, R, S, (O1.bind (R := RelWs Γ) q).imp fun x H1 ⟨ρ1, h1, u, l1, R1, r1, q1⟩ => ?_⟩
  split at q1
  · split at q1
    · rename_i hl
      obtain ⟨v, rfl, r2⟩ := rws1 r1
      obtain ⟨b1, b2⟩ := smallI_of hl
      exact ⟨_, by rw [rwI r2], b1, b2, q1 ρ1 H1 _ .refl R1 it_rng⟩
    · exact q1.elim
  · exact q1.elim
theorem si_rng2 (j : Nat) (B : Bs Γ) (ha : SA Γ c k [a, b] fr) (hG : c.G[j]? = some ("range" : Str) := by rfl) (hs : ∀ env, starEach [a, b] env = [(false, eval a env), (false, eval b env)] := by intros; rfl) (hs2 : ∀ env, starEach [b] env = [(false, eval b env)] := by intros; rfl) : SI Γ c k tg (.Call (.Name "range" p) [a, b] [] pos) (iRng2 fr) := by
  intro W X G
  refine PI.imp (pi_range2 (G.gl (List.mem_of_getElem? hG)) (by rw [G.mg]; exact B.range) (ha W X G) (hs X.env) (hs2 X.env)) fun τ H Q h => ?_
  obtain ⟨ρ, σ, h, R, S, q⟩ := h
  refine ⟨ρ, σ, h, R, S, (O1.bind (R := RelWs Γ) q).imp fun x H1 ⟨ρ1, h1, u, l1, R1, r1, q1⟩ => ?_⟩
  split at q1
  · split at q1
    · rename_i hl
      obtain ⟨v, v', rfl, r2, r3⟩ := rws2 r1
      rw [Bool.and_eq_true] at hl
      obtain ⟨b1, b2⟩ := smallI_of hl.1
      obtain ⟨b3, b4⟩ := smallI_of hl.2
      exact ⟨_, _, by rw [rwI r2, rwI r3], ⟨b1, b2, b3, b4⟩, q1 ρ1 H1 _ .refl R1 it_rng⟩
    · exact q1.elim
  · exact q1.elim
theorem rws3 {w w' w'' : W} {vs : List V} (r : RelWs Γ ρ H [w, w', w''] vs) : ∃ v v' v'', vs = [v, v', v''] ∧ RelW Γ ρ H w v ∧ RelW Γ ρ H w' v' ∧ RelW Γ ρ H w'' v'' := by
  unfold RelWs at r
  obtain ⟨y, r', rfl, h1, h2⟩ := r
  obtain ⟨v', v'', rfl, h3, h4⟩ := rws2 h2
  exact ⟨y, v', v'', rfl, h1, h3, h4⟩
theorem si_rng3 (j : Nat) (B : Bs Γ) (ha : SA Γ c k [a, b, d] fr) (hG : c.G[j]? = some ("range" : Str) := by rfl) (h0 : ∀ env, starEach [a, b, d] env = (false, eval a env) :: starEach [b, d] env := by intros; rfl) (h1 : ∀ env, (backTo pos (starEach [b, d] env)).any (·.1) = false := by intros; rfl) : SI Γ c k tg (.Call (.Name "range" p) [a, b, d] [] pos) (iRng3 fr) := by
  intro W X G
  refine PI.imp (pi_range3 (G.gl (List.mem_of_getElem? hG)) (by rw [G.mg]; exact B.range) (ha W X G) (h0 X.env) (h1 X.env)) fun τ H Q h => ?_
  obtain ⟨ρ, σ, h, R, S, q⟩ := h
  refine ⟨ρ, σ, h, R, S, (O1.bind (R := RelWs Γ) q).imp fun x H1 ⟨ρ1, h1, u, l1, R1, r1, q1⟩ => ?_⟩
  split at q1
  · split at q1
    · rename_i hl
      obtain ⟨v, v', v'', rfl, r2, r3, r4⟩ := rws3 r1
      exact ⟨_, _, _, _, by rw [rwI r2, rwI r3, rwI r4], ⟨hl.1, hl.2.1, hl.2.2.1, (Int.toNat_of_nonneg hl.2.2.2).symm⟩, q1 ρ1 H1 _ .refl R1 it_rngC⟩
    · exact q1.elim
  · exact q1.elim
theorem si_rev (j : Nat) (B : Bs Γ) (ha : SE Γ c k a fa) (hG : c.G[j]? = some ("reversed" : Str) := by rfl) (hs : ∀ env, starEach [a] env = (false, eval a env) :: starEach [] env := by intros; rfl) : SI Γ c k tg (.Call (.Name "reversed" p) [a] [] pos) (iRev fa) := by
  intro W X G
  refine PI.imp (RT.pi_revA (G.gl (List.mem_of_getElem? hG)) (by rw [G.mg]; exact B.reversed) (ha W X G) (hs X.env)) fun τ H Q h => ?_
  obtain ⟨ρ, σ, h, R, S, q⟩ := h
  refine ⟨ρ, σ, h, R, S, (O1.bind (R := RelW Γ) q).imp fun x H1 ⟨ρ1, h1, u, l1, R1, r1, q1⟩ => ?_⟩
  rw [G.K]
  split at q1
  · rename_i xs e1
    cases u with
    | ref r0 =>
      obtain ⟨ad, ea, rfl⟩ := rwR r1
      obtain ⟨ys, hy, rr⟩ := seqL_later R1 ea e1
      exact ⟨ad, ys, rfl, .inl ⟨hy, by rw [← rr.length]; exact q1 ρ1 H1 _ .refl R1 (it_rev ea)⟩⟩
    | tup zs =>
      cases e1
      obtain ⟨ad, ys, rfl, hy, rr⟩ := rwT r1
      refine ⟨ad, ys, rfl, .inr ⟨hy, q1 ρ1 H1 _ .refl R1 ?_⟩⟩
      intro i ρ' h' H' l R'
      have hy' := l.tup _ _ hy
      have rr' := RelWs.mono l _ _ rr
      unfold itRev
      refine ⟨fun e => ?_, fun w e => ?_⟩
      · split at e
        · obtain ⟨xs, e1, e2⟩ := Option.bind_eq_some_iff.mp e
          obtain ⟨w, e3, e4⟩ := Option.map_eq_some_iff.mp e2
          cases e4
        · show ys.length ≤ i
          rw [← rr.length]
          omega
      · split at e
        · rename_i hi
          obtain ⟨xs, e1, e2⟩ := Option.bind_eq_some_iff.mp e
          obtain ⟨w', e3, e4⟩ := Option.map_eq_some_iff.mp e2
          cases e4
          cases e1
          obtain ⟨v, e5, r5⟩ := rr'.get e3
          rw [rr.length] at e5
          refine ⟨⟨by rw [← rr.length]; exact hi, ys, v, hy', e5⟩, fun x H2 y => ?_⟩
          obtain ⟨rfl, y⟩ := y
          have := y ys hy'
          rw [e5] at this
          cases this
          exact ⟨.refl, R', r5⟩
        · cases e
    | _ => cases e1
  · exact q1.elim
theorem si_zip (j : Nat) (B : Bs Γ) {elts : List Expr} {kk : Nat} {tpos : Pos} (ha : SA Γ c k [a, b] fr) (hG : c.G[j]? = some ("zip" : Str) := by rfl) (hs : ∀ env, starEach [a, b] env = (false, eval a env) :: starEach [b] env := by intros; rfl) (hpl : ∀ env, (backTo pos (starEach [b] env)).any (·.1) = false := by intros; rfl) :
    SI Γ c k (.Tuple elts kk tpos) (.Call (.Name "zip" p) [a, b] [] pos) (iZip fr) := by
  intro W X G
  refine PI.imp (pi_zip (G.gl (List.mem_of_getElem? hG)) (by rw [G.mg]; exact B.zip) (ha W X G) (hs X.env) (hpl X.env)) fun τ H Q h => ?_
  obtain ⟨ρ, σ, h, R, S, q⟩ := h
  refine ⟨ρ, σ, h, R, S, (O1.bind (R := RelWs Γ) q).imp fun x H1 ⟨ρ1, h1, u, l1, R1, r1, q1⟩ => ?_⟩
  rw [G.K]
  split at q1
  · split at q1
    · rename_i hl
      rw [Bool.and_eq_true] at hl
      obtain ⟨v, v', rfl, r2, r3⟩ := rws2 r1
      obtain ⟨i0, a0, xs, ys, rfl, rfl, e0, _, hq0, _⟩ := isL_at R1 hl.1 r2
      obtain ⟨i1, a1, xs1, ys1, rfl, rfl, e1, _, hq1, _⟩ := isL_at R1 hl.2 r3
      exact ⟨a0, a1, ys, ys1, rfl, hq0, hq1, q1 ρ1 H1 _ .refl R1 (it_zip e0 e1)⟩
    · exact q1.elim
  · exact q1.elim
theorem si_enum (j : Nat) (B : Bs Γ) {elts : List Expr} {kk : Nat} {tpos : Pos} (ha : SA Γ c k [a] fr) (hG : c.G[j]? = some ("enumerate" : Str) := by rfl) (hs : ∀ env, starEach [a] env = [(false, eval a env)] := by intros; rfl) :
    SI Γ c k (.Tuple elts kk tpos) (.Call (.Name "enumerate" p) [a] [] pos) (iEnum fr) := by
  intro W X G
  refine PI.imp (pi_enum (G.gl (List.mem_of_getElem? hG)) (by rw [G.mg]; exact B.enumerate) (ha W X G) (hs X.env)) fun τ H Q h => ?_
  obtain ⟨ρ, σ, h, R, S, q⟩ := h
  refine ⟨ρ, σ, h, R, S, (O1.bind (R := RelWs Γ) q).imp fun x H1 ⟨ρ1, h1, u, l1, R1, r1, q1⟩ => ?_⟩
  rw [G.K]
  split at q1
  · split at q1
    · rename_i hl
      obtain ⟨v, rfl, r2⟩ := rws1 r1
      obtain ⟨i0, a0, xs, ys, rfl, rfl, e0, _, hq0, _⟩ := isL_at R1 hl r2
      exact ⟨a0, ys, rfl, hq0, q1 ρ1 H1 _ .refl R1 (it_enum e0)⟩
    · exact q1.elim
  · exact q1.elim
end
end Z

namespace Z
open PySem PySem.Spec PyProof.Rows L2

/-! ### methods of built-in types -/
def rM (Γ : Gam) (g : W → List W → Hm → Pr) : V → List V → Hp → VK → Prop := fun x xs H Q => ∃ ρ h u us u' h', Rel Γ ρ h H ∧ RelW Γ ρ H u x ∧ RelWs Γ ρ H us xs ∧ g u us h = some (u', h') ∧ ∀ ρ' H' v, Le Γ ρ ρ' H H' → Rel Γ ρ' h' H' → RelW Γ ρ' H' u' v → Q v H'
def MtS (Γ : Gam) (c : Cfg) (k : Nat) (id : String) (g : W → List W → Hm → Pr) : Prop := ∀ W X, Good Γ c k W X → MtR X id (rM Γ g)
def isS (x : W) (_ : Hm) : Bool := match x with
  | .str _ => true
  | _ => false
def xMeth (t : W → Hm → Bool) (g : W → List W → Hm → Pr) (o : XE) (a : XA) : XE := fun σ h => (o σ h).bind fun x h1 => if t x h1 then (a σ h1).bind fun xs h2 => ofO (g x xs h2) else .bad
def appW (x : W) (xs : List W) (h : Hm) : Pr := match x, xs with
  | .ref r, [y] => match h[r]? with
    | some (.lst zs) => if zs.length < 16777216 then some (.non, h.set r (.lst (zs ++ [y]))) else none
    | _ => none
  | _, _ => none
def extW (x : W) (xs : List W) (h : Hm) : Pr := match x, xs with
  | .ref r, [.ref s] => match h[r]?, h[s]? with
    | some (.lst zs), some (.lst ys) => if zs.length + ys.length ≤ 16777216 then some (.non, h.set r (.lst (zs ++ ys))) else none
    | _, _ => none
  | _, _ => none
def strs? : List W → Option (List Str)
  | [] => some []
  | .str x :: r => (strs? r).map fun l => x :: l
  | _ :: _ => none
def joinW (x : W) (xs : List W) (h : Hm) : Pr := match x, xs with
  | .str a, [y] => (seqC y h).bind fun ys => (strs? ys).bind fun zs => if (zs.map (·.length)).sum + zs.length * a.length ≤ 16777216 then some (.str (Txt.join a zs), h) else none
  | _, _ => none
section
variable {Γ : Gam} {c : Cfg} {k : Nat} {a b e d o i tg : Expr} {es : List Expr} {fa fb fc : XE} {ft fu : XT} {fr : XA} {pos p : Pos} {ρ : List Addr} {H : Hp}
theorem ms_append : MtS Γ c k "list.append" appW := by
  intro W X G pins s σ H x xs v us Q I rx rxs h
  obtain ⟨ρ, hm, u, ws, u', h', R, ru, rws, e, q⟩ := h
  unfold appW at e
  split at e
  · split at e
    · rename_i ex
      split at e
      · rename_i hl
        cases e
        obtain ⟨y, rfl, ry⟩ := rws1 rws
        obtain ⟨l, ys, rfl, ea, hy, r1⟩ := R.lst ex ru
        refine mt_append pins s σ H _ _ v us Q I rx rxs ⟨l, ys, y, rfl, rfl, hy, by rw [sizeLine_eq, ← r1.length]; exact hl, ?_⟩
        obtain ⟨q1, q2⟩ := R.setL ex ea hy (r1.append (RelWs.cons ry RelWs.nil))
        exact q _ _ _ q1 q2 iN
      · cases e
    · cases e
  · cases e
theorem ms_extend : MtS Γ c k "list.extend" extW := by
  intro W X G pins s σ H x xs v us Q I rx rxs h
  obtain ⟨ρ, hm, u, ws, u', h', R, ru, rws, e, q⟩ := h
  unfold extW at e
  split at e
  · split at e
    · rename_i ex ey
      split at e
      · rename_i hl
        cases e
        obtain ⟨y, rfl, ry⟩ := rws1 rws
        obtain ⟨l, ys, rfl, ea, hy, r1⟩ := R.lst ex ru
        obtain ⟨l2, zs, rfl, _, hz, r2⟩ := R.lst ey ry
        refine mt_extend pins s σ H _ _ v us Q I rx rxs ⟨l, l2, ys, zs, rfl, rfl, hy, hz, by rw [sizeLine_eq, ← r1.length, ← r2.length]; exact hl, ?_⟩
        obtain ⟨q1, q2⟩ := R.setL ex ea hy (r1.append r2)
        exact q _ _ _ q1 q2 iN
      · cases e
    · cases e
  · cases e
theorem strs_of : ∀ {ws : List W} {zs : List Str} {vs : List V}, strs? ws = some zs → RelWs Γ ρ H ws vs → vs = zs.map V.str
  | [], zs, vs, e, r => by
    unfold RelWs at r
    subst r
    cases e
    rfl
  | w :: ws, zs, vs, e, r => by
    unfold RelWs at r
    obtain ⟨y, r', rfl, r1, r2⟩ := r
    cases w with
    | str x =>
      unfold strs? at e
      obtain ⟨l, e1, rfl⟩ := Option.map_eq_some_iff.mp e
      rw [rwS r1, strs_of e1 r2]
      rfl
    | _ => cases e
theorem ms_join : MtS Γ c k "str.join" joinW := by
  intro W X G pins s σ H x xs v us Q I rx rxs h
  obtain ⟨ρ, hm, u, ws, u', h', R, ru, rws, e, q⟩ := h
  unfold joinW at e
  split at e
  · obtain ⟨ys, e1, e2⟩ := Option.bind_eq_some_iff.mp e
    obtain ⟨zs, e3, e4⟩ := Option.bind_eq_some_iff.mp e2
    split at e4
    · rename_i hl
      cases e4
      obtain ⟨y, rfl, ry⟩ := rws1 rws
      obtain ⟨p, vs, rfl, hs, rr⟩ := seq_of R e1 ry
      have e5 := strs_of e3 rr
      subst e5
      exact mt_join pins s σ H _ _ v us Q I rx rxs ⟨_, p, zs, rwS ru, rfl, by rw [G.K]; exact hs, hl, q ρ H _ .refl R iS⟩
    · cases e4
  · cases e
theorem isL_ty {h : Hm} {x : W} {v : V} (R : Rel Γ ρ h H) (e : isL x h = true) (r : RelW Γ ρ H x v) : tyV Γ.K "list" v H := by
  obtain ⟨r0, a, xs, ys, rfl, rfl, _, _, hq, _⟩ := isL_at R e r
  exact .inl ⟨rfl, ys, hq⟩
theorem isS_ty {h : Hm} {x : W} {v : V} (R : Rel Γ ρ h H) (e : isS x h = true) (r : RelW Γ ρ H x v) : tyV Γ.K "str" v H := by
  cases x with
  | str z => rw [rwS r]; rfl
  | _ => cases e
theorem se_bm {name : Str} {apos cpos : Pos} {T id : String} {t : W → Hm → Bool} {g : W → List W → Hm → Pr} (pa : PlainAttrs T) (slot : Slot T name id) (hty : typeOf (.builtin id) = pure (.type "method_descriptor")) (hm : MtS Γ c k id g)
    (ht : ∀ {ρ : List Addr} {H : Hp} {h : Hm} {x : W} {v : V}, Rel Γ ρ h H → t x h = true → RelW Γ ρ H x v → tyV Γ.K T v H) (ho : SE Γ c k o fa) (ha : SA Γ c k (e :: es) fr)
    (hbase : ∀ env, attributeBase o name env (eval o env) = eval o env := by intros; rfl)
    (hfew : ∀ env, ((backTo cpos (starEach (e :: es) env)).all (fun x => !x.1) && (backToKw cpos (keywordEach [] env)).all (fun x => x.1.isSome)
      && decide ((e :: es).length + ([] : List Keyword).length + (if ([] : List Keyword).isEmpty then 0 else 1) < 30)) = true := by intros; rfl)
    (hline : (apos.endLine == cpos.line) = true := by rfl) (hs : ∀ env, starEach (e :: es) env = (false, eval e env) :: starEach es env := by intros; rfl) (hplain : ∀ env, (backTo cpos (starEach es env)).any (·.1) = false := by intros; rfl) :
    SE Γ c k (.Call (.Attribute o name apos) (e :: es) [] cpos) (xMeth t g fa fr) := by
  intro W X G
  refine PE.imp (pe_bm pa slot hty (hm W X G) (ho W X G) (ha W X G) (hbase X.env) (hfew X.env) hline (hs X.env) (hplain X.env)) fun τ H Q h => ?_
  obtain ⟨ρ, σ, h, R, S, q⟩ := h
  refine ⟨ρ, σ, h, R, S, (O1.bind (R := RelW Γ) q).imp fun v H1 ⟨ρ1, h1, u, l1, R1, r1, q1⟩ => ?_⟩
  split at q1
  · rename_i et
    refine ⟨by rw [G.K]; exact ht R1 et r1, ρ1, σ, h1, R1, S.mono l1, (O1.bind (R := RelWs Γ) q1).imp fun vs H2 ⟨ρ2, h2, us, l2, R2, r2, q2⟩ => ?_⟩
    obtain ⟨u', h', e, q3⟩ := q2.ofO
    exact ⟨ρ2, h2, u, us, u', h', R2, RelW.mono l2 _ _ r1, r2, e, q3⟩
  · exact q1.elim
/-- o.bit_length() -/
def bitsW (x : W) (h : Hm) : Pr := match x with
  | .int i => some (.int (Builtin.Int.intBits i : Nat), h)
  | _ => none
theorem se_bits {apos : Pos} (ho : SE Γ c k o fa) (hbase : ∀ env, attributeBase o "bit_length" env (eval o env) = eval o env := by intros; rfl) (hline : (apos.endLine == pos.line) = true := by rfl) : SE Γ c k (.Call (.Attribute o "bit_length" apos) [] [] pos) (xUn bitsW fa) := by
  intro W X G
  refine PE.imp (pe_bits (ho W X G) (hbase X.env) hline) fun τ H Q h => ?_
  obtain ⟨ρ, σ, h, R, S, q⟩ := h
  refine ⟨ρ, σ, h, R, S, (O1.bind (R := RelW Γ) q).imp fun v H1 ⟨ρ1, h1, u, l1, R1, r1, q1⟩ => ?_⟩
  obtain ⟨u', h', e, q3⟩ := q1.ofO
  unfold bitsW at e
  split at e
  · cases e
    exact ⟨_, rwI r1, q3 ρ1 H1 _ .refl R1 iI'⟩
  · cases e
end

/-! ### list comprehensions -/
def wipeS (σ : Sg) : List Nat → Sg
  | [] => σ
  | v :: vs => (wipeS σ vs).set v none
def compL (it : Z.Itr) (g : XG) (t : XT) (e : XE) (d : Nat) (σ0 : Sg) : Nat → Nat → Hm → Out W
  | 0, _, _ => .bad
  | n + 1, i, h => match it i h with
    | none => .bad
    | some none => .ok (.ref d) h
    | some (some w) => match g w σ0 h with
      | none => .bad
      | some σ1 => match t σ1 h with
        | .ok true h1 => match e σ1 h1 with
          | .ok y h2 => match h2[d]? with
            | some (.lst acc) => if acc.length < 16777216 then compL it g t e d σ0 n (i + 1) (h2.set d (.lst (acc ++ [y]))) else .bad
            | _ => .bad
          | _ => .bad
        | .ok false h1 => compL it g t e d σ0 n (i + 1) h1
        | _ => .bad
def xComp (fi : XI) (g : XG) (t : XT) (e : XE) (own : List Nat) : XE := fun σ h => (fi σ h).bind fun it h1 => compL it g t e h1.length (wipeS σ own) fuel 0 (h1 ++ [.lst []])
def xTrue : XT := fun _ h => .ok true h
section
variable {Γ : Gam} {c c' : Cfg} {k : Nat} {a b e d o i tg iter : Expr} {es ifs : List Expr} {fa fb fc : XE} {ft fu : XT} {fr : XA} {pos p : Pos} {ρ : List Addr} {H : Hp}
theorem wipe_get (τ : L2.St) (j : Nat) : ∀ vs : List Nat, (wipe τ vs)[j]? = if j ∈ vs ∧ j < τ.length then some none else τ[j]?
  | [] => by simp [wipe]
  | v :: vs => by
    unfold wipe
    rw [List.getElem?_set, wipe_get τ j vs, wipe_length]
    by_cases hv : v = j
    · subst hv
      by_cases hl : v < τ.length <;> simp [hl]
    · simp [hv, Ne.symm hv]
theorem wipeS_get (τ : Sg) (j : Nat) : ∀ vs : List Nat, (wipeS τ vs)[j]? = if j ∈ vs ∧ j < τ.length then some none else τ[j]?
  | [] => by simp [wipeS]
  | v :: vs => by
    unfold wipeS
    have hl : (wipeS τ vs).length = τ.length := by
      clear wipeS_get
      induction vs with
      | nil => rfl
      | cons x xs ih => unfold wipeS; rw [List.length_set, ih]
    rw [List.getElem?_set, wipeS_get τ j vs, hl]
    by_cases hv : v = j
    · subst hv
      by_cases hl : v < τ.length <;> simp [hl]
    · simp [hv, Ne.symm hv]
theorem wipe_set {τ : L2.St} {vs : List Nat} {i : Nat} {x : Option V} (h : i ∈ vs) : wipe (τ.set i x) vs = wipe τ vs := by
  apply List.ext_getElem?
  intro j
  rw [wipe_get, wipe_get, List.length_set, List.getElem?_set]
  by_cases hj : j ∈ vs ∧ j < τ.length
  · rw [if_pos hj, if_pos hj]
  · rw [if_neg hj, if_neg hj]
    by_cases hi : i = j
    · subst hi
      have : ¬ i < τ.length := fun z => hj ⟨h, z⟩
      simp [this]
    · simp [hi]
theorem wipe_wipe (τ : L2.St) (vs : List Nat) : wipe (wipe τ vs) vs = wipe τ vs := by
  apply List.ext_getElem?
  intro j
  rw [wipe_get, wipe_get, wipe_length]
  by_cases hj : j ∈ vs ∧ j < τ.length
  · rw [if_pos hj, if_pos hj]
  · rw [if_neg hj, if_neg hj]
theorem RelS.wipe {σ : Sg} {τ : L2.St} (S : RelS Γ ρ H σ τ) (vs : List Nat) : RelS Γ ρ H (wipeS σ vs) (L2.wipe τ vs) := by
  have hl : ∀ vs : List Nat, (wipeS σ vs).length = σ.length := fun vs => by
    induction vs with
    | nil => rfl
    | cons x xs ih => unfold wipeS; rw [List.length_set, ih]
  refine ⟨by rw [hl, wipe_length]; exact S.1, fun j w e => ?_⟩
  rw [wipeS_get] at e
  split at e
  · cases e
  · rename_i hn
    obtain ⟨v, e1, r1⟩ := S.2 j w e
    refine ⟨v, ?_, r1⟩
    rw [wipe_get, if_neg (by rw [← S.1]; exact hn)]
    exact e1
/-- targets of a comprehension: names of its own -/
def gIo (Γ : Gam) (own : List Nat) (g : XG) : TG := fun v τ H Q => ∃ ρ σ h w σ', Rel Γ ρ h H ∧ RelS Γ ρ H σ τ ∧ RelW Γ ρ H w v ∧ g w σ h = some σ' ∧ ∀ τ', RelS Γ ρ H σ' τ' → wipe τ' own = wipe τ own → Q τ' H
def gIso (Γ : Gam) (own : List Nat) (g : XGs) : TGs := fun v τ H Q => ∃ ρ σ h w σ', Rel Γ ρ h H ∧ RelS Γ ρ H σ τ ∧ RelWs Γ ρ H w v ∧ g w σ h = some σ' ∧ ∀ τ', RelS Γ ρ H σ' τ' → wipe τ' own = wipe τ own → Q τ' H
def SGo (Γ : Gam) (c : Cfg) (k : Nat) (own : List Nat) (e : Expr) (g : XG) : Prop := ∀ W X, Good Γ c k W X → PG X e (gIo Γ own g)
def SGso (Γ : Gam) (c : Cfg) (k : Nat) (own : List Nat) (es : List Expr) (g : XGs) : Prop := ∀ W X, Good Γ c k W X → PGs X es (gIso Γ own g)
theorem so_name (i j : Nat) {own : List Nat} {x : Str} (hN : c.N[i]? = some x := by rfl) (hL : c.L[j]? = some x := by rfl) (ho : i ∈ own := by decide) : SGo Γ c k own (.Name x pos) (gN i) := by
  intro W X G
  obtain ⟨h1, h2⟩ := G.loc (List.mem_of_getElem? hL)
  refine ⟨fun pins s τ H v u Q I r h => (pg_name (i := i) G.nd (by rw [G.N]; exact hN) h1 h2).run pins s τ H v u Q I r ?_⟩
  obtain ⟨ρ, σ, h, w, σ', R, S, rw', e, q⟩ := h
  cases e
  exact q _ (S.set rw') (wipe_set ho)
theorem sos_nil {own : List Nat} : SGso Γ c k own [] gsNil := by
  intro W X G
  refine ⟨fun pins s τ H v u Q I r h => pgs_nil.run pins s τ H v u Q I r ?_⟩
  obtain ⟨ρ, σ, h, w, σ', R, S, rw', e, q⟩ := h
  cases w with
  | nil =>
    cases e
    unfold RelWs at rw'
    exact ⟨rw', q _ S rfl⟩
  | cons _ _ => cases e
theorem sos_cons {own : List Nat} {g : XG} {r : XGs} (h1 : SGo Γ c k own e g) (h2 : SGso Γ c k own es r) (hs : ∀ env, (assignEach (e :: es) env).map (·.2) = assign e env :: (assignEach es env).map (·.2) := by intros; rfl) : SGso Γ c k own (e :: es) (gsCons g r) := by
  intro W X G
  refine ⟨fun pins s τ H v u Q I r h => (pgs_cons (h1 W X G) (h2 W X G) (hs X.env)).run pins s τ H v u Q I r ?_⟩
  obtain ⟨ρ, σ, h, w, σ', R, S, rw', e, q⟩ := h
  cases w with
  | nil => cases e
  | cons w ws =>
    unfold RelWs at rw'
    obtain ⟨y, r', e', q1, q2⟩ := rw'
    unfold gsCons at e
    dsimp only at e
    split at e
    · rename_i σ1 e1
      exact ⟨y, r', e', ρ, σ, h, w, σ1, R, S, q1, e1, fun τ1 S1 z1 => ⟨ρ, σ1, h, ws, σ', R, S1, q2, e, fun τ' S' z' => q τ' S' (z'.trans z1)⟩⟩
    · cases e
theorem so_tup {own : List Nat} {n : Nat} {kk : Nat} {g : XGs} (h : SGso Γ c k own es g) (hg : ∀ ws σ h, (g ws σ h).isSome = true → ws.length = n) (hc : c.calm = true := by rfl)
    (hn : ∀ env, (assignEach es env).length = n := by intros; rfl) (hst : ∀ env, (assignEach es env).findIdx? (·.1) = none := by intros; rfl) : SGo Γ c k own (.Tuple es kk pos) (gT g) := by
  intro W X G
  have hC : X.calm = true := G.calm.trans hc
  refine ⟨fun pins s τ H v u Q I r hh => ?_⟩
  obtain ⟨ρ, σ, hm, w, σ', R, S, rw', e, q⟩ := hh
  cases w with
  | tup xs =>
    unfold RelW at rw'
    obtain ⟨a, ys, ev, ht, rr⟩ := rw'
    have e : g xs σ hm = some σ' := e
    refine (pg_tup (n := n) hC (h W X G) (hn X.env) (hst X.env)).run pins s τ H v u Q I r ⟨a, ys, ev, by rw [G.K]; exact ht, ?_, ρ, σ, hm, xs, σ', R, S, rr, e, q⟩
    rw [← rr.length]
    exact hg xs σ hm (by rw [e]; rfl)
  | ref r0 =>
    unfold RelW at rw'
    obtain ⟨a, ea, ev⟩ := rw'
    unfold gT at e
    dsimp only at e
    split at e
    · rename_i xs ex
      obtain ⟨a', ea', ys, hy, rr⟩ := R.obj r0 _ ex
      rw [ea] at ea'
      cases ea'
      refine (pg_lst (n := n) hC (h W X G) (hn X.env) (hst X.env)).run pins s τ H v u Q I r ⟨a, ys, ev, SqL.of hy, ?_, ρ, σ, hm, xs, σ', R, S, rr, e, q⟩
      rw [← rr.length]
      exact hg xs σ hm (by rw [e]; rfl)
    · cases e
  | _ => cases e
/-- a clause's tests -/
def STs (Γ : Gam) (c : Cfg) (k : Nat) (ifs : List Expr) (f : XT) : Prop := ∀ W X, Good Γ c k W X → PTs X ifs (tIT Γ W f)
theorem sts_nil : STs Γ c k [] xTrue := by
  intro W X G
  refine ⟨fun pins s τ H Q I h => pts_nil.run pins s τ H Q I ?_⟩
  obtain ⟨ρ, σ, h, R, S, q⟩ := h
  exact q ρ H true .refl R rfl
theorem sts_one (h : ST Γ c k e ft) : STs Γ c k [e] ft := fun W X G => pts_one (h W X G)
theorem Good.blk {W : WX} {X : Cx} {scope : Scope} {own : List (Str × Nat)} (G : Good Γ c k W X) (hN : c'.N = c.N) (hs : c'.sc = relS scope c.sc) (hf : c'.fa = false) (hk : c'.calm = c.calm) (ok : CfgOk c') (s : Shared) (H : Hp) (C : Addr) (cl : List (Str × Addr)) (fp : List Addr) :
    Good Γ c' k (fun _ _ _ _ => False) (X.blk s H scope (compEnvC scope cl C X.env) fp) :=
  ⟨G.prog, G.w, G.K, G.mg, G.base, by rw [hN]; exact G.N, (by show relS scope X.env.scope = _; rw [G.sc, hs]), ok, (fun z => by rw [hf] at z; cases z), (by show X.calm = _; rw [hk]; exact G.calm), fun z => G.room (by rw [← hk]; exact z), takes0, PassesOwn.never, (fun z => by rw [hf] at z; cases z)⟩
theorem lc_read {W : WX} {own : List Nat} {fi : XI} {g : XG} {t : XT} {el : XE} {τ : L2.St} {H : Hp} {Q : VK} (h : tI Γ W (xComp fi g t el own) τ H Q) :
    tLc (iI Γ W fi) (gIo Γ own g) (tIT Γ (fun _ _ _ _ => False) t) (tI Γ (fun _ _ _ _ => False) el) own τ H Q := by
  obtain ⟨ρ, σ, h, R, S, q⟩ := h
  refine ⟨ρ, σ, h, R, S, (O1.bind (R := ItR Γ) q).imp fun J H1 ⟨ρ1, h1, it, l1, R1, r1, q1⟩ => ?_⟩
  intro D hD
  obtain ⟨q2, q3, q4⟩ := R1.newL hD (RelWs.nil (Γ := Γ) (ρ := ρ1) (H := H1))
  refine ⟨fun i m H => ∃ ρ h, Le Γ ρ1 ρ H1 H ∧ Rel Γ ρ h H ∧ ρ[h1.length]? = some D ∧ O1 Γ (RelW Γ) ρ H (compL it g t el h1.length (wipeS σ own) m i h) Q (fun cls d H' => W cls d τ H'), ⟨fuel, _, _, q2, q3, ?_, O1.mono q2 q1⟩, ?_⟩
  · rw [← R1.len]; simp
  rintro i m H ⟨ρ2, h2, l2, R2, eD, qq⟩
  cases m with
  | zero => exact qq.elim
  | succ m =>
    obtain ⟨s1, s2⟩ := r1 i ρ2 h2 H l2 R2
    unfold compL at qq
    split at qq
    · exact qq.elim
    · rename_i e1
      exact .inl ⟨s1 e1, qq ρ2 H _ .refl R2 (iR eD)⟩
    · rename_i w e1
      obtain ⟨go, yl⟩ := s2 w e1
      split at qq
      · exact qq.elim
      · rename_i σ1 e2
        refine .inr ⟨go, fun H => ∃ ρ h, Le Γ ρ1 ρ H1 H ∧ Rel Γ ρ h H ∧ ρ[h1.length]? = some D ∧ O1 Γ (RelW Γ) ρ H (compL it g t el h1.length (wipeS σ own) m (i + 1) h) Q (fun cls d H' => W cls d τ H'), fun H' hh => ⟨m, Nat.lt_succ_self _, hh⟩, fun x H' y => ?_⟩
        obtain ⟨l3, R3, rw'⟩ := yl x H' y
        have S3 : RelS Γ ρ2 H' (wipeS σ own) (wipe τ own) := ((S.mono l1).mono (l2.trans l3)).wipe own
        refine ⟨ρ2, wipeS σ own, h2, w, σ1, R3, S3, rw', e2, fun τ' S' z => ⟨by rw [z, wipe_wipe], ?_⟩⟩
        have qq := O1.mono l3 qq
        refine ⟨ρ2, σ1, h2, R3, S', ?_⟩
        cases e3 : t σ1 h2 with
        | bad => rw [e3] at qq; exact qq.elim
        | err x h3 => rw [e3] at qq; exact qq.elim
        | ok b h3 =>
          rw [e3] at qq
          intro ρ4 H4 b' l4 R4 eb
          have eb : b = b' := eb
          subst eb
          cases b with
          | false => exact iteF ⟨ρ4, h3, (l2.trans l3).trans l4, R4, l4.at eD, O1.mono l4 qq⟩
          | true =>
            refine iteT ⟨ρ4, σ1, h3, R4, S'.mono l4, ?_⟩
            have qq := O1.mono l4 qq
            dsimp only at qq
            cases e4 : el σ1 h3 with
            | bad => rw [e4] at qq; exact qq.elim
            | err x h3 => rw [e4] at qq; exact qq.elim
            | ok yw h5 =>
              rw [e4] at qq
              intro ρ5 H5 v5 l5 R5 r5
              dsimp only at qq
              split at qq
              · rename_i acc ea
                split at qq
                · rename_i hl
                  obtain ⟨aD, ys, ev, ea', hy, rr⟩ := R5.lst ea (iR (l5.at (l4.at eD)))
                  cases ev
                  obtain ⟨z1, z2⟩ := R5.setL ea ea' hy (rr.append (RelWs.cons r5 RelWs.nil))
                  exact ⟨ys, hy, by rw [sizeLine_eq, ← rr.length]; exact hl, ρ5, _, (((l2.trans l3).trans l4).trans l5).trans z1, z2, ea', O1.mono (l5.trans z1) qq⟩
                · exact qq.elim
              · exact qq.elim
/-- the wish that nothing is raised, where the names are those of the block -/
theorem se_comp {own : List (Str × Nat)} {scope : Scope} {fi : XI} {g : XG} {t : XT} {el : XE} (c' : Cfg) (hi : SI Γ c k tg iter fi) (hg : SGo Γ c' k (own.map (·.2)) tg g) (ht : STs Γ c' k ifs t) (he : SE Γ c' k e el)
    (ok : cfgOk c' = true) (hb : blkC c.N c.sc scope own = true) (hN : c'.N = c.N := by rfl) (hs : c'.sc = relS scope c.sc := by rfl) (hf : c'.fa = false := by rfl) (hk : c'.calm = c.calm := by rfl) (hc : c.calm = true := by rfl) (hset : ∀ env x, foldedSetIterable iter env x = pure x := by intros; rfl) :
    SE Γ c k (.ListComp e [⟨tg, iter, ifs, 0⟩] scope pos) (xComp fi g t el (own.map (·.2))) := by
  intro W X G
  have kk := cfgOk_of ok
  refine PE.imp (pe_lc (own := own) (G.calm.trans hc) G.nd (hi W X G) (by rw [G.N, G.sc]; exact blkOk_by hb) (fun s H C cl fp => hg _ _ (G.blk (own := own) hN hs hf hk kk s H C cl fp)) (fun s H C cl fp => ht _ _ (G.blk (own := own) hN hs hf hk kk s H C cl fp)) (fun s H C cl fp => he _ _ (G.blk (own := own) hN hs hf hk kk s H C cl fp)) (hset X.env)) fun τ H Q h => lc_read h
/-- name = [..] on one line -/
theorem ss_setLc (i j : Nat) {x : Str} {px spos : Pos} {own : List (Str × Nat)} {scope : Scope} {fi : XI} {g : XG} {t : XT} {el : XE} (c' : Cfg) (hi : SI Γ c k tg iter fi) (hg : SGo Γ c' k (own.map (·.2)) tg g) (ht : STs Γ c' k ifs t) (he : SE Γ c' k e el)
    (ok : cfgOk c' = true) (hb : blkC c.N c.sc scope own = true) (hl : c.sc.names.lookup x = some .local) (hln : (px.line == pos.line) = true := by rfl) (ha : (scope.names.any fun (n, k) => n == x && (k == .local || k == .cell)) = false)
    (hNx : c.N[i]? = some x := by rfl) (hN : c'.N = c.N := by rfl) (hs : c'.sc = relS scope c.sc := by rfl) (hf : c'.fa = false := by rfl) (hk : c'.calm = c.calm := by rfl) (hc : c.calm = true := by rfl) (hset : ∀ env x, foldedSetIterable iter env x = pure x := by intros; rfl) (hfk : c.sc.kind = .function := by rfl) :
    SS Γ c k (.Assign [.Name x px] (.ListComp e [⟨tg, iter, ifs, 0⟩] scope pos) spos) (sSet i (xComp fi g t el (own.map (·.2)))) := by
  intro W X G
  have kk := cfgOk_of ok
  have hl' : X.env.scope.names.lookup x = some .local := by rw [G.sc]; exact hl
  refine PS.imp (ps_setLc (i := i) (own := own) (G.calm.trans hc) G.nd (by rw [G.N]; exact hNx) hl' (sw_true (by rw [G.sc]; exact hfk) hl' hln ha) (hi W X G) (by rw [G.N, G.sc]; exact blkOk_by hb) (fun s H C cl fp => hg _ _ (G.blk (own := own) hN hs hf hk kk s H C cl fp)) (fun s H C cl fp => ht _ _ (G.blk (own := own) hN hs hf hk kk s H C cl fp)) (fun s H C cl fp => he _ _ (G.blk (own := own) hN hs hf hk kk s H C cl fp)) (hset X.env)) fun D τ H h => ?_
  obtain ⟨ρ, σ, h, R, S, q⟩ := h
  refine lc_read ⟨ρ, σ, h, R, S, (S1.of (R := RelW Γ) S q).imp fun v H1 ⟨ρ1, h1, u, l1, R1, r1, q1⟩ => ?_⟩
  exact q1 ρ1 H1 _ .refl R1 ((S.mono l1).set r1)
end

/-! ### functions -/
def spI (Γ : Gam) (n : Nat) (F : List W → Hm → Out W) : Sp := fun vs H Q E => vs.length = n ∧ ∃ ρ ws h, Rel Γ ρ h H ∧ RelWs Γ ρ H ws vs ∧ O1 Γ (RelW Γ) ρ H (F ws h) Q E
def FnS (Γ : Gam) (k : Nat) (f : Addr) (fd : FuncData) (ps : List Str) (F : List W → Hm → Out W) : Prop := FnOk Γ.P Γ.w Γ.K Γ.mg Γ.base (L2.CX Γ.P Γ.w) k f fd ps (spI Γ ps.length F)
def fin (o : SOut) : Out W := match o with
  | .nx _ h => .ok .non h
  | .rt w h => .ok w h
  | .err x _ h => .err x h
  | _ => .bad
def mkF (n : Nat) (b : XS) : List W → Hm → Out W := fun ws h => fin (b (ws.map some ++ List.replicate (n - ws.length) none) h)
def xFn (F : List W → Hm → Out W) (a : XA) : XE := fun σ h => (a σ h).bind fun xs h1 => F xs h1
section
variable {Γ : Gam} {c : Cfg} {k j : Nat} {a b e d o i tg : Expr} {es : List Expr} {fr : XA} {pos p : Pos} {ρ : List Addr} {H : Hp} {f : Addr} {fd : FuncData} {ps : List Str} {F : List W → Hm → Out W}
theorem FnS.mono (h : FnS Γ j f fd ps F) (l : j ≤ k) : FnS Γ k f fd ps F := FnOk.mono h l
theorem start_rel : ∀ {ws : List W} {vs : List V}, RelWs Γ ρ H ws vs → ∀ n, RelS Γ ρ H (ws.map some ++ List.replicate n none) (vs.map some ++ List.replicate n none) := fun {ws vs} r n => by
  refine ⟨by simp [r.length], fun i w e => ?_⟩
  by_cases hi : i < ws.length
  · rw [List.getElem?_append_left (by simpa using hi), List.getElem?_map] at e
    cases e1 : ws[i]? with
    | none => rw [e1] at e; cases e
    | some u =>
      rw [e1] at e
      cases e
      obtain ⟨v, e2, r2⟩ := r.get e1
      refine ⟨v, ?_, r2⟩
      rw [List.getElem?_append_left (by rw [List.length_map, ← r.length]; exact hi), List.getElem?_map, e2]
      rfl
  · rw [List.getElem?_append_right (by simpa using hi), List.getElem?_replicate] at e
    split at e <;> cases e
theorem fn_mk {x qual : Str} {st : Stmt} {b : XS} (Fu : Fun Γ.K x qual st f fd) (S : FnScope c.N ps (defScope st)) (ok : CfgOk c) (hb : SL Γ c k (defBody st) b) (hs : c.sc = defScope st := by rfl) (hf : c.fa = true := by rfl) (hc : c.calm = true := by rfl) :
    FnS Γ (k + 1) f fd ps (mkF c.N.length b) := by
  refine Fu.okX S (fun vs H Q E h => h.1) (fun cdv A outer s H vs Q E hr h => ?_)
  obtain ⟨hl, ρ, ws, h, R, rr, q⟩ := h
  refine ⟨_, hb (fun cls d _ H => E cls d H) _ ⟨rfl, rfl, rfl, rfl, rfl, rfl, hs.symm, ok, fun _ _ => rfl, hc.symm, fun _ => hr, takes_of rfl rfl rfl rfl, passes_of rfl, fun _ => ⟨rfl, rfl⟩⟩, ρ, ws.map some ++ List.replicate (c.N.length - ws.length) none, h, R, ?_, ?_⟩
  · have := start_rel rr (c.N.length - ws.length)
    rw [rr.length] at this ⊢
    exact this
  · unfold mkF at q
    cases e : b (ws.map some ++ List.replicate (c.N.length - ws.length) none) h with
    | nx σ' h' => rw [e] at q; exact fun ρ' H' τ' l R' S' => q ρ' H' .non l R' iN
    | rt w h' => rw [e] at q; exact q
    | err x σ' h' => rw [e] at q; exact fun ρ' H' τ' cls d l R' S' x => q ρ' H' cls d l R' x
    | bk σ' h' => rw [e] at q; exact q.elim
    | ct σ' h' => rw [e] at q; exact q.elim
    | bad => rw [e] at q; exact q.elim
theorem Good.fnOk {W : WX} {X : Cx} (G : Good Γ c k W X) {sp : Sp} (h : FnOk Γ.P Γ.w Γ.K Γ.mg Γ.base (L2.CX Γ.P Γ.w) j f fd ps sp) (l : j ≤ k) : FnOk X.prog X.w X.K X.mg X.base (L2.CX X.prog X.w) k f fd ps sp := by
  rw [G.prog, G.w, G.K, G.mg, G.base]
  exact h.mono l
theorem se_call (jG : Nat) {x : Str} (hF : FnS Γ j f fd ps F) (kp : PySem.W.keepIn Γ.K (.ref f) = true) (hb : Binds Γ.K fd ps []) (hm : Γ.mg x = some (.ref f)) (ha : SA Γ c k (e :: es) fr) (hn : ∀ σ h ws h', fr σ h = .ok ws h' → ws.length = ps.length) (hl : j ≤ k := by decide) (hG : c.G[jG]? = some x := by rfl) (hc : c.calm = true := by rfl)
    (hdb : (x == ("__debug__" : Str)) = false := by decide) (he : ∀ env, starEach (e :: es) env = (false, eval e env) :: starEach es env := by intros; rfl) (hpl : ∀ env, (backTo pos (starEach es env)).any (·.1) = false := by intros; rfl) :
    SE Γ c k (.Call (.Name x p) (e :: es) [] pos) (xFn F fr) := by
  intro W X G
  refine PE.imp (pe_callS (E := WE W) (G.fnOk hF hl) (G.room hc) (G.gl (List.mem_of_getElem? hG)) (by rw [G.mg]; exact hm) (by rw [G.K]; exact kp) (by rw [G.K]; exact hb) (fun σ => passAt G.takes σ) (ha W X G) hdb (he X.env) (hpl X.env)) fun τ H Q h => ?_
  obtain ⟨ρ, σ, h, R, S, q⟩ := h
  refine ⟨ρ, σ, h, R, S, ?_⟩
  unfold xFn at q
  cases e1 : fr σ h with
  | bad => rw [e1] at q; exact q.elim
  | err x h1 => rw [e1] at q; exact q
  | ok ws h1 =>
    rw [e1] at q
    exact fun ρ' H' vs l R' r' => ⟨by rw [← r'.length]; exact hn σ h ws h1 e1, ρ', ws, h1, R', r', O1.mono l q⟩
theorem se_call0 (jG : Nat) {x : Str} (hF : FnS Γ j f fd [] F) (kp : PySem.W.keepIn Γ.K (.ref f) = true) (hb : Binds Γ.K fd [] []) (hm : Γ.mg x = some (.ref f)) (hl : j ≤ k := by decide) (hG : c.G[jG]? = some x := by rfl) (hc : c.calm = true := by rfl)
    (hdb : (x == ("__debug__" : Str)) = false := by decide) : SE Γ c k (.Call (.Name x p) [] [] pos) (xFn F xNil) := by
  intro W X G
  refine ⟨fun pins s τ H Q I h => ?_⟩
  obtain ⟨ρ, σ, h, R, S, q⟩ := h
  refine wpAny_Call_Name_kw (ld_glob I (G.gl (List.mem_of_getElem? hG)) (by rw [G.mg]; exact hm) ?_ hdb)
  refine PySem.W.callWith_K0 I.kIn (by rw [G.K]; exact kp) (run_fnS (us := []) (E := WE W) (G.fnOk hF hl) (G.room hc) (by rw [G.K]; exact hb) (passAt G.takes τ) I .nil ?_)
  exact ⟨rfl, ρ, [], h, R, RelWs.nil, q⟩
theorem len_nil : ∀ σ h ws h', xNil σ h = .ok ws h' → ws.length = 0 := fun σ h ws h' e => by
  cases e
  rfl
theorem len_cons {fa : XE} {n : Nat} (h : ∀ σ h ws h', fr σ h = .ok ws h' → ws.length = n) : ∀ σ h ws h', xCons fa fr σ h = .ok ws h' → ws.length = n + 1 := fun σ hm ws h' e => by
  unfold xCons at e
  cases e1 : fa σ hm with
  | bad => rw [e1] at e; cases e
  | err x h1 => rw [e1] at e; cases e
  | ok w h1 =>
    rw [e1] at e
    have e : (fr σ h1).bind (fun xs h2 => Out.ok (w :: xs) h2) = .ok ws h' := e
    cases e2 : fr σ h1 with
    | bad => rw [e2] at e; cases e
    | err x h2 => rw [e2] at e; cases e
    | ok ws' h2 =>
      rw [e2] at e
      cases e
      rw [List.length_cons, h _ _ _ _ e2]
end
end Z

/-! Z7: list(reversed(l)), text times number, {} -/
namespace RT
open PySem PySem.Spec PyProof.Rows
section
variable {prog : Program} {w : World} {A : Around} {E : Value → Shared → Prop} {s : Shared}
theorem zz_list_init_rev {R : Result → Shared → Prop} {it l : Addr} {items : Array Value} (hh : A.handled = none) (hit : s.heap.IsRevIter it l ((items.size : Int) - 1)) (hl : s.heap.IsList l items) (hne : l ≠ it) (hn : items.size ≤ sizeLine)
    (S : Addr) (hSi : S ≠ it) (hSl : S ≠ l) (hS : s.heap.get? S = some { cls := .type "list", data := .seq #[] })
    (hR : ∀ h' tk acc' c', (∀ b o, b ≠ S → b ≠ it → s.heap.get? b = some o → h'.get? b = some o) → h'.get? S = some { cls := .type "list", dict := none, data := .seq acc' c', slots := #[] } →
      ItemsOf (fun i v => items[items.size - 1 - i]? = some v) acc' items.size → R (.ok (.ret .none)) { s with heap := h', toks := tk }) :
    wpAny (model prog w) A.in1 (Builtin.«list.__init__» ⟨[.ref S, .ref it], []⟩)
      (fun fin s' => match fin with | .done f => R (.ok f) s' | .again c' => c'.quiet = true ∧ codeAny (model prog w) A c' R s') (fun e s' => R (.error e) s') s := by
  show wpAny _ _ (do let old ← Builtin.List.listItems (.ref S); Builtin.List.listUpdate (.ref S) (fun _ => #[]); letGo old.toList.reverse; Builtin.List.listExtendWith (.ref S) (.ref it) .none) _ _ s
  refine wpAny_bind ?_
  unfold Builtin.List.listItems
  refine wpAny_bind (wpAny_seqItems hS rfl (wpAny_pure ?_))
  show wpAny _ _ (updateSeq S (fun _ => #[]) >>= fun _ => letGo (#[] : Array Value).toList.reverse >>= fun _ => Builtin.List.listExtendWith (.ref S) (.ref it) .none) _ _ s
  refine wpAny_bind (wpAny_updateSeq hS rfl ?_)
  have hS₂ := Heap.get?_update_self (Obj.mapSeq (fun _ => (#[] : Array Value))) hS rfl
  have oth : ∀ b o, b ≠ S → s.heap.get? b = some o → (s.heap.update S (Obj.mapSeq (fun _ => (#[] : Array Value)))).get? b = some o :=
    fun b o hb e => (Heap.get?_update_other _ _ (Ne.symm hb)).trans e
  refine wpAny_bind (wpAny_letGo ?_)
  have W := (Walks.listRev (prog := prog) (w := w) (A := A.in1) hh it l hne items).toS
  have hSf : S ∉ [it, l] := by simp only [List.mem_cons, List.not_mem_nil, or_false, not_or]; exact ⟨hSi, hSl⟩
  have hit1 : (s.heap.update S (Obj.mapSeq (fun _ => (#[] : Array Value)))).IsRevIter it l ((items.size : Int) - 1) := hit.at fun o e => oth it o (Ne.symm hSi) e
  have hl1 : (s.heap.update S (Obj.mapSeq (fun _ => (#[] : Array Value)))).IsList l items := by
    obtain ⟨o, ho, r⟩ := hl
    exact ⟨o, oth l o (Ne.symm hSl) ho, r⟩
  have hT : ({ s with heap := s.heap.update S (Obj.mapSeq (fun _ => (#[] : Array Value))) } : Shared).TypeIs (.ref it) "list_reverseiterator" := Heap.IsRevIter.typeIs (s := { s with heap := s.heap.update S (Obj.mapSeq (fun _ => (#[] : Array Value))) }) hit1
  have h1 : Builtin.List.listSameRef (.ref S) (.ref it) = false := by simp [Builtin.List.listSameRef, hSi]
  unfold Builtin.List.listExtendWith
  refine wpAny_bind (wpAny_typeOf hT ?_)
  rw [if_neg (by rw [h1]; decide)]
  refine wpAny_bind (wpAny_pyIter_revIter (s := { s with heap := s.heap.update S (Obj.mapSeq (fun _ => (#[] : Array Value))) }) hit1 ?_)
  refine wpAny_bind (wpAny_holding ?_)
  unfold Builtin.List.listLengthHint
  refine wpAny_bind (wpAny_specialOf hT nolen_lri ?_)
  show wpAny _ A.in1 (specialOf (Value.ref it) (Str.ofString "__length_hint__") >>= _) _ _ _
  refine wpAny_bind (wpAny_specialOf hT hint_lri ?_)
  generalize hid : ("list_reverseiterator.__length_hint__" : String) = id0
  wp_delta
  rw [show splitId id0 = some ("list_reverseiterator", "__length_hint__") from by subst hid; decide +kernel]
  subst hid
  refine wpAny_bind (wpAny_isInstance (b := true) hT (by rw [isSubtype_type]; kernel_rfl) ?_)
  refine wpAny_pure ?_
  rw [if_neg (by decide)]
  have e0 : ((items.size : Nat) : Int) - 1 - ((0 : Nat) : Int) = (items.size : Int) - 1 := by omega
  refine wpAny_pure ⟨plainId_quiet F.plain_extend_loop _, codeAny_extend_loopS W hn _ hSf _ items.size 0 _ _ _ rfl (Nat.zero_le _) ⟨Nat.zero_le _, by rw [e0]; exact hit1, hl1⟩ hS₂ (ItemsOf.nil _) fun s' acc' c' hm hS' hacc => ?_⟩
  rw [Moved.eq_with hm]
  refine hR s'.heap s'.toks acc' c' (fun b o hb hi e => hm.heap b o (fun hmem => ?_) (oth b o hb e)) hS' hacc
  rcases List.mem_cons.mp hmem with e' | hmem
  · exact hb e'
  · exact hi (List.mem_singleton.mp hmem)
theorem zz_call_list_rev {it l : Addr} {items : Array Value} {Q : Value → Shared → Prop} (hh : A.handled = none) (hit : s.heap.IsRevIter it l ((items.size : Int) - 1)) (hl : s.heap.IsList l items) (hne : l ≠ it) (hn : items.size ≤ sizeLine)
    (hQ : ∀ h' tk acc' c', (∀ b o, b ≠ it → s.heap.get? b = some o → h'.get? b = some o) →
      h'.get? s.heap.objs.size = some { cls := .type "list", dict := none, data := .seq acc' c', slots := #[] } → ItemsOf (fun i v => items[items.size - 1 - i]? = some v) acc' items.size → Q (.ref s.heap.objs.size) { s with heap := h', toks := tk }) :
    wpAny (model prog w) A (call (.type "list") [.ref it]) Q E s := by
  refine callType_codes (Q₁ := fun obj s₁ => obj = .ref s.heap.objs.size ∧ s₁ = { s with heap := s.heap.push { cls := .type "list", data := .seq #[] } }) F.called_list (F.typeCall_list_1 _) F.entry_list_init
    (code_list_new _ ⟨rfl, rfl⟩) fun obj s₁ h₁ => ?_
  obtain ⟨rfl, rfl⟩ := h₁
  have hS : (s.heap.push { cls := .type "list", data := .seq #[] }).get? s.heap.objs.size = some { cls := .type "list", data := .seq #[] } := Heap.get?_push_size _ rfl
  obtain ⟨oi, hoi, _⟩ := id hit
  obtain ⟨ol, hol, _⟩ := id hl
  refine ⟨⟨_, hS, rfl⟩, F.args_list_init_2 _ _, zz_list_init_rev (A := A.in1) hh (hit.at fun o e => Heap.get?_push_of_some _ e) (hl.push _) hne hn _ (Nat.ne_of_gt (Heap.lt_size hoi)) (Nat.ne_of_gt (Heap.lt_size hol)) hS fun h' tk acc' c' hk hS' hacc => ?_⟩
  exact ⟨rfl, hQ h' tk acc' c' (fun b o hi e => hk b o (Nat.ne_of_lt (Heap.lt_size e)) hi (Heap.get?_push_of_some _ e)) hS' hacc⟩
end
end RT
namespace Z
open PySem PySem.Spec PyProof.Rows L2 RT
/-- list(reversed(x)), x a list: a new list -/
def tLstRev (K : PySem.W.Frag) (te : TE) : TE := fun σ H Q => te σ H fun v H1 => ∃ (a : Addr) (xs : List V), v = .ref a ∧ SqL K H1 a xs ∧ ∀ q, H1 q = none → Q (.ref q) (upd H1 q (.lst xs.reverse))
section
variable {X : Cx}
theorem pe_lstRev {e : Expr} {te : TE} {p p2 pos pos2 : Pos} (hc : X.calm = true) (hg : Gl X "list") (hm : X.mg "list" = none) (hg2 : Gl X "reversed") (hm2 : X.mg "reversed" = none) (he : PE X e te)
    (hs : starEach [e] X.env = (false, eval e X.env) :: starEach [] X.env := by rfl)
    (hs2 : starEach [.Call (.Name "reversed" p2) [e] [] pos2] X.env = (false, eval (.Call (.Name "reversed" p2) [e] [] pos2) X.env) :: starEach [] X.env := by rfl) :
    PE X (.Call (.Name "list" p) [.Call (.Name "reversed" p2) [e] [] pos2] [] pos) (tLstRev X.K te) := by
  refine ⟨fun pins s σ H Q I h => ?_⟩
  refine Call_ (ld_blt I hg hm boot_list (PyProof.Rows.callWith_type1 (args_cons (Call_ (ld_blt I hg2 hm2 PyProof.Rows.boot_reversed (PyProof.Rows.callWith_type1 (args_cons (thn (he.run pins s σ H _ I h) fun u s1 ⟨v, H1, I1, r1, q1⟩ => args_nil ?_) hs) hs rfl))) hs2) hs2 rfl))
  obtain ⟨a, xs, ev, hq, q⟩ := q1
  subst ev
  obtain rfl : u = Value.ref a := r1
  obtain ⟨its, rv, p', hz⟩ := I1.list hq
  refine call_reversed_list p'.isList (args_nil ?_)
  have k0 : ∀ b o, s1.heap.get? b = some o → (s1.heap.push (revObj a ((its.toArray.size : Int) - 1))).get? b = some o := fun b o e => Heap.get?_push_of_some _ e
  have I2 : Inv X pins σ H1 { s1 with heap := s1.heap.push (revObj a ((its.toArray.size : Int) - 1)) } := I1.kept (t' := s1.toks) k0
  obtain ⟨f0, f1, f2, f3, f4, f5⟩ := I1.fpOk (H' := H1) (b := s1.heap.objs.size) (Nat.le_refl _) (I1.hok.fresh (Nat.le_refl _))
  have hl := p'.isList
  obtain ⟨ol, hol, _⟩ := id hl
  have hne : a ≠ s1.heap.objs.size := Nat.ne_of_lt (Heap.lt_size hol)
  have hn : its.toArray.size ≤ sizeLine := by rw [List.size_toArray, ← rv.length]; exact hz
  refine zz_call_list_rev (s := { s1 with heap := s1.heap.push (revObj a ((its.toArray.size : Int) - 1)) }) (I1.ok.hd hc) ⟨_, Heap.get?_push_size _ rfl, rfl, rfl⟩ (hl.push _) hne hn fun h' tk acc c' hk hS hi => ?_
  have hSz : (s1.heap.push (revObj a ((its.toArray.size : Int) - 1))).objs.size ≠ s1.heap.objs.size := by
    have := Heap.lt_size (Heap.get?_push_size s1.heap (o := revObj a ((its.toArray.size : Int) - 1)) rfl)
    exact Nat.ne_of_gt this
  generalize hSS : (s1.heap.push (revObj a ((its.toArray.size : Int) - 1))).objs.size = S at *
  have hS' : h'.get? S = some { cls := .type "list", data := .seq acc c' } := hS
  have g2 : ((s1.heap.push (revObj a ((its.toArray.size : Int) - 1))).push { cls := .type "list", data := .seq acc c' }).get? S = some { cls := .type "list", data := .seq acc c' } := by
    rw [← hSS]
    exact Heap.get?_push_size _ rfl
  have lr : acc.size ≤ sizeLine := by rw [hi.1]; exact hn
  have fr : H1 S = none := by rw [← hSS]; exact I2.hok.fresh (Nat.le_refl _)
  have I3 : Inv X pins σ (upd H1 S (.lst xs.reverse)) { s1 with heap := (s1.heap.push (revObj a ((its.toArray.size : Int) - 1))).push { cls := .type "list", data := .seq acc c' }, toks := s1.toks } :=
    I2.laid (t' := s1.toks) (fun c o e => Heap.get?_push_of_some _ e) (Nat.le_of_eq hSS) (show ObjOk X.prog X.w _ _ _ (.lst xs.reverse) from ⟨by rw [List.length_reverse]; exact hz, acc.toList, c', vals_rev rv hi, by rw [Array.toArray_toList]; exact g2⟩)
  have I4 : Inv X pins σ (upd H1 S (.lst xs.reverse)) { s1 with heap := h', toks := tk } := Inv.turned (s := { s1 with heap := (s1.heap.push (revObj a ((its.toArray.size : Int) - 1))).push { cls := .type "list", data := .seq acc c' }, toks := s1.toks }) (it := s1.heap.objs.size) (t' := tk) I3 (fun b o hb e => by
      by_cases hbS : b = S
      · subst hbS
        have e : ((s1.heap.push (revObj a ((its.toArray.size : Int) - 1))).push { cls := .type "list", data := .seq acc c' }).get? b = some o := e
        rw [g2] at e
        rw [hS', e]
      · have e : ((s1.heap.push (revObj a ((its.toArray.size : Int) - 1))).push { cls := .type "list", data := .seq acc c' }).get? b = some o := e
        exact hk b o hb (by
          rcases Heap.get?_push_cases e with ⟨e1, _⟩ | e2
          · exact absurd (e1.trans hSS) hbS
          · exact e2)) (by rw [upd_ne (Ne.symm hSz)]; exact f0) f1 f3 f4 f5
  exact ⟨.ref S, _, I4, rfl, q _ fr⟩
end
def revW (xs : List W) (h : Hm) : Pr := match xs with
  | [.ref r] => match h[r]? with
    | some (.lst ys) => some (.ref h.length, h ++ [.lst ys.reverse])
    | some (.frz ys) => some (.ref h.length, h ++ [.lst ys.reverse])
    | _ => none
  | _ => none
section
variable {Γ : Gam} {c : Cfg} {k : Nat} {a b e d o i : Expr} {es : List Expr} {fa fb fc : XE} {ft fu : XT} {fr : XA} {pos p p2 pos2 : Pos} {ρ : List Addr} {H : Hp}
theorem se_lrev (j j' : Nat) (B : Bs Γ) (ha : SE Γ c k a fa) (hG : c.G[j]? = some ("list" : Str) := by rfl) (hG' : c.G[j']? = some ("reversed" : Str) := by rfl) (hc : c.calm = true := by rfl)
    (hs : ∀ env, starEach [a] env = (false, eval a env) :: starEach [] env := by intros; rfl)
    (hs2 : ∀ env, starEach [.Call (.Name "reversed" p2) [a] [] pos2] env = (false, eval (.Call (.Name "reversed" p2) [a] [] pos2) env) :: starEach [] env := by intros; rfl) :
    SE Γ c k (.Call (.Name "list" p) [.Call (.Name "reversed" p2) [a] [] pos2] [] pos) (xCall revW (xCons fa xNil)) := by
  intro W X G
  refine PE.imp (pe_lstRev (G.calm.trans hc) (G.gl (List.mem_of_getElem? hG)) (by rw [G.mg]; exact B.list) (G.gl (List.mem_of_getElem? hG')) (by rw [G.mg]; exact B.reversed) (ha W X G) (hs X.env) (hs2 X.env)) fun τ H Q h => ?_
  obtain ⟨ρ, σ, h, R, S, q⟩ := h
  unfold xCall xCons xNil at q
  rw [Out.bind_assoc] at q
  refine ⟨ρ, σ, h, R, S, (O1.bind (R := RelW Γ) q).imp fun v H1 ⟨ρ1, h1, u, l1, R1, r1, q1⟩ => ?_⟩
  obtain ⟨u', h', e, q3⟩ := O1.ofO (p := revW [u] h1) q1
  unfold revW at e
  split at e
  · rename_i eh
    split at e
    · rename_i ex
      cases eh
      cases e
      obtain ⟨l, ys, rfl, _, hy, r1⟩ := R1.lst ex r1
      refine ⟨l, ys, rfl, SqL.of hy, fun p hp => ?_⟩
      obtain ⟨q1, q2, q3'⟩ := R1.newL hp r1.reverse
      exact q3 _ _ _ q1 q2 q3'
    · rename_i ex
      cases eh
      cases e
      obtain ⟨l, ys, rfl, hy, r1⟩ := R1.frz ex r1
      refine ⟨l, ys, rfl, by rw [G.K]; exact hy, fun p hp => ?_⟩
      obtain ⟨q1, q2, q3'⟩ := R1.newL hp r1.reverse
      exact q3 _ _ _ q1 q2 q3'
    · cases e
  · cases e
/-- {} -/
def xDic : XE := fun _ h => .ok (.ref h.length) (h ++ [.dic []])
theorem se_dic : SE Γ c k (.Dict [] [] pos) xDic := by
  intro W X G
  refine PE.imp pe_dnewK fun τ H Q h => ?_
  obtain ⟨ρ, σ, h, R, S, q⟩ := h
  intro p hp
  have l := Le.laid (Γ := Γ) (ρ := ρ) (o := .dK []) hp [p]
  exact q _ _ _ l (R.alloc hp (o' := .dic []) ⟨[], upd_same, rfl⟩) (iR (by rw [← R.len]; simp))
def idxB (x : W) : List W → Option Nat
  | [] => none
  | y :: ys => if eqV (toV y) (toV x) then some 0 else (idxB x ys).map (· + 1)
def idxW (x : W) (xs : List W) (h : Hm) : Pr := match x, xs with
  | .ref r, [y] => match h[r]? with
    | some (.lst zs) => if flatW y && zs.all flatW then (idxB y zs).map fun n => (.int (n : Nat), h) else none
    | _ => none
  | _, _ => none
theorem idxB_of {y : W} : ∀ {zs : List W} {n : Nat}, idxB y zs = some n → (∃ z, (zs.map toV)[n]? = some z ∧ eqV z (toV y) = true) ∧ ∀ m z', m < n → (zs.map toV)[m]? = some z' → eqV z' (toV y) = false
  | [], n, e => by cases e
  | x :: xs, n, e => by
    unfold idxB at e
    split at e
    · rename_i hx
      cases e
      exact ⟨⟨_, rfl, hx⟩, fun m z' hm _ => by omega⟩
    · rename_i hx
      obtain ⟨m, e1, rfl⟩ := Option.map_eq_some_iff.mp e
      obtain ⟨⟨z, e2, e3⟩, e4⟩ := idxB_of e1
      refine ⟨⟨z, by simpa using e2, e3⟩, fun j z' hj ej => ?_⟩
      cases j with
      | zero =>
        have ej : some (toV x) = some z' := by simpa using ej
        cases ej
        exact Bool.eq_false_iff.mpr hx
      | succ j => exact e4 j z' (by omega) (by simpa using ej)
theorem ms_index : MtS Γ c k "list.index" idxW := by
  intro W X G pins s σ H x xs v us Q I rx rxs h
  obtain ⟨ρ, hm, u, ws, u', h', R, ru, rws, e, q⟩ := h
  unfold idxW at e
  split at e
  · split at e
    · rename_i ex
      split at e
      · rename_i hf
        obtain ⟨n, e1, e2⟩ := Option.map_eq_some_iff.mp e
        cases e2
        rw [Bool.and_eq_true] at hf
        obtain ⟨y, rfl, ry⟩ := rws1 rws
        obtain ⟨l, ys, rfl, ea, hy, r1⟩ := R.lst ex ru
        obtain ⟨f1, f2⟩ := flats_of hf.2 r1
        obtain ⟨f3, f4⟩ := flat_of hf.1 ry
        subst f1 f3
        obtain ⟨⟨z, e2, e3⟩, e4⟩ := idxB_of e1
        exact mt_index pins s σ H _ _ v us Q I rx rxs ⟨l, _, _, n, z, rfl, rfl, SqL.of hy, f4, f2, e2, e3, e4, q ρ H _ .refl R iI'⟩
      · cases e
    · cases e
  · cases e
/-- a += b, numbers or texts -/
def addI : W → W → Hm → Pr
  | .int i, .int j, h => some (.int (i + j), h)
  | .str x, .str y, h => if x.length + y.length ≤ 16777216 then some (.str (x ++ y), h) else none
  | _, _, _ => none
theorem ip_add : IpS Γ c k .Add addI := by
  intro W X G pins s σ H x y v u Q I rx ry h
  obtain ⟨ρ, hm, a, b, u', h', R, ra, rb, e, q⟩ := h
  unfold addI at e
  split at e
  · cases e
    exact iop_add pins s σ H x y v u Q I rx ry ⟨_, _, rwI ra, rwI rb, q ρ H _ .refl R iI'⟩
  · split at e
    · rename_i hl
      cases e
      exact iop_add_str pins s σ H x y v u Q I rx ry ⟨_, _, rwS ra, rwS rb, by rw [sizeLine_eq]; exact hl, q ρ H _ .refl R iS⟩
    · cases e
  · cases e
end
end Z

/-! Z8: defs by name, the head's facts, the law's end -/
namespace Z
open PySem PySem.Spec PyProof.Rows L2

/-! ### facts behind the top: any look at the written part -/
abbrev FaZ := PySem.W.Frag → Bool
def obsZ (fa : List FaZ) (fn : List He.DefD) (K : PySem.W.Frag) : He.AlD := ((fa.all fun f => f K) && fn.all fun d => d.ok K, fn.map fun d => He.fnW K d.at_)
def SaysZ (fa : List FaZ) (fn : List He.DefD) (K : PySem.W.Frag) : Prop := obsZ fa fn K = He.valD fn
def obsZG (n : Nat) (fa : List FaZ) (fn : List He.DefD) (g : Addr → Option Obj) : He.AlD := obsZ fa fn (He.frG g (He.asD g n))
def hookZ (n : Nat) (fa : List FaZ) (fn : List He.DefD) : PySem.W.Hook where
  α := He.AlD
  obs := fun s => obsZG n fa fn s.heap.get?
  val := fun _ => He.valD fn
  says := fun _ h => ∃ K : PySem.W.Frag, K.In h ∧ SaysZ fa fn K
  of := fun _ _ e => ⟨_, He.frG_in, e⟩
  keeps := fun _ _ _ ⟨K, hK, c⟩ k => ⟨K, PySem.W.Frag.In.keeps hK k, c⟩
theorem obsZG_eq {n : Nat} {fa : List FaZ} {fn : List He.DefD} {g : Addr → Option Obj} {s : Shared} (h : ∀ a, g a = s.heap.get? a) : obsZG n fa fn g = (hookZ n fa fn).obs s := by
  have e : g = s.heap.get? := funext h
  rw [e] <;> rfl
section
variable {fa : List FaZ} {fn : List He.DefD} {K : PySem.W.Frag}
theorem SaysZ.fact (c : SaysZ fa fn K) (i : Nat) {f : FaZ} (h : fa[i]? = some f := by rfl) : f K = true := by
  have c1 := (He.ba (show ((fa.all fun f => f K) && fn.all fun d => d.ok K) = true from congrArg (fun z : He.AlD => z.1) c)).1
  exact List.all_eq_true.mp c1 f (List.mem_of_getElem? h)
theorem SaysZ.def_ (c : SaysZ fa fn K) (i : Nat) {d : He.DefD} (h : fn[i]? = some d := by rfl) : ∃ fd, FunD K d.name d.qual d.params d.body d.scope (d.dvs K) (d.kws K) (He.fAd K d.at_) fd := by
  have c2 := (He.ba (show ((fa.all fun f => f K) && fn.all fun d => d.ok K) = true from congrArg (fun z : He.AlD => z.1) c)).2
  have e : fn.map (fun d => He.fnW K d.at_) = fn.map He.DefD.val := congrArg (fun z : He.AlD => z.2) c
  have e2 : (fn.map fun d => He.fnW K d.at_)[i]? = (fn.map He.DefD.val)[i]? := by rw [e]
  rw [List.getElem?_map, List.getElem?_map, h] at e2
  exact He.DefD.funD (Option.some.inj e2) (List.all_eq_true.mp c2 d (List.mem_of_getElem? h))
end

/-! ### defs -/
/-- a def (or method) of the text behind the top, no defaults -/
def Def (Γ : Gam) (a : Str × Option Str) (x qual : Str) (st : Stmt) : Prop := ∃ fd, FunD Γ.K x qual (defArgs st) (defBody st) (defScope st) [] [] (He.fAd Γ.K a) fd
/-- what a def computes, a call of it -/
structure CalD (Γ : Gam) (j : Nat) (f : Addr) (ps : List Str) (F : List W → Hm → Out W) : Prop where
  ok : ∃ fd, FnS Γ j f fd ps F ∧ Binds Γ.K fd ps [] ∧ ∃ oc od osl, Γ.K.lookup f = some ⟨oc, od, .func fd, osl⟩
  kp : PySem.W.keepIn Γ.K (.ref f) = true
def Cal (Γ : Gam) (j : Nat) (x : Str) (ps : List Str) (F : List W → Hm → Out W) : Prop := ∃ g, CalD Γ j g ps F ∧ Γ.mg x = some (.ref g)
def BindsN (st : Stmt) (x qual : Str) (ps : List Str) : Prop := ∀ (kV doc pm : Value) (an : Option Addr) (cdv ct : Value) (us : List Value), us.length = ps.length → bindArgs (PySem.W.fnOf x qual (defArgs st) (defBody st) (defScope st) .none kV doc pm an cdv ct) ⟨us, []⟩ = pure (ps.zip us)
section
variable {Γ : Gam} {c : Cfg} {k j : Nat} {a b e d o i tg : Expr} {es : List Expr} {fr : XA} {pos p : Pos} {ρ : List Addr} {H : Hp} {f : Addr} {fd : FuncData} {ps : List Str} {F : List W → Hm → Out W}
theorem fnD_mk {x qual : Str} {st : Stmt} {b : XS} (Fu : FunD Γ.K x qual (defArgs st) (defBody st) (defScope st) [] [] f fd) (S : FnScope c.N ps (defScope st)) (ok : CfgOk c) (hb : SL Γ c k (defBody st) b) (hs : c.sc = defScope st) (hf : c.fa = true) (hc : c.calm = true) :
    FnS Γ (k + 1) f fd ps (mkF c.N.length b) := by
  refine Fu.ok S (fun vs H Q E h => h.1) (fun cdv A outer s H vs Q E hr h => ?_)
  obtain ⟨hl, ρ, ws, h, R, rr, q⟩ := h
  refine ⟨_, hb (fun cls d _ H => E cls d H) _ ⟨rfl, rfl, rfl, rfl, rfl, rfl, hs.symm, ok, fun _ _ => rfl, hc.symm, fun _ => hr, takes_of rfl rfl rfl rfl, passes_of rfl, fun _ => ⟨rfl, rfl⟩⟩, ρ, ws.map some ++ List.replicate (c.N.length - ws.length) none, h, R, ?_, ?_⟩
  · have := start_rel rr (c.N.length - ws.length)
    rw [rr.length] at this ⊢
    exact this
  · unfold mkF at q
    cases e : b (ws.map some ++ List.replicate (c.N.length - ws.length) none) h with
    | nx σ' h' => rw [e] at q; exact fun ρ' H' τ' l R' S' => q ρ' H' .non l R' iN
    | rt w h' => rw [e] at q; exact q
    | err x σ' h' => rw [e] at q; exact fun ρ' H' τ' cls d l R' S' x => q ρ' H' cls d l R' x
    | bk σ' h' => rw [e] at q; exact q.elim
    | ct σ' h' => rw [e] at q; exact q.elim
    | bad => rw [e] at q; exact q.elim
theorem cal_mk {x qual : Str} {st : Stmt} {b : XS} {at_ : Str × Option Str} (D : Def Γ at_ x qual st) (B : BindsN st x qual ps) (S : FnScope c.N ps (defScope st)) (ok : cfgOk c = true) (hb : SL Γ c k (defBody st) b) (hs : c.sc = defScope st := by rfl) (hf : c.fa = true := by rfl) (hc : c.calm = true := by rfl) :
    CalD Γ (k + 1) (He.fAd Γ.K at_) ps (mkF c.N.length b) := by
  obtain ⟨fd, Fu⟩ := D
  obtain ⟨oc, od, dV, kV, doc, pm, an, cdv, ct, osl, e, lk, _⟩ := Fu.ex
  exact ⟨⟨fd, fnD_mk Fu S (cfgOk_of ok) hb hs hf hc, Fu.bindsN B, oc, od, osl, lk⟩, Fu.kp⟩
/-- the promise of the very function object -/
theorem CalD.at {x qual : Str} {params : Arguments} {body : List Stmt} {scope : Scope} {dvs : List V} {kws : List (Str × V)} (C : CalD Γ j f ps F) (Fu : FunD Γ.K x qual params body scope dvs kws f fd) : FnS Γ j f fd ps F := by
  obtain ⟨⟨fd2, h, _, oc, od, osl, e⟩, _⟩ := C
  obtain ⟨oc', od', dV, kV, doc, pm, an, cdv, ct, osl', _, lk, _⟩ := Fu.ex
  rw [e] at lk
  cases lk
  exact h
theorem se_cal (jG : Nat) {x : Str} (C : Cal Γ j x ps F) (ha : SA Γ c k (e :: es) fr) (hn : ∀ σ h ws h', fr σ h = .ok ws h' → ws.length = ps.length) (hl : j ≤ k := by decide) (hG : c.G[jG]? = some x := by rfl) (hc : c.calm = true := by rfl)
    (hdb : (x == ("__debug__" : Str)) = false := by decide) (he : ∀ env, starEach (e :: es) env = (false, eval e env) :: starEach es env := by intros; rfl) (hpl : ∀ env, (backTo pos (starEach es env)).any (·.1) = false := by intros; rfl) :
    SE Γ c k (.Call (.Name x p) (e :: es) [] pos) (xFn F fr) := by
  obtain ⟨_, ⟨⟨fd, h1, h2, _⟩, h3⟩, h4⟩ := C
  exact se_call jG h1 h3 h2 h4 ha hn hl hG hc hdb he hpl
theorem se_cal0 (jG : Nat) {x : Str} (C : Cal Γ j x [] F) (hl : j ≤ k := by decide) (hG : c.G[jG]? = some x := by rfl) (hc : c.calm = true := by rfl)
    (hdb : (x == ("__debug__" : Str)) = false := by decide) : SE Γ c k (.Call (.Name x p) [] [] pos) (xFn F xNil) := by
  obtain ⟨_, ⟨⟨fd, h1, h2, _⟩, h3⟩, h4⟩ := C
  exact se_call0 jG h1 h3 h2 h4 hl hG hc hdb
/-- a constant of the module, by a look -/
def konOf (x : Str) (v : V) : FaZ := fun K => match PySem.W.nsIn K mainGlobals x with
  | some (some u) => He.relB v u
  | _ => false
def freeZ (x : Str) : FaZ := fun K => (He.Fa.free x).ok K
def gloZ (x : Str) : FaZ := fun K => (He.Fa.glo x).ok K
theorem kon_of {h : Heap} {x : Str} {v : V} {w : W} (X : Γ.K.In h) (G : h.Ns mainGlobals Γ.mg) (c : konOf x v Γ.K = true) (r : ∀ ρ H, RelW Γ ρ H w v) : Kon Γ x w := by
  unfold konOf at c
  split at c
  · rename_i u e
    exact ⟨u, v, PySem.W.mg_of X G e, He.relB_ok c, r⟩
  · cases c
def kI (x : Str) (i : Int) : FaZ := konOf x (.int i)
def kS (x z : Str) : FaZ := konOf x (.str z)
theorem kon_int {h : Heap} {x : Str} {i : Int} (X : Γ.K.In h) (G : h.Ns mainGlobals Γ.mg) (c : kI x i Γ.K = true) : Kon Γ x (.int i) := kon_of X G c fun _ _ => iI'
theorem kon_str {h : Heap} {x : Str} {i : Str} (X : Γ.K.In h) (G : h.Ns mainGlobals Γ.mg) (c : kS x i Γ.K = true) : Kon Γ x (.str i) := kon_of X G c fun _ _ => iS
/-! constants that are tuples, of tuples -/
inductive Cn where
  | non | bl (b : Bool) | int (i : Int) | str (x : Str) | tup (xs : List Cn)
mutual
def Cn.w : Cn → W
  | .non => .non
  | .bl b => .bl b
  | .int i => .int i
  | .str x => .str x
  | .tup xs => .tup (Cn.ws xs)
def Cn.ws : List Cn → List W
  | [] => []
  | x :: xs => x.w :: Cn.ws xs
end
mutual
def Cn.look (K : PySem.W.Frag) : Cn → Value → Bool
  | .non, .none => true
  | .bl b, .bool c => b == c
  | .int i, .int j _ => decide (i = j)
  | .str x, .str y _ => decide (x = y)
  | .tup xs, .ref a => match K.lookup a with
    | some ⟨.type c, _, .seq its _, _⟩ => decide (c = "tuple") && (decide (its.size ≤ sizeLine) && Cn.looks K xs its.toList)
    | _ => false
  | _, _ => false
def Cn.looks (K : PySem.W.Frag) : List Cn → List Value → Bool
  | [], [] => true
  | x :: xs, u :: us => x.look K u && Cn.looks K xs us
  | _, _ => false
end
mutual
theorem Cn.look_ok : ∀ (x : Cn) (u : Value), x.look Γ.K u = true → ∃ v, RelV v u ∧ ∀ ρ H, RelW Γ ρ H x.w v
  | .non, u, h => by
    cases u with
    | none => exact ⟨.non, rfl, fun _ _ => iN⟩
    | _ => simp [Cn.look] at h
  | .bl b, u, h => by
    cases u with
    | bool c' =>
      have : b = c' := by simpa [Cn.look] using h
      subst this
      exact ⟨.bl b, rfl, fun _ _ => iB⟩
    | _ => simp [Cn.look] at h
  | .int b, u, h => by
    cases u with
    | int c' t =>
      have : b = c' := by simpa [Cn.look] using h
      subst this
      exact ⟨.int b, ⟨t, rfl⟩, fun _ _ => iI'⟩
    | _ => simp [Cn.look] at h
  | .str b, u, h => by
    cases u with
    | str c' t =>
      have : b = c' := by simpa [Cn.look] using h
      subst this
      exact ⟨.str b, ⟨t, rfl⟩, fun _ _ => iS⟩
    | _ => simp [Cn.look] at h
  | .tup xs, u, h => by
    cases u with
    | ref a =>
      unfold Cn.look at h
      split at h
      · rename_i e
        rw [Bool.and_eq_true, Bool.and_eq_true] at h
        obtain ⟨h1, h2, h3⟩ := h
        obtain ⟨vs, q1, q2⟩ := Cn.looks_ok xs _ h3
        refine ⟨.ref a, rfl, fun ρ H => ?_⟩
        unfold Cn.w
        exact iT (.inr ⟨_, _, _, e, congrArg Value.type (of_decide_eq_true h1), rfl, of_decide_eq_true h2, q1⟩) (q2 ρ H)
      · cases h
    | _ => simp [Cn.look] at h
theorem Cn.looks_ok : ∀ (xs : List Cn) (us : List Value), Cn.looks Γ.K xs us = true → ∃ vs, Vals vs us ∧ ∀ ρ H, RelWs Γ ρ H (Cn.ws xs) vs
  | [], [], _ => ⟨[], .nil, fun ρ H => by unfold Cn.ws; exact RelWs.nil⟩
  | [], _ :: _, h => by simp [Cn.looks] at h
  | _ :: _, [], h => by simp [Cn.looks] at h
  | x :: xs, u :: us, h => by
    unfold Cn.looks at h
    rw [Bool.and_eq_true] at h
    obtain ⟨v, q1, q2⟩ := Cn.look_ok x u h.1
    obtain ⟨vs, q3, q4⟩ := Cn.looks_ok xs us h.2
    exact ⟨v :: vs, .cons q1 q3, fun ρ H => by unfold Cn.ws; exact RelWs.cons (q2 ρ H) (q4 ρ H)⟩
end
def kC (x : Str) (z : Cn) : FaZ := fun K => match PySem.W.nsIn K mainGlobals x with
  | some (some u) => z.look K u
  | _ => false
theorem kon_cn {h : Heap} {x : Str} {z : Cn} (X : Γ.K.In h) (G : h.Ns mainGlobals Γ.mg) (cc : kC x z Γ.K = true) : Kon Γ x z.w := by
  unfold kC at cc
  split at cc
  · rename_i u e
    obtain ⟨v, q1, q2⟩ := Cn.look_ok z u cc
    exact ⟨u, v, PySem.W.mg_of X G e, q1, q2⟩
  · cases cc
end

/-! ### the law's end -/
theorem walk_z {l : PySem.W.OpenLaw} {n k : Nat} {q : Program} {loose : List Str} {XP : (Str → Option Value) → Heap → Prop} {YP : World → Heap → Prop} {d : DefRec} {x : Str} {F : List W → Hm → Out W} (cl : PySem.W.Frag → Nat → Addr)
    (hn : l.most = some n) (hn2 : n ≤ sizeLine) (hdf : d.params.defaults = []) (hr : Room k callerA)
    (hF : ∀ (w : World) (mg : Str → Option Value) (fa : Addr) (h : Heap), YP w h → h.Ns mainGlobals mg → mg d.name = some (.ref fa) →
      ∃ (K : PySem.W.Frag), K.In h ∧ fa = He.ga K d.name ∧ ∃ fd, (∀ (s : Shared) (u : Value), BindsTo s fd ⟨[u], []⟩ [(x, u)]) ∧
        ∀ base : Heap, K.In base → base.Ns mainGlobals mg → FnS ⟨l.prog, w, K, mg, base, cl K⟩ k fa fd [x] F)
    (hlaw : ∀ ns : List Int, ns.length ≤ n → (∀ z ∈ ns, Builtin.Int.intBits z ≤ 1048576) → ∃ h', F [.ref 0] [.frz (ns.map .int)] = .ok (.bl true) h') :
    PySem.W.WalkO q loose XP YP l.row.toRowW d [] (fun f vs => PySem.call f vs) := by
  refine Att.attach_callB hn hdf fun w s₀ s₁ mg mb fa o pm cd doc a vs ns G Y ho hd hcd hmg hobj hints hlen hbits hg => ?_
  obtain ⟨K, KX, _, fd, hb, hf⟩ := hF w mg fa _ Y G.T.g hmg
  obtain ⟨h', e'⟩ := hlaw ns hlen hbits
  refine law_call (CX := L2.CX l.prog w) (sp := fun vs H Q E => ∃ (a : Addr) (ns : List Int), vs = [.ref a] ∧ FzL K H a (ns.map V.int) ∧ ns.length ≤ n ∧ (∀ z ∈ ns, Builtin.Int.intBits z ≤ 1048576) ∧ ∀ H', Q (.bl true) H') KX G.T.g G.T.b G.T.builtins G.T.nolimit hg hobj hints (Nat.le_trans hlen hn2) hr (fun base b1 b2 => ?_) hb (fun H hO hS => ?_) fun H e s' => ?_
  · refine FnOk.imp (hf base b1 b2) fun vs H Q E ⟨a, ns, ev, hz, h1, h2, q⟩ => ?_
    subst ev
    obtain ⟨h', e'⟩ := hlaw ns h1 h2
    refine ⟨rfl, [a], [.ref 0], [.frz (ns.map .int)], ⟨rfl, fun i o e => ?_, fun i j oi oj b ei ej m1 m2 => ?_⟩, ?_, ?_⟩
    · cases i with
      | zero =>
        cases e
        refine ⟨a, rfl, ns.map V.int, hz, ?_⟩
        clear e' hz h1 h2
        induction ns with
        | nil => exact RelWs.nil
        | cons z r ih => exact RelWs.cons iI' ih
      | succ i => cases e
    · cases i with
      | zero =>
        cases ei
        exact m1.elim
      | succ i => cases ei
    · exact RelWs.cons (iR rfl) RelWs.nil
    · rw [e']
      intro ρ' H' v l r rv
      rw [rwB rv]
      exact q H'
  · refine ⟨a, ns, rfl, ?_, hlen, hbits, fun _ => rfl⟩
    rcases hS with (h | ⟨o, h⟩) | h
    · rcases hO a with z | ⟨o, xs, z⟩
      · rw [z] at h; cases h
      · rw [z] at h; cases h
    · exact .inl ⟨o, h⟩
    · exact .inr h
  · rintro ⟨_, _, _, _, _, _, _, _, _, _, _, _, z⟩
    exact z
end Z

/-! Z9: short words for the calls of built-ins -/
namespace Z
open PySem PySem.Spec PyProof.Rows L2
section
variable {Γ : Gam} {c : Cfg} {k j : Nat} {a b e d o i tg : Expr} {es : List Expr} {fa : XE} {fr : XA} {pos p p2 : Pos} {ρ : List Addr} {H : Hp}
theorem e_len (j : Nat) (B : Bs Γ) (ha : SA Γ c k (e :: es) fr) (hG : c.G[j]? = some ("len" : Str) := by rfl) (he : ∀ env, starEach (e :: es) env = (false, eval e env) :: starEach es env := by intros; rfl) (hpl : ∀ env, (backTo pos (starEach es env)).any (·.1) = false := by intros; rfl) :
    SE Γ c k (.Call (.Name "len" p) (e :: es) [] pos) (xCall lenW fr) := se_callB (cs_len) j B.len (by decide +kernel) ha hG (by decide) (by decide) he hpl
theorem e_abs (j : Nat) (B : Bs Γ) (ha : SA Γ c k (e :: es) fr) (hG : c.G[j]? = some ("abs" : Str) := by rfl) (he : ∀ env, starEach (e :: es) env = (false, eval e env) :: starEach es env := by intros; rfl) (hpl : ∀ env, (backTo pos (starEach es env)).any (·.1) = false := by intros; rfl) :
    SE Γ c k (.Call (.Name "abs" p) (e :: es) [] pos) (xCall absW fr) := se_callB (cs_abs) j B.abs (by decide +kernel) ha hG (by decide) (by decide) he hpl
theorem e_min (j : Nat) (B : Bs Γ) (ha : SA Γ c k (e :: es) fr) (hG : c.G[j]? = some ("min" : Str) := by rfl) (hc : c.calm = true := by rfl) (he : ∀ env, starEach (e :: es) env = (false, eval e env) :: starEach es env := by intros; rfl) (hpl : ∀ env, (backTo pos (starEach es env)).any (·.1) = false := by intros; rfl) :
    SE Γ c k (.Call (.Name "min" p) (e :: es) [] pos) (xCall minW fr) := se_callB (cs_min hc) j B.min (by decide +kernel) ha hG (by decide) (by decide) he hpl
theorem e_max (j : Nat) (B : Bs Γ) (ha : SA Γ c k (e :: es) fr) (hG : c.G[j]? = some ("max" : Str) := by rfl) (hc : c.calm = true := by rfl) (he : ∀ env, starEach (e :: es) env = (false, eval e env) :: starEach es env := by intros; rfl) (hpl : ∀ env, (backTo pos (starEach es env)).any (·.1) = false := by intros; rfl) :
    SE Γ c k (.Call (.Name "max" p) (e :: es) [] pos) (xCall maxW fr) := se_callB (cs_max hc) j B.max (by decide +kernel) ha hG (by decide) (by decide) he hpl
theorem e_ord (j : Nat) (B : Bs Γ) (ha : SA Γ c k (e :: es) fr) (hG : c.G[j]? = some ("ord" : Str) := by rfl) (he : ∀ env, starEach (e :: es) env = (false, eval e env) :: starEach es env := by intros; rfl) (hpl : ∀ env, (backTo pos (starEach es env)).any (·.1) = false := by intros; rfl) :
    SE Γ c k (.Call (.Name "ord" p) (e :: es) [] pos) (xCall ordW fr) := se_callB (cs_ord) j B.ord (by decide +kernel) ha hG (by decide) (by decide) he hpl
theorem e_int (j : Nat) (B : Bs Γ) (ha : SA Γ c k (e :: es) fr) (hG : c.G[j]? = some ("int" : Str) := by rfl) (he : ∀ env, starEach (e :: es) env = (false, eval e env) :: starEach es env := by intros; rfl) (hpl : ∀ env, (backTo pos (starEach es env)).any (·.1) = false := by intros; rfl) :
    SE Γ c k (.Call (.Name "int" p) (e :: es) [] pos) (xCall intW fr) := se_callT cs_int j B.int (by decide +kernel) ha hG (by decide) (by decide) he hpl
theorem e_str (j : Nat) (B : Bs Γ) (ha : SA Γ c k (e :: es) fr) (hG : c.G[j]? = some ("str" : Str) := by rfl) (he : ∀ env, starEach (e :: es) env = (false, eval e env) :: starEach es env := by intros; rfl) (hpl : ∀ env, (backTo pos (starEach es env)).any (·.1) = false := by intros; rfl) :
    SE Γ c k (.Call (.Name "str" p) (e :: es) [] pos) (xCall strW fr) := se_callT cs_str j B.str (by decide +kernel) ha hG (by decide) (by decide) he hpl
theorem e_list (j : Nat) (B : Bs Γ) (ha : SA Γ c k (e :: es) fr) (hG : c.G[j]? = some ("list" : Str) := by rfl) (he : ∀ env, starEach (e :: es) env = (false, eval e env) :: starEach es env := by intros; rfl) (hpl : ∀ env, (backTo pos (starEach es env)).any (·.1) = false := by intros; rfl) :
    SE Γ c k (.Call (.Name "list" p) (e :: es) [] pos) (xCall listW fr) := se_callT cs_list j B.list (by decide +kernel) ha hG (by decide) (by decide) he hpl
theorem e_tuple (j : Nat) (B : Bs Γ) (ha : SA Γ c k (e :: es) fr) (hG : c.G[j]? = some ("tuple" : Str) := by rfl) (he : ∀ env, starEach (e :: es) env = (false, eval e env) :: starEach es env := by intros; rfl) (hpl : ∀ env, (backTo pos (starEach es env)).any (·.1) = false := by intros; rfl) :
    SE Γ c k (.Call (.Name "tuple" p) (e :: es) [] pos) (xCall tupleW fr) := se_callT cs_tuple j B.tuple (by decide +kernel) ha hG (by decide) (by decide) he hpl
theorem e_is_int (j j' : Nat) (B : Bs Γ) (ha : SE Γ c k a fa) (hG : c.G[j]? = some ("isinstance" : Str) := by rfl) (hG' : c.G[j']? = some ("int" : Str) := by rfl) (he : ∀ env, starEach [a, .Name "int" p2] env = (false, eval a env) :: starEach [.Name "int" p2] env := by intros; rfl) :
    SE Γ c k (.Call (.Name "isinstance" p) [a, .Name "int" p2] [] pos) (xIsi "int" fa) := se_isi "int" j j' B (by decide +kernel) B.int (by decide) ha hG hG' (by decide) (by decide) he (by intros; rfl) (by intros; rfl)
theorem e_is_bool (j j' : Nat) (B : Bs Γ) (ha : SE Γ c k a fa) (hG : c.G[j]? = some ("isinstance" : Str) := by rfl) (hG' : c.G[j']? = some ("bool" : Str) := by rfl) (he : ∀ env, starEach [a, .Name "bool" p2] env = (false, eval a env) :: starEach [.Name "bool" p2] env := by intros; rfl) :
    SE Γ c k (.Call (.Name "isinstance" p) [a, .Name "bool" p2] [] pos) (xIsi "bool" fa) := se_isi "bool" j j' B (by decide +kernel) B.bool (by decide) ha hG hG' (by decide) (by decide) he (by intros; rfl) (by intros; rfl)
theorem e_is_str (j j' : Nat) (B : Bs Γ) (ha : SE Γ c k a fa) (hG : c.G[j]? = some ("isinstance" : Str) := by rfl) (hG' : c.G[j']? = some ("str" : Str) := by rfl) (he : ∀ env, starEach [a, .Name "str" p2] env = (false, eval a env) :: starEach [.Name "str" p2] env := by intros; rfl) :
    SE Γ c k (.Call (.Name "isinstance" p) [a, .Name "str" p2] [] pos) (xIsi "str" fa) := se_isi "str" j j' B (by decide +kernel) B.str (by decide) ha hG hG' (by decide) (by decide) he (by intros; rfl) (by intros; rfl)
theorem e_is_list (j j' : Nat) (B : Bs Γ) (ha : SE Γ c k a fa) (hG : c.G[j]? = some ("isinstance" : Str) := by rfl) (hG' : c.G[j']? = some ("list" : Str) := by rfl) (he : ∀ env, starEach [a, .Name "list" p2] env = (false, eval a env) :: starEach [.Name "list" p2] env := by intros; rfl) :
    SE Γ c k (.Call (.Name "isinstance" p) [a, .Name "list" p2] [] pos) (xIsi "list" fa) := se_isi "list" j j' B (by decide +kernel) B.list (by decide) ha hG hG' (by decide) (by decide) he (by intros; rfl) (by intros; rfl)
theorem e_is_tuple (j j' : Nat) (B : Bs Γ) (ha : SE Γ c k a fa) (hG : c.G[j]? = some ("isinstance" : Str) := by rfl) (hG' : c.G[j']? = some ("tuple" : Str) := by rfl) (he : ∀ env, starEach [a, .Name "tuple" p2] env = (false, eval a env) :: starEach [.Name "tuple" p2] env := by intros; rfl) :
    SE Γ c k (.Call (.Name "isinstance" p) [a, .Name "tuple" p2] [] pos) (xIsi "tuple" fa) := se_isi "tuple" j j' B (by decide +kernel) B.tuple (by decide) ha hG hG' (by decide) (by decide) he (by intros; rfl) (by intros; rfl)
theorem e_append (ho : SE Γ c k o fa) (ha : SA Γ c k (e :: es) fr) (hbase : ∀ env, attributeBase o "append" env (eval o env) = eval o env := by intros; rfl) (hfew : ∀ env, ((backTo pos (starEach (e :: es) env)).all (fun x => !x.1) && (backToKw pos (keywordEach [] env)).all (fun x => x.1.isSome) && decide ((e :: es).length + ([] : List Keyword).length + (if ([] : List Keyword).isEmpty then 0 else 1) < 30)) = true := by intros; rfl) (hline : (p.endLine == pos.line) = true := by rfl) (hs : ∀ env, starEach (e :: es) env = (false, eval e env) :: starEach es env := by intros; rfl) (hplain : ∀ env, (backTo pos (starEach es env)).any (·.1) = false := by intros; rfl) :
    SE Γ c k (.Call (.Attribute o "append" p) (e :: es) [] pos) (xMeth isL appW fa fr) := se_bm PySem.F.plainAttrs_list PySem.F.slot_list_append PySem.F.type_list_append ms_append isL_ty ho ha hbase hfew hline hs hplain
theorem e_extend (ho : SE Γ c k o fa) (ha : SA Γ c k (e :: es) fr) (hbase : ∀ env, attributeBase o "extend" env (eval o env) = eval o env := by intros; rfl) (hfew : ∀ env, ((backTo pos (starEach (e :: es) env)).all (fun x => !x.1) && (backToKw pos (keywordEach [] env)).all (fun x => x.1.isSome) && decide ((e :: es).length + ([] : List Keyword).length + (if ([] : List Keyword).isEmpty then 0 else 1) < 30)) = true := by intros; rfl) (hline : (p.endLine == pos.line) = true := by rfl) (hs : ∀ env, starEach (e :: es) env = (false, eval e env) :: starEach es env := by intros; rfl) (hplain : ∀ env, (backTo pos (starEach es env)).any (·.1) = false := by intros; rfl) :
    SE Γ c k (.Call (.Attribute o "extend" p) (e :: es) [] pos) (xMeth isL extW fa fr) := se_bm PySem.F.plainAttrs_list PySem.F.slot_list_extend PySem.F.type_list_extend ms_extend isL_ty ho ha hbase hfew hline hs hplain
theorem e_index (ho : SE Γ c k o fa) (ha : SA Γ c k (e :: es) fr) (hbase : ∀ env, attributeBase o "index" env (eval o env) = eval o env := by intros; rfl) (hfew : ∀ env, ((backTo pos (starEach (e :: es) env)).all (fun x => !x.1) && (backToKw pos (keywordEach [] env)).all (fun x => x.1.isSome) && decide ((e :: es).length + ([] : List Keyword).length + (if ([] : List Keyword).isEmpty then 0 else 1) < 30)) = true := by intros; rfl) (hline : (p.endLine == pos.line) = true := by rfl) (hs : ∀ env, starEach (e :: es) env = (false, eval e env) :: starEach es env := by intros; rfl) (hplain : ∀ env, (backTo pos (starEach es env)).any (·.1) = false := by intros; rfl) :
    SE Γ c k (.Call (.Attribute o "index" p) (e :: es) [] pos) (xMeth isL idxW fa fr) := se_bm PySem.F.plainAttrs_list PySem.F.slot_list_index PySem.F.type_list_index ms_index isL_ty ho ha hbase hfew hline hs hplain
theorem e_join (ho : SE Γ c k o fa) (ha : SA Γ c k (e :: es) fr) (hbase : ∀ env, attributeBase o "join" env (eval o env) = eval o env := by intros; rfl) (hfew : ∀ env, ((backTo pos (starEach (e :: es) env)).all (fun x => !x.1) && (backToKw pos (keywordEach [] env)).all (fun x => x.1.isSome) && decide ((e :: es).length + ([] : List Keyword).length + (if ([] : List Keyword).isEmpty then 0 else 1) < 30)) = true := by intros; rfl) (hline : (p.endLine == pos.line) = true := by rfl) (hs : ∀ env, starEach (e :: es) env = (false, eval e env) :: starEach es env := by intros; rfl) (hplain : ∀ env, (backTo pos (starEach es env)).any (·.1) = false := by intros; rfl) :
    SE Γ c k (.Call (.Attribute o "join" p) (e :: es) [] pos) (xMeth isS joinW fa fr) := se_bm PySem.F.plainAttrs_str PySem.F.slot_str_join PySem.F.type_str_join ms_join isS_ty ho ha hbase hfew hline hs hplain
end

def blkCfg (c : Cfg) (scope : Scope) (V L G : List Str) : Cfg := ⟨c.N, V, L, G, relS scope c.sc, false, c.calm⟩
section
variable {Γ : Gam} {c : Cfg} {k : Nat} {e tg iter : Expr} {ifs : List Expr} {fa fb fc : XE} {ft fu : XT} {pos p : Pos}
theorem se_lc {scope : Scope} {fi : XI} {g : XG} {t : XT} {el : XE} (own : List (Str × Nat)) (V L G : List Str) (hi : SI Γ c k tg iter fi) (hg : SGo Γ (blkCfg c scope V L G) k (own.map (·.2)) tg g) (ht : STs Γ (blkCfg c scope V L G) k ifs t) (he : SE Γ (blkCfg c scope V L G) k e el)
    (ok : cfgOk (blkCfg c scope V L G) = true) (hb : blkC c.N c.sc scope own = true) (hc : c.calm = true := by rfl) (hset : ∀ env x, foldedSetIterable iter env x = pure x := by intros; rfl) :
    SE Γ c k (.ListComp e [⟨tg, iter, ifs, 0⟩] scope pos) (xComp fi g t el (own.map (·.2))) := se_comp _ hi hg ht he ok hb rfl rfl rfl rfl hc hset
theorem ss_lc (i j : Nat) {x : Str} {px spos : Pos} {scope : Scope} {fi : XI} {g : XG} {t : XT} {el : XE} (own : List (Str × Nat)) (V L G : List Str) (hi : SI Γ c k tg iter fi) (hg : SGo Γ (blkCfg c scope V L G) k (own.map (·.2)) tg g) (ht : STs Γ (blkCfg c scope V L G) k ifs t) (he : SE Γ (blkCfg c scope V L G) k e el)
    (ok : cfgOk (blkCfg c scope V L G) = true) (hb : blkC c.N c.sc scope own = true) (hl : c.sc.names.lookup x = some .local) (ha : (scope.names.any fun (n, k) => n == x && (k == .local || k == .cell)) = false) (hln : (px.line == pos.line) = true := by rfl)
    (hNx : c.N[i]? = some x := by rfl) (hc : c.calm = true := by rfl) (hset : ∀ env x, foldedSetIterable iter env x = pure x := by intros; rfl) (hfk : c.sc.kind = .function := by rfl) :
    SS Γ c k (.Assign [.Name x px] (.ListComp e [⟨tg, iter, ifs, 0⟩] scope pos) spos) (sSet i (xComp fi g t el (own.map (·.2)))) := ss_setLc i j _ hi hg ht he ok hb hl hln ha hNx rfl rfl rfl rfl hc hset hfk
end
end Z

/-! Z10: objects of own classes: fields, methods, making -/
namespace Z
open PySem PySem.Spec PyProof.Rows L2
def putW (f : Str) (v : W) : List (Str × W) → List (Str × W)
  | [] => [(f, v)]
  | (g, x) :: r => if g = f then (g, v) :: r else (g, x) :: putW f v r
def insW (x : W) (h : Hm) : Option (Nat × List (Str × W)) := match x with
  | .ref r => match h[r]? with
    | some (.ins c fs) => some (c, fs)
    | _ => none
  | _ => none
def fldW (T : List Nat) (f : Str) (x : W) (h : Hm) : Option W := (insW x h).bind fun p => if T.contains p.1 then p.2.lookup f else none
def setF (T : List Nat) (f : Str) (x v : W) (h : Hm) : Option Hm := match x with
  | .ref r => match h[r]? with
    | some (.ins c fs) => if T.contains c && decide (fs.length < 1000) then some (h.set r (.ins c (putW f v fs))) else none
    | _ => none
  | _ => none
abbrev FnT := List W → Hm → Out W
def metW (MT : List (Nat × FnT)) (m : Str) (x : W) (h : Hm) : Option FnT := (insW x h).bind fun p => if (p.2.lookup m).isNone then MT.lookup p.1 else none
def xFld (T : List Nat) (f : Str) (a : XE) : XE := fun σ h => (a σ h).bind fun x h1 => match fldW T f x h1 with
  | some w => .ok w h1
  | none => .bad
def xMet (MT : List (Nat × FnT)) (m : Str) (o : XE) (a : XA) : XE := fun σ h => (o σ h).bind fun x h1 => match metW MT m x h1 with
  | some F => (a σ h1).bind fun xs h2 => F (x :: xs) h2
  | none => .bad
def xMake (c : Nat) (F : FnT) (a : XA) : XE := fun σ h => (a σ h).bind fun xs h1 => (F (.ref h1.length :: xs) (h1 ++ [.ins c []])).bind fun w h2 => match w with
  | .non => .ok (.ref h1.length) h2
  | _ => .bad
def sFldSet (T : List Nat) (f : Str) (o e : XE) : XS := fun σ h => sOf (e σ h) σ fun v h1 => sOf (o σ h1) σ fun x h2 => match setF T f x v h2 with
  | some h3 => .nx σ h3
  | none => .bad
def clsW (x : W) (h : Hm) : Nat := ((insW x h).map (·.1)).getD 0
def sFldAug (T : List Nat) (f : Str) (g : W → W → Hm → Pr) (o e : XE) : XS := fun σ h => sOf (o σ h) σ fun x h1 => match fldW T f x h1 with
  | some v => sOf (e σ h1) σ fun y h2 => sOp (g v y h2) fun z h3 => match setF [clsW x h1] f x z h3 with
    | some h4 => .nx σ h4
    | none => .bad
  | none => .bad
/-- facts of a field -/
def FldOk (Γ : Gam) (T : List Nat) (f : Str) : Prop := ∀ c ∈ T, Cls Γ.K (Γ.cl c) ∧ NoAttr Γ.K (Γ.cl c) f
/-- facts of a method -/
def MetOk (Γ : Gam) (j n : Nat) (MT : List (Nat × FnT)) (m : Str) : Prop := ∀ p ∈ MT, Cls Γ.K (Γ.cl p.1) ∧ ∃ f ps, Meth Γ.K (Γ.cl p.1) m f ∧ CalD Γ j f ps p.2 ∧ ps.length = n + 1
/-- facts of a class that is called -/
structure MakeOk (Γ : Gam) (j n : Nat) (c : Nat) (x : Str) (F : FnT) : Prop where
  mkr : ∃ f ps, Mk Γ.K (Γ.cl c) f ∧ CalD Γ j f ps F ∧ ps.length = n + 1
  mg : Γ.mg x = some (.ref (Γ.cl c))
section
variable {Γ : Gam} {c : Cfg} {k j n : Nat} {a b e d o i tg value : Expr} {es : List Expr} {fa fb fc : XE} {fr : XA} {pos p apos tpos : Pos} {ρ : List Addr} {H : Hp} {f : Str} {T : List Nat} {MT : List (Nat × FnT)} {F : FnT}
theorem RelFs.look : ∀ {fs : List (Str × W)} {gs : List (Str × V)} (f : Str), RelFs Γ ρ H fs gs → (∀ w, fs.lookup f = some w → ∃ v, gs.lookup f = some v ∧ RelW Γ ρ H w v) ∧ (fs.lookup f = none → gs.lookup f = none)
  | [], gs, f, r => by
    unfold RelFs at r
    subst r
    exact ⟨fun w e => (by simp at e), fun _ => rfl⟩
  | (g, x) :: fs, gs, f, r => by
    unfold RelFs at r
    obtain ⟨y, r', rfl, h1, h2⟩ := r
    obtain ⟨q1, q2⟩ := RelFs.look f h2
    rw [List.lookup_cons, List.lookup_cons]
    cases hb : f == g with
    | true => exact ⟨fun w e => by cases e; exact ⟨y, rfl, h1⟩, fun e => by cases e⟩
    | false => exact ⟨q1, q2⟩
theorem RelFs.put : ∀ {fs : List (Str × W)} {gs : List (Str × V)} {w : W} {v : V} (f : Str), RelFs Γ ρ H fs gs → RelW Γ ρ H w v → RelFs Γ ρ H (putW f w fs) (putF f v gs)
  | [], gs, w, v, f, r, q => by
    unfold RelFs at r
    subst r
    unfold putW putF RelFs
    exact ⟨v, [], rfl, q, rfl⟩
  | (g, x) :: fs, gs, w, v, f, r, q => by
    unfold RelFs at r
    obtain ⟨y, r', rfl, h1, h2⟩ := r
    unfold putW putF
    by_cases hg : g = f
    · rw [if_pos hg, if_pos hg]
      unfold RelFs
      exact ⟨v, r', rfl, q, h2⟩
    · rw [if_neg hg, if_neg hg]
      unfold RelFs
      exact ⟨y, _, rfl, h1, RelFs.put f h2 q⟩
theorem RelFs.length : ∀ {fs : List (Str × W)} {gs : List (Str × V)}, RelFs Γ ρ H fs gs → fs.length = gs.length
  | [], gs, r => by
    unfold RelFs at r
    subst r
    rfl
  | _ :: fs, gs, r => by
    unfold RelFs at r
    obtain ⟨y, r', rfl, _, h2⟩ := r
    rw [List.length_cons, List.length_cons, RelFs.length h2]
theorem Rel.ins {h : Hm} {x : W} {v : V} {cc : Nat} {fs : List (Str × W)} (R : Rel Γ ρ h H) (e : insW x h = some (cc, fs)) (r : RelW Γ ρ H x v) : ∃ r0 a dx gs, x = .ref r0 ∧ h[r0]? = some (.ins cc fs) ∧ v = .ref a ∧ ρ[r0]? = some a ∧ H a = some (.ins (Γ.cl cc) dx gs) ∧ RelFs Γ ρ H fs gs := by
  unfold insW at e
  split at e
  · rename_i r0
    split at e
    · rename_i ex
      cases e
      obtain ⟨a, ea, rfl⟩ := rwR r
      obtain ⟨a', ea', dx, gs, hy, rr⟩ := R.obj _ _ ex
      rw [ea] at ea'
      cases ea'
      exact ⟨r0, a, dx, gs, rfl, ex, rfl, ea, hy, rr⟩
    · cases e
  · cases e
theorem fld_at {h : Hm} {x w : W} {v : V} (ok : FldOk Γ T f) (R : Rel Γ ρ h H) (e : fldW T f x h = some w) (r : RelW Γ ρ H x v) : ∃ r0 a cc dx fs gs u, x = .ref r0 ∧ h[r0]? = some (.ins cc fs) ∧ T.contains cc = true ∧ v = .ref a ∧ ρ[r0]? = some a ∧ H a = some (.ins (Γ.cl cc) dx gs) ∧ RelFs Γ ρ H fs gs ∧ Cls Γ.K (Γ.cl cc) ∧ NoAttr Γ.K (Γ.cl cc) f ∧ gs.lookup f = some u ∧ RelW Γ ρ H w u := by
  unfold fldW at e
  obtain ⟨⟨cc, fs⟩, e1, e2⟩ := Option.bind_eq_some_iff.mp e
  dsimp only at e2
  split at e2
  · rename_i hT
    obtain ⟨r0, a, dx, gs, rfl, ex, rfl, ea, hy, rr⟩ := R.ins e1 r
    obtain ⟨u, l, q⟩ := (rr.look f).1 w e2
    obtain ⟨o1, o2⟩ := ok cc (by simpa using hT)
    exact ⟨r0, a, cc, dx, fs, gs, u, rfl, ex, hT, rfl, ea, hy, rr, o1, o2, l, q⟩
  · cases e2
theorem se_fld (ok : FldOk Γ T f) (ha : SE Γ c k a fa) (hb : ∀ env, attributeBase a f env (eval a env) = eval a env := by intros; rfl) : SE Γ c k (.Attribute a f pos) (xFld T f fa) := by
  intro W X G
  refine PE.imp (pe_fld (ha W X G) (hb X.env)) fun τ H Q h => ?_
  obtain ⟨ρ, σ, h, R, S, q⟩ := h
  refine ⟨ρ, σ, h, R, S, (O1.bind (R := RelW Γ) q).imp fun v H1 ⟨ρ1, h1, u, l1, R1, r1, q1⟩ => ?_⟩
  split at q1
  · rename_i w e
    obtain ⟨r0, a, cc, dx, fs, gs, z, rfl, ex, hT, rfl, ea, hy, rr, o1, o2, l, qz⟩ := fld_at ok R1 e r1
    exact ⟨a, _, dx, gs, z, rfl, hy, by rw [G.K]; exact o1, by rw [G.K]; exact o2, l, q1 ρ1 H1 z .refl R1 qz⟩
  · exact q1.elim
theorem set_at {h h' : Hm} {x v : W} {ov u : V} (ok : FldOk Γ T f) (R : Rel Γ ρ h H) (e : setF T f x v h = some h') (r : RelW Γ ρ H x ov) (rv : RelW Γ ρ H v u) :
    ∃ a cc dx gs, cc ∈ T ∧ ov = .ref a ∧ H a = some (.ins (Γ.cl cc) dx gs) ∧ Cls Γ.K (Γ.cl cc) ∧ NoAttr Γ.K (Γ.cl cc) f ∧ gs.length < 1000 ∧ Le Γ ρ ρ H (upd H a (.ins (Γ.cl cc) dx (putF f u gs))) ∧ Rel Γ ρ h' (upd H a (.ins (Γ.cl cc) dx (putF f u gs))) := by
  unfold setF at e
  split at e
  · rename_i r0
    split at e
    · rename_i cc fs ex
      split at e
      · rename_i hT
        cases e
        rw [Bool.and_eq_true, decide_eq_true_eq] at hT
        obtain ⟨r0', a, dx, gs, e1, ex', rfl, ea, hy, rr⟩ := R.ins (cc := cc) (fs := fs) (by unfold insW; simp only [ex]) r
        cases e1
        obtain ⟨o1, o2⟩ := ok cc (by simpa using hT.1)
        have l : Le Γ ρ ρ H (upd H a (.ins (Γ.cl cc) dx (putF f u gs))) := Le.write hy trivial
        refine ⟨a, cc, dx, gs, by simpa using hT.1, rfl, hy, o1, o2, by rw [← rr.length]; exact hT.2, l, ?_⟩
        exact R.write ex ea trivial trivial hy trivial ⟨dx, _, upd_same, (RelFs.mono l _ _ (rr.put f rv))⟩
      · cases e
    · cases e
  · cases e
theorem ss_fld (ok : FldOk Γ T f) (ho : SE Γ c k o fa) (hv : SE Γ c k value fb) (hs : ∀ env, swapsWith value (some (.Attribute o f p)) pos.line env = pure false := by intros; rfl) : SS Γ c k (.Assign [.Attribute o f p] value pos) (sFldSet T f fa fb) := by
  intro W X G
  refine PS.imp (ps_fld (ho W X G) (hv W X G) (hs X.env)) fun D τ H h => ?_
  obtain ⟨ρ, σ, h, R, S, q⟩ := h
  refine ⟨ρ, σ, h, R, S, (S1.of (R := RelW Γ) S q).imp fun v H1 ⟨ρ1, h1, u, l1, R1, r1, q1⟩ => ?_⟩
  refine ⟨ρ1, σ, h1, R1, S.mono l1, (S1.of (R := RelW Γ) (S.mono l1) q1).imp fun x H2 ⟨ρ2, h2, u2, l2, R2, r2, q2⟩ => ?_⟩
  split at q2
  · rename_i h3 e3
    obtain ⟨a, cc, dx, gs, _, rfl, hy, o1, o2, l, l3, R3⟩ := set_at ok R2 e3 r2 (RelW.mono l2 _ _ r1)
    exact ⟨a, _, dx, gs, rfl, hy, by rw [G.K]; exact o1, by rw [G.K]; exact o2, l, q2 ρ2 _ τ l3 R3 (((S.mono l1).mono l2).mono l3)⟩
  · exact q2.elim
theorem ss_fldaug {op : Operator} {g : W → W → Hm → Pr} (ok : FldOk Γ T f) (hop : IpS Γ c k op g) (ho : SE Γ c k o fa) (hv : SE Γ c k value fb) : SS Γ c k (.AugAssign (.Attribute o f tpos) op value pos) (sFldAug T f g fa fb) := by
  intro W X G
  refine PS.imp (ps_fldaug (ho W X G) (hv W X G) (fun pins s σ H x y u v Q I rx ry h => hop W X G pins s σ H x y u v Q I rx ry h)) fun D τ H h => ?_
  obtain ⟨ρ, σ, h, R, S, q⟩ := h
  refine ⟨ρ, σ, h, R, S, (S1.of (R := RelW Γ) S q).imp fun v H1 ⟨ρ1, h1, u, l1, R1, r1, q1⟩ => ?_⟩
  split at q1
  · rename_i w e
    obtain ⟨r0, a, cc, dx, fs, gs, z, rfl, ex, hT, rfl, ea, hy, rr, o1, o2, l, qz⟩ := fld_at ok R1 e r1
    refine ⟨a, _, dx, gs, z, rfl, hy, by rw [G.K]; exact o1, by rw [G.K]; exact o2, l, ρ1, σ, h1, R1, S.mono l1, (S1.of (R := RelW Γ) (S.mono l1) q1).imp fun y H2 ⟨ρ2, h2, u2, l2, R2, r2, q2⟩ => ?_⟩
    obtain ⟨z2, h3, e3, q3⟩ := q2.op
    refine ⟨ρ2, h2, w, u2, z2, h3, R2, RelW.mono l2 _ _ qz, r2, e3, fun ρ3 H3 v3 l3 R3 r3 => ?_⟩
    have q3 := S1.mono l3 q3
    split at q3
    · rename_i h4 e4
      have ec : clsW (.ref r0) h1 = cc := by
        unfold clsW insW
        simp only [ex]
        rfl
      have ok' : FldOk Γ [clsW (.ref r0) h1] f := fun c' m => by
        rw [List.mem_singleton.mp m, ec]
        exact ⟨o1, o2⟩
      obtain ⟨a', cc', dx', gs', m', ea', hy', o1', o2', lg, l4, R4⟩ := set_at ok' R3 e4 (RelW.mono (l2.trans l3) _ _ r1) r3
      cases ea'
      rw [List.mem_singleton.mp m', ec] at hy' l4 R4
      exact ⟨dx', gs', hy', lg, q3 ρ3 _ τ l4 R4 ((((S.mono l1).mono l2).mono l3).mono l4)⟩
    · exact q3.elim
  · exact q1.elim
/-! calls -/
theorem met_at {h : Hm} {x : W} {v : V} {m : Str} {n : Nat} {F : FnT} (ok : MetOk Γ j n MT m) (R : Rel Γ ρ h H) (e : metW MT m x h = some F) (r : RelW Γ ρ H x v) :
    ∃ a C dx gs f ps, v = .ref a ∧ H a = some (.ins C dx gs) ∧ Cls Γ.K C ∧ gs.lookup m = none ∧ Meth Γ.K C m f ∧ CalD Γ j f ps F ∧ ps.length = n + 1 := by
  unfold metW at e
  obtain ⟨⟨cc, fs⟩, e1, e2⟩ := Option.bind_eq_some_iff.mp e
  dsimp only at e2
  split at e2
  · rename_i hl
    obtain ⟨r0, a, dx, gs, rfl, ex, rfl, ea, hy, rr⟩ := R.ins e1 r
    obtain ⟨o1, f, ps, o2, o3, o4⟩ := ok (cc, F) (lookup_mem e2)
    exact ⟨a, _, dx, gs, f, ps, rfl, hy, o1, (rr.look m).2 (Option.isNone_iff_eq_none.mp hl), o2, o3, o4⟩
  · cases e2
theorem se_met {m : Str} {pl : Env → Sem Bool} (ok : MetOk Γ j (n + 1) MT m) (ho : SE Γ c k o fa) (ha : SA Γ c k (e :: es) fr) (hn : ∀ σ h ws h', fr σ h = .ok ws h' → ws.length = n + 1) (hl : j ≤ k := by decide) (hc : c.calm = true := by rfl)
    (hst : ∀ env, starEach (e :: es) env = (false, eval e env) :: starEach es env := by intros; rfl) (hpl : ∀ env, (backTo pos (starEach es env)).any (·.1) = false := by intros; rfl)
    (ht : ∀ env, eval (.Call (.Attribute o m apos) (e :: es) [] pos) env = (do
      let ov ← eval o env
      standAt apos.atName
      let (f, first) ← holding [ov] (getMethod ov m (pl env))
      callWith pos f first (backTo pos (starEach (e :: es) env)) (backToKw pos (keywordEach [] env))) := by intros; rfl) :
    SE Γ c k (.Call (.Attribute o m apos) (e :: es) [] pos) (xMet MT m fa fr) := by
  intro W X G
  refine ⟨fun pins s τ H Q I h => ?_⟩
  obtain ⟨ρ, σ, h, R, S, q⟩ := h
  refine PySem.W.methodCall_KW (pl := pl X.env) (thn ((ho W X G).run pins s τ H (fun v H1 => ∃ ρ1 h1 x, Rel Γ ρ1 h1 H1 ∧ RelS Γ ρ1 H1 σ τ ∧ RelW Γ ρ1 H1 x v ∧ O1 Γ (RelW Γ) ρ1 H1 (match metW MT m x h1 with
      | some F => (fr σ h1).bind fun xs h2 => F (x :: xs) h2
      | none => .bad) Q (fun cls d H' => W cls d τ H')) I ⟨ρ, σ, h, R, S, (O1.bind (R := RelW Γ) q).imp fun x H1 ⟨ρ1, h1, u, l1, R1, r1, q1⟩ => ⟨ρ1, h1, u, R1, S.mono l1, r1, q1⟩⟩) fun u s1 ⟨v, H1, I1, ru, ρ1, h1, x, R1, S1, r1, q1⟩ => ?_) (ht X.env)
  split at q1
  · rename_i F eF
    obtain ⟨a, C, dx, gs, f, ps, rfl, hy, o1, o2, o3, ⟨⟨fd, o4, o5, _⟩, o6⟩, o7⟩ := met_at ok R1 eF r1
    obtain rfl : u = Value.ref a := ru
    refine getmeth_ok I1 hy (by rw [G.K]; exact o1) (by rw [G.K]; exact o3) o2 ?_
    refine PySem.W.callWith_K (first := [.ref a]) (h₀ := X.base) I1.ok.mod.kin (by rw [G.K]; exact o6) (thn ((ha W X G).run pos pins s1 τ H1 (fun vs H2 => ∃ ρ2 h2 ws, Rel Γ ρ2 h2 H2 ∧ ws.length = n + 1 ∧ RelWs Γ ρ2 H2 (x :: ws) (.ref a :: vs) ∧ O1 Γ (RelW Γ) ρ2 H2 (F (x :: ws) h2) Q (fun cls d H' => W cls d τ H')) I1
      ⟨ρ1, σ, h1, R1, S1, ?_⟩) fun us s2 ⟨vs, H2, I2, r, ρ2, h2, ws, R2, lw, rr, q2⟩ => ⟨I2.kIn, ?_⟩) (hst X.env) (hpl X.env)
    · cases e1 : fr σ h1 with
      | bad => rw [e1] at q1; exact q1.elim
      | err x h2 => rw [e1] at q1; exact q1
      | ok ws h2 =>
        rw [e1] at q1
        exact fun ρ2 H2 vs l R2 r2 => ⟨ρ2, h2, ws, R2, hn _ _ _ _ e1, RelWs.cons (RelW.mono l _ _ r1) r2, O1.mono l q1⟩
    · refine run_fnS (us := .ref a :: us) (vs := .ref a :: vs) (E := WE W) (G.fnOk o4 hl) (G.room hc) (by rw [G.K]; exact o5) (passAt G.takes τ) I2 (.cons rfl r) ?_
      exact ⟨by rw [← rr.length, o7, List.length_cons, lw], ρ2, x :: ws, h2, R2, rr, q2⟩
  · exact q1.elim
theorem se_met0 {m : Str} {pl : Env → Sem Bool} (ok : MetOk Γ j 0 MT m) (ho : SE Γ c k o fa) (hl : j ≤ k := by decide) (hc : c.calm = true := by rfl)
    (ht : ∀ env, eval (.Call (.Attribute o m apos) [] [] pos) env = (do
      let ov ← eval o env
      standAt apos.atName
      let (f, first) ← holding [ov] (getMethod ov m (pl env))
      callWith pos f first (backTo pos (starEach [] env)) (backToKw pos (keywordEach [] env))) := by intros; rfl) :
    SE Γ c k (.Call (.Attribute o m apos) [] [] pos) (xMet MT m fa xNil) := by
  intro W X G
  refine ⟨fun pins s τ H Q I h => ?_⟩
  obtain ⟨ρ, σ, h, R, S, q⟩ := h
  refine PySem.W.methodCall_KW (pl := pl X.env) (thn ((ho W X G).run pins s τ H (fun v H1 => ∃ ρ1 h1 x, Rel Γ ρ1 h1 H1 ∧ RelS Γ ρ1 H1 σ τ ∧ RelW Γ ρ1 H1 x v ∧ O1 Γ (RelW Γ) ρ1 H1 (match metW MT m x h1 with
      | some F => (xNil σ h1).bind fun xs h2 => F (x :: xs) h2
      | none => .bad) Q (fun cls d H' => W cls d τ H')) I ⟨ρ, σ, h, R, S, (O1.bind (R := RelW Γ) q).imp fun x H1 ⟨ρ1, h1, u, l1, R1, r1, q1⟩ => ⟨ρ1, h1, u, R1, S.mono l1, r1, q1⟩⟩) fun u s1 ⟨v, H1, I1, ru, ρ1, h1, x, R1, S1, r1, q1⟩ => ?_) (ht X.env)
  split at q1
  · rename_i F eF
    obtain ⟨a, C, dx, gs, f, ps, rfl, hy, o1, o2, o3, ⟨⟨fd, o4, o5, _⟩, o6⟩, o7⟩ := met_at ok R1 eF r1
    obtain rfl : u = Value.ref a := ru
    refine getmeth_ok I1 hy (by rw [G.K]; exact o1) (by rw [G.K]; exact o3) o2 ?_
    refine PySem.W.callWith_K0 (first := [.ref a]) I1.kIn (by rw [G.K]; exact o6) (run_fnS (us := [.ref a]) (vs := [.ref a]) (E := WE W) (G.fnOk o4 hl) (G.room hc) (by rw [G.K]; exact o5) (passAt G.takes τ) I1 (.cons rfl .nil) ?_)
    exact ⟨by rw [o7]; rfl, ρ1, [x], h1, R1, RelWs.cons r1 RelWs.nil, q1⟩
  · exact q1.elim
theorem run_makeS {X : Cx} {k' : Nat} {CX : CXT} {C f : Addr} {fd : FuncData} {ps : List Str} {sp : Sp} {E : L2.St → XK} {pins : List (Addr × Obj)} {τ : L2.St} {s : Shared} {Q : VK} {us : List Value} {vs : List V} (M : Mk X.K C f) (F : FnOk X.prog X.w X.K X.mg X.base CX k' f fd ps sp) (hr : Room (k' + 1) X.A) (hb : Binds X.K fd ps [])
    (hx : PassesAt CX X τ (E τ)) (I : Inv X pins τ H s) (r : Vals vs us)
    (h : ∀ x dx, H x = none → H dx = none → dx ≠ x → sp (.ref x :: vs) (upd (upd H dx (.own x)) x (.ins C dx [])) (fun v H2 => v = .non ∧ Q (.ref x) H2) (E τ)) :
    wpAny (model X.prog X.w) X.A (call (.ref C) us) (EP X pins τ Q) X.xe s := by
  have hq := h (s.heap.objs.size + 1) s.heap.objs.size (I.hok.fresh (Nat.le_succ _)) (I.hok.fresh (Nat.le_refl _)) (Nat.ne_of_lt (Nat.lt_succ_self _))
  have I2 := Inv.made (C := C) I
  have r2 : Vals (V.ref (s.heap.objs.size + 1) :: vs) (Value.ref (s.heap.objs.size + 1) :: us) := .cons rfl r
  have hl : (Value.ref (s.heap.objs.size + 1) :: us ++ []).length = ps.length := by
    rw [List.append_nil, ← r2.length]
    exact F.len _ _ _ _ hq
  have hbb := hb _ (Value.ref (s.heap.objs.size + 1) :: us) I2.kIn hl
  rw [List.append_nil] at hbb
  refine wpAny_call (make_map (f := f) I.kIn M.makes M.init (beq_iff_eq.mp M.fn) (codeAny_mono (F.run _ X.stack _ _ ⟨Value.ref (s.heap.objs.size + 1) :: us, []⟩ (Value.ref (s.heap.objs.size + 1) :: us) _ _ (E τ) (hr.make C us [])
    (I2.env0.make C us []) hbb r2 hq) fun r s' hq' => ?_))
  cases r with
  | error e => exact hx pins _ _ e s' I2 hq'
  | ok fl =>
    cases fl with
    | ret u =>
      obtain ⟨v, H', I3, rv, ev, q3⟩ := I2.after hq'
      subst ev
      exact ⟨rv, ⟨V.ref (s.heap.objs.size + 1), H', I3, rfl, q3⟩⟩
    | next => exact False.elim hq'
    | brk => exact False.elim hq'
    | cont => exact False.elim hq'
/-- the new object of ours -/
theorem Rel.newI {h : Hm} {x dx : Addr} {cc : Nat} (R : Rel Γ ρ h H) (n : H x = none) (nd : H dx = none) (ne : dx ≠ x) :
    Le Γ ρ (ρ ++ [x]) H (upd (upd H dx (.own x)) x (.ins (Γ.cl cc) dx [])) ∧ Rel Γ (ρ ++ [x]) (h ++ [.ins cc []]) (upd (upd H dx (.own x)) x (.ins (Γ.cl cc) dx [])) := by
  have n2 : upd H dx (.own x) x = none := by rw [upd_ne (Ne.symm ne)]; exact n
  have l1 := Le.laid (Γ := Γ) (ρ := ρ) (o := HO.own x) nd []
  rw [List.append_nil] at l1
  have l2 := Le.laid (Γ := Γ) (ρ := ρ) (o := HO.ins (Γ.cl cc) dx []) n2 [x]
  exact ⟨l1.trans l2, (R.other nd).alloc n2 ⟨dx, [], upd_same, rfl⟩⟩
theorem make_core {Wx : WX} {X : Cx} (G : Good Γ c k Wx X) {cc : Nat} {x : Str} {F : FnT} (ok : MakeOk Γ j n cc x F) (hl : j + 1 ≤ k) (hc : c.calm = true) {pins : List (Addr × Obj)} {τ : L2.St} {s : Shared} {Q : VK} {us : List Value} {vs : List V} {ws : List Z.W} {h : Hm}
    (I : Inv X pins τ H s) (r : Vals vs us) (R : Rel Γ ρ h H) (lw : ws.length = n) (rr : RelWs Γ ρ H ws vs)
    (q : O1 Γ (RelW Γ) ρ H ((F (.ref h.length :: ws) (h ++ [.ins cc []])).bind fun w h2 => match w with
      | .non => .ok (.ref h.length) h2
      | _ => .bad) Q (fun cls d H' => Wx cls d τ H')) : wpAny (model X.prog X.w) X.A (call (.ref (Γ.cl cc)) us) (EP X pins τ Q) X.xe s := by
  obtain ⟨f, ps, M, ⟨⟨fd, o4, o5, _⟩, o6⟩, o7⟩ := ok.mkr
  refine run_makeS (E := WE Wx) (k' := j) (by rw [G.K]; exact M) (by rw [G.prog, G.w, G.K, G.mg, G.base]; exact o4) ((G.room hc).mono hl) (by rw [G.K]; exact o5) (passAt G.takes τ) I r fun x dx nx nd ne => ?_
  obtain ⟨l, R2⟩ := R.newI (cc := cc) nx nd ne
  have hx : RelW Γ (ρ ++ [x]) (upd (upd H dx (.own x)) x (.ins (Γ.cl cc) dx [])) (.ref h.length) (.ref x) := iR (by rw [← R.len]; simp)
  refine ⟨by rw [List.length_cons, ← rr.length, lw, o7], ρ ++ [x], .ref h.length :: ws, h ++ [.ins cc []], R2, RelWs.cons hx (RelWs.mono l _ _ rr), ?_⟩
  refine (O1.bind (R := RelW Γ) (O1.mono l q)).imp fun v H2 ⟨ρ2, h2, w, l2, R3, r3, q3⟩ => ?_
  split at q3
  · rw [rwN r3]
    exact ⟨rfl, q3 ρ2 H2 _ .refl R3 (RelW.mono l2 _ _ hx)⟩
  · exact q3.elim
theorem se_make (jG : Nat) {cc : Nat} {x : Str} {F : FnT} (ok : MakeOk Γ j (n + 1) cc x F) (ha : SA Γ c k (e :: es) fr) (hn : ∀ σ h ws h', fr σ h = .ok ws h' → ws.length = n + 1) (hl : j + 1 ≤ k := by decide) (hG : c.G[jG]? = some x := by rfl) (hc : c.calm = true := by rfl)
    (hdb : (x == ("__debug__" : Str)) = false := by decide) (he : ∀ env, starEach (e :: es) env = (false, eval e env) :: starEach es env := by intros; rfl) (hpl : ∀ env, (backTo pos (starEach es env)).any (·.1) = false := by intros; rfl) :
    SE Γ c k (.Call (.Name x p) (e :: es) [] pos) (xMake cc F fr) := by
  intro W X G
  refine ⟨fun pins s τ H Q I h => ?_⟩
  obtain ⟨ρ, σ, h, R, S, q⟩ := h
  obtain ⟨f, ps, M, _⟩ := ok.mkr
  refine wpAny_Call_Name_kw (ld_glob I (G.gl (List.mem_of_getElem? hG)) (by rw [G.mg]; exact ok.mg) ?_ hdb)
  refine PySem.W.callWith_K (h₀ := X.base) I.ok.mod.kin (by rw [G.K]; exact M.kp) (thn ((ha W X G).run pos pins s τ H (fun vs H2 => ∃ ρ2 h2 ws, Rel Γ ρ2 h2 H2 ∧ ws.length = n + 1 ∧ RelWs Γ ρ2 H2 ws vs ∧ O1 Γ (RelW Γ) ρ2 H2 ((F (.ref h2.length :: ws) (h2 ++ [.ins cc []])).bind fun w h2' => match w with
      | .non => .ok (.ref h2.length) h2'
      | _ => .bad) Q (fun cls d H' => W cls d τ H')) I ⟨ρ, σ, h, R, S, ?_⟩) fun us s1 ⟨vs, H1, I1, r, ρ2, h2, ws, R2, lw, rr, q2⟩ => ⟨I1.kIn, make_core G ok hl hc I1 r R2 lw rr q2⟩) (he X.env) (hpl X.env)
  unfold xMake at q
  cases e1 : fr σ h with
  | bad => rw [e1] at q; exact q.elim
  | err x h2 => rw [e1] at q; exact q
  | ok ws h2 =>
    rw [e1] at q
    exact fun ρ2 H2 vs l R2 r2 => ⟨ρ2, h2, ws, R2, hn _ _ _ _ e1, r2, O1.mono l q⟩
theorem se_make0 (jG : Nat) {cc : Nat} {x : Str} {F : FnT} (ok : MakeOk Γ j 0 cc x F) (hl : j + 1 ≤ k := by decide) (hG : c.G[jG]? = some x := by rfl) (hc : c.calm = true := by rfl)
    (hdb : (x == ("__debug__" : Str)) = false := by decide) : SE Γ c k (.Call (.Name x p) [] [] pos) (xMake cc F xNil) := by
  intro W X G
  refine ⟨fun pins s τ H Q I h => ?_⟩
  obtain ⟨ρ, σ, h, R, S, q⟩ := h
  obtain ⟨f, ps, M, _⟩ := ok.mkr
  refine wpAny_Call_Name_kw (ld_glob I (G.gl (List.mem_of_getElem? hG)) (by rw [G.mg]; exact ok.mg) ?_ hdb)
  exact PySem.W.callWith_K0 I.kIn (by rw [G.K]; exact M.kp) (make_core G ok hl hc I .nil R rfl RelWs.nil q)
end
/-- no promise at all (for a def that calls itself) -/
theorem cal_bot {Γ : Gam} {x qual : Str} {st : Stmt} {at_ : Str × Option Str} {ps : List Str} (D : Def Γ at_ x qual st) (B : BindsN st x qual ps) : CalD Γ 0 (He.fAd Γ.K at_) ps (fun _ _ => .bad) := by
  obtain ⟨fd, Fu⟩ := D
  obtain ⟨oc, od, dV, kV, doc, pm, an, cdv, ct, osl, e, lk, _⟩ := Fu.ex
  exact ⟨⟨fd, ⟨fun vs H Q E h => h.1, fun A outer s H args us vs Q E hr he hb hv hs => by
    obtain ⟨_, _, _, _, _, _, z⟩ := hs
    exact z.elim⟩, Fu.bindsN B, oc, od, osl, lk⟩, Fu.kp⟩
theorem CalD.mono {Γ : Gam} {j k : Nat} {f : Addr} {ps : List Str} {F : FnT} (C : CalD Γ j f ps F) (l : j ≤ k) : CalD Γ k f ps F := by
  obtain ⟨⟨fd, h1, h2⟩, h3⟩ := C
  exact ⟨⟨fd, h1.mono l, h2⟩, h3⟩
section
variable {Γ : Gam} {j j' n i : Nat} {f m : Str} {T : List Nat} {MT : List (Nat × FnT)} {F : FnT} {g : Addr} {ps : List Str}
theorem FldOk.nil : FldOk Γ [] f := nofun
theorem FldOk.cons (c : Cls Γ.K (Γ.cl i)) (n : NoAttr Γ.K (Γ.cl i) f) (r : FldOk Γ T f) : FldOk Γ (i :: T) f := fun z m => by
  rcases List.mem_cons.mp m with rfl | m
  · exact ⟨c, n⟩
  · exact r z m
theorem MetOk.nil : MetOk Γ j n [] m := nofun
theorem MetOk.cons (c : Cls Γ.K (Γ.cl i)) (q : Meth Γ.K (Γ.cl i) m g) (C : CalD Γ j' g ps F) (hl : ps.length = n + 1) (hj : j' ≤ j) (r : MetOk Γ j n MT m) : MetOk Γ j n ((i, F) :: MT) m := fun z h => by
  rcases List.mem_cons.mp h with rfl | h
  · exact ⟨c, g, ps, q, C.mono hj, hl⟩
  · exact r z h
theorem MakeOk.of {c : Nat} {x : Str} (M : Mk Γ.K (Γ.cl c) g) (C : CalD Γ j g ps F) (hl : ps.length = n + 1) (hm : Γ.mg x = some (.ref (Γ.cl c))) : MakeOk Γ j n c x F := ⟨⟨g, ps, M, C, hl⟩, hm⟩
end
theorem Cal.of {Γ : Gam} {j : Nat} {x : Str} {g : Addr} {ps : List Str} {F : FnT} (C : CalD Γ j g ps F) (h : Γ.mg x = some (.ref g)) : Cal Γ j x ps F := ⟨g, C, h⟩
/-- another name of a def -/
def aliasZ (x y : Str) : FaZ := fun K => He.eqO (PySem.W.nsIn K mainGlobals x) (some (some (.ref (He.ga K y))))
theorem alias_ok {K : PySem.W.Frag} {h : Heap} {mg : Str → Option Value} (X : K.In h) (G : h.Ns mainGlobals mg) {x y : Str} (c : aliasZ x y K = true) : mg x = some (.ref (He.ga K y)) := PySem.W.mg_of X G (He.eqO_ok c)
/-! sum of ints, all of bools -/
def ints? : List W → Option (List Int)
  | [] => some []
  | .int i :: r => (ints? r).map fun l => i :: l
  | _ :: _ => none
def bls? : List W → Option (List Bool)
  | [] => some []
  | .bl i :: r => (bls? r).map fun l => i :: l
  | _ :: _ => none
def sumW (xs : List W) (h : Hm) : Pr := match xs with
  | [x] => if isL x h then (seqC x h).bind fun ys => (ints? ys).map fun ns => (.int ns.sum, h) else none
  | _ => none
def allW (xs : List W) (h : Hm) : Pr := match xs with
  | [x] => if isL x h then (seqC x h).bind fun ys => (bls? ys).map fun ns => (.bl (ns.all id), h) else none
  | _ => none
section
variable {Γ : Gam} {c : Cfg} {k j : Nat} {e : Expr} {es : List Expr} {fr : XA} {pos p : Pos} {ρ : List Addr} {H : Hp}
theorem ints_of : ∀ {ws : List W} {ns : List Int} {vs : List V}, ints? ws = some ns → RelWs Γ ρ H ws vs → vs = ns.map V.int
  | [], ns, vs, e, r => by
    unfold RelWs at r
    subst r
    cases e
    rfl
  | w :: ws, ns, vs, e, r => by
    unfold RelWs at r
    obtain ⟨y, r', rfl, r1, r2⟩ := r
    cases w with
    | int x =>
      unfold ints? at e
      obtain ⟨l, e1, rfl⟩ := Option.map_eq_some_iff.mp e
      rw [rwI r1, ints_of e1 r2]
      rfl
    | _ => cases e
theorem bls_of : ∀ {ws : List W} {ns : List Bool} {vs : List V}, bls? ws = some ns → RelWs Γ ρ H ws vs → vs = ns.map V.bl
  | [], ns, vs, e, r => by
    unfold RelWs at r
    subst r
    cases e
    rfl
  | w :: ws, ns, vs, e, r => by
    unfold RelWs at r
    obtain ⟨y, r', rfl, r1, r2⟩ := r
    cases w with
    | bl x =>
      unfold bls? at e
      obtain ⟨l, e1, rfl⟩ := Option.map_eq_some_iff.mp e
      rw [rwB r1, bls_of e1 r2]
      rfl
    | _ => cases e
theorem cs_sum (hc : c.calm = true := by rfl) : CaS Γ c k (.builtin "sum") sumW := by
  intro W X G pins s σ H xs us Q I rx h
  obtain ⟨ρ, hm, ws, u', h', R, rr, e, q⟩ := h
  unfold sumW at e
  split at e
  · split at e
    · rename_i hl
      obtain ⟨ys, e1, e2⟩ := Option.bind_eq_some_iff.mp e
      obtain ⟨ns, e3, e4⟩ := Option.map_eq_some_iff.mp e2
      cases e4
      obtain ⟨v, rfl, r1⟩ := rws1 rr
      obtain ⟨r0, a, xs, zs, rfl, rfl, ea, e5, hq, r2⟩ := isL_at R hl r1
      rw [e1] at e5
      cases e5
      have := ints_of e3 r2
      subst this
      exact cr_sum (G.calm.trans hc) pins s σ H _ us Q I rx ⟨a, ns, rfl, by rw [G.K]; exact hq, q ρ H _ .refl R iI'⟩
    · cases e
  · cases e
theorem cs_all (hc : c.calm = true := by rfl) : CaS Γ c k (.builtin "all") allW := by
  intro W X G pins s σ H xs us Q I rx h
  obtain ⟨ρ, hm, ws, u', h', R, rr, e, q⟩ := h
  unfold allW at e
  split at e
  · split at e
    · rename_i hl
      obtain ⟨ys, e1, e2⟩ := Option.bind_eq_some_iff.mp e
      obtain ⟨ns, e3, e4⟩ := Option.map_eq_some_iff.mp e2
      cases e4
      obtain ⟨v, rfl, r1⟩ := rws1 rr
      obtain ⟨r0, a, xs, zs, rfl, rfl, ea, e5, hq, r2⟩ := isL_at R hl r1
      rw [e1] at e5
      cases e5
      have := bls_of e3 r2
      subst this
      exact cr_all (G.calm.trans hc) pins s σ H _ us Q I rx ⟨a, ns, rfl, by rw [G.K]; exact hq, q ρ H _ .refl R iB⟩
    · cases e
  · cases e
theorem e_sum (j : Nat) (B : Bs Γ) (ha : SA Γ c k (e :: es) fr) (hG : c.G[j]? = some ("sum" : Str) := by rfl) (hc : c.calm = true := by rfl) (he : ∀ env, starEach (e :: es) env = (false, eval e env) :: starEach es env := by intros; rfl) (hpl : ∀ env, (backTo pos (starEach es env)).any (·.1) = false := by intros; rfl) :
    SE Γ c k (.Call (.Name "sum" p) (e :: es) [] pos) (xCall sumW fr) := se_callB (cs_sum hc) j B.sum (by decide +kernel) ha hG (by decide) (by decide) he hpl
theorem e_all (j : Nat) (B : Bs Γ) (ha : SA Γ c k (e :: es) fr) (hG : c.G[j]? = some ("all" : Str) := by rfl) (hc : c.calm = true := by rfl) (he : ∀ env, starEach (e :: es) env = (false, eval e env) :: starEach es env := by intros; rfl) (hpl : ∀ env, (backTo pos (starEach es env)).any (·.1) = false := by intros; rfl) :
    SE Γ c k (.Call (.Name "all" p) (e :: es) [] pos) (xCall allW fr) := se_callB (cs_all hc) j B.all (by decide +kernel) ha hG (by decide) (by decide) he hpl
end
end Z

/-! Y0: what a text needs for a wish (weakest preconditions), one rule a combinator -/
namespace Z
open PySem PySem.Spec PyProof.Rows L2
def Out.wp {α : Type} (o : Out α) (Q : α → Hm → Prop) (E : Exn → Hm → Prop) : Prop := match o with
  | .ok a h => Q a h
  | .err x h => E x h
  | .bad => False
def SOut.wp (o : SOut) (N : Sg → Hm → Prop) (R : W → Hm → Prop) (B C : Sg → Hm → Prop) (E : Exn → Sg → Hm → Prop) : Prop := match o with
  | .nx σ h => N σ h
  | .rt w h => R w h
  | .bk σ h => B σ h
  | .ct σ h => C σ h
  | .err x σ h => E x σ h
  | .bad => False
/-- no exception -/
abbrev nE : Exn → Hm → Prop := fun _ _ => False
section
variable {α β : Type} {σ : Sg} {h : Hm} {Q Q' : α → Hm → Prop} {E E' : Exn → Hm → Prop} {N N' B B' C C' : Sg → Hm → Prop} {R R' : W → Hm → Prop} {X X' : Exn → Sg → Hm → Prop} {V V' : W → Hm → Prop}
theorem Out.wp_imp {o : Out α} (w : o.wp Q E) (q : ∀ a h, Q a h → Q' a h) (e : ∀ x h, E x h → E' x h) : o.wp Q' E' := by
  cases o with
  | ok a h => exact q a h w
  | err x h => exact e x h w
  | bad => exact w
theorem SOut.wp_imp {o : SOut} (w : o.wp N R B C X) (n : ∀ s h, N s h → N' s h) (r : ∀ v h, R v h → R' v h) (b : ∀ s h, B s h → B' s h) (c : ∀ s h, C s h → C' s h) (e : ∀ x s h, X x s h → X' x s h) : o.wp N' R' B' C' X' := by
  cases o with
  | nx s h => exact n s h w
  | rt v h => exact r v h w
  | bk s h => exact b s h w
  | ct s h => exact c s h w
  | err x s h => exact e x s h w
  | bad => exact w
/-- the value itself -/
theorem Out.wp_get {o : Out α} (w : o.wp Q nE) : ∃ a h, o = .ok a h ∧ Q a h := by
  cases o with
  | ok a h => exact ⟨a, h, rfl, w⟩
  | err x h => exact w.elim
  | bad => exact w.elim
theorem w_bind {o : Out α} {f : α → Hm → Out β} {P : β → Hm → Prop} (w : o.wp (fun a h1 => (f a h1).wp P E) E) : (o.bind f).wp P E := by
  cases o with
  | ok a h => exact w
  | err x h => exact w
  | bad => exact w
theorem w_sOf {o : Out α} {f : α → Hm → SOut} (w : o.wp (fun a h1 => (f a h1).wp N R B C X) (fun x h1 => X x σ h1)) : (sOf o σ f).wp N R B C X := by
  cases o with
  | ok a h => exact w
  | err x h => exact w
  | bad => exact w
variable {a b c e : XE} {t u : XT} {r : XA} {f g : XS} {op op' : W → W → Hm → Pr}
theorem w_K {w : W} (q : V w h) : (xK w σ h).wp V E := q
theorem w_var {i : Nat} {w : W} (e : σ[i]? = some (some w)) (q : V w h) : (xVar i σ h).wp V E := by
  unfold xVar
  rw [e]
  exact q
theorem w_bin (w : (a σ h).wp (fun x h1 => (b σ h1).wp (fun y h2 => (ofO (op x y h2)).wp V E) E) E) : (xBin op a b σ h).wp V E :=
  w_bind (Out.wp_imp w (fun _ _ q => w_bind q) fun _ _ q => q)
theorem w_un {op : W → Hm → Pr} (w : (a σ h).wp (fun x h1 => (ofO (op x h1)).wp V E) E) : (xUn op a σ h).wp V E := w_bind w
theorem w_nil {P : List W → Hm → Prop} (w : P [] h) : (xNil σ h).wp P E := w
theorem w_cons {P : List W → Hm → Prop} (w : (a σ h).wp (fun x h1 => (r σ h1).wp (fun xs h2 => P (x :: xs) h2) E) E) : (xCons a r σ h).wp P E :=
  w_bind (Out.wp_imp w (fun _ _ q => w_bind (Out.wp_imp q (fun _ _ q => q) fun _ _ q => q)) fun _ _ q => q)
theorem w_call {g : List W → Hm → Pr} (w : (r σ h).wp (fun xs h1 => (ofO (g xs h1)).wp V E) E) : (xCall g r σ h).wp V E := w_bind w
theorem w_tup (w : (r σ h).wp (fun xs h1 => xs.length ≤ 16777216 ∧ V (.tup xs) h1) E) : (xTup r σ h).wp V E :=
  w_bind (Out.wp_imp w (fun xs h1 q => by rw [if_pos q.1]; exact q.2) fun _ _ q => q)
theorem w_lst (w : (r σ h).wp (fun xs h1 => xs.length ≤ 16777216 ∧ V (.ref h1.length) (h1 ++ [.lst xs])) E) : (xLst r σ h).wp V E :=
  w_bind (Out.wp_imp w (fun xs h1 q => by rw [if_pos q.1]; exact q.2) fun _ _ q => q)
theorem w_dic (q : V (.ref h.length) (h ++ [.dic []])) : (xDic σ h).wp V E := q
theorem w_B {P : Bool → Hm → Prop} (w : (a σ h).wp (fun x h1 => (asB x h1).wp P E) E) : (xB a σ h).wp P E := w_bind w
theorem w_asB {P : Bool → Hm → Prop} {v : Bool} (q : P v h) : (asB (.bl v) h).wp P E := q
theorem w_AndT {P : Bool → Hm → Prop} (w : (t σ h).wp (fun c h1 => (c = true → (u σ h1).wp P E) ∧ (c = false → P false h1)) E) : (xAndT t u σ h).wp P E :=
  w_bind (Out.wp_imp w (fun c h1 q => by cases c with
    | true => exact q.1 rfl
    | false => exact q.2 rfl) fun _ _ q => q)
theorem w_OrT {P : Bool → Hm → Prop} (w : (t σ h).wp (fun c h1 => (c = true → P true h1) ∧ (c = false → (u σ h1).wp P E)) E) : (xOrT t u σ h).wp P E :=
  w_bind (Out.wp_imp w (fun c h1 q => by cases c with
    | true => exact q.1 rfl
    | false => exact q.2 rfl) fun _ _ q => q)
theorem w_NotT {P : Bool → Hm → Prop} (w : (t σ h).wp (fun c h1 => P (!c) h1) E) : (xNotT t σ h).wp P E := w_bind w
theorem w_And (w : (a σ h).wp (fun x h1 => ∃ v, x = .bl v ∧ (v = true → (b σ h1).wp V E) ∧ (v = false → V (.bl false) h1)) E) : (xAnd a b σ h).wp V E :=
  w_bind (Out.wp_imp w (fun x h1 q => by
    obtain ⟨v, rfl, q1, q2⟩ := q
    cases v with
    | true => exact q1 rfl
    | false => exact q2 rfl) fun _ _ q => q)
theorem w_Or (w : (a σ h).wp (fun x h1 => ∃ v, x = .bl v ∧ (v = true → V (.bl true) h1) ∧ (v = false → (b σ h1).wp V E)) E) : (xOr a b σ h).wp V E :=
  w_bind (Out.wp_imp w (fun x h1 q => by
    obtain ⟨v, rfl, q1, q2⟩ := q
    cases v with
    | true => exact q1 rfl
    | false => exact q2 rfl) fun _ _ q => q)
theorem w_Not (w : (a σ h).wp (fun x h1 => ∃ v, x = .bl v ∧ V (.bl !v) h1) E) : (xNot a σ h).wp V E :=
  w_bind (Out.wp_imp w (fun x h1 q => by
    obtain ⟨v, rfl, q1⟩ := q
    exact q1) fun _ _ q => q)
theorem w_If (w : (t σ h).wp (fun c h1 => (c = true → (a σ h1).wp V E) ∧ (c = false → (b σ h1).wp V E)) E) : (xIf t a b σ h).wp V E :=
  w_bind (Out.wp_imp w (fun c h1 q => by cases c with
    | true => exact q.1 rfl
    | false => exact q.2 rfl) fun _ _ q => q)
theorem w_Chain (w : (a σ h).wp (fun x h1 => (b σ h1).wp (fun y h2 => (ofO (op x y h2)).wp (fun z h3 => ∃ v, z = .bl v ∧ (v = true → (c σ h3).wp (fun w h4 => (ofO (op' y w h4)).wp V E) E) ∧ (v = false → V (.bl false) h3)) E) E) E) : (xChain op op' a b c σ h).wp V E :=
  w_bind (Out.wp_imp w (fun x h1 q => w_bind (Out.wp_imp q (fun y h2 q => w_bind (Out.wp_imp q (fun z h3 q => by
    obtain ⟨v, rfl, q1, q2⟩ := q
    cases v with
    | true => exact w_bind (q1 rfl)
    | false => exact q2 rfl) fun _ _ q => q)) fun _ _ q => q)) fun _ _ q => q)
theorem w_Fn {F : List W → Hm → Out W} (w : (r σ h).wp (fun xs h1 => (F xs h1).wp V E) E) : (xFn F r σ h).wp V E := w_bind w
theorem w_Meth {tt : W → Hm → Bool} {g : W → List W → Hm → Pr} (w : (a σ h).wp (fun x h1 => tt x h1 = true ∧ (r σ h1).wp (fun xs h2 => (ofO (g x xs h2)).wp V E) E) E) : (xMeth tt g a r σ h).wp V E :=
  w_bind (Out.wp_imp w (fun x h1 q => by
    rw [if_pos q.1]
    exact w_bind q.2) fun _ _ q => q)
theorem w_Isi {T : String} (w : (a σ h).wp (fun x h1 => ∃ v, isiC T x h1 = some v ∧ V (.bl v) h1) E) : (xIsi T a σ h).wp V E :=
  w_bind (Out.wp_imp w (fun x h1 q => by
    obtain ⟨v, e1, q1⟩ := q
    rw [e1]
    exact q1) fun _ _ q => q)
theorem w_ofO {p : Pr} {x : W} {h1 : Hm} (e : p = some (x, h1)) (q : V x h1) : (ofO p).wp V E := by
  rw [e]
  exact q
theorem w_oNone {P : Option Int → Hm → Prop} (q : P none h) : (xoNone σ h).wp P E := q
theorem w_oSome {P : Option Int → Hm → Prop} (w : (a σ h).wp (fun x h1 => ∃ i, x = .int i ∧ P (some i) h1) E) : (xoSome a σ h).wp P E :=
  w_bind (Out.wp_imp w (fun x h1 q => by
    obtain ⟨i, rfl, q1⟩ := q
    exact q1) fun _ _ q => q)
theorem w_Sl {lo hi : XO} (w : (a σ h).wp (fun x h1 => (lo σ h1).wp (fun l h2 => (hi σ h2).wp (fun u h3 => (ofO (slW x l u h3)).wp V E) E) E) E) : (xSl a lo hi σ h).wp V E :=
  w_bind (Out.wp_imp w (fun x h1 q => w_bind (Out.wp_imp q (fun x h1 q => w_bind q) fun _ _ q => q)) fun _ _ q => q)
/-! statements -/
theorem w_skip (q : N σ h) : (sSkip σ h).wp N R B C X := q
theorem w_seq (w : (f σ h).wp (fun s h1 => (g s h1).wp N R B C X) R B C X) : (sSeq f g σ h).wp N R B C X := by
  unfold sSeq
  cases e : f σ h with
  | nx s h1 => rw [e] at w; exact w
  | rt s h1 => rw [e] at w; exact w
  | bk s h1 => rw [e] at w; exact w
  | ct s h1 => rw [e] at w; exact w
  | err x s h1 => rw [e] at w; exact w
  | bad => rw [e] at w; exact w
theorem w_set {i : Nat} (w : (e σ h).wp (fun x h1 => N (σ.set i (some x)) h1) (fun x h1 => X x σ h1)) : (sSet i e σ h).wp N R B C X := w_sOf w
theorem w_ret (w : (e σ h).wp R (fun x h1 => X x σ h1)) : (sRet e σ h).wp N R B C X := w_sOf w
theorem w_retN (w : R .non h) : (sRetN σ h).wp N R B C X := w
theorem w_if (w : (t σ h).wp (fun c h1 => (c = true → (f σ h1).wp N R B C X) ∧ (c = false → (g σ h1).wp N R B C X)) (fun x h1 => X x σ h1)) : (sIf t f g σ h).wp N R B C X :=
  w_sOf (Out.wp_imp w (fun c h1 q => by cases c with
    | true => exact q.1 rfl
    | false => exact q.2 rfl) fun _ _ q => q)
theorem w_expr (w : (e σ h).wp (fun _ h1 => N σ h1) (fun x h1 => X x σ h1)) : (sExpr e σ h).wp N R B C X := w_sOf w
theorem w_break (w : B σ h) : (sBreak σ h).wp N R B C X := w
theorem w_cont (w : C σ h) : (sCont σ h).wp N R B C X := w
theorem w_aug {i : Nat} {x : W} (ex : σ[i]? = some (some x)) (w : (e σ h).wp (fun y h1 => ∃ z h2, op x y h1 = some (z, h2) ∧ N (σ.set i (some z)) h2) (fun x h1 => X x σ h1)) : (sAug i op e σ h).wp N R B C X := by
  unfold sAug
  rw [ex]
  refine w_sOf (Out.wp_imp w (fun y h1 q => ?_) fun _ _ q => q)
  obtain ⟨z, h2, e1, q1⟩ := q
  rw [e1]
  exact q1
theorem w_sub {o i : XE} {g : W → W → W → Hm → Option Hm} (w : (e σ h).wp (fun v h1 => (o σ h1).wp (fun x h2 => (i σ h2).wp (fun y h3 => ∃ h4, g x y v h3 = some h4 ∧ N σ h4) (fun x h1 => X x σ h1)) (fun x h1 => X x σ h1)) (fun x h1 => X x σ h1)) : (sSub o i e g σ h).wp N R B C X :=
  w_sOf (Out.wp_imp w (fun v h1 q => w_sOf (Out.wp_imp q (fun x h2 q => w_sOf (Out.wp_imp q (fun y h3 q => by
    obtain ⟨h4, e1, q1⟩ := q
    rw [e1]
    exact q1) fun _ _ q => q)) fun _ _ q => q)) fun _ _ q => q)
theorem w_asg {g : XG} (w : (e σ h).wp (fun x h1 => ∃ s, g x σ h1 = some s ∧ N s h1) (fun x h1 => X x σ h1)) : (sAsg g e σ h).wp N R B C X :=
  w_sOf (Out.wp_imp w (fun x h1 q => by
    obtain ⟨s, e1, q1⟩ := q
    rw [e1]
    exact q1) fun _ _ q => q)
theorem w_turn {o : SOut} {next : Sg → Hm → SOut} (w : o.wp (fun s h1 => (next s h1).wp N R B C X) R N (fun s h1 => (next s h1).wp N R B C X) X) : (sTurn o next).wp N R B C X := by
  cases o with
  | nx s h1 => exact w
  | rt s h1 => exact w
  | bk s h1 => exact w
  | ct s h1 => exact w
  | err x s h1 => exact w
  | bad => exact w
theorem w_For {fi : XI} {g : XG} (w : (fi σ h).wp (fun it h1 => (sForL it g f fuel 0 σ h1).wp N R B C X) (fun x h1 => X x σ h1)) : (sFor fi g f σ h).wp N R B C X := w_sOf w
/-- THE LOOP: I i holds before the i-th item -/
theorem w_loop {it : Itr} {g : XG} {n m : Nat} (I : Nat → Sg → Hm → Prop) (hm : n < m) (h0 : I 0 σ h) (step : ∀ i σ h, i < n → I i σ h → ∃ w s, it i h = some (some w) ∧ g w σ h = some s ∧ (f s h).wp (I (i + 1)) R N (I (i + 1)) X)
    (fin : ∀ σ h, I n σ h → it n h = some none ∧ N σ h) : (sForL it g f m 0 σ h).wp N R B C X := by
  have go : ∀ (k i m : Nat) σ h, i + k = n → k < m → I i σ h → (sForL it g f m i σ h).wp N R B C X := by
    intro k
    induction k with
    | zero =>
      intro i m σ h e hk hI
      obtain ⟨m, rfl⟩ : ∃ q, m = q + 1 := ⟨m - 1, by omega⟩
      have e : i = n := by omega
      subst e
      obtain ⟨q1, q2⟩ := fin σ h hI
      unfold sForL
      rw [q1]
      exact q2
    | succ k ih =>
      intro i m σ h e hk hI
      obtain ⟨m, rfl⟩ : ∃ q, m = q + 1 := ⟨m - 1, by omega⟩
      obtain ⟨w, s, e1, e2, q⟩ := step i σ h (by omega) hI
      unfold sForL
      rw [e1]
      show (match g w σ h with
        | none => SOut.bad
        | some σ1 => sTurn (f σ1 h) (sForL it g f m (i + 1))).wp N R B C X
      rw [e2]
      exact w_turn (SOut.wp_imp q (fun s h1 q => ih (i + 1) m s h1 (by omega) (by omega) q) (fun _ _ q => q) (fun _ _ q => q) (fun s h1 q => ih (i + 1) m s h1 (by omega) (by omega) q) fun _ _ _ q => q)
  exact go n 0 m σ h (by omega) hm h0
/-- THE WHILE: I d holds ahead of the test, d bounds the turns left -/
theorem w_while {m : Nat} (I : Nat → Sg → Hm → Prop) (d : Nat) (hd : d < m) (h0 : I d σ h)
    (step : ∀ d σ h, I d σ h → (t σ h).wp (fun c h1 => (c = true → (f σ h1).wp (fun s h2 => ∃ d', d' < d ∧ I d' s h2) R N (fun s h2 => ∃ d', d' < d ∧ I d' s h2) X) ∧ (c = false → N σ h1)) (fun x h1 => X x σ h1)) : (sWhile t f m σ h).wp N R B C X := by
  induction m generalizing d σ h with
  | zero => omega
  | succ m ih =>
    unfold sWhile
    refine w_sOf (Out.wp_imp (step d σ h h0) (fun c h1 q => ?_) fun _ _ q => q)
    cases c with
    | false => exact q.2 rfl
    | true => exact w_turn (SOut.wp_imp (q.1 rfl) (fun s h2 ⟨d', l, q⟩ => ih d' (by omega) q) (fun _ _ q => q) (fun _ _ q => q) (fun s h2 ⟨d', l, q⟩ => ih d' (by omega) q) fun _ _ _ q => q)
/-! iterators -/
theorem w_iRng1 {P : Itr → Hm → Prop} (w : (r σ h).wp (fun xs h1 => ∃ j, xs = [.int j] ∧ smallI j = true ∧ P (itRng 0 1 j.toNat) h1) E) : (iRng1 r σ h).wp P E :=
  w_bind (Out.wp_imp w (fun xs h1 q => by
    obtain ⟨j, rfl, e1, q1⟩ := q
    dsimp only
    rw [if_pos e1]
    exact q1) fun _ _ q => q)
theorem w_iRng2 {P : Itr → Hm → Prop} (w : (r σ h).wp (fun xs h1 => ∃ i j, xs = [.int i, .int j] ∧ smallI i = true ∧ smallI j = true ∧ P (itRng i 1 (j - i).toNat) h1) E) : (iRng2 r σ h).wp P E :=
  w_bind (Out.wp_imp w (fun xs h1 q => by
    obtain ⟨i, j, rfl, e1, e2, q1⟩ := q
    dsimp only
    rw [if_pos (by rw [e1, e2]; rfl)]
    exact q1) fun _ _ q => q)
theorem w_iAny {P : Itr → Hm → Prop} (w : (a σ h).wp (fun x h1 => (∃ xs, seqC x h1 = some xs ∧ P (itSeq x) h1) ∨ ∃ z, x = .str z ∧ P (itStr z) h1) E) : (iAny a σ h).wp P E :=
  w_bind (Out.wp_imp w (fun x h1 q => by
    rcases q with ⟨xs, e1, q1⟩ | ⟨z, rfl, q1⟩
    · cases x with
      | str z => cases e1
      | tup ys =>
        dsimp only
        rw [if_pos (by rw [e1]; rfl)]
        exact q1
      | ref i =>
        dsimp only
        rw [if_pos (by rw [e1]; rfl)]
        exact q1
      | _ => cases e1
    · exact q1) fun _ _ q => q)
theorem w_iRev {P : Itr → Hm → Prop} (w : (a σ h).wp (fun x h1 => ∃ xs, seqC x h1 = some xs ∧ P (itRev x xs.length) h1) E) : (iRev a σ h).wp P E :=
  w_bind (Out.wp_imp w (fun x h1 q => by
    obtain ⟨xs, e1, q1⟩ := q
    rw [e1]
    exact q1) fun _ _ q => q)
theorem w_iZip {P : Itr → Hm → Prop} (w : (r σ h).wp (fun xs h1 => ∃ x y, xs = [x, y] ∧ isL x h1 = true ∧ isL y h1 = true ∧ P (itZip x y) h1) E) : (iZip r σ h).wp P E :=
  w_bind (Out.wp_imp w (fun xs h1 q => by
    obtain ⟨x, y, rfl, e1, e2, q1⟩ := q
    dsimp only
    rw [if_pos (by rw [e1, e2]; rfl)]
    exact q1) fun _ _ q => q)
theorem w_iEnum {P : Itr → Hm → Prop} (w : (r σ h).wp (fun xs h1 => ∃ x, xs = [x] ∧ isL x h1 = true ∧ P (itEnum x) h1) E) : (iEnum r σ h).wp P E :=
  w_bind (Out.wp_imp w (fun xs h1 q => by
    obtain ⟨x, rfl, e1, q1⟩ := q
    dsimp only
    rw [if_pos e1]
    exact q1) fun _ _ q => q)
/-- a comprehension: I i acc h before the i-th item (the new list has acc) -/
theorem w_comp {fi : XI} {g : XG} {own : List Nat} (w : (fi σ h).wp (fun it h1 => (compL it g t e h1.length (wipeS σ own) fuel 0 (h1 ++ [.lst []])).wp V E) E) : (xComp fi g t e own σ h).wp V E := w_bind w
theorem w_compL {it : Itr} {g : XG} {d n m : Nat} {σ0 : Sg} (I : Nat → List W → Hm → Prop) (hm : n < m) (hn : n ≤ 16777216) (h0 : I 0 [] h) (hI : ∀ i acc h, I i acc h → h[d]? = some (.lst acc) ∧ acc.length ≤ i)
    (step : ∀ i acc h, i < n → I i acc h → ∃ w s, it i h = some (some w) ∧ g w σ0 h = some s ∧ (t s h).wp (fun c h1 => (c = true → (e s h1).wp (fun y h2 => h2[d]? = some (.lst acc) ∧ I (i + 1) (acc ++ [y]) (h2.set d (.lst (acc ++ [y])))) nE) ∧ (c = false → I (i + 1) acc h1)) nE)
    (fin : ∀ acc h, I n acc h → it n h = some none ∧ V (.ref d) h) : (compL it g t e d σ0 m 0 h).wp V E := by
  have go : ∀ (k i m : Nat) acc h, i + k = n → k < m → I i acc h → (compL it g t e d σ0 m i h).wp V E := by
    intro k
    induction k with
    | zero =>
      intro i m acc h e hk hi
      obtain ⟨m, rfl⟩ : ∃ q, m = q + 1 := ⟨m - 1, by omega⟩
      have e : i = n := by omega
      subst e
      obtain ⟨q1, q2⟩ := fin acc h hi
      unfold compL
      rw [q1]
      exact q2
    | succ k ih =>
      intro i m acc h e' hk hi
      obtain ⟨m, rfl⟩ : ∃ q, m = q + 1 := ⟨m - 1, by omega⟩
      obtain ⟨w, s, e1, e2, q⟩ := step i acc h (by omega) hi
      obtain ⟨c, h1, e3, q1, q2⟩ := Out.wp_get q
      unfold compL
      simp only [e1, e2, e3]
      cases c with
      | false => exact ih (i + 1) m acc h1 (by omega) (by omega) (q2 rfl)
      | true =>
        obtain ⟨y, h2, e4, q3, q4⟩ := Out.wp_get (q1 rfl)
        simp only [e4, q3]
        rw [if_pos (by have := (hI i acc h hi).2; omega)]
        exact ih (i + 1) m _ _ (by omega) (by omega) q4
  exact go n 0 m [] h (by omega) hm h0
theorem w_true {P : Bool → Hm → Prop} (q : P true h) : (xTrue σ h).wp P E := q
/-- a def -/
theorem w_mk {n : Nat} {ws : List W} {f : XS} (w : (f (ws.map some ++ List.replicate (n - ws.length) none) h).wp (fun _ h1 => V .non h1) V (fun _ _ => False) (fun _ _ => False) (fun x _ h1 => E x h1)) : (mkF n f ws h).wp V E := by
  unfold mkF
  cases e : f (ws.map some ++ List.replicate (n - ws.length) none) h with
  | nx s h1 => rw [e] at w; exact w
  | rt s h1 => rw [e] at w; exact w
  | bk s h1 => rw [e] at w; exact w
  | ct s h1 => rw [e] at w; exact w
  | err x s h1 => rw [e] at w; exact w
  | bad => rw [e] at w; exact w
end
end Z

/-! Y1: rules of the operations; decisions -/
namespace Z
open PySem PySem.Spec PyProof.Rows L2
section
variable {h : Hm} {V : W → Hm → Prop} {E : Exn → Hm → Prop} {i j : Int} {x y : Str} {a b : W}
theorem o_addI (q : V (.int (i + j)) h) : (ofO (addW (.int i) (.int j) h)).wp V E := q
theorem o_subI (q : V (.int (i - j)) h) : (ofO (subW (.int i) (.int j) h)).wp V E := q
theorem o_mulI (m : mulOk i j = true) (q : V (.int (i * j)) h) : (ofO (mulW (.int i) (.int j) h)).wp V E := by
  refine w_ofO (p := mulW (.int i) (.int j) h) ?_ q
  unfold mulW
  dsimp only
  rw [if_pos m]
theorem mulOk_small (hi : -(2 ^ 64) < i ∧ i < 2 ^ 64) : mulOk i j = true := by
  unfold mulOk
  rw [decide_eq_true hi]
  rfl
theorem mulOk_smallR (hi : -(2 ^ 64) < j ∧ j < 2 ^ 64) : mulOk i j = true := by
  unfold mulOk
  rw [decide_eq_true hi, Bool.or_true]
  rfl
theorem o_mulS (hi : -(2 ^ 64) < i ∧ i < 2 ^ 64) (q : V (.int (i * j)) h) : (ofO (mulW (.int i) (.int j) h)).wp V E := o_mulI (mulOk_small hi) q
theorem o_mulSR (hi : -(2 ^ 64) < j ∧ j < 2 ^ 64) (q : V (.int (i * j)) h) : (ofO (mulW (.int i) (.int j) h)).wp V E := o_mulI (mulOk_smallR hi) q
theorem o_fdivI (m : 0 < j ∧ j.natAbs.log2 < 9000) (q : V (.int (i / j)) h) : (ofO (fdivW (.int i) (.int j) h)).wp V E := by
  refine w_ofO (p := fdivW (.int i) (.int j) h) ?_ q
  unfold fdivW
  dsimp only
  rw [if_pos m]
theorem o_modI (m : 0 < j) (q : V (.int (i % j)) h) : (ofO (modW (.int i) (.int j) h)).wp V E := by
  refine w_ofO (p := modW (.int i) (.int j) h) ?_ q
  unfold modW
  dsimp only
  rw [if_pos m]
theorem o_powI (m : 0 ≤ j ∧ j ≤ 1000000 ∧ i.natAbs < 2 ^ 64) (q : V (.int (i ^ j.toNat)) h) : (ofO (powW (.int i) (.int j) h)).wp V E := by
  refine w_ofO (p := powW (.int i) (.int j) h) ?_ q
  unfold powW
  dsimp only
  rw [if_pos m]
theorem o_shlI (m : 0 ≤ j ∧ (Builtin.Int.intBits i : Int) + j ≤ 2 ^ 27) (q : V (.int (i * 2 ^ j.toNat)) h) : (ofO (shlW (.int i) (.int j) h)).wp V E := by
  refine w_ofO (p := shlW (.int i) (.int j) h) ?_ q
  unfold shlW
  dsimp only
  rw [if_pos m]
theorem o_shrI (m : 0 ≤ j) (q : V (.int (i / 2 ^ j.toNat)) h) : (ofO (shrW (.int i) (.int j) h)).wp V E := by
  refine w_ofO (p := shrW (.int i) (.int j) h) ?_ q
  unfold shrW
  dsimp only
  rw [if_pos m]
theorem o_andI (q : V (.int (Builtin.bitAnd i j)) h) : (ofO (andW (.int i) (.int j) h)).wp V E := q
theorem o_orI (q : V (.int (Builtin.bitOr i j)) h) : (ofO (orW (.int i) (.int j) h)).wp V E := q
theorem o_xorI (q : V (.int (Builtin.bitXor i j)) h) : (ofO (xorW (.int i) (.int j) h)).wp V E := q
theorem o_negI (q : V (.int (-i)) h) : (ofO (negW (.int i) h)).wp V E := q
theorem o_ltI (q : V (.bl (decide (i < j))) h) : (ofO (ltW (.int i) (.int j) h)).wp V E := q
theorem o_leI (q : V (.bl (decide (i ≤ j))) h) : (ofO (leW (.int i) (.int j) h)).wp V E := q
theorem o_gtI (q : V (.bl (decide (j < i))) h) : (ofO (gtW (.int i) (.int j) h)).wp V E := q
theorem o_geI (q : V (.bl (decide (j ≤ i))) h) : (ofO (geW (.int i) (.int j) h)).wp V E := q
theorem o_eqI (q : V (.bl (decide (i = j))) h) : (ofO (eqW (.int i) (.int j) h)).wp V E := q
theorem o_neI (q : V (.bl (!decide (i = j))) h) : (ofO (neW (.int i) (.int j) h)).wp V E := q
theorem o_eqS (q : V (.bl (decide (x = y))) h) : (ofO (eqW (.str x) (.str y) h)).wp V E := q
theorem o_neS (q : V (.bl (!decide (x = y))) h) : (ofO (neW (.str x) (.str y) h)).wp V E := q
theorem o_eqB {v w : Bool} (q : V (.bl (decide (v = w))) h) : (ofO (eqW (.bl v) (.bl w) h)).wp V E := q
theorem o_neB {v w : Bool} (q : V (.bl (!decide (v = w))) h) : (ofO (neW (.bl v) (.bl w) h)).wp V E := q
theorem o_isB {v w : Bool} (q : V (.bl (decide (v = w))) h) : (ofO (isW (.bl v) (.bl w) h)).wp V E := q
theorem o_isnB {v w : Bool} (q : V (.bl (!decide (v = w))) h) : (ofO (isnW (.bl v) (.bl w) h)).wp V E := q
theorem o_isN (q : V (.bl (isNonW a)) h) : (ofO (isW a .non h)).wp V E := by cases a <;> exact q
theorem o_isnN (q : V (.bl (!isNonW a)) h) : (ofO (isnW a .non h)).wp V E := by cases a <;> exact q
/-! decisions -/
variable {A B : Prop}
theorem d_T (a : A) : (true = true → A) ∧ (true = false → B) := ⟨fun _ => a, nofun⟩
theorem d_F (b : B) : (false = true → A) ∧ (false = false → B) := ⟨nofun, fun _ => b⟩
theorem d_dec {p : Prop} [Decidable p] (a : p → A) (b : ¬ p → B) : (decide p = true → A) ∧ (decide p = false → B) := ⟨fun q => a (of_decide_eq_true q), fun q => b (of_decide_eq_false q)⟩
theorem d_decT {p : Prop} [Decidable p] (hp : p) (a : A) : (decide p = true → A) ∧ (decide p = false → B) := d_dec (fun _ => a) fun n => (n hp).elim
theorem d_decF {p : Prop} [Decidable p] (hp : ¬ p) (b : B) : (decide p = true → A) ∧ (decide p = false → B) := d_dec (fun n => (hp n).elim) fun _ => b
theorem d_not {c : Bool} (q : (c = true → B) ∧ (c = false → A)) : ((!c) = true → A) ∧ ((!c) = false → B) := by
  cases c with
  | true => exact ⟨nofun, fun _ => q.1 rfl⟩
  | false => exact ⟨fun _ => q.2 rfl, nofun⟩
theorem d_bl {c : Bool} {P : Bool → Prop} (q : P c) : ∃ v, W.bl c = .bl v ∧ P v := ⟨c, rfl, q⟩
theorem d_int {P : Int → Prop} (q : P i) : ∃ v, W.int i = .int v ∧ P v := ⟨i, rfl, q⟩
theorem d_c {c : Bool} (t : c = true → A) (f : c = false → B) : (c = true → A) ∧ (c = false → B) := ⟨t, f⟩
end

theorem d_len {xs : List W} {P : Prop} (e : xs.length ≤ 16777216) (p : P) : xs.length ≤ 16777216 ∧ P := ⟨e, p⟩
/-! which kind of goal -/
theorem is_S {o : SOut} {N B C : Sg → Hm → Prop} {R : W → Hm → Prop} {X : Exn → Sg → Hm → Prop} (w : o.wp N R B C X) : o.wp N R B C X := w
theorem is_O {p : Pr} {V : W → Hm → Prop} {E : Exn → Hm → Prop} (w : (ofO p).wp V E) : (ofO p).wp V E := w
theorem is_E {α : Type} {o : Out α} {V : α → Hm → Prop} {E : Exn → Hm → Prop} (w : o.wp V E) : o.wp V E := w
theorem is_D {c : Bool} {A B : Prop} (w : (c = true → A) ∧ (c = false → B)) : (c = true → A) ∧ (c = false → B) := w

/-! what stays of a heap -/
theorem pre_get {h h' : Hm} {r : Nat} {o : O} (p : h <+: h') (e : h[r]? = some o) : h'[r]? = some o := by
  obtain ⟨t, rfl⟩ := p
  rw [List.getElem?_append_left (List.getElem?_eq_some_iff.mp e).1]
  exact e
theorem lt_of_get' {h : Hm} {r : Nat} {o : O} (e : h[r]? = some o) : r < h.length := (List.getElem?_eq_some_iff.mp e).1
theorem get_new {h : Hm} {o : O} : (h ++ [o])[h.length]? = some o := by simp
theorem get_old {h : Hm} {o u : O} {r : Nat} (e : h[r]? = some o) : (h ++ [u])[r]? = some o := pre_get ⟨_, rfl⟩ e
theorem set_new {h : Hm} {o u : O} : (h ++ [o]).set h.length u = h ++ [u] := by simp
theorem pre_new {h h' : Hm} {u : O} (p : h <+: h') : h <+: h' ++ [u] := p.trans ⟨_, rfl⟩
theorem pre_set {h h' : Hm} {r : Nat} {o : O} (p : h <+: h') (e : h.length ≤ r) : h <+: h'.set r o := by
  obtain ⟨t, rfl⟩ := p
  rw [List.set_append_right _ _ e]
  exact ⟨_, rfl⟩
end Z

/-! Y2: rules of built-ins, lists, loops over ranges and sequences -/
namespace Z
open PySem PySem.Spec PyProof.Rows L2
theorem lt_fuel {n : Nat} (h : n < 1000000000) : n < fuel := h
theorem smallI_ok {i : Int} (h : -(2 ^ 62) ≤ i ∧ i < 2 ^ 62) : smallI i = true := decide_eq_true h
section
variable {h : Hm} {V : W → Hm → Prop} {E : Exn → Hm → Prop} {i j : Int} {x y z : Str} {a b w : W} {xs ys : List W} {r : Nat}
theorem o_lenS (m : z.length ≤ 16777216) (q : V (.int z.length) h) : (ofO (lenW [.str z] h)).wp V E := by
  refine w_ofO (p := lenW [.str z] h) ?_ q
  unfold lenW lenC
  dsimp only
  rw [if_pos m]
  rfl
theorem o_lenT (q : V (.int xs.length) h) : (ofO (lenW [.tup xs] h)).wp V E := q
theorem o_len (e : seqC a h = some xs) (q : V (.int xs.length) h) : (ofO (lenW [a] h)).wp V E := by
  refine w_ofO (p := lenW [a] h) ?_ q
  unfold lenW lenC
  unfold seqC at e
  dsimp only
  split at e
  · cases e
    rfl
  · split at e
    · rename_i e1
      cases e
      simp only [e1]
      rfl
    · rename_i e1
      cases e
      simp only [e1]
      rfl
    · cases e
  · cases e
theorem o_abs (q : V (.int (if i < 0 then -i else i)) h) : (ofO (absW [.int i] h)).wp V E := q
theorem o_int (q : V (.int i) h) : (ofO (intW [.int i] h)).wp V E := q
theorem o_intB {v : Bool} (q : V (.int (if v then 1 else 0)) h) : (ofO (intW [.bl v] h)).wp V E := q
theorem o_ord (m : x.length = 1) (q : V (.int (x.cps.getD 0 0 : Nat)) h) : (ofO (ordW [.str x] h)).wp V E := by
  refine w_ofO (p := ordW [.str x] h) ?_ q
  unfold ordW
  dsimp only
  rw [if_pos m]
theorem o_ord1 {c : Nat} (q : V (.int (c : Nat)) h) : (ofO (ordW [.str ⟨#[c]⟩] h)).wp V E := o_ord rfl q
theorem o_list (e : seqC a h = some ys) (q : V (.ref h.length) (h ++ [.lst ys])) : (ofO (listW [a] h)).wp V E := by
  refine w_ofO (p := listW [a] h) ?_ q
  unfold listW
  dsimp only
  rw [e]
  rfl
theorem o_tuple (e : seqC a h = some ys) (q : V (.tup ys) h) : (ofO (tupleW [a] h)).wp V E := by
  refine w_ofO (p := tupleW [a] h) ?_ q
  unfold tupleW
  dsimp only
  rw [e]
  rfl
theorem o_ix (e : seqC a h = some xs) (e2 : atI xs i = some w) (q : V w h) : (ofO (ixW a (.int i) h)).wp V E := by
  refine w_ofO (p := ixW a (.int i) h) ?_ q
  unfold ixW
  unfold seqC at e
  split at e
  · cases e
    dsimp only
    rw [e2]
    rfl
  · split at e
    · rename_i e1
      cases e
      dsimp only
      simp only [e1, e2]
      rfl
    · rename_i e1
      cases e
      dsimp only
      simp only [e1, e2]
      rfl
    · cases e
  · cases e
theorem o_ixS {c : Nat} (m : z.length ≤ 16777216) (e : atI z.cps.toList i = some c) (q : V (.str ⟨#[c]⟩) h) : (ofO (ixW (.str z) (.int i) h)).wp V E := by
  refine w_ofO (p := ixW (.str z) (.int i) h) ?_ q
  unfold ixW
  dsimp only
  rw [if_pos m, e]
  rfl
theorem atI_nat' {α : Type} {xs : List α} {j : Nat} {w : α} (e : xs[j]? = some w) : atI xs (j : Nat) = some w := atI_nat e
theorem o_app {zs : List W} (e : h[r]? = some (.lst zs)) (m : zs.length < 16777216) (q : V .non (h.set r (.lst (zs ++ [w])))) : (ofO (appW (.ref r) [w] h)).wp V E := by
  refine w_ofO (p := appW (.ref r) [w] h) ?_ q
  unfold appW
  simp only [e]
  rw [if_pos m]
theorem o_appN {zs : List W} (m : zs.length < 16777216) (q : V .non (h ++ [.lst (zs ++ [w])])) : (ofO (appW (.ref h.length) [w] (h ++ [.lst zs]))).wp V E :=
  o_app get_new m (by rw [set_new]; exact q)
theorem o_ext {zs us : List W} {s : Nat} (e : h[r]? = some (.lst zs)) (e2 : h[s]? = some (.lst us)) (m : zs.length + us.length ≤ 16777216) (q : V .non (h.set r (.lst (zs ++ us)))) : (ofO (extW (.ref r) [.ref s] h)).wp V E := by
  refine w_ofO (p := extW (.ref r) [.ref s] h) ?_ q
  unfold extW
  simp only [e, e2]
  rw [if_pos m]
theorem o_rev {zs : List W} (e : seqC (.ref r) h = some zs) (q : V (.ref h.length) (h ++ [.lst zs.reverse])) : (ofO (revW [.ref r] h)).wp V E := by
  refine w_ofO (p := revW [.ref r] h) ?_ q
  unfold revW
  unfold seqC at e
  dsimp only at e ⊢
  split at e
  · rename_i e1
    cases e
    simp only [e1]
  · rename_i e1
    cases e
    simp only [e1]
  · cases e
theorem o_addL {zs us : List W} {s : Nat} (e : h[r]? = some (.lst zs)) (e2 : h[s]? = some (.lst us)) (m : zs.length + us.length ≤ 16777216) (q : V (.ref h.length) (h ++ [.lst (zs ++ us)])) : (ofO (addW (.ref r) (.ref s) h)).wp V E := by
  refine w_ofO (p := addW (.ref r) (.ref s) h) ?_ q
  unfold addW
  simp only [e, e2]
  rw [if_pos m]
theorem o_addT {zs us : List W} (m : zs.length + us.length ≤ 16777216) (q : V (.tup (zs ++ us)) h) : (ofO (addW (.tup zs) (.tup us) h)).wp V E := by
  refine w_ofO (p := addW (.tup zs) (.tup us) h) ?_ q
  unfold addW
  dsimp only
  rw [if_pos m]
theorem o_mulStr (m : -(2 ^ 63) ≤ i ∧ i ≤ 16777216 ∧ x.length * i.toNat ≤ 16777216) (q : V (.str (Txt.mul x i)) h) : (ofO (mulW (.str x) (.int i) h)).wp V E := by
  refine w_ofO (p := mulW (.str x) (.int i) h) ?_ q
  unfold mulW
  dsimp only
  rw [if_pos m]
theorem o_in {v : Bool} (e : inC a b h = some v) (q : V (.bl v) h) : (ofO (inW a b h)).wp V E := by
  refine w_ofO (p := inW a b h) ?_ q
  unfold inW
  rw [e]
  rfl
theorem o_nin {v : Bool} (e : inC a b h = some v) (q : V (.bl (!v)) h) : (ofO (ninW a b h)).wp V E := by
  refine w_ofO (p := ninW a b h) ?_ q
  unfold ninW
  rw [e]
  rfl
theorem o_eq {v : Bool} (e : eqB a b h = some v) (q : V (.bl v) h) : (ofO (eqW a b h)).wp V E := by
  refine w_ofO (p := eqW a b h) ?_ q
  unfold eqW
  rw [e]
  rfl
theorem o_ne {v : Bool} (e : eqB a b h = some v) (q : V (.bl (!v)) h) : (ofO (neW a b h)).wp V E := by
  refine w_ofO (p := neW a b h) ?_ q
  unfold neW
  rw [e]
  rfl
theorem o_leS (q : V (.bl (!decide (y.cps.toList < x.cps.toList))) h) : (ofO (leW (.str x) (.str y) h)).wp V E := q
theorem seqC_at (e : h[r]? = some (.lst xs)) : seqC (.ref r) h = some xs := by
  unfold seqC
  simp only [e]
theorem seqC_frz (e : h[r]? = some (.frz xs)) : seqC (.ref r) h = some xs := by
  unfold seqC
  simp only [e]
theorem seqC_new : seqC (.ref h.length) (h ++ [.lst xs]) = some xs := seqC_at get_new
theorem seqC_pre {h' : Hm} (p : h <+: h') (e : seqC a h = some xs) : seqC a h' = some xs := by
  cases a with
  | tup ys => exact e
  | ref r =>
    unfold seqC at e ⊢
    dsimp only at e ⊢
    split at e
    · rename_i e1
      rw [pre_get p e1]
      exact e
    · rename_i e1
      rw [pre_get p e1]
      exact e
    · cases e
  | _ => cases e
theorem isL_at' (e : h[r]? = some (.lst xs)) : isL (.ref r) h = true := by
  unfold isL
  simp only [e]
theorem isL_new : isL (.ref h.length) (h ++ [.lst xs]) = true := isL_at' get_new
end

/-! loops -/
section
variable {σ : Sg} {h : Hm} {N B C : Sg → Hm → Prop} {R : W → Hm → Prop} {X : Exn → Sg → Hm → Prop} {f : XS} {g : XG} {n m : Nat}
theorem w_rng {lo : Int} (I : Nat → Sg → Hm → Prop) (hm : n < m) (h0 : I 0 σ h) (step : ∀ i σ h, i < n → I i σ h → ∃ s, g (.int (lo + (i : Nat))) σ h = some s ∧ (f s h).wp (I (i + 1)) R N (I (i + 1)) X)
    (fin : ∀ σ h, I n σ h → N σ h) : (sForL (itRng lo 1 n) g f m 0 σ h).wp N R B C X :=
  w_loop I hm h0 (fun i σ h hi hI => by
    obtain ⟨s, e, q⟩ := step i σ h hi hI
    refine ⟨_, s, ?_, e, q⟩
    unfold itRng
    rw [if_pos hi, Int.mul_one]) fun σ h hI => ⟨by
    unfold itRng
    rw [if_neg (Nat.lt_irrefl _)], fin σ h hI⟩
theorem w_rng0 (I : Nat → Sg → Hm → Prop) (hm : n < m) (h0 : I 0 σ h) (step : ∀ i σ h, i < n → I i σ h → ∃ s, g (.int (i : Nat)) σ h = some s ∧ (f s h).wp (I (i + 1)) R N (I (i + 1)) X)
    (fin : ∀ σ h, I n σ h → N σ h) : (sForL (itRng 0 1 n) g f m 0 σ h).wp N R B C X :=
  w_rng I hm h0 (fun i σ h hi hI => by
    rw [Int.zero_add]
    exact step i σ h hi hI) fin
/-- over the items of a list or tuple -/
theorem w_items {a : W} {xs : List W} (I : Nat → Sg → Hm → Prop) (hm : xs.length < m) (h0 : I 0 σ h) (hs : ∀ i σ h, I i σ h → seqC a h = some xs)
    (step : ∀ i σ h (w : W), xs[i]? = some w → I i σ h → ∃ s, g w σ h = some s ∧ (f s h).wp (I (i + 1)) R N (I (i + 1)) X)
    (fin : ∀ σ h, I xs.length σ h → N σ h) : (sForL (itSeq a) g f m 0 σ h).wp N R B C X :=
  w_loop I hm h0 (fun i σ h hi hI => by
    obtain ⟨s, e, q⟩ := step i σ h xs[i] (List.getElem?_eq_getElem hi) hI
    refine ⟨_, s, ?_, e, q⟩
    unfold itSeq
    rw [hs i σ h hI, Option.map_some, List.getElem?_eq_getElem hi]) fun σ h hI => ⟨by
    unfold itSeq
    rw [hs _ σ h hI, Option.map_some, List.getElem?_eq_none (Nat.le_refl _)], fin σ h hI⟩
theorem w_chars {z : Str} (I : Nat → Sg → Hm → Prop) (hm : z.length < m) (h0 : I 0 σ h)
    (step : ∀ i σ h (c : Nat), z.cps[i]? = some c → I i σ h → ∃ s, g (.str ⟨#[c]⟩) σ h = some s ∧ (f s h).wp (I (i + 1)) R N (I (i + 1)) X)
    (fin : ∀ σ h, I z.length σ h → N σ h) : (sForL (itStr z) g f m 0 σ h).wp N R B C X :=
  w_loop (n := z.length) I hm h0 (fun i σ h hi hI => by
    have e1 : z.cps[i]? = some z.cps[i] := Array.getElem?_eq_getElem hi
    obtain ⟨s, e, q⟩ := step i σ h z.cps[i] e1 hI
    refine ⟨_, s, ?_, e, q⟩
    unfold itStr
    rw [e1]
    rfl) fun σ h hI => ⟨by
    unfold itStr
    rw [show z.cps[z.length]? = none from Array.getElem?_eq_none (Nat.le_refl _)]
    rfl, fin σ h hI⟩
/-- the state between two statements, as one wishes -/
theorem w_seqM {g' : XS} (M : Sg → Hm → Prop) (w : (f σ h).wp M R B C X) (q : ∀ s h1, M s h1 → (g' s h1).wp N R B C X) : (sSeq f g' σ h).wp N R B C X :=
  w_seq (SOut.wp_imp w q (fun _ _ q => q) (fun _ _ q => q) (fun _ _ q => q) fun _ _ _ q => q)
end
end Z

/-! Y3: moderate numbers; fields, methods, making; tuples by place -/
namespace Z
open PySem PySem.Spec PyProof.Rows L2
section
variable {h : Hm} {V : W → Hm → Prop} {E : Exn → Hm → Prop}
/-- numbers of moderate size -/
def Md (i : Int) : Prop := -(2 ^ 4000) < i ∧ i < 2 ^ 4000
theorem bits_of {i : Int} (m : Md i) : Builtin.Int.intBits i ≤ 4000 := by
  unfold Builtin.Int.intBits
  split
  · exact Nat.zero_le _
  · rename_i hz
    have hn : i.natAbs < 2 ^ 4000 := by
      obtain ⟨a, b⟩ := m
      have c : ((2 ^ 4000 : Nat) : Int) = (2 : Int) ^ 4000 := by rw [Int.natCast_pow]; rfl
      omega
    have hz' : i.natAbs ≠ 0 := fun q => hz (by simpa using q)
    exact (Nat.log2_lt hz').mpr hn
theorem o_mulM {i j : Int} (mi : Md i) (mj : Md j) (q : V (.int (i * j)) h) : (ofO (mulW (.int i) (.int j) h)).wp V E := o_mulI (by
  unfold mulOk
  have a := bits_of mi
  have b := bits_of mj
  rw [decide_eq_true (p := (Builtin.Int.intBits i : Int) + (Builtin.Int.intBits j : Int) ≤ 134217728) (by omega), Bool.or_true]) q
theorem log2_of {j : Int} (m : Md j) (h0 : 0 < j) : 0 < j ∧ j.natAbs.log2 < 9000 := ⟨h0, by
  have a := bits_of m
  unfold Builtin.Int.intBits at a
  rw [if_neg (by simpa using (by omega : j ≠ 0))] at a
  omega⟩
theorem o_fdivM {i j : Int} (mj : Md j) (h0 : 0 < j) (q : V (.int (i / j)) h) : (ofO (fdivW (.int i) (.int j) h)).wp V E := o_fdivI (log2_of mj h0) q
theorem Md.small {i m : Int} (h0 : 0 ≤ i) (h1 : i ≤ m) (hm : Md m) : Md i := ⟨by have := hm.1; omega, by have := hm.2; omega⟩
theorem Md.ab {i m : Int} (h0 : -m ≤ i) (h1 : i ≤ m) (hm : Md m) : Md i := ⟨by have := hm.2; omega, by have := hm.2; omega⟩
theorem o_ixT {xs : List W} {i : Int} {w : W} (e : atI xs i = some w) (q : V w h) : (ofO (ixW (.tup xs) (.int i) h)).wp V E := o_ix rfl e q
theorem o_min {i j : Int} (q : V (.int (if j < i then j else i)) h) : (ofO (minW [.int i, .int j] h)).wp V E := q
theorem o_max {i j : Int} (q : V (.int (if j > i then j else i)) h) : (ofO (maxW [.int i, .int j] h)).wp V E := q
variable {σ : Sg} {a o e : XE} {r : XA} {T : List Nat} {f m : Str} {MT : List (Nat × FnT)} {N B C : Sg → Hm → Prop} {R : W → Hm → Prop} {X : Exn → Sg → Hm → Prop}
theorem w_Fld (w : (a σ h).wp (fun x h1 => ∃ v, fldW T f x h1 = some v ∧ V v h1) E) : (xFld T f a σ h).wp V E :=
  w_bind (Out.wp_imp w (fun x h1 q => by
    obtain ⟨v, e1, q1⟩ := q
    rw [e1]
    exact q1) fun _ _ q => q)
theorem w_Met (w : (o σ h).wp (fun x h1 => ∃ F, metW MT m x h1 = some F ∧ (r σ h1).wp (fun xs h2 => (F (x :: xs) h2).wp V E) E) E) : (xMet MT m o r σ h).wp V E :=
  w_bind (Out.wp_imp w (fun x h1 q => by
    obtain ⟨F, e1, q1⟩ := q
    rw [e1]
    exact w_bind q1) fun _ _ q => q)
theorem w_Make {c : Nat} {F : FnT} (w : (r σ h).wp (fun xs h1 => (F (.ref h1.length :: xs) (h1 ++ [.ins c []])).wp (fun v h2 => v = .non ∧ V (.ref h1.length) h2) E) E) : (xMake c F r σ h).wp V E :=
  w_bind (Out.wp_imp w (fun xs h1 q => w_bind (Out.wp_imp q (fun v h2 q => by
    obtain ⟨rfl, q1⟩ := q
    exact q1) fun _ _ q => q)) fun _ _ q => q)
theorem w_fldset (w : (e σ h).wp (fun v h1 => (o σ h1).wp (fun x h2 => ∃ h3, setF T f x v h2 = some h3 ∧ N σ h3) (fun x h1 => X x σ h1)) (fun x h1 => X x σ h1)) : (sFldSet T f o e σ h).wp N R B C X :=
  w_sOf (Out.wp_imp w (fun v h1 q => w_sOf (Out.wp_imp q (fun x h2 q => by
    obtain ⟨h3, e1, q1⟩ := q
    rw [e1]
    exact q1) fun _ _ q => q)) fun _ _ q => q)
theorem w_never (q : False) : (sNever σ h).wp N R B C X := q
/-! objects -/
theorem insW_at {r : Nat} {c : Nat} {fs : List (Str × W)} (e : h[r]? = some (.ins c fs)) : insW (.ref r) h = some (c, fs) := by
  unfold insW
  simp only [e]
theorem fldW_at {r : Nat} {c : Nat} {fs : List (Str × W)} {v : W} (e : h[r]? = some (.ins c fs)) (hT : T.contains c = true) (l : fs.lookup f = some v) : fldW T f (.ref r) h = some v := by
  unfold fldW
  rw [insW_at e]
  show (if T.contains c = true then fs.lookup f else none) = _
  rw [if_pos hT, l]
theorem metW_at {r : Nat} {c : Nat} {fs : List (Str × W)} {F : FnT} (e : h[r]? = some (.ins c fs)) (l : fs.lookup m = none) (hF : MT.lookup c = some F) : metW MT m (.ref r) h = some F := by
  unfold metW
  rw [insW_at e]
  show (if (fs.lookup m).isNone = true then MT.lookup c else none) = _
  rw [l, hF]
  rfl
theorem setF_at {r : Nat} {c : Nat} {fs : List (Str × W)} {v : W} (e : h[r]? = some (.ins c fs)) (hT : T.contains c = true) (hl : fs.length < 1000) : setF T f (.ref r) v h = some (h.set r (.ins c (putW f v fs))) := by
  unfold setF
  simp only [e]
  rw [hT, decide_eq_true hl]
  rfl
end
end Z

/-! Y4: numbers by their bits; fields read -/
namespace Z
open PySem PySem.Spec PyProof.Rows L2
def Bd (k : Nat) (i : Int) : Prop := i.natAbs < 2 ^ k
section
variable {h : Hm} {V : W → Hm → Prop} {E : Exn → Hm → Prop} {i j : Int} {k l : Nat}
theorem Bd.mono (b : Bd k i) (e : k ≤ l) : Bd l i := Nat.lt_of_lt_of_le b (Nat.pow_le_pow_right (by decide) e)
theorem Bd.mul (b : Bd k i) (c : Bd l j) : Bd (k + l) (i * j) := by
  unfold Bd at *
  rw [Int.natAbs_mul, Nat.pow_add]
  exact Nat.mul_lt_mul'' b c
theorem Bd.neg (b : Bd k i) : Bd k (-i) := by
  unfold Bd at *
  rwa [Int.natAbs_neg]
theorem Bd.add (b : Bd k i) (c : Bd l j) : Bd (k + l + 1) (i + j) := by
  have b' := b.mono (Nat.le_add_right k l)
  have c' := c.mono (Nat.le_add_left l k)
  unfold Bd at *
  have := Int.natAbs_add_le i j
  rw [Nat.pow_succ]
  omega
theorem Bd.sub (b : Bd k i) (c : Bd l j) : Bd (k + l + 1) (i - j) := by
  rw [Int.sub_eq_add_neg]
  exact b.add c.neg
theorem Bd.of_lt {x p : Int} (h0 : 0 ≤ x) (h1 : x < p) (b : Bd k p) : Bd k x := by
  unfold Bd at *
  omega
theorem Bd.mod {x p : Int} (hp : 0 < p) (b : Bd k p) : Bd k (x % p) := Bd.of_lt (Int.emod_nonneg _ (by omega)) (Int.emod_lt_of_pos _ hp) b
theorem Bd.bits (b : Bd k i) : Builtin.Int.intBits i ≤ k := by
  unfold Builtin.Int.intBits
  split
  · exact Nat.zero_le _
  · rename_i hz
    have hz' : i.natAbs ≠ 0 := fun q => hz (by simpa using q)
    exact (Nat.log2_lt hz').mpr b
theorem o_mulB (bi : Bd k i) (bj : Bd l j) (e : k + l ≤ 134217728) (q : V (.int (i * j)) h) : (ofO (mulW (.int i) (.int j) h)).wp V E := o_mulI (by
  unfold mulOk
  have a := bi.bits
  have b := bj.bits
  rw [decide_eq_true (p := (Builtin.Int.intBits i : Int) + (Builtin.Int.intBits j : Int) ≤ 134217728) (by omega), Bool.or_true]) q
theorem Bd.md (b : Bd k i) (e : k ≤ 4000) : Md i := by
  have c := b.mono e
  unfold Bd at c
  have d : ((2 ^ 4000 : Nat) : Int) = (2 : Int) ^ 4000 := by rw [Int.natCast_pow]; rfl
  exact ⟨by omega, by omega⟩
theorem bd_lit (e : i.natAbs < 2 ^ 64) : Bd 64 i := e
theorem bd_num (n : Nat) (e : n < 18446744073709551616) : Bd 64 (OfNat.ofNat n : Int) := by
  unfold Bd
  show n < 2 ^ 64
  omega
theorem ixN_ok {n : Nat} {i : Int} (h0 : 0 ≤ i) (h1 : i < n) : ixN n i = some i.toNat := by
  unfold ixN
  rw [if_pos h0, if_pos h1]
theorem setW_ok {r : Nat} {xs : List W} {i : Int} {v : W} (e : h[r]? = some (.lst xs)) (h0 : 0 ≤ i) (h1 : i < xs.length) : setW (.ref r) (.int i) v h = some (h.set r (.lst (xs.set i.toNat v))) := by
  unfold setW
  simp only [e, ixN_ok h0 h1]
  rfl
/-- a field that is read -/
theorem d_fld {T : List Nat} {f : Str} {r c : Nat} {fs : List (Str × W)} {v : W} {P : W → Prop} (e : h[r]? = some (.ins c fs)) (hT : T.contains c = true) (l : fs.lookup f = some v) (q : P v) : ∃ v, fldW T f (.ref r) h = some v ∧ P v := ⟨v, fldW_at e hT l, q⟩
theorem d_met {MT : List (Nat × FnT)} {m : Str} {r c : Nat} {fs : List (Str × W)} {F : FnT} {P : FnT → Prop} (e : h[r]? = some (.ins c fs)) (l : fs.lookup m = none) (hF : MT.lookup c = some F) (q : P F) : ∃ F, metW MT m (.ref r) h = some F ∧ P F := ⟨F, metW_at e l hF, q⟩
end
end Z

/-! M0: the integers modulo p, as a commutative ring -/
namespace Zp
def Cg (p : Int) (a b : Int) : Prop := p ∣ a - b
def stp (p : Int) : Setoid Int where
  r := Cg p
  iseqv := ⟨fun a => by unfold Cg; rw [Int.sub_self]; exact Int.dvd_zero p, fun {a b} h => by
    unfold Cg at *
    have := Int.dvd_neg.mpr h
    rwa [Int.neg_sub] at this, fun {a b c} h k => by
    unfold Cg at *
    have := Int.dvd_add h k
    rwa [show a - b + (b - c) = a - c by omega] at this⟩
def Zm (p : Int) : Type := Quotient (stp p)
variable {p : Int}
def zm (p : Int) (a : Int) : Zm p := Quotient.mk (stp p) a
theorem zm_sound {a b : Int} (h : p ∣ a - b) : zm p a = zm p b := Quotient.sound h
theorem zm_exact {a b : Int} (h : zm p a = zm p b) : p ∣ a - b := Quotient.exact h
def addZ : Zm p → Zm p → Zm p := Quotient.lift₂ (fun a b => zm p (a + b)) fun a b c d h k => zm_sound (by
  have := Int.dvd_add h k
  rwa [show a - c + (b - d) = a + b - (c + d) by omega] at this)
def mulZ : Zm p → Zm p → Zm p := Quotient.lift₂ (fun a b => zm p (a * b)) fun a b c d h k => zm_sound (by
  obtain ⟨x, hx⟩ := h
  obtain ⟨y, hy⟩ := k
  refine ⟨x * b + c * y, ?_⟩
  rw [Int.mul_add, ← Int.mul_assoc, ← hx, Int.mul_left_comm, ← hy, Int.sub_mul, Int.mul_sub]
  omega)
def negZ : Zm p → Zm p := Quotient.lift (fun a => zm p (-a)) fun a b h => zm_sound (by
  have := Int.dvd_neg.mpr h
  rwa [show -(a - b) = -a - -b by omega] at this)
def subZ : Zm p → Zm p → Zm p := fun a b => addZ a (negZ b)
def powZ (a : Zm p) : Nat → Zm p
  | 0 => zm p 1
  | n + 1 => mulZ (powZ a n) a
instance : Add (Zm p) := ⟨addZ⟩
instance : Mul (Zm p) := ⟨mulZ⟩
instance : Neg (Zm p) := ⟨negZ⟩
instance : Sub (Zm p) := ⟨subZ⟩
instance : NatCast (Zm p) := ⟨fun n => zm p n⟩
instance : IntCast (Zm p) := ⟨fun n => zm p n⟩
instance instOfNatZ (n : Nat) : OfNat (Zm p) n := ⟨zm p n⟩
instance : HPow (Zm p) Nat (Zm p) := ⟨powZ⟩
instance : SMul Nat (Zm p) := ⟨fun n a => zm p n * a⟩
instance : SMul Int (Zm p) := ⟨fun n a => zm p n * a⟩
theorem ind {P : Zm p → Prop} (h : ∀ a, P (zm p a)) (x : Zm p) : P x := Quotient.ind h x
instance : Lean.Grind.CommRing (Zm p) where
  add_zero := ind fun a => congrArg (zm p) (Int.add_zero a)
  add_comm := ind fun a => ind fun b => congrArg (zm p) (Int.add_comm a b)
  add_assoc := ind fun a => ind fun b => ind fun c => congrArg (zm p) (Int.add_assoc a b c)
  mul_assoc := ind fun a => ind fun b => ind fun c => congrArg (zm p) (Int.mul_assoc a b c)
  mul_one := ind fun a => congrArg (zm p) (Int.mul_one a)
  one_mul := ind fun a => congrArg (zm p) (Int.one_mul a)
  left_distrib := ind fun a => ind fun b => ind fun c => congrArg (zm p) (Int.mul_add a b c)
  right_distrib := ind fun a => ind fun b => ind fun c => congrArg (zm p) (Int.add_mul a b c)
  zero_mul := ind fun a => congrArg (zm p) (Int.zero_mul a)
  mul_zero := ind fun a => congrArg (zm p) (Int.mul_zero a)
  mul_comm := ind fun a => ind fun b => congrArg (zm p) (Int.mul_comm a b)
  pow_zero := fun a => rfl
  pow_succ := fun a n => rfl
  neg_add_cancel := ind fun a => congrArg (zm p) (Int.add_left_neg a)
  sub_eq_add_neg := fun a b => rfl
  neg_zsmul := fun i => ind fun a => congrArg (zm p) (Int.neg_mul i a)
theorem zm_add (a b : Int) : zm p (a + b) = zm p a + zm p b := rfl
theorem zm_mul (a b : Int) : zm p (a * b) = zm p a * zm p b := rfl
theorem zm_neg (a : Int) : zm p (-a) = -zm p a := rfl
theorem zm_sub (a b : Int) : zm p (a - b) = zm p a - zm p b := congrArg (zm p) Int.sub_eq_add_neg
theorem zm_nat (n : Nat) : zm p (OfNat.ofNat n : Int) = (OfNat.ofNat n : Zm p) := rfl
theorem zm_mod (a : Int) : zm p (a % p) = zm p a := zm_sound (by
  refine ⟨-(a / p), ?_⟩
  have := Int.mul_ediv_add_emod a p
  rw [Int.mul_neg]
  omega)
theorem zm_zero {a : Int} : zm p a = 0 ↔ p ∣ a := ⟨fun h => by
  have := zm_exact (p := p) (b := 0) h
  rwa [Int.sub_zero] at this, fun h => zm_sound (b := 0) (by rwa [Int.sub_zero])⟩
theorem zm_eq {a b : Int} : zm p a = zm p b ↔ p ∣ a - b := ⟨zm_exact, zm_sound⟩
theorem mod_zero {a : Int} : a % p = 0 ↔ zm p a = 0 := by
  rw [zm_zero]
  exact ⟨Int.dvd_of_emod_eq_zero, Int.emod_eq_zero_of_dvd⟩
/-- reduced representatives are determined -/
theorem zm_inj {a b : Int} (h : zm p a = zm p b) (a0 : 0 ≤ a) (a1 : a < p) (b0 : 0 ≤ b) (b1 : b < p) : a = b := by
  have := Int.emod_emod_of_dvd
  have d := zm_exact h
  have e : (a - b) % p = 0 := Int.emod_eq_zero_of_dvd d
  have q := Int.emod_eq_emod_iff_emod_sub_eq_zero.mpr e
  rwa [Int.emod_eq_of_lt a0 a1, Int.emod_eq_of_lt b0 b1] at q
theorem mod_eq {a b : Int} (h : zm p a = zm p b) : a % p = b % p := Int.emod_eq_emod_iff_emod_sub_eq_zero.mpr (Int.emod_eq_zero_of_dvd (zm_exact h))
/-- a line's third point lies on the curve: l the slope through (x1, y1), q the cofactor at x2 -/
theorem third {x1 y1 x2 a b l x3 y3 : Zm p} (e1 : y1 * y1 = x1 * x1 * x1 + a * x1 + b) (hq : x2 * x2 + x2 * x1 + x1 * x1 + a = l * l * (x2 - x1) + 2 * l * y1) (h3 : x3 = l * l - x1 - x2) (h4 : y3 = l * (x1 - x3) - y1) : y3 * y3 = x3 * x3 * x3 + a * x3 + b := by
  subst h4
  have k : x3 * x3 + x3 * x1 + x1 * x1 + a = l * l * (x3 - x1) + 2 * l * y1 := by
    clear e1
    have : (x3 * x3 + x3 * x1 + x1 * x1 + a - l * l * (x3 - x1) - 2 * l * y1) - (x2 * x2 + x2 * x1 + x1 * x1 + a - l * l * (x2 - x1) - 2 * l * y1) = (x3 - x2) * (x3 + x2 + x1 - l * l) := by grind
    grind
  clear hq h3
  grind
theorem slope_ne {x1 y1 x2 y2 a b l i : Zm p} (e1 : y1 * y1 = x1 * x1 * x1 + a * x1 + b) (e2 : y2 * y2 = x2 * x2 * x2 + a * x2 + b) (hi : (x2 - x1) * i = 1) (hl : l = (y2 - y1) * i) : x2 * x2 + x2 * x1 + x1 * x1 + a = l * l * (x2 - x1) + 2 * l * y1 := by
  have h : l * (x2 - x1) = y2 - y1 := by grind
  have k : (x2 * x2 + x2 * x1 + x1 * x1 + a - l * l * (x2 - x1) - 2 * l * y1) * (x2 - x1) = 0 := by
    clear hl hi
    grind
  have : (x2 * x2 + x2 * x1 + x1 * x1 + a - l * l * (x2 - x1) - 2 * l * y1) = 0 := by
    have : (x2 * x2 + x2 * x1 + x1 * x1 + a - l * l * (x2 - x1) - 2 * l * y1) * ((x2 - x1) * i) = 0 := by
      rw [← Lean.Grind.Semiring.mul_assoc, k, Lean.Grind.Semiring.zero_mul]
    rw [hi, Lean.Grind.Semiring.mul_one] at this
    exact this
  grind
theorem slope_eq {x1 y1 a l i : Zm p} (hi : (2 * y1) * i = 1) (hl : l = (3 * x1 * x1 + a) * i) : x1 * x1 + x1 * x1 + x1 * x1 + a = l * l * (x1 - x1) + 2 * l * y1 := by grind
/-! powers -/
theorem zpow_zero (x : Zm p) : x ^ 0 = 1 := rfl
theorem zpow_succ (x : Zm p) (n : Nat) : x ^ (n + 1) = x ^ n * x := rfl
theorem zpow_add (x : Zm p) (m n : Nat) : x ^ (m + n) = x ^ m * x ^ n := by
  induction n with
  | zero => rw [Nat.add_zero, zpow_zero]; grind
  | succ n ih => rw [← Nat.add_assoc, zpow_succ, ih, zpow_succ]; grind
theorem zpow_mul (x : Zm p) (m n : Nat) : x ^ (m * n) = (x ^ m) ^ n := by
  induction n with
  | zero => rfl
  | succ n ih => rw [Nat.mul_succ, zpow_add, ih, zpow_succ]
theorem zmul_pow (x y : Zm p) (n : Nat) : (x * y) ^ n = x ^ n * y ^ n := by
  induction n with
  | zero => rw [zpow_zero, zpow_zero, zpow_zero]; grind
  | succ n ih => rw [zpow_succ, ih, zpow_succ, zpow_succ]; grind
theorem zone_pow (n : Nat) : (1 : Zm p) ^ n = 1 := by
  induction n with
  | zero => rfl
  | succ n ih => rw [zpow_succ, ih]; grind
theorem zm_pow (a : Int) (n : Nat) : zm p (a ^ n) = zm p a ^ n := by
  induction n with
  | zero => rw [Int.pow_zero, zpow_zero]; rfl
  | succ n ih => rw [Int.pow_succ, zpow_succ, ← ih]; rfl
theorem zpow_half (x : Zm p) (n : Nat) : x ^ n = (x * x) ^ (n / 2) * x ^ (n % 2) := by
  have e : x ^ n = x ^ (2 * (n / 2) + n % 2) := by rw [Nat.div_add_mod]
  rw [e, zpow_add, zpow_mul]
  have : x ^ 2 = x * x := by rw [show (2 : Nat) = 1 + 1 from rfl, zpow_succ, zpow_succ, zpow_zero]; grind
  rw [this]
theorem zpow_two (x : Zm p) (k : Nat) : x ^ (2 ^ (k + 1)) = x ^ 2 ^ k * x ^ 2 ^ k := by
  rw [Nat.pow_succ, Nat.mul_two, zpow_add]
/-- what is used of an odd prime -/
structure Pm (p : Int) : Prop where
  gt : 2 < p
  odd : p % 2 = 1
  dom : ∀ x y : Zm p, x * y = 0 → x = 0 ∨ y = 0
  fermat : ∀ x : Zm p, x ≠ 0 → x ^ (p - 1).toNat = 1
  nonres : ∃ g : Int, 2 ≤ g ∧ g < p ∧ zm p g ^ ((p - 1) / 2).toNat = -1
section
variable (P : Pm p)
include P
theorem Pm.one_ne : (1 : Zm p) ≠ 0 := fun e => by
  have d := zm_zero.mp (show zm p 1 = 0 from e)
  have := Int.le_of_dvd (by decide) d
  have := P.gt
  omega
theorem Pm.two_ne : (2 : Zm p) ≠ 0 := fun e => by
  have d := zm_zero.mp (show zm p 2 = 0 from e)
  have := Int.le_of_dvd (by decide) d
  have := P.gt
  omega
theorem Pm.neg_ne : (-1 : Zm p) ≠ 1 := fun e => P.two_ne (by grind)
theorem Pm.sq_one {x : Zm p} (e : x * x = 1) : x = 1 ∨ x = -1 := by
  rcases P.dom (x - 1) (x + 1) (by grind) with h | h
  · exact .inl (by grind)
  · exact .inr (by grind)
theorem Pm.pow_ne {x : Zm p} (h : x ≠ 0) (n : Nat) : x ^ n ≠ 0 := by
  induction n with
  | zero => exact P.one_ne
  | succ n ih => exact fun e => (P.dom _ _ e).elim ih h
theorem Pm.half {x : Zm p} (h : x ≠ 0) : x ^ ((p - 1) / 2).toNat = 1 ∨ x ^ ((p - 1) / 2).toNat = -1 := by
  apply P.sq_one
  rw [← zpow_add]
  have e : ((p - 1) / 2).toNat + ((p - 1) / 2).toNat = (p - 1).toNat := by
    have := P.odd
    have := P.gt
    omega
  rw [e]
  exact P.fermat x h
theorem zm_ne {a : Int} (h0 : 0 < a) (h1 : a < p) : zm p a ≠ 0 := fun e => by
  have := Int.le_of_dvd h0 (zm_zero.mp e)
  omega
theorem zm_lt {a : Int} (h0 : 0 ≤ a) (h1 : a < p) (e : zm p a = 0) : a = 0 := by
  by_cases h : a = 0
  · exact h
  · exact absurd e (zm_ne P (by omega) h1)
end
end Zp

/-! M1: points of y^2 = x^3 + a x + b modulo p, added by chords and tangents -/
namespace Zp
variable {p : Int}
abbrev Pt (p : Int) := Option (Zm p × Zm p)
def OnC (a b : Zm p) : Pt p → Prop
  | none => True
  | some (x, y) => y * y = x * x * x + a * x + b
def AddZ (a : Zm p) : Pt p → Pt p → Pt p → Prop
  | none, Q, R => R = Q
  | some P, none, R => R = some P
  | some (x1, y1), some (x2, y2), R => (x1 = x2 ∧ y1 + y2 = 0 ∧ R = none) ∨ (¬ (x1 = x2 ∧ y1 + y2 = 0) ∧ ∃ i l x3 y3 : Zm p, R = some (x3, y3) ∧ ((x1 = x2 ∧ (2 * y1) * i = 1 ∧ l = (3 * x1 * x1 + a) * i) ∨ (x1 ≠ x2 ∧ (x2 - x1) * i = 1 ∧ l = (y2 - y1) * i)) ∧ x3 = l * l - x1 - x2 ∧ y3 = l * (x1 - x3) - y1)
theorem inv_uniq {d i j : Zm p} (h : d * i = 1) (k : d * j = 1) : i = j := by
  have : i = i * (d * j) := by rw [k]; grind
  grind
theorem AddZ.fn {a : Zm p} {P Q R R' : Pt p} (h : AddZ a P Q R) (k : AddZ a P Q R') : R = R' := by
  match P, Q with
  | none, Q => exact h.trans k.symm
  | some P, none => exact h.trans k.symm
  | some (x1, y1), some (x2, y2) =>
    rcases h with ⟨h1, h2, rfl⟩ | ⟨hn, i, l, x3, y3, rfl, hs, h3, h4⟩
    · rcases k with ⟨_, _, rfl⟩ | ⟨kn, _⟩
      · rfl
      · exact absurd ⟨h1, h2⟩ kn
    · rcases k with ⟨k1, k2, rfl⟩ | ⟨kn, i', l', x3', y3', rfl, ks, k3, k4⟩
      · exact absurd ⟨k1, k2⟩ hn
      · have el : l = l' := by
          rcases hs with ⟨e1, e2, e3⟩ | ⟨e1, e2, e3⟩
          · rcases ks with ⟨f1, f2, f3⟩ | ⟨f1, f2, f3⟩
            · rw [e3, f3, inv_uniq e2 f2]
            · exact absurd e1 f1
          · rcases ks with ⟨f1, f2, f3⟩ | ⟨f1, f2, f3⟩
            · exact absurd f1 e1
            · rw [e3, f3, inv_uniq e2 f2]
        subst el
        have : x3 = x3' := by rw [h3, k3]
        subst this
        rw [h4, k4]
theorem AddZ.on {a b : Zm p} {P Q R : Pt p} (hP : OnC a b P) (hQ : OnC a b Q) (h : AddZ a P Q R) : OnC a b R := by
  match P, Q with
  | none, Q =>
    have : R = Q := h
    rw [this]
    exact hQ
  | some P, none =>
    have : R = some P := h
    rw [this]
    exact hP
  | some (x1, y1), some (x2, y2) =>
    rcases h with ⟨h1, h2, rfl⟩ | ⟨hn, i, l, x3, y3, rfl, hs, h3, h4⟩
    · trivial
    · rcases hs with ⟨e1, e2, e3⟩ | ⟨e1, e2, e3⟩
      · subst e1
        exact third hP (slope_eq e2 e3) h3 h4
      · exact third hP (slope_ne hP hQ e2 e3) h3 h4
/-- the move by u -/
def mv (u : Zm p) : Pt p → Pt p
  | none => none
  | some (x, y) => some (u * u * x, u * u * u * y)
theorem cancel {u v x y : Zm p} (h : u * v = 1) (e : u * x = u * y) : x = y := by
  have : v * (u * x) = v * (u * y) := by rw [e]
  grind
theorem AddZ.mv {a u v : Zm p} (huv : u * v = 1) {P Q R : Pt p} (h : AddZ a P Q R) : AddZ (a * (u * u * u * u)) (mv u P) (mv u Q) (mv u R) := by
  have u2 : (u * u) * (v * v) = 1 := by grind
  have u3 : (u * u * u) * (v * v * v) = 1 := by grind
  match P, Q with
  | none, Q =>
    have : R = Q := h
    rw [this]
    exact rfl
  | some P, none =>
    have : R = some P := h
    rw [this]
    exact rfl
  | some (x1, y1), some (x2, y2) =>
    rcases h with ⟨h1, h2, rfl⟩ | ⟨hn, i, l, x3, y3, rfl, hs, h3, h4⟩
    · refine .inl ⟨by rw [h1], ?_, rfl⟩
      have : u * u * u * y1 + u * u * u * y2 = u * u * u * (y1 + y2) := by grind
      rw [this, h2]
      grind
    · refine .inr ⟨fun ⟨q1, q2⟩ => hn ⟨cancel u2 q1, cancel u3 (y := 0) (by clear hs h3 h4; grind)⟩, ?_⟩
      rcases hs with ⟨e1, e2, e3⟩ | ⟨e1, e2, e3⟩
      · refine ⟨i * (v * v * v), l * u, u * u * x3, u * u * u * y3, rfl, .inl ⟨by rw [e1], by clear e3 h3 h4; grind, ?_⟩, ?_, ?_⟩
        · clear h3 h4 e2
          subst e3
          have : (3 * (u * u * x1) * (u * u * x1) + a * (u * u * u * u)) * (i * (v * v * v)) = (3 * x1 * x1 + a) * i * u * ((u * u * u) * (v * v * v)) := by grind
          rw [this, u3]
          grind
        · subst h3
          grind
        · subst h4
          grind
      · refine ⟨i * (v * v), l * u, u * u * x3, u * u * u * y3, rfl, .inr ⟨fun q => e1 (cancel u2 q), ?_, ?_⟩, ?_, ?_⟩
        · clear e3 h3 h4
          have : (u * u * x2 - u * u * x1) * (i * (v * v)) = (x2 - x1) * i * ((u * u) * (v * v)) := by grind
          rw [this, u2, e2]
          grind
        · clear h3 h4 e2
          subst e3
          have : (u * u * u * y2 - u * u * u * y1) * (i * (v * v)) = (y2 - y1) * i * u * ((u * u) * (v * v)) := by grind
          rw [this, u2]
          grind
        · subst h3
          grind
        · subst h4
          grind
/-- doubling and adding -/
inductive MulL (a : Zm p) : Nat → Pt p → Pt p → Pt p → Prop where
  | zero {A P : Pt p} : MulL a 0 A P A
  | odd {n : Nat} {A P A' P' R : Pt p} : n % 2 = 1 → AddZ a A P A' → AddZ a P P P' → MulL a (n / 2) A' P' R → MulL a n A P R
  | even {n : Nat} {A P P' R : Pt p} : n ≠ 0 → n % 2 = 0 → AddZ a P P P' → MulL a (n / 2) A P' R → MulL a n A P R
theorem MulL.fn {a : Zm p} {n : Nat} {A P R R' : Pt p} (h : MulL a n A P R) (k : MulL a n A P R') : R = R' := by
  induction h with
  | zero =>
    cases k with
    | zero => rfl
    | odd e => omega
    | even e => exact absurd rfl e
  | odd e1 e2 e3 _ ih =>
    cases k with
    | zero => omega
    | odd f1 f2 f3 f4 =>
      cases e2.fn f2
      cases e3.fn f3
      exact ih f4
    | even f1 f2 => omega
  | even e0 e1 e3 _ ih =>
    cases k with
    | zero => exact absurd rfl e0
    | odd f1 f2 f3 f4 => omega
    | even f1 f2 f3 f4 =>
      cases e3.fn f3
      exact ih f4
theorem MulL.mv {a u v : Zm p} (huv : u * v = 1) {n : Nat} {A P R : Pt p} (h : MulL a n A P R) : MulL (a * (u * u * u * u)) n (mv u A) (mv u P) (mv u R) := by
  induction h with
  | zero => exact .zero
  | odd e1 e2 e3 _ ih => exact .odd e1 (e2.mv huv) (e3.mv huv) ih
  | even e0 e1 e3 _ ih => exact .even e0 e1 (e3.mv huv) ih
end Zp

/-! M2: small primes by trial; sums over all residues -/
namespace Zp
def tdiv (p : Nat) : Bool := (List.range' 2 13).all fun j => !(decide (j < p) && p % j == 0)
def gcds (p : Nat) : Bool := (List.range p).all fun r => r == 0 || Nat.gcd r p == 1
def fers (p : Nat) : Bool := (List.range p).all fun r => r == 0 || r ^ (p - 1) % p == 1
def lown (p : Nat) : Bool := (List.range' 2 58).any fun g => decide (g < p) && g ^ ((p - 1) / 2) % p == p - 1
def rtN (p v : Nat) : Nat := (List.range p).countP fun y => y * y % p == v
def mask (p n : Nat) : Nat := Nat.rec 0 (fun s m => m ||| 2 ^ (s * s % p)) n
def rts (p : Nat) : Bool := let m := mask p p; (List.range p).all fun v => v == 0 || v ^ ((p - 1) / 2) % p == p - 1 || m.testBit v
def pchk (p : Nat) : Bool := decide (4 < p) && p % 2 == 1 && gcds p && fers p && lown p && rts p
set_option maxRecDepth 100000 in
theorem pchks : ((List.range 220).all fun n => decide (n < 5) || !tdiv n || pchk n) = true := by decide +kernel
set_option maxRecDepth 100000 in
theorem gaps : ((List.range' 5 195).all fun n => (List.range 20).any fun i => tdiv (n + i)) = true := by decide +kernel
structure PK (p : Nat) : Prop where
  gt : 4 < p
  lt : p < 220
  odd : p % 2 = 1
  gcd : ∀ r, 0 < r → r < p → Nat.gcd r p = 1
  fer : ∀ r, 0 < r → r < p → r ^ (p - 1) % p = 1
  low : ∃ g, 2 ≤ g ∧ g < 60 ∧ g < p ∧ g ^ ((p - 1) / 2) % p = p - 1
  rt : ∀ v, v < p → v = 0 ∨ v ^ ((p - 1) / 2) % p = p - 1 ∨ ∃ s, s < p ∧ s * s % p = v
theorem mask_ok {p n v : Nat} (h : (mask p n).testBit v = true) : ∃ s, s < n ∧ s * s % p = v := by
  induction n with
  | zero =>
    have : (0 : Nat).testBit v = true := h
    simp at this
  | succ n ih =>
    have h : (mask p n ||| 2 ^ (n * n % p)).testBit v = true := h
    rw [Nat.testBit_or, Bool.or_eq_true] at h
    rcases h with h | h
    · obtain ⟨s, a, b⟩ := ih h
      exact ⟨s, by omega, b⟩
    · rw [Nat.testBit_two_pow] at h
      exact ⟨n, by omega, of_decide_eq_true h⟩
theorem pk_of {p : Nat} (h5 : 5 ≤ p) (hl : p < 220) (t : tdiv p = true) : PK p := by
  have h := List.all_eq_true.mp pchks p (List.mem_range.mpr hl)
  rw [t] at h
  have h : pchk p = true := by
    rw [decide_eq_false (by omega)] at h
    simpa using h
  unfold pchk at h
  simp only [Bool.and_eq_true, decide_eq_true_eq, beq_iff_eq] at h
  obtain ⟨⟨⟨⟨⟨h1, h2⟩, h3⟩, h4⟩, h6⟩, h7⟩ := h
  refine ⟨h1, hl, h2, fun r r0 r1 => ?_, fun r r0 r1 => ?_, ?_, fun v hv => ?_⟩
  · have := List.all_eq_true.mp h3 r (List.mem_range.mpr r1)
    simp only [Bool.or_eq_true, beq_iff_eq] at this
    omega
  · have := List.all_eq_true.mp h4 r (List.mem_range.mpr r1)
    simp only [Bool.or_eq_true, beq_iff_eq] at this
    omega
  · obtain ⟨g, m, e⟩ := List.any_eq_true.mp h6
    simp only [Bool.and_eq_true, decide_eq_true_eq, beq_iff_eq] at e
    have := List.mem_range'_1.mp m
    exact ⟨g, by omega, by omega, e.1, e.2⟩
  · have := List.all_eq_true.mp h7 v (List.mem_range.mpr hv)
    simp only [Bool.or_eq_true, beq_iff_eq] at this
    rcases this with (h | h) | h
    · exact .inl h
    · exact .inr (.inl h)
    · exact .inr (.inr (mask_ok h))
theorem zm_natpow {p : Int} (a n : Nat) : zm p ((a ^ n : Nat) : Int) = zm p a ^ n := by
  rw [Int.natCast_pow, zm_pow]
theorem zm_natmod {p a : Nat} : zm (p : Int) ((a % p : Nat) : Int) = zm p a := by
  rw [Int.natCast_emod, zm_mod]
theorem red {p : Nat} (hp : 0 < p) (x : Zm p) : ∃ r : Nat, r < p ∧ x = zm p r := by
  induction x using ind with
  | h a =>
    have a0 := Int.emod_nonneg a (show (p : Int) ≠ 0 by omega)
    have a1 := Int.emod_lt_of_pos a (show (0 : Int) < p by omega)
    refine ⟨(a % p).toNat, by omega, ?_⟩
    rw [Int.toNat_of_nonneg a0, zm_mod]
theorem half_eq (p : Nat) : (((p : Int) - 1) / 2).toNat = (p - 1) / 2 := by omega
theorem PK.pm {p : Nat} (k : PK p) : Pm (p : Int) := by
  have gt := k.gt
  have odd := k.odd
  refine ⟨by omega, by omega, fun x y e => ?_, fun x hx => ?_, ?_⟩
  · obtain ⟨r, hr, rfl⟩ := red (by omega) x
    obtain ⟨s, hs, rfl⟩ := red (by omega) y
    by_cases h0 : r = 0
    · subst h0
      exact .inl rfl
    · refine .inr ?_
      have d : (p : Int) ∣ (r : Int) * s := zm_zero.mp e
      have d : p ∣ r * s := by
        rw [← Int.natCast_mul] at d
        exact Int.natCast_dvd_natCast.mp d
      have := k.gcd r (by omega) hr
      have c : Nat.Coprime p r := by
        unfold Nat.Coprime
        rw [Nat.gcd_comm]
        exact this
      have d2 := c.dvd_of_dvd_mul_left d
      exact zm_zero.mpr (Int.natCast_dvd_natCast.mpr d2)
  · obtain ⟨r, hr, rfl⟩ := red (by omega) x
    have r0 : 0 < r := by
      rcases Nat.eq_zero_or_pos r with h | h
      · subst h
        exact absurd rfl hx
      · exact h
    have := k.fer r r0 hr
    rw [show ((p : Int) - 1).toNat = p - 1 by omega, ← zm_natpow, ← zm_natmod, this]
    rfl
  · obtain ⟨g, g0, g1, g2, e⟩ := k.low
    refine ⟨g, by omega, by omega, ?_⟩
    rw [half_eq, ← zm_natpow, ← zm_natmod, e]
    refine (zm_sound ⟨1, ?_⟩ : zm (p : Int) ((p - 1 : Nat) : Int) = zm p (-1))
    omega
theorem nodup_map {α β : Type} {f : α → β} : ∀ {l : List α}, l.Nodup → (∀ a ∈ l, ∀ b ∈ l, f a = f b → a = b) → (l.map f).Nodup
  | [], _, _ => List.Pairwise.nil
  | a :: l, h, inj => by
    obtain ⟨h1, h2⟩ := List.nodup_cons.mp h
    rw [List.map_cons, List.nodup_cons]
    refine ⟨fun m => ?_, nodup_map h2 fun x hx y hy => inj x (List.mem_cons_of_mem _ hx) y (List.mem_cons_of_mem _ hy)⟩
    obtain ⟨b, hb, e⟩ := List.mem_map.mp m
    have := inj b (List.mem_cons_of_mem _ hb) a (List.mem_cons_self) e
    subst this
    exact h1 hb
theorem sum_perm {l l' : List Int} (h : l.Perm l') : l.sum = l'.sum := by
  induction h with
  | nil => rfl
  | cons x _ ih => rw [List.sum_cons, List.sum_cons, ih]
  | swap x y l => simp only [List.sum_cons]; omega
  | trans _ _ i1 i2 => rw [i1, i2]
/-- the sum over all residues, moved by a factor -/
theorem sum_move {p : Nat} (k : PK p) {g : Int} (hg : zm p g ≠ 0) (F : Nat → Int) : ((List.range p).map F).sum = ((List.range p).map fun (x : Nat) => F ((g * (x : Int)) % p).toNat).sum := by
  have gt := k.gt
  have P := k.pm
  have lt : ∀ x : Nat, ((g * (x : Int)) % p).toNat < p := fun x => by
    have a0 := Int.emod_nonneg (g * (x : Int)) (show (p : Int) ≠ 0 by omega)
    have a1 := Int.emod_lt_of_pos (g * (x : Int)) (show (0 : Int) < p by omega)
    omega
  have zz : ∀ x : Nat, zm p (((g * (x : Int)) % p).toNat : Int) = zm p g * zm p x := fun x => by
    have a0 := Int.emod_nonneg (g * (x : Int)) (show (p : Int) ≠ 0 by omega)
    rw [Int.toNat_of_nonneg a0, zm_mod, zm_mul]
  have q : ((List.range p).map fun (x : Nat) => ((g * (x : Int)) % p).toNat).Perm (List.range p) := by
    rw [List.perm_ext_iff_of_nodup (nodup_map List.nodup_range fun a ha b hb e => ?_) List.nodup_range]
    · intro v
      constructor
      · intro m
        obtain ⟨x, _, rfl⟩ := List.mem_map.mp m
        exact List.mem_range.mpr (lt x)
      · intro m
        have hv := List.mem_range.mp m
        obtain ⟨r, hr, e⟩ := red (by omega) (zm p g ^ (p - 2) * zm p v)
        refine List.mem_map.mpr ⟨r, List.mem_range.mpr hr, ?_⟩
        have h1 := zz r
        rw [← e] at h1
        have f := P.fermat _ hg
        rw [show ((p : Int) - 1).toNat = (p - 2) + 1 by omega, zpow_succ] at f
        have : zm p g * (zm p g ^ (p - 2) * zm p v) = zm p v := by
          have : zm p g * (zm p g ^ (p - 2) * zm p v) = (zm p g ^ (p - 2) * zm p g) * zm p v := by
            generalize zm (p : Int) g ^ (p - 2) = z
            grind
          rw [this, f]
          grind
        rw [this] at h1
        have := lt r
        have := zm_inj h1 (by omega) (by omega) (by omega) (by omega)
        omega
    · have ha := List.mem_range.mp ha
      have hb := List.mem_range.mp hb
      have e2 : zm p g * zm p a = zm p g * zm p b := by rw [← zz, ← zz, e]
      rcases P.dom (zm p g) (zm p a - zm p b) (by grind) with h | h
      · exact absurd h hg
      · have h : zm p a = zm p b := by grind
        have := zm_inj h (by omega) (by omega) (by omega) (by omega)
        omega
  have := sum_perm (q.map F)
  rw [List.map_map] at this
  exact this.symm
theorem sum_const (n : Nat) (F G : Nat → Int) (c : Int) (h : ∀ x < n, F x + G x = c) : ((List.range n).map F).sum + ((List.range n).map G).sum = n * c := by
  induction n with
  | zero => simp
  | succ n ih =>
    have := ih fun x hx => h x (by omega)
    have hn := h n (by omega)
    rw [List.range_succ, List.map_append, List.map_append, List.sum_append, List.sum_append]
    simp only [List.map_cons, List.map_nil, List.sum_cons, List.sum_nil]
    rw [Int.natCast_succ, Int.add_mul]
    omega
theorem sum_same (n : Nat) (F G : Nat → Int) (h : ∀ x < n, F x = G x) : ((List.range n).map F).sum = ((List.range n).map G).sum := by
  congr 1
  apply List.map_congr_left
  intro x hx
  exact h x (List.mem_range.mp hx)
theorem count_of {l : List Nat} {P : Nat → Bool} {m : List Nat} (hl : l.Nodup) (hm : m.Nodup) (h : ∀ a, a ∈ m ↔ a ∈ l ∧ P a = true) : l.countP P = m.length := by
  rw [List.countP_eq_length_filter]
  refine List.Perm.length_eq ((List.perm_ext_iff_of_nodup (hl.filter P) hm).mpr fun a => ?_)
  rw [List.mem_filter, h]
theorem sq_zm {p y v : Nat} (e : y * y % p = v) : zm (p : Int) y * zm (p : Int) y = zm p v := by
  rw [← e, zm_natmod, Int.natCast_mul]
  rfl
theorem zm_sq {p y v : Nat} (hp : 0 < p) (hv : v < p) (e : zm (p : Int) y * zm (p : Int) y = zm p v) : y * y % p = v := by
  have h : zm (p : Int) ((y * y % p : Nat) : Int) = zm p v := by
    rw [zm_natmod, Int.natCast_mul]
    exact e
  have := Nat.mod_lt (y * y) hp
  have := zm_inj h (by omega) (by omega) (by omega) (by omega)
  omega
/-- how many roots, by the class -/
theorem PK.rtz {p : Nat} (k : PK p) {v : Nat} (hv : v < p) : (zm p v = 0 ∧ rtN p v = 1) ∨ (zm (p : Int) v ≠ 0 ∧ zm (p : Int) v ^ ((p - 1) / 2) = 1 ∧ rtN p v = 2) ∨ (zm (p : Int) v ≠ 0 ∧ zm (p : Int) v ^ ((p - 1) / 2) = -1 ∧ rtN p v = 0) := by
  have gt := k.gt
  have od := k.odd
  have P := k.pm
  by_cases h0 : v = 0
  · subst h0
    refine .inl ⟨rfl, count_of (m := [0]) List.nodup_range (by simp) fun a => ?_⟩
    rw [List.mem_singleton, List.mem_range, beq_iff_eq]
    refine ⟨fun e => by subst e; exact ⟨by omega, by simp⟩, fun ⟨a1, a2⟩ => ?_⟩
    have e := sq_zm a2
    have z : zm (p : Int) a = 0 := (P.dom _ _ (e.trans rfl)).elim id id
    have := zm_lt P (by omega) (by omega) z
    omega
  have hz : zm (p : Int) v ≠ 0 := zm_ne P (by omega) (by omega)
  have hh := P.half hz
  rw [half_eq] at hh
  have root : ∀ s, s < p → s * s % p = v → zm (p : Int) v ^ ((p - 1) / 2) = 1 := fun s hs e => by
    have e := sq_zm e
    have sz : zm (p : Int) s ≠ 0 := fun z => hz (by rw [← e, z]; grind)
    rw [← e, zmul_pow, ← zpow_add, show (p - 1) / 2 + (p - 1) / 2 = ((p : Int) - 1).toNat by omega]
    exact P.fermat _ sz
  rcases hh with hh | hh
  · refine .inr (.inl ⟨hz, hh, ?_⟩)
    rcases k.rt v hv with h | h | ⟨s, hs, e⟩
    · exact absurd h h0
    · have h1 : zm (p : Int) v ^ ((p - 1) / 2) = -1 := by
        rw [← zm_natpow, ← zm_natmod, h]
        refine (zm_sound ⟨1, ?_⟩ : zm (p : Int) ((p - 1 : Nat) : Int) = zm p (-1))
        omega
      exact absurd (h1.symm.trans hh) P.neg_ne
    · have es := sq_zm e
      have s0 : s ≠ 0 := fun z => by
        subst z
        simp at e
        omega
      have ng : zm (p : Int) ((p - s : Nat) : Int) = -zm p s := (zm_sound ⟨1, by omega⟩ : zm (p : Int) ((p - s : Nat) : Int) = zm p (-s))
      refine count_of (m := [s, p - s]) List.nodup_range ?_ fun a => ?_
      · rw [List.nodup_cons]
        refine ⟨fun m => ?_, by simp⟩
        have := List.mem_singleton.mp m
        omega
      · rw [List.mem_cons, List.mem_singleton, List.mem_range, beq_iff_eq]
        refine ⟨fun m => ?_, fun ⟨a1, a2⟩ => ?_⟩
        · rcases m with rfl | rfl
          · exact ⟨hs, e⟩
          · refine ⟨by omega, zm_sq (by omega) hv ?_⟩
            rw [ng, ← es]
            grind
        · have ea := sq_zm a2
          rcases P.dom (zm p a - zm p s) (zm p a + zm p s) (by grind) with z | z
          · left
            have := zm_inj (show zm (p : Int) a = zm p s by grind) (by omega) (by omega) (by omega) (by omega)
            omega
          · right
            have := zm_inj (show zm (p : Int) a = zm (p : Int) ((p - s : Nat) : Int) by rw [ng]; grind) (by omega) (by omega) (by omega) (by omega)
            omega
  · refine .inr (.inr ⟨hz, hh, count_of (m := []) List.nodup_range (by simp) fun a => ?_⟩)
    refine ⟨fun m => absurd m (by simp), fun ⟨a1, a2⟩ => ?_⟩
    rw [beq_iff_eq] at a2
    exact absurd ((root a (List.mem_range.mp a1) a2).symm.trans hh) (fun z => P.neg_ne z.symm)
theorem PK.uniq {p : Nat} (k : PK p) {v : Nat} (hv : v < p) : (zm (p : Int) v = 0 → rtN p v = 1) ∧ (zm (p : Int) v ^ ((p - 1) / 2) = 1 → rtN p v = 2) ∧ (zm (p : Int) v ^ ((p - 1) / 2) = -1 → rtN p v = 0) := by
  have P := k.pm
  have gt := k.gt
  have z0 : (0 : Zm p) ^ ((p - 1) / 2) = 0 := by
    obtain ⟨n, e⟩ : ∃ n, (p - 1) / 2 = n + 1 := ⟨(p - 1) / 2 - 1, by omega⟩
    rw [e, zpow_succ]
    generalize (0 : Zm p) ^ n = z
    grind
  have m1 : (-1 : Zm p) ≠ 0 := fun h => P.one_ne (by grind)
  rcases k.rtz hv with ⟨a, b⟩ | ⟨a, b, c⟩ | ⟨a, b, c⟩
  · refine ⟨fun _ => b, fun h => ?_, fun h => ?_⟩
    · rw [a, z0] at h
      exact absurd h.symm P.one_ne
    · rw [a, z0] at h
      exact absurd h.symm m1
  · exact ⟨fun h => absurd h a, fun _ => c, fun h => absurd (b.symm.trans h) (fun z => P.neg_ne z.symm)⟩
  · exact ⟨fun h => absurd h a, fun h => absurd (b.symm.trans h) P.neg_ne, fun _ => c⟩
/-- moved by a nonresidue's odd power, by a square -/
theorem PK.rt_twist {p : Nat} (k : PK p) {v w : Nat} (hv : v < p) (hw : w < p) {g : Zm p} (hg : g ^ ((p - 1) / 2) = -1) (e : zm (p : Int) w = g * g * g * zm p v) : rtN p v + rtN p w = 2 := by
  have P := k.pm
  have hh : zm (p : Int) w ^ ((p - 1) / 2) = -1 * (zm (p : Int) v ^ ((p - 1) / 2)) := by
    rw [e, zmul_pow, zmul_pow, zmul_pow, hg]
    generalize zm (p : Int) v ^ ((p - 1) / 2) = z
    grind
  rcases k.rtz hv with ⟨a, b⟩ | ⟨a, b, c⟩ | ⟨a, b, c⟩
  · rw [a] at e
    rw [b, (k.uniq hw).1 (by rw [e]; grind)]
  · rw [b] at hh
    rw [c, (k.uniq hw).2.2 (by rw [hh]; grind)]
  · rw [b] at hh
    rw [c, (k.uniq hw).2.1 (by rw [hh]; grind)]
theorem PK.rt_iso {p : Nat} (k : PK p) {v w : Nat} (hv : v < p) (hw : w < p) {s : Zm p} (hs : s ≠ 0) (e : zm (p : Int) w = s * s * zm p v) : rtN p w = rtN p v := by
  have P := k.pm
  have gt := k.gt
  have od := k.odd
  have s1 : s ^ ((p - 1) / 2) * s ^ ((p - 1) / 2) = 1 := by
    rw [← zpow_add, show (p - 1) / 2 + (p - 1) / 2 = ((p : Int) - 1).toNat by omega]
    exact P.fermat s hs
  have hh : zm (p : Int) w ^ ((p - 1) / 2) = zm (p : Int) v ^ ((p - 1) / 2) := by
    rw [e, zmul_pow, zmul_pow, s1]
    generalize zm (p : Int) v ^ ((p - 1) / 2) = z
    grind
  rcases k.rtz hv with ⟨a, b⟩ | ⟨a, b, c⟩ | ⟨a, b, c⟩
  · rw [a] at e
    rw [b, (k.uniq hw).1 (by rw [e]; grind)]
  · rw [b] at hh
    rw [c, (k.uniq hw).2.1 hh]
  · rw [b] at hh
    rw [c, (k.uniq hw).2.2 hh]
end Zp

namespace L_curveseal_k75_whole_curves_and_their_twi
open PySem PySem.Spec PyProof.Rows L2 Z
def topS (i : Nat) : Stmt := PySem.Challenge.pw_curveseal_k75_whole_curves_and_their_twi.main.body.getD i (.Pass ⟨0, 0, 0, 0⟩)
/-- the classes by number -/
def clsN : List PySem.Str := ["CurveError", "OutOfRange", "NoInverse", "Refused", "Curve"]
def clsOf (K : PySem.W.Frag) (i : Nat) : Addr := He.ga K (clsN.getD i "")
abbrev w_COUNT_LIMIT : W := Cn.w (.int 65536)
structure Env (Γ : Gam) : Prop where
  B : Bs Γ
  d__law_power : Def Γ ("_law_power", none) "_law_power" "_law_power" (topS 20)
  d__law_inverse : Def Γ ("_law_inverse", none) "_law_inverse" "_law_inverse" (topS 21)
  d__law_add : Def Γ ("_law_add", none) "_law_add" "_law_add" (topS 24)
  d_bezout : Def Γ ("bezout", none) "bezout" "bezout" (topS 9)
  d_inverse : Def Γ ("inverse", none) "inverse" "inverse" (topS 10)
  d_Curve_add : Def Γ ("Curve", some "add") "add" "Curve.add" (inClass (topS 16) 4)
  d__law_moved : Def Γ ("_law_moved", none) "_law_moved" "_law_moved" (topS 29)
  d_Curve_right_side : Def Γ ("Curve", some "right_side") "right_side" "Curve.right_side" (inClass (topS 16) 1)
  d_Curve_has : Def Γ ("Curve", some "has") "has" "Curve.has" (inClass (topS 16) 2)
  d_Curve_negate : Def Γ ("Curve", some "negate") "negate" "Curve.negate" (inClass (topS 16) 3)
  d_Curve_multiply : Def Γ ("Curve", some "multiply") "multiply" "Curve.multiply" (inClass (topS 16) 6)
  d__law_cell : Def Γ ("_law_cell", none) "_law_cell" "_law_cell" (topS 18)
  d_count_points : Def Γ ("count_points", none) "count_points" "count_points" (topS 7)
  d_Curve___init__ : Def Γ ("Curve", some "__init__") "__init__" "Curve.__init__" (inClass (topS 16) 0)
  d__law_residue : Def Γ ("_law_residue", none) "_law_residue" "_law_residue" (topS 22)
  d_power : Def Γ ("power", none) "power" "power" (topS 11)
  d_square_class : Def Γ ("square_class", none) "square_class" "square_class" (topS 12)
  d_other_class : Def Γ ("other_class", none) "other_class" "other_class" (topS 13)
  d_square_root : Def Γ ("square_root", none) "square_root" "square_root" (topS 14)
  d_Curve_lift : Def Γ ("Curve", some "lift") "lift" "Curve.lift" (inClass (topS 16) 7)
  d__law_lowest : Def Γ ("_law_lowest", none) "_law_lowest" "_law_lowest" (topS 28)
  d__law_singular : Def Γ ("_law_singular", none) "_law_singular" "_law_singular" (topS 26)
  d__law_curve_and_points : Def Γ ("_law_curve_and_points", none) "_law_curve_and_points" "_law_curve_and_points" (topS 23)
  d__law_prime : Def Γ ("_law_prime", none) "_law_prime" "_law_prime" (topS 27)
  d_law : Def Γ ("law", none) "law" "law" (topS 30)
  g__law_add : Γ.mg "_law_add" = some (.ref (He.fAd Γ.K ("_law_add", none)))
  g__law_cell : Γ.mg "_law_cell" = some (.ref (He.fAd Γ.K ("_law_cell", none)))
  g__law_curve_and_points : Γ.mg "_law_curve_and_points" = some (.ref (He.fAd Γ.K ("_law_curve_and_points", none)))
  g__law_inverse : Γ.mg "_law_inverse" = some (.ref (He.fAd Γ.K ("_law_inverse", none)))
  g__law_lowest : Γ.mg "_law_lowest" = some (.ref (He.fAd Γ.K ("_law_lowest", none)))
  g__law_moved : Γ.mg "_law_moved" = some (.ref (He.fAd Γ.K ("_law_moved", none)))
  g__law_power : Γ.mg "_law_power" = some (.ref (He.fAd Γ.K ("_law_power", none)))
  g__law_prime : Γ.mg "_law_prime" = some (.ref (He.fAd Γ.K ("_law_prime", none)))
  g__law_residue : Γ.mg "_law_residue" = some (.ref (He.fAd Γ.K ("_law_residue", none)))
  g__law_singular : Γ.mg "_law_singular" = some (.ref (He.fAd Γ.K ("_law_singular", none)))
  g_bezout : Γ.mg "bezout" = some (.ref (He.fAd Γ.K ("bezout", none)))
  g_count_points : Γ.mg "count_points" = some (.ref (He.fAd Γ.K ("count_points", none)))
  g_inverse : Γ.mg "inverse" = some (.ref (He.fAd Γ.K ("inverse", none)))
  g_law : Γ.mg "law" = some (.ref (He.fAd Γ.K ("law", none)))
  g_other_class : Γ.mg "other_class" = some (.ref (He.fAd Γ.K ("other_class", none)))
  g_power : Γ.mg "power" = some (.ref (He.fAd Γ.K ("power", none)))
  g_square_class : Γ.mg "square_class" = some (.ref (He.fAd Γ.K ("square_class", none)))
  g_square_root : Γ.mg "square_root" = some (.ref (He.fAd Γ.K ("square_root", none)))
  c_Curve : Cls Γ.K (Γ.cl 4)
  n_Curve_a : NoAttr Γ.K (Γ.cl 4) "a"
  n_Curve_b : NoAttr Γ.K (Γ.cl 4) "b"
  n_Curve_prime : NoAttr Γ.K (Γ.cl 4) "prime"
  me_Curve_add : Meth Γ.K (Γ.cl 4) "add" (He.fAd Γ.K ("Curve", some "add"))
  me_Curve_has : Meth Γ.K (Γ.cl 4) "has" (He.fAd Γ.K ("Curve", some "has"))
  me_Curve_lift : Meth Γ.K (Γ.cl 4) "lift" (He.fAd Γ.K ("Curve", some "lift"))
  me_Curve_multiply : Meth Γ.K (Γ.cl 4) "multiply" (He.fAd Γ.K ("Curve", some "multiply"))
  me_Curve_negate : Meth Γ.K (Γ.cl 4) "negate" (He.fAd Γ.K ("Curve", some "negate"))
  me_Curve_right_side : Meth Γ.K (Γ.cl 4) "right_side" (He.fAd Γ.K ("Curve", some "right_side"))
  mk_Curve : Mk Γ.K (Γ.cl 4) (He.fAd Γ.K ("Curve", some "__init__"))
  gc_Curve : Γ.mg "Curve" = some (.ref (Γ.cl 4))
  k_COUNT_LIMIT : Kon Γ "COUNT_LIMIT" w_COUNT_LIMIT
/-! _law_power -/
def c__law_power : Cfg := ⟨["_law_a", "_law_exponent", "_law_modulus", "_law_result", "_law_square", "_law_k"], ["_law_a", "_law_exponent", "_law_modulus", "_law_result", "_law_square", "_law_k"], ["_law_a", "_law_exponent", "_law_modulus", "_law_result", "_law_square", "_law_k"], ["range"], defScope (topS 20), true, true⟩
theorem ck__law_power : cfgOk c__law_power = true := by decide +kernel
theorem cs__law_power : FnScope c__law_power.N ["_law_a", "_law_exponent", "_law_modulus"] (defScope (topS 20)) := ⟨rfl, rfl, rfl, by decide +kernel, rfl, by decide +kernel, by decide +kernel⟩
theorem cb__law_power : BindsN (topS 20) "_law_power" "_law_power" ["_law_a", "_law_exponent", "_law_modulus"] := fun _ _ _ _ _ _ us hl => match us, hl with | [_, _, _], _ => rfl
abbrev b__law_power : XS :=
    sSeq (sSet 3 (xK (.int 1)))
    (sSeq (sSet 4 (xBin modW (xVar 0) (xVar 2)))
    (sSeq (sFor (iRng1 (xCons (xK (.int 260)) (xNil))) (gN 5) (sSeq (sIf (xB (xBin eqW (xVar 1) (xK (.int 0)))) (sBreak) (sSkip))
    (sSeq (sIf (xB (xBin eqW (xBin modW (xVar 1) (xK (.int 2))) (xK (.int 1)))) (sSet 3 (xBin modW (xBin mulW (xVar 3) (xVar 4)) (xVar 2))) (sSkip))
    (sSeq (sSet 4 (xBin modW (xBin mulW (xVar 4) (xVar 4)) (xVar 2)))
    (sSet 1 (xBin fdivW (xVar 1) (xK (.int 2))))))))
    (sRet (xVar 3))))
def F__law_power : List W → Hm → Out W := mkF 6 b__law_power
set_option maxHeartbeats 0 in
theorem ok__law_power {Γ : Gam} (E : Env Γ) : CalD Γ 1 (He.fAd Γ.K ("_law_power", none)) ["_law_a", "_law_exponent", "_law_modulus"] F__law_power := cal_mk (k := 0) E.d__law_power cb__law_power cs__law_power ck__law_power
    (sl_cons (ss_set 3 3 (se_int))
    (sl_cons (ss_set 4 4 (se_bin os_mod (se_var 0 0) (se_var 2 2)))
    (sl_cons (ss_for (si_rng1 0 E.B (sa_cons (se_int) (sa_nil))) (sg_name 5 5) (sl_cons (ss_if (st_cmp os_eq (se_var 1 1) (se_int)) (sl_one (ss_break)) (sl_nil))
    (sl_cons (ss_if (st_cmp os_eq (se_bin os_mod (se_var 1 1) (se_int)) (se_int)) (sl_one (ss_set 3 3 (se_bin os_mod (se_bin os_mul (se_var 3 3) (se_var 4 4)) (se_var 2 2)))) (sl_nil))
    (sl_cons (ss_set 4 4 (se_bin os_mod (se_bin os_mul (se_var 4 4) (se_var 4 4)) (se_var 2 2)))
    (sl_one (ss_set 1 1 (se_bin os_fdiv (se_var 1 1) (se_int))))))))
    (sl_one (ss_ret (se_var 3 3))))))
/-! _law_inverse -/
def c__law_inverse : Cfg := ⟨["_law_a", "_law_prime_here"], ["_law_a", "_law_prime_here"], ["_law_a", "_law_prime_here"], ["_law_power"], defScope (topS 21), true, true⟩
theorem ck__law_inverse : cfgOk c__law_inverse = true := by decide +kernel
theorem cs__law_inverse : FnScope c__law_inverse.N ["_law_a", "_law_prime_here"] (defScope (topS 21)) := ⟨rfl, rfl, rfl, by decide +kernel, rfl, by decide +kernel, by decide +kernel⟩
theorem cb__law_inverse : BindsN (topS 21) "_law_inverse" "_law_inverse" ["_law_a", "_law_prime_here"] := fun _ _ _ _ _ _ us hl => match us, hl with | [_, _], _ => rfl
abbrev b__law_inverse : XS :=
    sRet (xFn F__law_power (xCons (xVar 0) (xCons (xBin subW (xVar 1) (xK (.int 2))) (xCons (xVar 1) (xNil)))))
def F__law_inverse : List W → Hm → Out W := mkF 2 b__law_inverse
set_option maxHeartbeats 0 in
theorem ok__law_inverse {Γ : Gam} (E : Env Γ) : CalD Γ 2 (He.fAd Γ.K ("_law_inverse", none)) ["_law_a", "_law_prime_here"] F__law_inverse := cal_mk (k := 1) E.d__law_inverse cb__law_inverse cs__law_inverse ck__law_inverse
    (sl_one (ss_ret (se_cal 0 (Cal.of (ok__law_power E) E.g__law_power) (sa_cons (se_var 0 0) (sa_cons (se_bin os_sub (se_var 1 1) (se_int)) (sa_cons (se_var 1 1) (sa_nil)))) (len_cons (len_cons (len_cons (len_nil)))))))
/-! _law_add -/
def c__law_add : Cfg := ⟨["_law_prime_here", "_law_a", "_law_first", "_law_second", "_law_x1", "_law_y1", "_law_x2", "_law_y2", "_law_slope", "_law_x3"], ["_law_prime_here", "_law_a", "_law_first", "_law_second", "_law_x1", "_law_y1", "_law_x2", "_law_y2", "_law_slope", "_law_x3"], ["_law_prime_here", "_law_a", "_law_first", "_law_second", "_law_x1", "_law_y1", "_law_x2", "_law_y2", "_law_slope", "_law_x3"], ["_law_inverse"], defScope (topS 24), true, true⟩
theorem ck__law_add : cfgOk c__law_add = true := by decide +kernel
theorem cs__law_add : FnScope c__law_add.N ["_law_prime_here", "_law_a", "_law_first", "_law_second"] (defScope (topS 24)) := ⟨rfl, rfl, rfl, by decide +kernel, rfl, by decide +kernel, by decide +kernel⟩
theorem cb__law_add : BindsN (topS 24) "_law_add" "_law_add" ["_law_prime_here", "_law_a", "_law_first", "_law_second"] := fun _ _ _ _ _ _ us hl => match us, hl with | [_, _, _, _], _ => rfl
abbrev b__law_add : XS :=
    sSeq (sIf (xB (xBin isW (xVar 2) (xK .non))) (sRet (xVar 3)) (sSkip))
    (sSeq (sIf (xB (xBin isW (xVar 3) (xK .non))) (sRet (xVar 2)) (sSkip))
    (sSeq (sAsg (gT (gsCons (gN 4) (gsCons (gN 5) (gsNil)))) (xVar 2))
    (sSeq (sAsg (gT (gsCons (gN 6) (gsCons (gN 7) (gsNil)))) (xVar 3))
    (sSeq (sIf (xAndT (xB (xBin eqW (xVar 4) (xVar 6))) (xB (xBin eqW (xBin modW (xBin addW (xVar 5) (xVar 7)) (xVar 0)) (xK (.int 0))))) (sRet (xK .non)) (sSkip))
    (sSeq (sIf (xB (xBin eqW (xVar 4) (xVar 6))) (sSet 8 (xBin modW (xBin mulW (xBin addW (xBin mulW (xBin mulW (xK (.int 3)) (xVar 4)) (xVar 4)) (xVar 1)) (xFn F__law_inverse (xCons (xBin mulW (xK (.int 2)) (xVar 5)) (xCons (xVar 0) (xNil))))) (xVar 0))) (sSet 8 (xBin modW (xBin mulW (xBin subW (xVar 7) (xVar 5)) (xFn F__law_inverse (xCons (xBin subW (xVar 6) (xVar 4)) (xCons (xVar 0) (xNil))))) (xVar 0))))
    (sSeq (sSet 9 (xBin modW (xBin subW (xBin subW (xBin mulW (xVar 8) (xVar 8)) (xVar 4)) (xVar 6)) (xVar 0)))
    (sRet (xTup (xCons (xVar 9) (xCons (xBin modW (xBin subW (xBin mulW (xVar 8) (xBin subW (xVar 4) (xVar 9))) (xVar 5)) (xVar 0)) (xNil)))))))))))
def F__law_add : List W → Hm → Out W := mkF 10 b__law_add
set_option maxHeartbeats 0 in
theorem ok__law_add {Γ : Gam} (E : Env Γ) : CalD Γ 3 (He.fAd Γ.K ("_law_add", none)) ["_law_prime_here", "_law_a", "_law_first", "_law_second"] F__law_add := cal_mk (k := 2) E.d__law_add cb__law_add cs__law_add ck__law_add
    (sl_cons (ss_if (st_cmp os_is (se_var 2 2) (se_non)) (sl_one (ss_ret (se_var 3 3))) (sl_nil))
    (sl_cons (ss_if (st_cmp os_is (se_var 3 3) (se_non)) (sl_one (ss_ret (se_var 2 2))) (sl_nil))
    (sl_cons (ss_asg (se_var 2 2) (sg_tup (sgs_cons (sg_name 4 4) (sgs_cons (sg_name 5 5) (sgs_nil))) (gs_lenS (gs_lenS (gs_len0)))))
    (sl_cons (ss_asg (se_var 3 3) (sg_tup (sgs_cons (sg_name 6 6) (sgs_cons (sg_name 7 7) (sgs_nil))) (gs_lenS (gs_lenS (gs_len0)))))
    (sl_cons (ss_if (st_w (sw_and (st_cmp os_eq (se_var 4 4) (se_var 6 6)) (sw_one (st_cmp os_eq (se_bin os_mod (se_bin os_add (se_var 5 5) (se_var 7 7)) (se_var 0 0)) (se_int))))) (sl_one (ss_ret (se_non))) (sl_nil))
    (sl_cons (ss_if (st_cmp os_eq (se_var 4 4) (se_var 6 6)) (sl_one (ss_set 8 8 (se_bin os_mod (se_bin os_mul (se_bin os_add (se_bin os_mul (se_bin os_mul (se_int) (se_var 4 4)) (se_var 4 4)) (se_var 1 1)) (se_cal 0 (Cal.of (ok__law_inverse E) E.g__law_inverse) (sa_cons (se_bin os_mul (se_int) (se_var 5 5)) (sa_cons (se_var 0 0) (sa_nil))) (len_cons (len_cons (len_nil))))) (se_var 0 0)))) (sl_one (ss_set 8 8 (se_bin os_mod (se_bin os_mul (se_bin os_sub (se_var 7 7) (se_var 5 5)) (se_cal 0 (Cal.of (ok__law_inverse E) E.g__law_inverse) (sa_cons (se_bin os_sub (se_var 6 6) (se_var 4 4)) (sa_cons (se_var 0 0) (sa_nil))) (len_cons (len_cons (len_nil))))) (se_var 0 0)))))
    (sl_cons (ss_set 9 9 (se_bin os_mod (se_bin os_sub (se_bin os_sub (se_bin os_mul (se_var 8 8) (se_var 8 8)) (se_var 4 4)) (se_var 6 6)) (se_var 0 0)))
    (sl_one (ss_ret (se_tup (sa_cons (se_var 9 9) (sa_cons (se_bin os_mod (se_bin os_sub (se_bin os_mul (se_var 8 8) (se_bin os_sub (se_var 4 4) (se_var 9 9))) (se_var 5 5)) (se_var 0 0)) (sa_nil)))))))))))))
/-! bezout -/
def c_bezout : Cfg := ⟨["a", "b", "first", "second", "q", "rest"], ["a", "b", "first", "second", "q", "rest"], ["a", "b", "first", "second", "q", "rest"], [], defScope (topS 9), true, true⟩
theorem ck_bezout : cfgOk c_bezout = true := by decide +kernel
theorem cs_bezout : FnScope c_bezout.N ["a", "b"] (defScope (topS 9)) := ⟨rfl, rfl, rfl, by decide +kernel, rfl, by decide +kernel, by decide +kernel⟩
theorem cb_bezout : BindsN (topS 9) "bezout" "bezout" ["a", "b"] := fun _ _ _ _ _ _ us hl => match us, hl with | [_, _], _ => rfl
abbrev b_bezout : XS :=
    sSeq (sSet 2 (xTup (xCons (xVar 0) (xCons (xK (.int 1)) (xCons (xK (.int 0)) (xNil))))))
    (sSeq (sSet 3 (xTup (xCons (xVar 1) (xCons (xK (.int 0)) (xCons (xK (.int 1)) (xNil))))))
    (sSeq (sWhile (xB (xBin neW (xBin ixW (xVar 3) (xK (.int 0))) (xK (.int 0)))) (sSeq (sSet 4 (xBin fdivW (xBin ixW (xVar 2) (xK (.int 0))) (xBin ixW (xVar 3) (xK (.int 0)))))
    (sSeq (sSet 5 (xTup (xCons (xBin subW (xBin ixW (xVar 2) (xK (.int 0))) (xBin mulW (xVar 4) (xBin ixW (xVar 3) (xK (.int 0))))) (xCons (xBin subW (xBin ixW (xVar 2) (xK (.int 1))) (xBin mulW (xVar 4) (xBin ixW (xVar 3) (xK (.int 1))))) (xCons (xBin subW (xBin ixW (xVar 2) (xK (.int 2))) (xBin mulW (xVar 4) (xBin ixW (xVar 3) (xK (.int 2))))) (xNil))))))
    (sSeq (sSet 2 (xVar 3))
    (sSet 3 (xVar 5))))) fuel)
    (sSeq (sIf (xB (xBin ltW (xBin ixW (xVar 2) (xK (.int 0))) (xK (.int 0)))) (sRet (xTup (xCons (xUn negW (xBin ixW (xVar 2) (xK (.int 0)))) (xCons (xUn negW (xBin ixW (xVar 2) (xK (.int 1)))) (xCons (xUn negW (xBin ixW (xVar 2) (xK (.int 2)))) (xNil)))))) (sSkip))
    (sRet (xVar 2)))))
def F_bezout : List W → Hm → Out W := mkF 6 b_bezout
set_option maxHeartbeats 0 in
theorem ok_bezout {Γ : Gam} (E : Env Γ) : CalD Γ 1 (He.fAd Γ.K ("bezout", none)) ["a", "b"] F_bezout := cal_mk (k := 0) E.d_bezout cb_bezout cs_bezout ck_bezout
    (sl_cons (ss_set 2 2 (se_tup (sa_cons (se_var 0 0) (sa_cons (se_int) (sa_cons (se_int) (sa_nil))))))
    (sl_cons (ss_set 3 3 (se_tup (sa_cons (se_var 1 1) (sa_cons (se_int) (sa_cons (se_int) (sa_nil))))))
    (sl_cons (ss_while (st_cmp os_ne (se_ix (se_var 3 3) (se_int)) (se_int)) (sl_cons (ss_set 4 4 (se_bin os_fdiv (se_ix (se_var 2 2) (se_int)) (se_ix (se_var 3 3) (se_int))))
    (sl_cons (ss_set 5 5 (se_tup (sa_cons (se_bin os_sub (se_ix (se_var 2 2) (se_int)) (se_bin os_mul (se_var 4 4) (se_ix (se_var 3 3) (se_int)))) (sa_cons (se_bin os_sub (se_ix (se_var 2 2) (se_int)) (se_bin os_mul (se_var 4 4) (se_ix (se_var 3 3) (se_int)))) (sa_cons (se_bin os_sub (se_ix (se_var 2 2) (se_int)) (se_bin os_mul (se_var 4 4) (se_ix (se_var 3 3) (se_int)))) (sa_nil))))))
    (sl_cons (ss_set 2 2 (se_var 3 3))
    (sl_one (ss_set 3 3 (se_var 5 5)))))))
    (sl_cons (ss_if (st_cmp os_lt (se_ix (se_var 2 2) (se_int)) (se_int)) (sl_one (ss_ret (se_tup (sa_cons (se_un us_neg (se_ix (se_var 2 2) (se_int))) (sa_cons (se_un us_neg (se_ix (se_var 2 2) (se_int))) (sa_cons (se_un us_neg (se_ix (se_var 2 2) (se_int))) (sa_nil))))))) (sl_nil))
    (sl_one (ss_ret (se_var 2 2)))))))
/-! inverse -/
def c_inverse : Cfg := ⟨["a", "modulus", "divisor", "factor", "_"], ["a", "modulus", "divisor", "factor", "_"], ["a", "modulus", "divisor", "factor", "_"], ["bezout", "NoInverse"], defScope (topS 10), true, true⟩
theorem ck_inverse : cfgOk c_inverse = true := by decide +kernel
theorem cs_inverse : FnScope c_inverse.N ["a", "modulus"] (defScope (topS 10)) := ⟨rfl, rfl, rfl, by decide +kernel, rfl, by decide +kernel, by decide +kernel⟩
theorem cb_inverse : BindsN (topS 10) "inverse" "inverse" ["a", "modulus"] := fun _ _ _ _ _ _ us hl => match us, hl with | [_, _], _ => rfl
abbrev b_inverse : XS :=
    sSeq (sAsg (gT (gsCons (gN 2) (gsCons (gN 3) (gsCons (gN 4) (gsNil))))) (xFn F_bezout (xCons (xBin modW (xVar 0) (xVar 1)) (xCons (xVar 1) (xNil)))))
    (sSeq (sIf (xB (xBin neW (xVar 2) (xK (.int 1)))) (sNever) (sSkip))
    (sRet (xBin modW (xVar 3) (xVar 1))))
def F_inverse : List W → Hm → Out W := mkF 5 b_inverse
set_option maxHeartbeats 0 in
theorem ok_inverse {Γ : Gam} (E : Env Γ) : CalD Γ 2 (He.fAd Γ.K ("inverse", none)) ["a", "modulus"] F_inverse := cal_mk (k := 1) E.d_inverse cb_inverse cs_inverse ck_inverse
    (sl_cons (ss_asg (se_cal 0 (Cal.of (ok_bezout E) E.g_bezout) (sa_cons (se_bin os_mod (se_var 0 0) (se_var 1 1)) (sa_cons (se_var 1 1) (sa_nil))) (len_cons (len_cons (len_nil)))) (sg_tup (sgs_cons (sg_name 2 2) (sgs_cons (sg_name 3 3) (sgs_cons (sg_name 4 4) (sgs_nil)))) (gs_lenS (gs_lenS (gs_lenS (gs_len0))))))
    (sl_cons (ss_if (st_cmp os_ne (se_var 2 2) (se_int)) (sl_one (ss_never)) (sl_nil))
    (sl_one (ss_ret (se_bin os_mod (se_var 3 3) (se_var 1 1))))))
/-! Curve.add -/
def c_Curve_add : Cfg := ⟨["self", "first", "second", "x1", "y1", "x2", "y2", "slope", "x3"], ["self", "first", "second", "x1", "y1", "x2", "y2", "slope", "x3"], ["self", "first", "second", "x1", "y1", "x2", "y2", "slope", "x3"], ["inverse"], defScope (inClass (topS 16) 4), true, true⟩
theorem ck_Curve_add : cfgOk c_Curve_add = true := by decide +kernel
theorem cs_Curve_add : FnScope c_Curve_add.N ["self", "first", "second"] (defScope (inClass (topS 16) 4)) := ⟨rfl, rfl, rfl, by decide +kernel, rfl, by decide +kernel, by decide +kernel⟩
theorem cb_Curve_add : BindsN (inClass (topS 16) 4) "add" "Curve.add" ["self", "first", "second"] := fun _ _ _ _ _ _ us hl => match us, hl with | [_, _, _], _ => rfl
abbrev b_Curve_add : XS :=
    sSeq (sIf (xB (xBin isW (xVar 1) (xK .non))) (sRet (xVar 2)) (sSkip))
    (sSeq (sIf (xB (xBin isW (xVar 2) (xK .non))) (sRet (xVar 1)) (sSkip))
    (sSeq (sAsg (gT (gsCons (gN 3) (gsCons (gN 4) (gsNil)))) (xVar 1))
    (sSeq (sAsg (gT (gsCons (gN 5) (gsCons (gN 6) (gsNil)))) (xVar 2))
    (sSeq (sIf (xAndT (xB (xBin eqW (xVar 3) (xVar 5))) (xB (xBin eqW (xBin modW (xBin addW (xVar 4) (xVar 6)) (xFld [4] "prime" (xVar 0))) (xK (.int 0))))) (sRet (xK .non)) (sSkip))
    (sSeq (sIf (xB (xBin eqW (xVar 3) (xVar 5))) (sSet 7 (xBin mulW (xBin addW (xBin mulW (xBin mulW (xK (.int 3)) (xVar 3)) (xVar 3)) (xFld [4] "a" (xVar 0))) (xFn F_inverse (xCons (xBin mulW (xK (.int 2)) (xVar 4)) (xCons (xFld [4] "prime" (xVar 0)) (xNil)))))) (sSet 7 (xBin mulW (xBin subW (xVar 6) (xVar 4)) (xFn F_inverse (xCons (xBin subW (xVar 5) (xVar 3)) (xCons (xFld [4] "prime" (xVar 0)) (xNil)))))))
    (sSeq (sSet 8 (xBin modW (xBin subW (xBin subW (xBin mulW (xVar 7) (xVar 7)) (xVar 3)) (xVar 5)) (xFld [4] "prime" (xVar 0))))
    (sRet (xTup (xCons (xVar 8) (xCons (xBin modW (xBin subW (xBin mulW (xVar 7) (xBin subW (xVar 3) (xVar 8))) (xVar 4)) (xFld [4] "prime" (xVar 0))) (xNil)))))))))))
def F_Curve_add : List W → Hm → Out W := mkF 9 b_Curve_add
set_option maxHeartbeats 0 in
theorem ok_Curve_add {Γ : Gam} (E : Env Γ) : CalD Γ 3 (He.fAd Γ.K ("Curve", some "add")) ["self", "first", "second"] F_Curve_add := cal_mk (k := 2) E.d_Curve_add cb_Curve_add cs_Curve_add ck_Curve_add
    (sl_cons (ss_if (st_cmp os_is (se_var 1 1) (se_non)) (sl_one (ss_ret (se_var 2 2))) (sl_nil))
    (sl_cons (ss_if (st_cmp os_is (se_var 2 2) (se_non)) (sl_one (ss_ret (se_var 1 1))) (sl_nil))
    (sl_cons (ss_asg (se_var 1 1) (sg_tup (sgs_cons (sg_name 3 3) (sgs_cons (sg_name 4 4) (sgs_nil))) (gs_lenS (gs_lenS (gs_len0)))))
    (sl_cons (ss_asg (se_var 2 2) (sg_tup (sgs_cons (sg_name 5 5) (sgs_cons (sg_name 6 6) (sgs_nil))) (gs_lenS (gs_lenS (gs_len0)))))
    (sl_cons (ss_if (st_w (sw_and (st_cmp os_eq (se_var 3 3) (se_var 5 5)) (sw_one (st_cmp os_eq (se_bin os_mod (se_bin os_add (se_var 4 4) (se_var 6 6)) (se_fld (FldOk.cons E.c_Curve E.n_Curve_prime (FldOk.nil)) (se_var 0 0))) (se_int))))) (sl_one (ss_ret (se_non))) (sl_nil))
    (sl_cons (ss_if (st_cmp os_eq (se_var 3 3) (se_var 5 5)) (sl_one (ss_set 7 7 (se_bin os_mul (se_bin os_add (se_bin os_mul (se_bin os_mul (se_int) (se_var 3 3)) (se_var 3 3)) (se_fld (FldOk.cons E.c_Curve E.n_Curve_a (FldOk.nil)) (se_var 0 0))) (se_cal 0 (Cal.of (ok_inverse E) E.g_inverse) (sa_cons (se_bin os_mul (se_int) (se_var 4 4)) (sa_cons (se_fld (FldOk.cons E.c_Curve E.n_Curve_prime (FldOk.nil)) (se_var 0 0)) (sa_nil))) (len_cons (len_cons (len_nil))))))) (sl_one (ss_set 7 7 (se_bin os_mul (se_bin os_sub (se_var 6 6) (se_var 4 4)) (se_cal 0 (Cal.of (ok_inverse E) E.g_inverse) (sa_cons (se_bin os_sub (se_var 5 5) (se_var 3 3)) (sa_cons (se_fld (FldOk.cons E.c_Curve E.n_Curve_prime (FldOk.nil)) (se_var 0 0)) (sa_nil))) (len_cons (len_cons (len_nil))))))))
    (sl_cons (ss_set 8 8 (se_bin os_mod (se_bin os_sub (se_bin os_sub (se_bin os_mul (se_var 7 7) (se_var 7 7)) (se_var 3 3)) (se_var 5 5)) (se_fld (FldOk.cons E.c_Curve E.n_Curve_prime (FldOk.nil)) (se_var 0 0))))
    (sl_one (ss_ret (se_tup (sa_cons (se_var 8 8) (sa_cons (se_bin os_mod (se_bin os_sub (se_bin os_mul (se_var 7 7) (se_bin os_sub (se_var 3 3) (se_var 8 8))) (se_var 4 4)) (se_fld (FldOk.cons E.c_Curve E.n_Curve_prime (FldOk.nil)) (se_var 0 0))) (sa_nil)))))))))))))
/-! _law_moved -/
def c__law_moved : Cfg := ⟨["_law_prime_here", "_law_u", "_law_point"], ["_law_prime_here", "_law_u", "_law_point"], ["_law_prime_here", "_law_u", "_law_point"], [], defScope (topS 29), true, true⟩
theorem ck__law_moved : cfgOk c__law_moved = true := by decide +kernel
theorem cs__law_moved : FnScope c__law_moved.N ["_law_prime_here", "_law_u", "_law_point"] (defScope (topS 29)) := ⟨rfl, rfl, rfl, by decide +kernel, rfl, by decide +kernel, by decide +kernel⟩
theorem cb__law_moved : BindsN (topS 29) "_law_moved" "_law_moved" ["_law_prime_here", "_law_u", "_law_point"] := fun _ _ _ _ _ _ us hl => match us, hl with | [_, _, _], _ => rfl
abbrev b__law_moved : XS :=
    sSeq (sIf (xB (xBin isW (xVar 2) (xK .non))) (sRet (xK .non)) (sSkip))
    (sRet (xTup (xCons (xBin modW (xBin mulW (xBin mulW (xBin ixW (xVar 2) (xK (.int 0))) (xVar 1)) (xVar 1)) (xVar 0)) (xCons (xBin modW (xBin mulW (xBin mulW (xBin mulW (xBin ixW (xVar 2) (xK (.int 1))) (xVar 1)) (xVar 1)) (xVar 1)) (xVar 0)) (xNil)))))
def F__law_moved : List W → Hm → Out W := mkF 3 b__law_moved
set_option maxHeartbeats 0 in
theorem ok__law_moved {Γ : Gam} (E : Env Γ) : CalD Γ 1 (He.fAd Γ.K ("_law_moved", none)) ["_law_prime_here", "_law_u", "_law_point"] F__law_moved := cal_mk (k := 0) E.d__law_moved cb__law_moved cs__law_moved ck__law_moved
    (sl_cons (ss_if (st_cmp os_is (se_var 2 2) (se_non)) (sl_one (ss_ret (se_non))) (sl_nil))
    (sl_one (ss_ret (se_tup (sa_cons (se_bin os_mod (se_bin os_mul (se_bin os_mul (se_ix (se_var 2 2) (se_int)) (se_var 1 1)) (se_var 1 1)) (se_var 0 0)) (sa_cons (se_bin os_mod (se_bin os_mul (se_bin os_mul (se_bin os_mul (se_ix (se_var 2 2) (se_int)) (se_var 1 1)) (se_var 1 1)) (se_var 1 1)) (se_var 0 0)) (sa_nil)))))))
/-! Curve.right_side -/
def c_Curve_right_side : Cfg := ⟨["self", "x"], ["self", "x"], ["self", "x"], [], defScope (inClass (topS 16) 1), true, true⟩
theorem ck_Curve_right_side : cfgOk c_Curve_right_side = true := by decide +kernel
theorem cs_Curve_right_side : FnScope c_Curve_right_side.N ["self", "x"] (defScope (inClass (topS 16) 1)) := ⟨rfl, rfl, rfl, by decide +kernel, rfl, by decide +kernel, by decide +kernel⟩
theorem cb_Curve_right_side : BindsN (inClass (topS 16) 1) "right_side" "Curve.right_side" ["self", "x"] := fun _ _ _ _ _ _ us hl => match us, hl with | [_, _], _ => rfl
abbrev b_Curve_right_side : XS :=
    sRet (xBin modW (xBin addW (xBin addW (xBin mulW (xBin mulW (xVar 1) (xVar 1)) (xVar 1)) (xBin mulW (xFld [4] "a" (xVar 0)) (xVar 1))) (xFld [4] "b" (xVar 0))) (xFld [4] "prime" (xVar 0)))
def F_Curve_right_side : List W → Hm → Out W := mkF 2 b_Curve_right_side
set_option maxHeartbeats 0 in
theorem ok_Curve_right_side {Γ : Gam} (E : Env Γ) : CalD Γ 1 (He.fAd Γ.K ("Curve", some "right_side")) ["self", "x"] F_Curve_right_side := cal_mk (k := 0) E.d_Curve_right_side cb_Curve_right_side cs_Curve_right_side ck_Curve_right_side
    (sl_one (ss_ret (se_bin os_mod (se_bin os_add (se_bin os_add (se_bin os_mul (se_bin os_mul (se_var 1 1) (se_var 1 1)) (se_var 1 1)) (se_bin os_mul (se_fld (FldOk.cons E.c_Curve E.n_Curve_a (FldOk.nil)) (se_var 0 0)) (se_var 1 1))) (se_fld (FldOk.cons E.c_Curve E.n_Curve_b (FldOk.nil)) (se_var 0 0))) (se_fld (FldOk.cons E.c_Curve E.n_Curve_prime (FldOk.nil)) (se_var 0 0)))))
/-! Curve.has -/
def c_Curve_has : Cfg := ⟨["self", "point", "number"], ["self", "point", "number"], ["self", "point", "number"], ["isinstance", "tuple", "len", "int", "bool"], defScope (inClass (topS 16) 2), true, true⟩
theorem ck_Curve_has : cfgOk c_Curve_has = true := by decide +kernel
theorem cs_Curve_has : FnScope c_Curve_has.N ["self", "point"] (defScope (inClass (topS 16) 2)) := ⟨rfl, rfl, rfl, by decide +kernel, rfl, by decide +kernel, by decide +kernel⟩
theorem cb_Curve_has : BindsN (inClass (topS 16) 2) "has" "Curve.has" ["self", "point"] := fun _ _ _ _ _ _ us hl => match us, hl with | [_, _], _ => rfl
abbrev b_Curve_has : XS :=
    sSeq (sIf (xB (xBin isW (xVar 1) (xK .non))) (sRet (xK (.bl true))) (sSkip))
    (sSeq (sIf (xOrT (xNotT (xB (xIsi "tuple" (xVar 1)))) (xB (xBin neW (xCall lenW (xCons (xVar 1) (xNil))) (xK (.int 2))))) (sRet (xK (.bl false))) (sSkip))
    (sSeq (sFor (iAny (xVar 1)) (gN 2) (sSeq (sIf (xOrT (xNotT (xB (xIsi "int" (xVar 2)))) (xB (xIsi "bool" (xVar 2)))) (sRet (xK (.bl false))) (sSkip))
    (sIf (xOrT (xB (xBin ltW (xVar 2) (xK (.int 0)))) (xB (xBin geW (xVar 2) (xFld [4] "prime" (xVar 0))))) (sRet (xK (.bl false))) (sSkip))))
    (sRet (xBin eqW (xBin modW (xBin subW (xBin mulW (xBin ixW (xVar 1) (xK (.int 1))) (xBin ixW (xVar 1) (xK (.int 1)))) (xMet [(4, F_Curve_right_side)] "right_side" (xVar 0) (xCons (xBin ixW (xVar 1) (xK (.int 0))) (xNil)))) (xFld [4] "prime" (xVar 0))) (xK (.int 0))))))
def F_Curve_has : List W → Hm → Out W := mkF 3 b_Curve_has
set_option maxHeartbeats 0 in
theorem ok_Curve_has {Γ : Gam} (E : Env Γ) : CalD Γ 2 (He.fAd Γ.K ("Curve", some "has")) ["self", "point"] F_Curve_has := cal_mk (k := 1) E.d_Curve_has cb_Curve_has cs_Curve_has ck_Curve_has
    (sl_cons (ss_if (st_cmp os_is (se_var 1 1) (se_non)) (sl_one (ss_ret (se_bl))) (sl_nil))
    (sl_cons (ss_if (st_w (sw_or (st_not (st_val (e_is_tuple 0 1 E.B (se_var 1 1)))) (sw_one (st_cmp os_ne (e_len 2 E.B (sa_cons (se_var 1 1) (sa_nil))) (se_int))))) (sl_one (ss_ret (se_bl))) (sl_nil))
    (sl_cons (ss_for (si_any (se_var 1 1)) (sg_name 2 2) (sl_cons (ss_if (st_w (sw_or (st_not (st_val (e_is_int 0 3 E.B (se_var 2 2)))) (sw_one (st_val (e_is_bool 0 4 E.B (se_var 2 2)))))) (sl_one (ss_ret (se_bl))) (sl_nil))
    (sl_one (ss_if (st_w (sw_or (st_cmp os_lt (se_var 2 2) (se_int)) (sw_one (st_cmp os_ge (se_var 2 2) (se_fld (FldOk.cons E.c_Curve E.n_Curve_prime (FldOk.nil)) (se_var 0 0)))))) (sl_one (ss_ret (se_bl))) (sl_nil)))))
    (sl_one (ss_ret (se_cmp os_eq (se_bin os_mod (se_bin os_sub (se_bin os_mul (se_ix (se_var 1 1) (se_int)) (se_ix (se_var 1 1) (se_int))) (se_met (j := 1) (MetOk.cons E.c_Curve E.me_Curve_right_side (ok_Curve_right_side E) rfl (by decide) (MetOk.nil)) (se_var 0 0) (sa_cons (se_ix (se_var 1 1) (se_int)) (sa_nil)) (len_cons (len_nil)))) (se_fld (FldOk.cons E.c_Curve E.n_Curve_prime (FldOk.nil)) (se_var 0 0))) (se_int)))))))
/-! Curve.negate -/
def c_Curve_negate : Cfg := ⟨["self", "point"], ["self", "point"], ["self", "point"], [], defScope (inClass (topS 16) 3), true, true⟩
theorem ck_Curve_negate : cfgOk c_Curve_negate = true := by decide +kernel
theorem cs_Curve_negate : FnScope c_Curve_negate.N ["self", "point"] (defScope (inClass (topS 16) 3)) := ⟨rfl, rfl, rfl, by decide +kernel, rfl, by decide +kernel, by decide +kernel⟩
theorem cb_Curve_negate : BindsN (inClass (topS 16) 3) "negate" "Curve.negate" ["self", "point"] := fun _ _ _ _ _ _ us hl => match us, hl with | [_, _], _ => rfl
abbrev b_Curve_negate : XS :=
    sSeq (sIf (xB (xBin isW (xVar 1) (xK .non))) (sRet (xK .non)) (sSkip))
    (sRet (xTup (xCons (xBin ixW (xVar 1) (xK (.int 0))) (xCons (xBin modW (xUn negW (xBin ixW (xVar 1) (xK (.int 1)))) (xFld [4] "prime" (xVar 0))) (xNil)))))
def F_Curve_negate : List W → Hm → Out W := mkF 2 b_Curve_negate
set_option maxHeartbeats 0 in
theorem ok_Curve_negate {Γ : Gam} (E : Env Γ) : CalD Γ 1 (He.fAd Γ.K ("Curve", some "negate")) ["self", "point"] F_Curve_negate := cal_mk (k := 0) E.d_Curve_negate cb_Curve_negate cs_Curve_negate ck_Curve_negate
    (sl_cons (ss_if (st_cmp os_is (se_var 1 1) (se_non)) (sl_one (ss_ret (se_non))) (sl_nil))
    (sl_one (ss_ret (se_tup (sa_cons (se_ix (se_var 1 1) (se_int)) (sa_cons (se_bin os_mod (se_un us_neg (se_ix (se_var 1 1) (se_int))) (se_fld (FldOk.cons E.c_Curve E.n_Curve_prime (FldOk.nil)) (se_var 0 0))) (sa_nil)))))))
/-! Curve.multiply -/
def c_Curve_multiply : Cfg := ⟨["self", "factor", "point", "result"], ["self", "factor", "point", "result"], ["self", "factor", "point", "result"], [], defScope (inClass (topS 16) 6), true, true⟩
theorem ck_Curve_multiply : cfgOk c_Curve_multiply = true := by decide +kernel
theorem cs_Curve_multiply : FnScope c_Curve_multiply.N ["self", "factor", "point"] (defScope (inClass (topS 16) 6)) := ⟨rfl, rfl, rfl, by decide +kernel, rfl, by decide +kernel, by decide +kernel⟩
theorem cb_Curve_multiply : BindsN (inClass (topS 16) 6) "multiply" "Curve.multiply" ["self", "factor", "point"] := fun _ _ _ _ _ _ us hl => match us, hl with | [_, _, _], _ => rfl
abbrev b_Curve_multiply (rec : List W → Hm → Out W) : XS :=
    sSeq (sIf (xB (xBin ltW (xVar 1) (xK (.int 0)))) (sRet (xMet [(4, rec)] "multiply" (xVar 0) (xCons (xUn negW (xVar 1)) (xCons (xMet [(4, F_Curve_negate)] "negate" (xVar 0) (xCons (xVar 2) (xNil))) (xNil))))) (sSkip))
    (sSeq (sSet 3 (xK .non))
    (sSeq (sWhile (xB (xBin gtW (xVar 1) (xK (.int 0)))) (sSeq (sIf (xB (xBin eqW (xBin andW (xVar 1) (xK (.int 1))) (xK (.int 1)))) (sSet 3 (xMet [(4, F_Curve_add)] "add" (xVar 0) (xCons (xVar 3) (xCons (xVar 2) (xNil))))) (sSkip))
    (sSeq (sSet 2 (xMet [(4, F_Curve_add)] "add" (xVar 0) (xCons (xVar 2) (xCons (xVar 2) (xNil)))))
    (sSet 1 (xBin shrW (xVar 1) (xK (.int 1)))))) fuel)
    (sRet (xVar 3))))
def F_Curve_multiply_1 : List W → Hm → Out W := mkF 4 (b_Curve_multiply fun _ _ => .bad)
def F_Curve_multiply : List W → Hm → Out W := mkF 4 (b_Curve_multiply F_Curve_multiply_1)
set_option maxHeartbeats 0 in
theorem ok_Curve_multiply_1 {Γ : Gam} (E : Env Γ) : CalD Γ 4 (He.fAd Γ.K ("Curve", some "multiply")) ["self", "factor", "point"] F_Curve_multiply_1 := cal_mk (k := 3) E.d_Curve_multiply cb_Curve_multiply cs_Curve_multiply ck_Curve_multiply
    (sl_cons (ss_if (st_cmp os_lt (se_var 1 1) (se_int)) (sl_one (ss_ret (se_met (j := 3) (MetOk.cons E.c_Curve E.me_Curve_multiply (cal_bot E.d_Curve_multiply cb_Curve_multiply) rfl (by decide) (MetOk.nil)) (se_var 0 0) (sa_cons (se_un us_neg (se_var 1 1)) (sa_cons (se_met (j := 3) (MetOk.cons E.c_Curve E.me_Curve_negate (ok_Curve_negate E) rfl (by decide) (MetOk.nil)) (se_var 0 0) (sa_cons (se_var 2 2) (sa_nil)) (len_cons (len_nil))) (sa_nil))) (len_cons (len_cons (len_nil)))))) (sl_nil))
    (sl_cons (ss_set 3 3 (se_non))
    (sl_cons (ss_while (st_cmp os_gt (se_var 1 1) (se_int)) (sl_cons (ss_if (st_cmp os_eq (se_bin os_and (se_var 1 1) (se_int)) (se_int)) (sl_one (ss_set 3 3 (se_met (j := 3) (MetOk.cons E.c_Curve E.me_Curve_add (ok_Curve_add E) rfl (by decide) (MetOk.nil)) (se_var 0 0) (sa_cons (se_var 3 3) (sa_cons (se_var 2 2) (sa_nil))) (len_cons (len_cons (len_nil)))))) (sl_nil))
    (sl_cons (ss_set 2 2 (se_met (j := 3) (MetOk.cons E.c_Curve E.me_Curve_add (ok_Curve_add E) rfl (by decide) (MetOk.nil)) (se_var 0 0) (sa_cons (se_var 2 2) (sa_cons (se_var 2 2) (sa_nil))) (len_cons (len_cons (len_nil)))))
    (sl_one (ss_set 1 1 (se_bin os_shr (se_var 1 1) (se_int)))))))
    (sl_one (ss_ret (se_var 3 3))))))
set_option maxHeartbeats 0 in
theorem ok_Curve_multiply {Γ : Gam} (E : Env Γ) : CalD Γ 5 (He.fAd Γ.K ("Curve", some "multiply")) ["self", "factor", "point"] F_Curve_multiply := cal_mk (k := 4) E.d_Curve_multiply cb_Curve_multiply cs_Curve_multiply ck_Curve_multiply
    (sl_cons (ss_if (st_cmp os_lt (se_var 1 1) (se_int)) (sl_one (ss_ret (se_met (j := 4) (MetOk.cons E.c_Curve E.me_Curve_multiply (ok_Curve_multiply_1 E) rfl (by decide) (MetOk.nil)) (se_var 0 0) (sa_cons (se_un us_neg (se_var 1 1)) (sa_cons (se_met (j := 4) (MetOk.cons E.c_Curve E.me_Curve_negate (ok_Curve_negate E) rfl (by decide) (MetOk.nil)) (se_var 0 0) (sa_cons (se_var 2 2) (sa_nil)) (len_cons (len_nil))) (sa_nil))) (len_cons (len_cons (len_nil)))))) (sl_nil))
    (sl_cons (ss_set 3 3 (se_non))
    (sl_cons (ss_while (st_cmp os_gt (se_var 1 1) (se_int)) (sl_cons (ss_if (st_cmp os_eq (se_bin os_and (se_var 1 1) (se_int)) (se_int)) (sl_one (ss_set 3 3 (se_met (j := 4) (MetOk.cons E.c_Curve E.me_Curve_add (ok_Curve_add E) rfl (by decide) (MetOk.nil)) (se_var 0 0) (sa_cons (se_var 3 3) (sa_cons (se_var 2 2) (sa_nil))) (len_cons (len_cons (len_nil)))))) (sl_nil))
    (sl_cons (ss_set 2 2 (se_met (j := 4) (MetOk.cons E.c_Curve E.me_Curve_add (ok_Curve_add E) rfl (by decide) (MetOk.nil)) (se_var 0 0) (sa_cons (se_var 2 2) (sa_cons (se_var 2 2) (sa_nil))) (len_cons (len_cons (len_nil)))))
    (sl_one (ss_set 1 1 (se_bin os_shr (se_var 1 1) (se_int)))))))
    (sl_one (ss_ret (se_var 3 3))))))
/-! _law_cell -/
def c__law_cell : Cfg := ⟨["_law_script", "_law_k"], ["_law_script", "_law_k"], ["_law_script", "_law_k"], ["len", "int"], defScope (topS 18), true, true⟩
theorem ck__law_cell : cfgOk c__law_cell = true := by decide +kernel
theorem cs__law_cell : FnScope c__law_cell.N ["_law_script", "_law_k"] (defScope (topS 18)) := ⟨rfl, rfl, rfl, by decide +kernel, rfl, by decide +kernel, by decide +kernel⟩
theorem cb__law_cell : BindsN (topS 18) "_law_cell" "_law_cell" ["_law_script", "_law_k"] := fun _ _ _ _ _ _ us hl => match us, hl with | [_, _], _ => rfl
abbrev b__law_cell : XS :=
    sSeq (sIf (xB (xBin ltW (xVar 1) (xCall lenW (xCons (xVar 0) (xNil))))) (sRet (xCall intW (xCons (xBin ixW (xVar 0) (xVar 1)) (xNil)))) (sSkip))
    (sRet (xK (.int 0)))
def F__law_cell : List W → Hm → Out W := mkF 2 b__law_cell
set_option maxHeartbeats 0 in
theorem ok__law_cell {Γ : Gam} (E : Env Γ) : CalD Γ 1 (He.fAd Γ.K ("_law_cell", none)) ["_law_script", "_law_k"] F__law_cell := cal_mk (k := 0) E.d__law_cell cb__law_cell cs__law_cell ck__law_cell
    (sl_cons (ss_if (st_cmp os_lt (se_var 1 1) (e_len 0 E.B (sa_cons (se_var 0 0) (sa_nil)))) (sl_one (ss_ret (e_int 1 E.B (sa_cons (se_ix (se_var 0 0) (se_var 1 1)) (sa_nil))))) (sl_nil))
    (sl_one (ss_ret (se_int))))
/-! count_points -/
def c_count_points : Cfg := ⟨["curve", "roots", "y", "square", "x"], ["curve", "roots", "y", "square"], ["curve", "roots", "y", "square"], ["COUNT_LIMIT", "OutOfRange", "range", "sum"], defScope (topS 7), true, true⟩
theorem ck_count_points : cfgOk c_count_points = true := by decide +kernel
theorem cs_count_points : FnScope c_count_points.N ["curve"] (defScope (topS 7)) := ⟨rfl, rfl, rfl, by decide +kernel, rfl, by decide +kernel, by decide +kernel⟩
theorem cb_count_points : BindsN (topS 7) "count_points" "count_points" ["curve"] := fun _ _ _ _ _ _ us hl => match us, hl with | [_], _ => rfl
abbrev b_count_points : XS :=
    sSeq (sIf (xB (xBin geW (xFld [4] "prime" (xVar 0)) (xK (w_COUNT_LIMIT)))) (sNever) (sSkip))
    (sSeq (sSet 1 (xBin mulW (xLst (xCons (xK (.int 0)) (xNil))) (xFld [4] "prime" (xVar 0))))
    (sSeq (sFor (iRng1 (xCons (xFld [4] "prime" (xVar 0)) (xNil))) (gN 2) (sSeq (sSet 3 (xBin modW (xBin mulW (xVar 2) (xVar 2)) (xFld [4] "prime" (xVar 0))))
    (sSub (xVar 1) (xVar 3) (xBin addW (xBin ixW (xVar 1) (xVar 3)) (xK (.int 1))) setW)))
    (sRet (xBin addW (xK (.int 1)) (xCall sumW (xCons (xComp (iRng1 (xCons (xFld [4] "prime" (xVar 0)) (xNil))) (gN 4) (xTrue) (xBin ixW (xVar 1) (xMet [(4, F_Curve_right_side)] "right_side" (xVar 0) (xCons (xVar 4) (xNil)))) [4]) (xNil)))))))
def F_count_points : List W → Hm → Out W := mkF 5 b_count_points
set_option maxHeartbeats 0 in
theorem ok_count_points {Γ : Gam} (E : Env Γ) : CalD Γ 2 (He.fAd Γ.K ("count_points", none)) ["curve"] F_count_points := cal_mk (k := 1) E.d_count_points cb_count_points cs_count_points ck_count_points
    (sl_cons (ss_if (st_cmp os_ge (se_fld (FldOk.cons E.c_Curve E.n_Curve_prime (FldOk.nil)) (se_var 0 0)) (se_glo 0 E.k_COUNT_LIMIT)) (sl_one (ss_never)) (sl_nil))
    (sl_cons (ss_set 1 1 (se_bin os_mul (se_lst (sa_cons (se_int) (sa_nil))) (se_fld (FldOk.cons E.c_Curve E.n_Curve_prime (FldOk.nil)) (se_var 0 0))))
    (sl_cons (ss_for (si_rng1 2 E.B (sa_cons (se_fld (FldOk.cons E.c_Curve E.n_Curve_prime (FldOk.nil)) (se_var 0 0)) (sa_nil))) (sg_name 2 2) (sl_cons (ss_set 3 3 (se_bin os_mod (se_bin os_mul (se_var 2 2) (se_var 2 2)) (se_fld (FldOk.cons E.c_Curve E.n_Curve_prime (FldOk.nil)) (se_var 0 0))))
    (sl_one (ss_sub ss_setW (se_var 1 1) (se_var 3 3) (se_bin os_add (se_ix (se_var 1 1) (se_var 3 3)) (se_int))))))
    (sl_one (ss_ret (se_bin os_add (se_int) (e_sum 3 E.B (sa_cons (se_lc [("x", 4)] ["x", "roots", "curve"] ["x"] [] (si_rng1 2 E.B (sa_cons (se_fld (FldOk.cons E.c_Curve E.n_Curve_prime (FldOk.nil)) (se_var 0 0)) (sa_nil))) (so_name 4 0) (sts_nil) (se_ix (se_var 1 1) (se_met (j := 1) (MetOk.cons E.c_Curve E.me_Curve_right_side (ok_Curve_right_side E) rfl (by decide) (MetOk.nil)) (se_var 0 2) (sa_cons (se_var 4 0) (sa_nil)) (len_cons (len_nil)))) (by decide +kernel) (by decide +kernel)) (sa_nil)))))))))
/-! Curve.__init__ -/
def c_Curve___init__ : Cfg := ⟨["self", "prime", "a", "b"], ["self", "prime", "a", "b"], ["self", "prime", "a", "b"], ["OutOfRange", "Refused"], defScope (inClass (topS 16) 0), true, true⟩
theorem ck_Curve___init__ : cfgOk c_Curve___init__ = true := by decide +kernel
theorem cs_Curve___init__ : FnScope c_Curve___init__.N ["self", "prime", "a", "b"] (defScope (inClass (topS 16) 0)) := ⟨rfl, rfl, rfl, by decide +kernel, rfl, by decide +kernel, by decide +kernel⟩
theorem cb_Curve___init__ : BindsN (inClass (topS 16) 0) "__init__" "Curve.__init__" ["self", "prime", "a", "b"] := fun _ _ _ _ _ _ us hl => match us, hl with | [_, _, _, _], _ => rfl
abbrev b_Curve___init__ : XS :=
    sSeq (sIf (xOrT (xB (xBin ltW (xVar 1) (xK (.int 5)))) (xB (xBin eqW (xBin andW (xVar 1) (xK (.int 1))) (xK (.int 0))))) (sNever) (sSkip))
    (sSeq (sFldSet [4] "prime" (xVar 0) (xVar 1))
    (sSeq (sFldSet [4] "a" (xVar 0) (xBin modW (xVar 2) (xVar 1)))
    (sSeq (sFldSet [4] "b" (xVar 0) (xBin modW (xVar 3) (xVar 1)))
    (sIf (xB (xBin eqW (xBin modW (xBin addW (xBin mulW (xBin mulW (xBin mulW (xK (.int 4)) (xFld [4] "a" (xVar 0))) (xFld [4] "a" (xVar 0))) (xFld [4] "a" (xVar 0))) (xBin mulW (xBin mulW (xK (.int 27)) (xFld [4] "b" (xVar 0))) (xFld [4] "b" (xVar 0)))) (xVar 1)) (xK (.int 0)))) (sNever) (sSkip)))))
def F_Curve___init__ : List W → Hm → Out W := mkF 4 b_Curve___init__
set_option maxHeartbeats 0 in
theorem ok_Curve___init__ {Γ : Gam} (E : Env Γ) : CalD Γ 1 (He.fAd Γ.K ("Curve", some "__init__")) ["self", "prime", "a", "b"] F_Curve___init__ := cal_mk (k := 0) E.d_Curve___init__ cb_Curve___init__ cs_Curve___init__ ck_Curve___init__
    (sl_cons (ss_if (st_w (sw_or (st_cmp os_lt (se_var 1 1) (se_int)) (sw_one (st_cmp os_eq (se_bin os_and (se_var 1 1) (se_int)) (se_int))))) (sl_one (ss_never)) (sl_nil))
    (sl_cons (ss_fld (FldOk.cons E.c_Curve E.n_Curve_prime (FldOk.nil)) (se_var 0 0) (se_var 1 1))
    (sl_cons (ss_fld (FldOk.cons E.c_Curve E.n_Curve_a (FldOk.nil)) (se_var 0 0) (se_bin os_mod (se_var 2 2) (se_var 1 1)))
    (sl_cons (ss_fld (FldOk.cons E.c_Curve E.n_Curve_b (FldOk.nil)) (se_var 0 0) (se_bin os_mod (se_var 3 3) (se_var 1 1)))
    (sl_one (ss_if (st_cmp os_eq (se_bin os_mod (se_bin os_add (se_bin os_mul (se_bin os_mul (se_bin os_mul (se_int) (se_fld (FldOk.cons E.c_Curve E.n_Curve_a (FldOk.nil)) (se_var 0 0))) (se_fld (FldOk.cons E.c_Curve E.n_Curve_a (FldOk.nil)) (se_var 0 0))) (se_fld (FldOk.cons E.c_Curve E.n_Curve_a (FldOk.nil)) (se_var 0 0))) (se_bin os_mul (se_bin os_mul (se_int) (se_fld (FldOk.cons E.c_Curve E.n_Curve_b (FldOk.nil)) (se_var 0 0))) (se_fld (FldOk.cons E.c_Curve E.n_Curve_b (FldOk.nil)) (se_var 0 0)))) (se_var 1 1)) (se_int)) (sl_one (ss_never)) (sl_nil)))))))
/-! _law_residue -/
def c__law_residue : Cfg := ⟨["_law_cell_here", "_law_prime_here", "_law_rest"], ["_law_cell_here", "_law_prime_here", "_law_rest"], ["_law_cell_here", "_law_prime_here", "_law_rest"], ["abs"], defScope (topS 22), true, true⟩
theorem ck__law_residue : cfgOk c__law_residue = true := by decide +kernel
theorem cs__law_residue : FnScope c__law_residue.N ["_law_cell_here", "_law_prime_here"] (defScope (topS 22)) := ⟨rfl, rfl, rfl, by decide +kernel, rfl, by decide +kernel, by decide +kernel⟩
theorem cb__law_residue : BindsN (topS 22) "_law_residue" "_law_residue" ["_law_cell_here", "_law_prime_here"] := fun _ _ _ _ _ _ us hl => match us, hl with | [_, _], _ => rfl
abbrev b__law_residue : XS :=
    sSeq (sSet 2 (xCall absW (xCons (xVar 0) (xNil))))
    (sSeq (sIf (xB (xBin geW (xVar 2) (xBin powW (xK (.int 10)) (xK (.int 18))))) (sRet (xBin modW (xVar 2) (xVar 1))) (sSkip))
    (sSeq (sIf (xB (xBin eqW (xBin modW (xVar 2) (xK (.int 3))) (xK (.int 1)))) (sRet (xBin modW (xBin ixW (xLst (xCons (xK (.int 0)) (xCons (xK (.int 1)) (xCons (xK (.int 2)) (xCons (xBin subW (xVar 1) (xK (.int 1))) (xCons (xBin subW (xVar 1) (xK (.int 2))) (xCons (xK (.int 3)) (xNil)))))))) (xBin modW (xBin fdivW (xVar 2) (xK (.int 3))) (xK (.int 6)))) (xVar 1))) (sSkip))
    (sRet (xBin modW (xBin addW (xBin addW (xBin mulW (xBin mulW (xVar 2) (xK (.int 48271))) (xK (.int 69621))) (xBin mulW (xBin mulW (xK (.int 7919)) (xVar 2)) (xVar 2))) (xK (.int 5))) (xVar 1)))))
def F__law_residue : List W → Hm → Out W := mkF 3 b__law_residue
set_option maxHeartbeats 0 in
theorem ok__law_residue {Γ : Gam} (E : Env Γ) : CalD Γ 1 (He.fAd Γ.K ("_law_residue", none)) ["_law_cell_here", "_law_prime_here"] F__law_residue := cal_mk (k := 0) E.d__law_residue cb__law_residue cs__law_residue ck__law_residue
    (sl_cons (ss_set 2 2 (e_abs 0 E.B (sa_cons (se_var 0 0) (sa_nil))))
    (sl_cons (ss_if (st_cmp os_ge (se_var 2 2) (se_bin os_pow (se_int) (se_int))) (sl_one (ss_ret (se_bin os_mod (se_var 2 2) (se_var 1 1)))) (sl_nil))
    (sl_cons (ss_if (st_cmp os_eq (se_bin os_mod (se_var 2 2) (se_int)) (se_int)) (sl_one (ss_ret (se_bin os_mod (se_ix (se_lst (sa_cons (se_int) (sa_cons (se_int) (sa_cons (se_int) (sa_cons (se_bin os_sub (se_var 1 1) (se_int)) (sa_cons (se_bin os_sub (se_var 1 1) (se_int)) (sa_cons (se_int) (sa_nil)))))))) (se_bin os_mod (se_bin os_fdiv (se_var 2 2) (se_int)) (se_int))) (se_var 1 1)))) (sl_nil))
    (sl_one (ss_ret (se_bin os_mod (se_bin os_add (se_bin os_add (se_bin os_mul (se_bin os_mul (se_var 2 2) (se_int)) (se_int)) (se_bin os_mul (se_bin os_mul (se_int) (se_var 2 2)) (se_var 2 2))) (se_int)) (se_var 1 1)))))))
/-! power -/
def c_power : Cfg := ⟨["a", "exponent", "modulus", "result", "square"], ["a", "exponent", "modulus", "result", "square"], ["a", "exponent", "modulus", "result", "square"], [], defScope (topS 11), true, true⟩
theorem ck_power : cfgOk c_power = true := by decide +kernel
theorem cs_power : FnScope c_power.N ["a", "exponent", "modulus"] (defScope (topS 11)) := ⟨rfl, rfl, rfl, by decide +kernel, rfl, by decide +kernel, by decide +kernel⟩
theorem cb_power : BindsN (topS 11) "power" "power" ["a", "exponent", "modulus"] := fun _ _ _ _ _ _ us hl => match us, hl with | [_, _, _], _ => rfl
abbrev b_power : XS :=
    sSeq (sSet 3 (xBin modW (xK (.int 1)) (xVar 2)))
    (sSeq (sSet 4 (xBin modW (xVar 0) (xVar 2)))
    (sSeq (sWhile (xB (xBin gtW (xVar 1) (xK (.int 0)))) (sSeq (sIf (xB (xBin eqW (xBin andW (xVar 1) (xK (.int 1))) (xK (.int 1)))) (sSet 3 (xBin modW (xBin mulW (xVar 3) (xVar 4)) (xVar 2))) (sSkip))
    (sSeq (sSet 4 (xBin modW (xBin mulW (xVar 4) (xVar 4)) (xVar 2)))
    (sSet 1 (xBin shrW (xVar 1) (xK (.int 1)))))) fuel)
    (sRet (xVar 3))))
def F_power : List W → Hm → Out W := mkF 5 b_power
set_option maxHeartbeats 0 in
theorem ok_power {Γ : Gam} (E : Env Γ) : CalD Γ 1 (He.fAd Γ.K ("power", none)) ["a", "exponent", "modulus"] F_power := cal_mk (k := 0) E.d_power cb_power cs_power ck_power
    (sl_cons (ss_set 3 3 (se_bin os_mod (se_int) (se_var 2 2)))
    (sl_cons (ss_set 4 4 (se_bin os_mod (se_var 0 0) (se_var 2 2)))
    (sl_cons (ss_while (st_cmp os_gt (se_var 1 1) (se_int)) (sl_cons (ss_if (st_cmp os_eq (se_bin os_and (se_var 1 1) (se_int)) (se_int)) (sl_one (ss_set 3 3 (se_bin os_mod (se_bin os_mul (se_var 3 3) (se_var 4 4)) (se_var 2 2)))) (sl_nil))
    (sl_cons (ss_set 4 4 (se_bin os_mod (se_bin os_mul (se_var 4 4) (se_var 4 4)) (se_var 2 2)))
    (sl_one (ss_set 1 1 (se_bin os_shr (se_var 1 1) (se_int)))))))
    (sl_one (ss_ret (se_var 3 3))))))
/-! square_class -/
def c_square_class : Cfg := ⟨["a", "prime", "value"], ["a", "prime", "value"], ["a", "prime", "value"], ["power"], defScope (topS 12), true, true⟩
theorem ck_square_class : cfgOk c_square_class = true := by decide +kernel
theorem cs_square_class : FnScope c_square_class.N ["a", "prime"] (defScope (topS 12)) := ⟨rfl, rfl, rfl, by decide +kernel, rfl, by decide +kernel, by decide +kernel⟩
theorem cb_square_class : BindsN (topS 12) "square_class" "square_class" ["a", "prime"] := fun _ _ _ _ _ _ us hl => match us, hl with | [_, _], _ => rfl
abbrev b_square_class : XS :=
    sSeq (sSet 2 (xFn F_power (xCons (xVar 0) (xCons (xBin fdivW (xBin subW (xVar 1) (xK (.int 1))) (xK (.int 2))) (xCons (xVar 1) (xNil))))))
    (sSeq (sIf (xB (xBin eqW (xVar 2) (xBin subW (xVar 1) (xK (.int 1))))) (sRet (xUn negW (xK (.int 1)))) (sSkip))
    (sRet (xVar 2)))
def F_square_class : List W → Hm → Out W := mkF 3 b_square_class
set_option maxHeartbeats 0 in
theorem ok_square_class {Γ : Gam} (E : Env Γ) : CalD Γ 2 (He.fAd Γ.K ("square_class", none)) ["a", "prime"] F_square_class := cal_mk (k := 1) E.d_square_class cb_square_class cs_square_class ck_square_class
    (sl_cons (ss_set 2 2 (se_cal 0 (Cal.of (ok_power E) E.g_power) (sa_cons (se_var 0 0) (sa_cons (se_bin os_fdiv (se_bin os_sub (se_var 1 1) (se_int)) (se_int)) (sa_cons (se_var 1 1) (sa_nil)))) (len_cons (len_cons (len_cons (len_nil))))))
    (sl_cons (ss_if (st_cmp os_eq (se_var 2 2) (se_bin os_sub (se_var 1 1) (se_int))) (sl_one (ss_ret (se_un us_neg (se_int)))) (sl_nil))
    (sl_one (ss_ret (se_var 2 2)))))
/-! other_class -/
def c_other_class : Cfg := ⟨["prime", "number"], ["prime", "number"], ["prime", "number"], ["square_class"], defScope (topS 13), true, true⟩
theorem ck_other_class : cfgOk c_other_class = true := by decide +kernel
theorem cs_other_class : FnScope c_other_class.N ["prime"] (defScope (topS 13)) := ⟨rfl, rfl, rfl, by decide +kernel, rfl, by decide +kernel, by decide +kernel⟩
theorem cb_other_class : BindsN (topS 13) "other_class" "other_class" ["prime"] := fun _ _ _ _ _ _ us hl => match us, hl with | [_], _ => rfl
abbrev b_other_class : XS :=
    sSeq (sSet 1 (xK (.int 2)))
    (sSeq (sWhile (xB (xBin neW (xFn F_square_class (xCons (xVar 1) (xCons (xVar 0) (xNil)))) (xUn negW (xK (.int 1))))) (sAug 1 addI (xK (.int 1))) fuel)
    (sRet (xVar 1)))
def F_other_class : List W → Hm → Out W := mkF 2 b_other_class
set_option maxHeartbeats 0 in
theorem ok_other_class {Γ : Gam} (E : Env Γ) : CalD Γ 3 (He.fAd Γ.K ("other_class", none)) ["prime"] F_other_class := cal_mk (k := 2) E.d_other_class cb_other_class cs_other_class ck_other_class
    (sl_cons (ss_set 1 1 (se_int))
    (sl_cons (ss_while (st_cmp os_ne (se_cal 0 (Cal.of (ok_square_class E) E.g_square_class) (sa_cons (se_var 1 1) (sa_cons (se_var 0 0) (sa_nil))) (len_cons (len_cons (len_nil)))) (se_un us_neg (se_int))) (sl_one (ss_aug 1 1 ip_add (se_int))))
    (sl_one (ss_ret (se_var 1 1)))))
/-! square_root -/
def c_square_root : Cfg := ⟨["a", "prime", "odd", "height", "root", "rest", "turn", "steps", "value", "factor", "_"], ["a", "prime", "odd", "height", "root", "rest", "turn", "steps", "value", "factor", "_"], ["a", "prime", "odd", "height", "root", "rest", "turn", "steps", "value", "factor", "_"], ["square_class", "power", "other_class", "range", "min"], defScope (topS 14), true, true⟩
theorem ck_square_root : cfgOk c_square_root = true := by decide +kernel
theorem cs_square_root : FnScope c_square_root.N ["a", "prime"] (defScope (topS 14)) := ⟨rfl, rfl, rfl, by decide +kernel, rfl, by decide +kernel, by decide +kernel⟩
theorem cb_square_root : BindsN (topS 14) "square_root" "square_root" ["a", "prime"] := fun _ _ _ _ _ _ us hl => match us, hl with | [_, _], _ => rfl
abbrev b_square_root : XS :=
    sSeq (sSet 0 (xBin modW (xVar 0) (xVar 1)))
    (sSeq (sIf (xB (xBin eqW (xVar 0) (xK (.int 0)))) (sRet (xK (.int 0))) (sSkip))
    (sSeq (sIf (xB (xBin eqW (xFn F_square_class (xCons (xVar 0) (xCons (xVar 1) (xNil)))) (xUn negW (xK (.int 1))))) (sRet (xK .non)) (sSkip))
    (sSeq (sSet 2 (xBin subW (xVar 1) (xK (.int 1))))
    (sSeq (sSet 3 (xK (.int 0)))
    (sSeq (sWhile (xB (xBin eqW (xBin andW (xVar 2) (xK (.int 1))) (xK (.int 0)))) (sSeq (sSet 2 (xBin shrW (xVar 2) (xK (.int 1))))
    (sAug 3 addI (xK (.int 1)))) fuel)
    (sSeq (sSet 4 (xFn F_power (xCons (xVar 0) (xCons (xBin fdivW (xBin addW (xVar 2) (xK (.int 1))) (xK (.int 2))) (xCons (xVar 1) (xNil))))))
    (sSeq (sSet 5 (xFn F_power (xCons (xVar 0) (xCons (xVar 2) (xCons (xVar 1) (xNil))))))
    (sSeq (sSet 6 (xFn F_power (xCons (xFn F_other_class (xCons (xVar 1) (xNil))) (xCons (xVar 2) (xCons (xVar 1) (xNil))))))
    (sSeq (sWhile (xB (xBin neW (xVar 5) (xK (.int 1)))) (sSeq (sSet 7 (xK (.int 0)))
    (sSeq (sSet 8 (xVar 5))
    (sSeq (sWhile (xB (xBin neW (xVar 8) (xK (.int 1)))) (sSeq (sSet 8 (xBin modW (xBin mulW (xVar 8) (xVar 8)) (xVar 1)))
    (sAug 7 addI (xK (.int 1)))) fuel)
    (sSeq (sSet 9 (xVar 6))
    (sSeq (sFor (iRng1 (xCons (xBin subW (xBin subW (xVar 3) (xVar 7)) (xK (.int 1))) (xNil))) (gN 10) (sSet 9 (xBin modW (xBin mulW (xVar 9) (xVar 9)) (xVar 1))))
    (sSeq (sSet 4 (xBin modW (xBin mulW (xVar 4) (xVar 9)) (xVar 1)))
    (sSeq (sSet 6 (xBin modW (xBin mulW (xVar 9) (xVar 9)) (xVar 1)))
    (sSeq (sSet 5 (xBin modW (xBin mulW (xVar 5) (xVar 6)) (xVar 1)))
    (sSet 3 (xVar 7)))))))))) fuel)
    (sRet (xCall minW (xCons (xVar 4) (xCons (xBin subW (xVar 1) (xVar 4)) (xNil))))))))))))))
def F_square_root : List W → Hm → Out W := mkF 11 b_square_root
set_option maxHeartbeats 0 in
theorem ok_square_root {Γ : Gam} (E : Env Γ) : CalD Γ 4 (He.fAd Γ.K ("square_root", none)) ["a", "prime"] F_square_root := cal_mk (k := 3) E.d_square_root cb_square_root cs_square_root ck_square_root
    (sl_cons (ss_set 0 0 (se_bin os_mod (se_var 0 0) (se_var 1 1)))
    (sl_cons (ss_if (st_cmp os_eq (se_var 0 0) (se_int)) (sl_one (ss_ret (se_int))) (sl_nil))
    (sl_cons (ss_if (st_cmp os_eq (se_cal 0 (Cal.of (ok_square_class E) E.g_square_class) (sa_cons (se_var 0 0) (sa_cons (se_var 1 1) (sa_nil))) (len_cons (len_cons (len_nil)))) (se_un us_neg (se_int))) (sl_one (ss_ret (se_non))) (sl_nil))
    (sl_cons (ss_set 2 2 (se_bin os_sub (se_var 1 1) (se_int)))
    (sl_cons (ss_set 3 3 (se_int))
    (sl_cons (ss_while (st_cmp os_eq (se_bin os_and (se_var 2 2) (se_int)) (se_int)) (sl_cons (ss_set 2 2 (se_bin os_shr (se_var 2 2) (se_int)))
    (sl_one (ss_aug 3 3 ip_add (se_int)))))
    (sl_cons (ss_set 4 4 (se_cal 1 (Cal.of (ok_power E) E.g_power) (sa_cons (se_var 0 0) (sa_cons (se_bin os_fdiv (se_bin os_add (se_var 2 2) (se_int)) (se_int)) (sa_cons (se_var 1 1) (sa_nil)))) (len_cons (len_cons (len_cons (len_nil))))))
    (sl_cons (ss_set 5 5 (se_cal 1 (Cal.of (ok_power E) E.g_power) (sa_cons (se_var 0 0) (sa_cons (se_var 2 2) (sa_cons (se_var 1 1) (sa_nil)))) (len_cons (len_cons (len_cons (len_nil))))))
    (sl_cons (ss_set 6 6 (se_cal 1 (Cal.of (ok_power E) E.g_power) (sa_cons (se_cal 2 (Cal.of (ok_other_class E) E.g_other_class) (sa_cons (se_var 1 1) (sa_nil)) (len_cons (len_nil))) (sa_cons (se_var 2 2) (sa_cons (se_var 1 1) (sa_nil)))) (len_cons (len_cons (len_cons (len_nil))))))
    (sl_cons (ss_while (st_cmp os_ne (se_var 5 5) (se_int)) (sl_cons (ss_set 7 7 (se_int))
    (sl_cons (ss_set 8 8 (se_var 5 5))
    (sl_cons (ss_while (st_cmp os_ne (se_var 8 8) (se_int)) (sl_cons (ss_set 8 8 (se_bin os_mod (se_bin os_mul (se_var 8 8) (se_var 8 8)) (se_var 1 1)))
    (sl_one (ss_aug 7 7 ip_add (se_int)))))
    (sl_cons (ss_set 9 9 (se_var 6 6))
    (sl_cons (ss_for (si_rng1 3 E.B (sa_cons (se_bin os_sub (se_bin os_sub (se_var 3 3) (se_var 7 7)) (se_int)) (sa_nil))) (sg_name 10 10) (sl_one (ss_set 9 9 (se_bin os_mod (se_bin os_mul (se_var 9 9) (se_var 9 9)) (se_var 1 1)))))
    (sl_cons (ss_set 4 4 (se_bin os_mod (se_bin os_mul (se_var 4 4) (se_var 9 9)) (se_var 1 1)))
    (sl_cons (ss_set 6 6 (se_bin os_mod (se_bin os_mul (se_var 9 9) (se_var 9 9)) (se_var 1 1)))
    (sl_cons (ss_set 5 5 (se_bin os_mod (se_bin os_mul (se_var 5 5) (se_var 6 6)) (se_var 1 1)))
    (sl_one (ss_set 3 3 (se_var 7 7))))))))))))
    (sl_one (ss_ret (e_min 4 E.B (sa_cons (se_var 4 4) (sa_cons (se_bin os_sub (se_var 1 1) (se_var 4 4)) (sa_nil))))))))))))))))
/-! Curve.lift -/
def c_Curve_lift : Cfg := ⟨["self", "x", "odd", "y"], ["self", "x", "odd", "y"], ["self", "x", "odd", "y"], ["square_root"], defScope (inClass (topS 16) 7), true, true⟩
theorem ck_Curve_lift : cfgOk c_Curve_lift = true := by decide +kernel
theorem cs_Curve_lift : FnScope c_Curve_lift.N ["self", "x", "odd"] (defScope (inClass (topS 16) 7)) := ⟨rfl, rfl, rfl, by decide +kernel, rfl, by decide +kernel, by decide +kernel⟩
theorem cb_Curve_lift : BindsN (inClass (topS 16) 7) "lift" "Curve.lift" ["self", "x", "odd"] := fun _ _ _ _ _ _ us hl => match us, hl with | [_, _, _], _ => rfl
abbrev b_Curve_lift : XS :=
    sSeq (sIf (xOrT (xB (xBin ltW (xVar 1) (xK (.int 0)))) (xB (xBin geW (xVar 1) (xFld [4] "prime" (xVar 0))))) (sRet (xK .non)) (sSkip))
    (sSeq (sSet 3 (xFn F_square_root (xCons (xMet [(4, F_Curve_right_side)] "right_side" (xVar 0) (xCons (xVar 1) (xNil))) (xCons (xFld [4] "prime" (xVar 0)) (xNil)))))
    (sSeq (sIf (xOrT (xB (xBin isW (xVar 3) (xK .non))) (xAndT (xB (xBin eqW (xVar 3) (xK (.int 0)))) (xB (xVar 2)))) (sRet (xK .non)) (sSkip))
    (sSeq (sIf (xB (xBin neW (xBin eqW (xBin andW (xVar 3) (xK (.int 1))) (xK (.int 1))) (xVar 2))) (sSet 3 (xBin subW (xFld [4] "prime" (xVar 0)) (xVar 3))) (sSkip))
    (sRet (xTup (xCons (xVar 1) (xCons (xVar 3) (xNil))))))))
def F_Curve_lift : List W → Hm → Out W := mkF 4 b_Curve_lift
set_option maxHeartbeats 0 in
theorem ok_Curve_lift {Γ : Gam} (E : Env Γ) : CalD Γ 5 (He.fAd Γ.K ("Curve", some "lift")) ["self", "x", "odd"] F_Curve_lift := cal_mk (k := 4) E.d_Curve_lift cb_Curve_lift cs_Curve_lift ck_Curve_lift
    (sl_cons (ss_if (st_w (sw_or (st_cmp os_lt (se_var 1 1) (se_int)) (sw_one (st_cmp os_ge (se_var 1 1) (se_fld (FldOk.cons E.c_Curve E.n_Curve_prime (FldOk.nil)) (se_var 0 0)))))) (sl_one (ss_ret (se_non))) (sl_nil))
    (sl_cons (ss_set 3 3 (se_cal 0 (Cal.of (ok_square_root E) E.g_square_root) (sa_cons (se_met (j := 4) (MetOk.cons E.c_Curve E.me_Curve_right_side (ok_Curve_right_side E) rfl (by decide) (MetOk.nil)) (se_var 0 0) (sa_cons (se_var 1 1) (sa_nil)) (len_cons (len_nil))) (sa_cons (se_fld (FldOk.cons E.c_Curve E.n_Curve_prime (FldOk.nil)) (se_var 0 0)) (sa_nil))) (len_cons (len_cons (len_nil)))))
    (sl_cons (ss_if (st_w (sw_or (st_cmp os_is (se_var 3 3) (se_non)) (sw_one (st_w (sw_and (st_cmp os_eq (se_var 3 3) (se_int)) (sw_one (st_val (se_var 2 2)))))))) (sl_one (ss_ret (se_non))) (sl_nil))
    (sl_cons (ss_if (st_cmp os_ne (se_cmp os_eq (se_bin os_and (se_var 3 3) (se_int)) (se_int)) (se_var 2 2)) (sl_one (ss_set 3 3 (se_bin os_sub (se_fld (FldOk.cons E.c_Curve E.n_Curve_prime (FldOk.nil)) (se_var 0 0)) (se_var 3 3)))) (sl_nil))
    (sl_one (ss_ret (se_tup (sa_cons (se_var 1 1) (sa_cons (se_var 3 3) (sa_nil))))))))))
/-! _law_lowest -/
def c__law_lowest : Cfg := ⟨["_law_prime_here", "_law_g"], ["_law_prime_here", "_law_g"], ["_law_prime_here", "_law_g"], ["range", "_law_power"], defScope (topS 28), true, true⟩
theorem ck__law_lowest : cfgOk c__law_lowest = true := by decide +kernel
theorem cs__law_lowest : FnScope c__law_lowest.N ["_law_prime_here"] (defScope (topS 28)) := ⟨rfl, rfl, rfl, by decide +kernel, rfl, by decide +kernel, by decide +kernel⟩
theorem cb__law_lowest : BindsN (topS 28) "_law_lowest" "_law_lowest" ["_law_prime_here"] := fun _ _ _ _ _ _ us hl => match us, hl with | [_], _ => rfl
abbrev b__law_lowest : XS :=
    sSeq (sFor (iRng2 (xCons (xK (.int 2)) (xCons (xK (.int 60)) (xNil)))) (gN 1) (sIf (xB (xBin eqW (xFn F__law_power (xCons (xVar 1) (xCons (xBin fdivW (xBin subW (xVar 0) (xK (.int 1))) (xK (.int 2))) (xCons (xVar 0) (xNil))))) (xBin subW (xVar 0) (xK (.int 1))))) (sRet (xVar 1)) (sSkip)))
    (sRet (xK (.int 0)))
def F__law_lowest : List W → Hm → Out W := mkF 2 b__law_lowest
set_option maxHeartbeats 0 in
theorem ok__law_lowest {Γ : Gam} (E : Env Γ) : CalD Γ 2 (He.fAd Γ.K ("_law_lowest", none)) ["_law_prime_here"] F__law_lowest := cal_mk (k := 1) E.d__law_lowest cb__law_lowest cs__law_lowest ck__law_lowest
    (sl_cons (ss_for (si_rng2 0 E.B (sa_cons (se_int) (sa_cons (se_int) (sa_nil)))) (sg_name 1 1) (sl_one (ss_if (st_cmp os_eq (se_cal 1 (Cal.of (ok__law_power E) E.g__law_power) (sa_cons (se_var 1 1) (sa_cons (se_bin os_fdiv (se_bin os_sub (se_var 0 0) (se_int)) (se_int)) (sa_cons (se_var 0 0) (sa_nil)))) (len_cons (len_cons (len_cons (len_nil))))) (se_bin os_sub (se_var 0 0) (se_int))) (sl_one (ss_ret (se_var 1 1))) (sl_nil))))
    (sl_one (ss_ret (se_int))))
/-! _law_singular -/
def c__law_singular : Cfg := ⟨["_law_prime_here", "_law_a", "_law_b"], ["_law_prime_here", "_law_a", "_law_b"], ["_law_prime_here", "_law_a", "_law_b"], [], defScope (topS 26), true, true⟩
theorem ck__law_singular : cfgOk c__law_singular = true := by decide +kernel
theorem cs__law_singular : FnScope c__law_singular.N ["_law_prime_here", "_law_a", "_law_b"] (defScope (topS 26)) := ⟨rfl, rfl, rfl, by decide +kernel, rfl, by decide +kernel, by decide +kernel⟩
theorem cb__law_singular : BindsN (topS 26) "_law_singular" "_law_singular" ["_law_prime_here", "_law_a", "_law_b"] := fun _ _ _ _ _ _ us hl => match us, hl with | [_, _, _], _ => rfl
abbrev b__law_singular : XS :=
    sRet (xBin eqW (xBin modW (xBin addW (xBin mulW (xBin mulW (xBin mulW (xK (.int 4)) (xVar 1)) (xVar 1)) (xVar 1)) (xBin mulW (xBin mulW (xK (.int 27)) (xVar 2)) (xVar 2))) (xVar 0)) (xK (.int 0)))
def F__law_singular : List W → Hm → Out W := mkF 3 b__law_singular
set_option maxHeartbeats 0 in
theorem ok__law_singular {Γ : Gam} (E : Env Γ) : CalD Γ 1 (He.fAd Γ.K ("_law_singular", none)) ["_law_prime_here", "_law_a", "_law_b"] F__law_singular := cal_mk (k := 0) E.d__law_singular cb__law_singular cs__law_singular ck__law_singular
    (sl_one (ss_ret (se_cmp os_eq (se_bin os_mod (se_bin os_add (se_bin os_mul (se_bin os_mul (se_bin os_mul (se_int) (se_var 1 1)) (se_var 1 1)) (se_var 1 1)) (se_bin os_mul (se_bin os_mul (se_int) (se_var 2 2)) (se_var 2 2))) (se_var 0 0)) (se_int))))
/-! _law_curve_and_points -/
def c__law_curve_and_points : Cfg := ⟨["_law_script", "_law_at", "_law_prime_here", "_law_x1", "_law_y1", "_law_x2", "_law_y2", "_law_a", "_law_b"], ["_law_script", "_law_at", "_law_prime_here", "_law_x1", "_law_y1", "_law_x2", "_law_y2", "_law_a", "_law_b"], ["_law_script", "_law_at", "_law_prime_here", "_law_x1", "_law_y1", "_law_x2", "_law_y2", "_law_a", "_law_b"], ["_law_residue", "_law_cell", "abs", "_law_inverse"], defScope (topS 23), true, true⟩
theorem ck__law_curve_and_points : cfgOk c__law_curve_and_points = true := by decide +kernel
theorem cs__law_curve_and_points : FnScope c__law_curve_and_points.N ["_law_script", "_law_at", "_law_prime_here"] (defScope (topS 23)) := ⟨rfl, rfl, rfl, by decide +kernel, rfl, by decide +kernel, by decide +kernel⟩
theorem cb__law_curve_and_points : BindsN (topS 23) "_law_curve_and_points" "_law_curve_and_points" ["_law_script", "_law_at", "_law_prime_here"] := fun _ _ _ _ _ _ us hl => match us, hl with | [_, _, _], _ => rfl
abbrev b__law_curve_and_points : XS :=
    sSeq (sSet 3 (xFn F__law_residue (xCons (xFn F__law_cell (xCons (xVar 0) (xCons (xVar 1) (xNil)))) (xCons (xVar 2) (xNil)))))
    (sSeq (sSet 4 (xFn F__law_residue (xCons (xFn F__law_cell (xCons (xVar 0) (xCons (xBin addW (xVar 1) (xK (.int 1))) (xNil)))) (xCons (xVar 2) (xNil)))))
    (sSeq (sSet 5 (xFn F__law_residue (xCons (xFn F__law_cell (xCons (xVar 0) (xCons (xBin addW (xVar 1) (xK (.int 2))) (xNil)))) (xCons (xVar 2) (xNil)))))
    (sSeq (sSet 6 (xFn F__law_residue (xCons (xFn F__law_cell (xCons (xVar 0) (xCons (xBin addW (xVar 1) (xK (.int 3))) (xNil)))) (xCons (xVar 2) (xNil)))))
    (sSeq (sSet 7 (xFn F__law_residue (xCons (xFn F__law_cell (xCons (xVar 0) (xCons (xBin addW (xVar 1) (xK (.int 4))) (xNil)))) (xCons (xVar 2) (xNil)))))
    (sSeq (sIf (xB (xBin eqW (xVar 3) (xVar 5))) (sSet 6 (xBin ixW (xLst (xCons (xVar 4) (xCons (xBin modW (xUn negW (xVar 4)) (xVar 2)) (xNil)))) (xBin modW (xCall absW (xCons (xFn F__law_cell (xCons (xVar 0) (xCons (xBin addW (xVar 1) (xK (.int 3))) (xNil)))) (xNil))) (xK (.int 2))))) (sSet 7 (xBin modW (xBin mulW (xBin addW (xBin subW (xBin subW (xBin mulW (xVar 6) (xVar 6)) (xBin mulW (xBin mulW (xVar 5) (xVar 5)) (xVar 5))) (xBin mulW (xVar 4) (xVar 4))) (xBin mulW (xBin mulW (xVar 3) (xVar 3)) (xVar 3))) (xFn F__law_inverse (xCons (xBin subW (xVar 5) (xVar 3)) (xCons (xVar 2) (xNil))))) (xVar 2))))
    (sSeq (sSet 8 (xBin modW (xBin subW (xBin subW (xBin mulW (xVar 4) (xVar 4)) (xBin mulW (xBin mulW (xVar 3) (xVar 3)) (xVar 3))) (xBin mulW (xVar 7) (xVar 3))) (xVar 2)))
    (sRet (xTup (xCons (xVar 7) (xCons (xVar 8) (xCons (xTup (xCons (xVar 3) (xCons (xVar 4) (xNil)))) (xCons (xTup (xCons (xVar 5) (xCons (xVar 6) (xNil)))) (xNil)))))))))))))
def F__law_curve_and_points : List W → Hm → Out W := mkF 9 b__law_curve_and_points
set_option maxHeartbeats 0 in
theorem ok__law_curve_and_points {Γ : Gam} (E : Env Γ) : CalD Γ 3 (He.fAd Γ.K ("_law_curve_and_points", none)) ["_law_script", "_law_at", "_law_prime_here"] F__law_curve_and_points := cal_mk (k := 2) E.d__law_curve_and_points cb__law_curve_and_points cs__law_curve_and_points ck__law_curve_and_points
    (sl_cons (ss_set 3 3 (se_cal 0 (Cal.of (ok__law_residue E) E.g__law_residue) (sa_cons (se_cal 1 (Cal.of (ok__law_cell E) E.g__law_cell) (sa_cons (se_var 0 0) (sa_cons (se_var 1 1) (sa_nil))) (len_cons (len_cons (len_nil)))) (sa_cons (se_var 2 2) (sa_nil))) (len_cons (len_cons (len_nil)))))
    (sl_cons (ss_set 4 4 (se_cal 0 (Cal.of (ok__law_residue E) E.g__law_residue) (sa_cons (se_cal 1 (Cal.of (ok__law_cell E) E.g__law_cell) (sa_cons (se_var 0 0) (sa_cons (se_bin os_add (se_var 1 1) (se_int)) (sa_nil))) (len_cons (len_cons (len_nil)))) (sa_cons (se_var 2 2) (sa_nil))) (len_cons (len_cons (len_nil)))))
    (sl_cons (ss_set 5 5 (se_cal 0 (Cal.of (ok__law_residue E) E.g__law_residue) (sa_cons (se_cal 1 (Cal.of (ok__law_cell E) E.g__law_cell) (sa_cons (se_var 0 0) (sa_cons (se_bin os_add (se_var 1 1) (se_int)) (sa_nil))) (len_cons (len_cons (len_nil)))) (sa_cons (se_var 2 2) (sa_nil))) (len_cons (len_cons (len_nil)))))
    (sl_cons (ss_set 6 6 (se_cal 0 (Cal.of (ok__law_residue E) E.g__law_residue) (sa_cons (se_cal 1 (Cal.of (ok__law_cell E) E.g__law_cell) (sa_cons (se_var 0 0) (sa_cons (se_bin os_add (se_var 1 1) (se_int)) (sa_nil))) (len_cons (len_cons (len_nil)))) (sa_cons (se_var 2 2) (sa_nil))) (len_cons (len_cons (len_nil)))))
    (sl_cons (ss_set 7 7 (se_cal 0 (Cal.of (ok__law_residue E) E.g__law_residue) (sa_cons (se_cal 1 (Cal.of (ok__law_cell E) E.g__law_cell) (sa_cons (se_var 0 0) (sa_cons (se_bin os_add (se_var 1 1) (se_int)) (sa_nil))) (len_cons (len_cons (len_nil)))) (sa_cons (se_var 2 2) (sa_nil))) (len_cons (len_cons (len_nil)))))
    (sl_cons (ss_if (st_cmp os_eq (se_var 3 3) (se_var 5 5)) (sl_one (ss_set 6 6 (se_ix (se_lst (sa_cons (se_var 4 4) (sa_cons (se_bin os_mod (se_un us_neg (se_var 4 4)) (se_var 2 2)) (sa_nil)))) (se_bin os_mod (e_abs 2 E.B (sa_cons (se_cal 1 (Cal.of (ok__law_cell E) E.g__law_cell) (sa_cons (se_var 0 0) (sa_cons (se_bin os_add (se_var 1 1) (se_int)) (sa_nil))) (len_cons (len_cons (len_nil)))) (sa_nil))) (se_int))))) (sl_one (ss_set 7 7 (se_bin os_mod (se_bin os_mul (se_bin os_add (se_bin os_sub (se_bin os_sub (se_bin os_mul (se_var 6 6) (se_var 6 6)) (se_bin os_mul (se_bin os_mul (se_var 5 5) (se_var 5 5)) (se_var 5 5))) (se_bin os_mul (se_var 4 4) (se_var 4 4))) (se_bin os_mul (se_bin os_mul (se_var 3 3) (se_var 3 3)) (se_var 3 3))) (se_cal 3 (Cal.of (ok__law_inverse E) E.g__law_inverse) (sa_cons (se_bin os_sub (se_var 5 5) (se_var 3 3)) (sa_cons (se_var 2 2) (sa_nil))) (len_cons (len_cons (len_nil))))) (se_var 2 2)))))
    (sl_cons (ss_set 8 8 (se_bin os_mod (se_bin os_sub (se_bin os_sub (se_bin os_mul (se_var 4 4) (se_var 4 4)) (se_bin os_mul (se_bin os_mul (se_var 3 3) (se_var 3 3)) (se_var 3 3))) (se_bin os_mul (se_var 7 7) (se_var 3 3))) (se_var 2 2)))
    (sl_one (ss_ret (se_tup (sa_cons (se_var 7 7) (sa_cons (se_var 8 8) (sa_cons (se_tup (sa_cons (se_var 3 3) (sa_cons (se_var 4 4) (sa_nil)))) (sa_cons (se_tup (sa_cons (se_var 5 5) (sa_cons (se_var 6 6) (sa_nil)))) (sa_nil)))))))))))))))
/-! _law_prime -/
def c__law_prime : Cfg := ⟨["_law_cell_here", "_law_number", "_law_k", "_law_j"], ["_law_cell_here", "_law_number", "_law_k"], ["_law_cell_here", "_law_number", "_law_k"], ["abs", "range", "len"], defScope (topS 27), true, true⟩
theorem ck__law_prime : cfgOk c__law_prime = true := by decide +kernel
theorem cs__law_prime : FnScope c__law_prime.N ["_law_cell_here"] (defScope (topS 27)) := ⟨rfl, rfl, rfl, by decide +kernel, rfl, by decide +kernel, by decide +kernel⟩
theorem cb__law_prime : BindsN (topS 27) "_law_prime" "_law_prime" ["_law_cell_here"] := fun _ _ _ _ _ _ us hl => match us, hl with | [_], _ => rfl
abbrev b__law_prime : XS :=
    sSeq (sSet 1 (xBin addW (xK (.int 5)) (xBin modW (xCall absW (xCons (xVar 0) (xNil))) (xK (.int 195)))))
    (sSeq (sFor (iRng1 (xCons (xK (.int 20)) (xNil))) (gN 2) (sSeq (sIf (xB (xBin eqW (xCall lenW (xCons (xComp (iRng2 (xCons (xK (.int 2)) (xCons (xK (.int 15)) (xNil)))) (gN 3) (xAndT (xB (xBin ltW (xVar 3) (xVar 1))) (xB (xBin eqW (xBin modW (xVar 1) (xVar 3)) (xK (.int 0))))) (xVar 3) [3]) (xNil))) (xK (.int 0)))) (sRet (xVar 1)) (sSkip))
    (sSet 1 (xBin addW (xVar 1) (xK (.int 1))))))
    (sRet (xK (.int 5))))
def F__law_prime : List W → Hm → Out W := mkF 4 b__law_prime
set_option maxHeartbeats 0 in
theorem ok__law_prime {Γ : Gam} (E : Env Γ) : CalD Γ 1 (He.fAd Γ.K ("_law_prime", none)) ["_law_cell_here"] F__law_prime := cal_mk (k := 0) E.d__law_prime cb__law_prime cs__law_prime ck__law_prime
    (sl_cons (ss_set 1 1 (se_bin os_add (se_int) (se_bin os_mod (e_abs 0 E.B (sa_cons (se_var 0 0) (sa_nil))) (se_int))))
    (sl_cons (ss_for (si_rng1 1 E.B (sa_cons (se_int) (sa_nil))) (sg_name 2 2) (sl_cons (ss_if (st_cmp os_eq (e_len 2 E.B (sa_cons (se_lc [("_law_j", 3)] ["_law_j", "_law_number"] ["_law_j"] [] (si_rng2 1 E.B (sa_cons (se_int) (sa_cons (se_int) (sa_nil)))) (so_name 3 0) (sts_one (st_w (sw_and (st_cmp os_lt (se_var 3 0) (se_var 1 1)) (sw_one (st_cmp os_eq (se_bin os_mod (se_var 1 1) (se_var 3 0)) (se_int)))))) (se_var 3 0) (by decide +kernel) (by decide +kernel)) (sa_nil))) (se_int)) (sl_one (ss_ret (se_var 1 1))) (sl_nil))
    (sl_one (ss_set 1 1 (se_bin os_add (se_var 1 1) (se_int))))))
    (sl_one (ss_ret (se_int)))))
/-! law -/
def c_law : Cfg := ⟨["_law_script", "_law_prime_here", "_law_a", "_law_b", "_law_first", "_law_second", "_law_curve", "_law_g", "_law_twist", "_law_count", "_law_x", "_law_here", "_law_there", "_law_zero", "_law_u", "_law_other", "_law_factor", "_law_one", "_law_moved_here"], ["_law_script", "_law_prime_here", "_law_a", "_law_b", "_law_first", "_law_second", "_law_curve", "_law_g", "_law_twist", "_law_count", "_law_x", "_law_here", "_law_there", "_law_zero", "_law_u", "_law_other", "_law_factor", "_law_one", "_law_moved_here"], ["_law_script", "_law_prime_here", "_law_a", "_law_b", "_law_first", "_law_second", "_law_curve", "_law_g", "_law_twist", "_law_count", "_law_x", "_law_here", "_law_there", "_law_zero", "_law_u", "_law_other", "_law_factor", "_law_one", "_law_moved_here"], ["_law_prime", "_law_cell", "_law_curve_and_points", "_law_singular", "Curve", "_law_lowest", "count_points", "range", "_law_residue", "_law_add", "_law_moved"], defScope (topS 30), true, true⟩
theorem ck_law : cfgOk c_law = true := by decide +kernel
theorem cs_law : FnScope c_law.N ["_law_script"] (defScope (topS 30)) := ⟨rfl, rfl, rfl, by decide +kernel, rfl, by decide +kernel, by decide +kernel⟩
theorem cb_law : BindsN (topS 30) "law" "law" ["_law_script"] := fun _ _ _ _ _ _ us hl => match us, hl with | [_], _ => rfl
abbrev b_law : XS :=
    sSeq (sSet 1 (xFn F__law_prime (xCons (xFn F__law_cell (xCons (xVar 0) (xCons (xK (.int 0)) (xNil)))) (xNil))))
    (sSeq (sAsg (gT (gsCons (gN 2) (gsCons (gN 3) (gsCons (gN 4) (gsCons (gN 5) (gsNil)))))) (xFn F__law_curve_and_points (xCons (xVar 0) (xCons (xK (.int 1)) (xCons (xVar 1) (xNil))))))
    (sSeq (sIf (xB (xFn F__law_singular (xCons (xVar 1) (xCons (xVar 2) (xCons (xVar 3) (xNil)))))) (sRet (xK (.bl true))) (sSkip))
    (sSeq (sSet 6 (xMake 4 F_Curve___init__ (xCons (xVar 1) (xCons (xVar 2) (xCons (xVar 3) (xNil))))))
    (sSeq (sSet 7 (xFn F__law_lowest (xCons (xVar 1) (xNil))))
    (sSeq (sSet 8 (xMake 4 F_Curve___init__ (xCons (xVar 1) (xCons (xBin mulW (xBin mulW (xVar 2) (xVar 7)) (xVar 7)) (xCons (xBin mulW (xBin mulW (xBin mulW (xVar 3) (xVar 7)) (xVar 7)) (xVar 7)) (xNil))))))
    (sSeq (sSet 9 (xFn F_count_points (xCons (xVar 6) (xNil))))
    (sSeq (sIf (xB (xBin neW (xBin addW (xVar 9) (xFn F_count_points (xCons (xVar 8) (xNil)))) (xBin addW (xBin mulW (xK (.int 2)) (xVar 1)) (xK (.int 2))))) (sRet (xK (.bl false))) (sSkip))
    (sSeq (sFor (iRng1 (xCons (xVar 1) (xNil))) (gN 10) (sSeq (sSet 11 (xOr (xBin isnW (xMet [(4, F_Curve_lift)] "lift" (xVar 6) (xCons (xVar 10) (xCons (xK (.bl false)) (xNil)))) (xK .non)) (xBin isnW (xMet [(4, F_Curve_lift)] "lift" (xVar 6) (xCons (xVar 10) (xCons (xK (.bl true)) (xNil)))) (xK .non))))
    (sSeq (sSet 12 (xOr (xBin isnW (xMet [(4, F_Curve_lift)] "lift" (xVar 8) (xCons (xBin modW (xBin mulW (xVar 10) (xVar 7)) (xVar 1)) (xCons (xK (.bl false)) (xNil)))) (xK .non)) (xBin isnW (xMet [(4, F_Curve_lift)] "lift" (xVar 8) (xCons (xBin modW (xBin mulW (xVar 10) (xVar 7)) (xVar 1)) (xCons (xK (.bl true)) (xNil)))) (xK .non))))
    (sSeq (sSet 13 (xBin eqW (xMet [(4, F_Curve_lift)] "lift" (xVar 6) (xCons (xVar 10) (xCons (xK (.bl false)) (xNil)))) (xTup (xCons (xVar 10) (xCons (xK (.int 0)) (xNil))))))
    (sIf (xOrT (xAndT (xNotT (xB (xVar 11))) (xNotT (xB (xVar 12)))) (xB (xBin neW (xAnd (xVar 11) (xVar 12)) (xVar 13)))) (sRet (xK (.bl false))) (sSkip))))))
    (sSeq (sSet 14 (xBin addW (xK (.int 1)) (xFn F__law_residue (xCons (xFn F__law_cell (xCons (xVar 0) (xCons (xK (.int 6)) (xNil)))) (xCons (xBin subW (xVar 1) (xK (.int 1))) (xNil))))))
    (sSeq (sSet 15 (xMake 4 F_Curve___init__ (xCons (xVar 1) (xCons (xBin mulW (xBin mulW (xBin mulW (xBin mulW (xVar 2) (xVar 14)) (xVar 14)) (xVar 14)) (xVar 14)) (xCons (xBin mulW (xBin mulW (xBin mulW (xBin mulW (xBin mulW (xBin mulW (xVar 3) (xVar 14)) (xVar 14)) (xVar 14)) (xVar 14)) (xVar 14)) (xVar 14)) (xNil))))))
    (sSeq (sIf (xB (xBin neW (xFn F_count_points (xCons (xVar 15) (xNil))) (xVar 9))) (sRet (xK (.bl false))) (sSkip))
    (sSeq (sSet 16 (xBin subW (xBin modW (xFn F__law_cell (xCons (xVar 0) (xCons (xK (.int 7)) (xNil)))) (xK (.int 100003))) (xK (.int 50000))))
    (sSeq (sFor (iAny (xLst (xCons (xVar 4) (xCons (xVar 5) (xCons (xK .non) (xCons (xFn F__law_add (xCons (xVar 1) (xCons (xVar 2) (xCons (xVar 4) (xCons (xVar 5) (xNil)))))) (xNil))))))) (gN 17) (sSeq (sSet 18 (xFn F__law_moved (xCons (xVar 1) (xCons (xVar 14) (xCons (xVar 17) (xNil))))))
    (sSeq (sIf (xOrT (xNotT (xB (xMet [(4, F_Curve_has)] "has" (xVar 15) (xCons (xVar 18) (xNil))))) (xB (xBin neW (xMet [(4, F_Curve_multiply)] "multiply" (xVar 15) (xCons (xVar 16) (xCons (xVar 18) (xNil)))) (xFn F__law_moved (xCons (xVar 1) (xCons (xVar 14) (xCons (xMet [(4, F_Curve_multiply)] "multiply" (xVar 6) (xCons (xVar 16) (xCons (xVar 17) (xNil)))) (xNil)))))))) (sRet (xK (.bl false))) (sSkip))
    (sIf (xB (xBin neW (xMet [(4, F_Curve_add)] "add" (xVar 15) (xCons (xVar 18) (xCons (xFn F__law_moved (xCons (xVar 1) (xCons (xVar 14) (xCons (xVar 5) (xNil))))) (xNil)))) (xFn F__law_moved (xCons (xVar 1) (xCons (xVar 14) (xCons (xMet [(4, F_Curve_add)] "add" (xVar 6) (xCons (xVar 17) (xCons (xVar 5) (xNil)))) (xNil))))))) (sRet (xK (.bl false))) (sSkip)))))
    (sRet (xK (.bl true))))))))))))))))
def F_law : List W → Hm → Out W := mkF 19 b_law
set_option maxHeartbeats 0 in
theorem ok_law {Γ : Gam} (E : Env Γ) : CalD Γ 6 (He.fAd Γ.K ("law", none)) ["_law_script"] F_law := cal_mk (k := 5) E.d_law cb_law cs_law ck_law
    (sl_cons (ss_set 1 1 (se_cal 0 (Cal.of (ok__law_prime E) E.g__law_prime) (sa_cons (se_cal 1 (Cal.of (ok__law_cell E) E.g__law_cell) (sa_cons (se_var 0 0) (sa_cons (se_int) (sa_nil))) (len_cons (len_cons (len_nil)))) (sa_nil)) (len_cons (len_nil))))
    (sl_cons (ss_asg (se_cal 2 (Cal.of (ok__law_curve_and_points E) E.g__law_curve_and_points) (sa_cons (se_var 0 0) (sa_cons (se_int) (sa_cons (se_var 1 1) (sa_nil)))) (len_cons (len_cons (len_cons (len_nil))))) (sg_tup (sgs_cons (sg_name 2 2) (sgs_cons (sg_name 3 3) (sgs_cons (sg_name 4 4) (sgs_cons (sg_name 5 5) (sgs_nil))))) (gs_lenS (gs_lenS (gs_lenS (gs_lenS (gs_len0)))))))
    (sl_cons (ss_if (st_val (se_cal 3 (Cal.of (ok__law_singular E) E.g__law_singular) (sa_cons (se_var 1 1) (sa_cons (se_var 2 2) (sa_cons (se_var 3 3) (sa_nil)))) (len_cons (len_cons (len_cons (len_nil)))))) (sl_one (ss_ret (se_bl))) (sl_nil))
    (sl_cons (ss_set 6 6 (se_make 4 (MakeOk.of E.mk_Curve (ok_Curve___init__ E) rfl E.gc_Curve) (sa_cons (se_var 1 1) (sa_cons (se_var 2 2) (sa_cons (se_var 3 3) (sa_nil)))) (len_cons (len_cons (len_cons (len_nil))))))
    (sl_cons (ss_set 7 7 (se_cal 5 (Cal.of (ok__law_lowest E) E.g__law_lowest) (sa_cons (se_var 1 1) (sa_nil)) (len_cons (len_nil))))
    (sl_cons (ss_set 8 8 (se_make 4 (MakeOk.of E.mk_Curve (ok_Curve___init__ E) rfl E.gc_Curve) (sa_cons (se_var 1 1) (sa_cons (se_bin os_mul (se_bin os_mul (se_var 2 2) (se_var 7 7)) (se_var 7 7)) (sa_cons (se_bin os_mul (se_bin os_mul (se_bin os_mul (se_var 3 3) (se_var 7 7)) (se_var 7 7)) (se_var 7 7)) (sa_nil)))) (len_cons (len_cons (len_cons (len_nil))))))
    (sl_cons (ss_set 9 9 (se_cal 6 (Cal.of (ok_count_points E) E.g_count_points) (sa_cons (se_var 6 6) (sa_nil)) (len_cons (len_nil))))
    (sl_cons (ss_if (st_cmp os_ne (se_bin os_add (se_var 9 9) (se_cal 6 (Cal.of (ok_count_points E) E.g_count_points) (sa_cons (se_var 8 8) (sa_nil)) (len_cons (len_nil)))) (se_bin os_add (se_bin os_mul (se_int) (se_var 1 1)) (se_int))) (sl_one (ss_ret (se_bl))) (sl_nil))
    (sl_cons (ss_for (si_rng1 7 E.B (sa_cons (se_var 1 1) (sa_nil))) (sg_name 10 10) (sl_cons (ss_set 11 11 (se_or (se_cmp os_isn (se_met (j := 5) (MetOk.cons E.c_Curve E.me_Curve_lift (ok_Curve_lift E) rfl (by decide) (MetOk.nil)) (se_var 6 6) (sa_cons (se_var 10 10) (sa_cons (se_bl) (sa_nil))) (len_cons (len_cons (len_nil)))) (se_non)) (se_one (se_cmp os_isn (se_met (j := 5) (MetOk.cons E.c_Curve E.me_Curve_lift (ok_Curve_lift E) rfl (by decide) (MetOk.nil)) (se_var 6 6) (sa_cons (se_var 10 10) (sa_cons (se_bl) (sa_nil))) (len_cons (len_cons (len_nil)))) (se_non)))))
    (sl_cons (ss_set 12 12 (se_or (se_cmp os_isn (se_met (j := 5) (MetOk.cons E.c_Curve E.me_Curve_lift (ok_Curve_lift E) rfl (by decide) (MetOk.nil)) (se_var 8 8) (sa_cons (se_bin os_mod (se_bin os_mul (se_var 10 10) (se_var 7 7)) (se_var 1 1)) (sa_cons (se_bl) (sa_nil))) (len_cons (len_cons (len_nil)))) (se_non)) (se_one (se_cmp os_isn (se_met (j := 5) (MetOk.cons E.c_Curve E.me_Curve_lift (ok_Curve_lift E) rfl (by decide) (MetOk.nil)) (se_var 8 8) (sa_cons (se_bin os_mod (se_bin os_mul (se_var 10 10) (se_var 7 7)) (se_var 1 1)) (sa_cons (se_bl) (sa_nil))) (len_cons (len_cons (len_nil)))) (se_non)))))
    (sl_cons (ss_set 13 13 (se_cmp os_eq (se_met (j := 5) (MetOk.cons E.c_Curve E.me_Curve_lift (ok_Curve_lift E) rfl (by decide) (MetOk.nil)) (se_var 6 6) (sa_cons (se_var 10 10) (sa_cons (se_bl) (sa_nil))) (len_cons (len_cons (len_nil)))) (se_tup (sa_cons (se_var 10 10) (sa_cons (se_int) (sa_nil))))))
    (sl_one (ss_if (st_w (sw_or (st_w (sw_and (st_not (st_val (se_var 11 11))) (sw_one (st_not (st_val (se_var 12 12)))))) (sw_one (st_cmp os_ne (se_and (se_var 11 11) (se_one (se_var 12 12))) (se_var 13 13))))) (sl_one (ss_ret (se_bl))) (sl_nil)))))))
    (sl_cons (ss_set 14 14 (se_bin os_add (se_int) (se_cal 8 (Cal.of (ok__law_residue E) E.g__law_residue) (sa_cons (se_cal 1 (Cal.of (ok__law_cell E) E.g__law_cell) (sa_cons (se_var 0 0) (sa_cons (se_int) (sa_nil))) (len_cons (len_cons (len_nil)))) (sa_cons (se_bin os_sub (se_var 1 1) (se_int)) (sa_nil))) (len_cons (len_cons (len_nil))))))
    (sl_cons (ss_set 15 15 (se_make 4 (MakeOk.of E.mk_Curve (ok_Curve___init__ E) rfl E.gc_Curve) (sa_cons (se_var 1 1) (sa_cons (se_bin os_mul (se_bin os_mul (se_bin os_mul (se_bin os_mul (se_var 2 2) (se_var 14 14)) (se_var 14 14)) (se_var 14 14)) (se_var 14 14)) (sa_cons (se_bin os_mul (se_bin os_mul (se_bin os_mul (se_bin os_mul (se_bin os_mul (se_bin os_mul (se_var 3 3) (se_var 14 14)) (se_var 14 14)) (se_var 14 14)) (se_var 14 14)) (se_var 14 14)) (se_var 14 14)) (sa_nil)))) (len_cons (len_cons (len_cons (len_nil))))))
    (sl_cons (ss_if (st_cmp os_ne (se_cal 6 (Cal.of (ok_count_points E) E.g_count_points) (sa_cons (se_var 15 15) (sa_nil)) (len_cons (len_nil))) (se_var 9 9)) (sl_one (ss_ret (se_bl))) (sl_nil))
    (sl_cons (ss_set 16 16 (se_bin os_sub (se_bin os_mod (se_cal 1 (Cal.of (ok__law_cell E) E.g__law_cell) (sa_cons (se_var 0 0) (sa_cons (se_int) (sa_nil))) (len_cons (len_cons (len_nil)))) (se_int)) (se_int)))
    (sl_cons (ss_for (si_any (se_lst (sa_cons (se_var 4 4) (sa_cons (se_var 5 5) (sa_cons (se_non) (sa_cons (se_cal 9 (Cal.of (ok__law_add E) E.g__law_add) (sa_cons (se_var 1 1) (sa_cons (se_var 2 2) (sa_cons (se_var 4 4) (sa_cons (se_var 5 5) (sa_nil))))) (len_cons (len_cons (len_cons (len_cons (len_nil)))))) (sa_nil))))))) (sg_name 17 17) (sl_cons (ss_set 18 18 (se_cal 10 (Cal.of (ok__law_moved E) E.g__law_moved) (sa_cons (se_var 1 1) (sa_cons (se_var 14 14) (sa_cons (se_var 17 17) (sa_nil)))) (len_cons (len_cons (len_cons (len_nil))))))
    (sl_cons (ss_if (st_w (sw_or (st_not (st_val (se_met (j := 5) (MetOk.cons E.c_Curve E.me_Curve_has (ok_Curve_has E) rfl (by decide) (MetOk.nil)) (se_var 15 15) (sa_cons (se_var 18 18) (sa_nil)) (len_cons (len_nil))))) (sw_one (st_cmp os_ne (se_met (j := 5) (MetOk.cons E.c_Curve E.me_Curve_multiply (ok_Curve_multiply E) rfl (by decide) (MetOk.nil)) (se_var 15 15) (sa_cons (se_var 16 16) (sa_cons (se_var 18 18) (sa_nil))) (len_cons (len_cons (len_nil)))) (se_cal 10 (Cal.of (ok__law_moved E) E.g__law_moved) (sa_cons (se_var 1 1) (sa_cons (se_var 14 14) (sa_cons (se_met (j := 5) (MetOk.cons E.c_Curve E.me_Curve_multiply (ok_Curve_multiply E) rfl (by decide) (MetOk.nil)) (se_var 6 6) (sa_cons (se_var 16 16) (sa_cons (se_var 17 17) (sa_nil))) (len_cons (len_cons (len_nil)))) (sa_nil)))) (len_cons (len_cons (len_cons (len_nil))))))))) (sl_one (ss_ret (se_bl))) (sl_nil))
    (sl_one (ss_if (st_cmp os_ne (se_met (j := 5) (MetOk.cons E.c_Curve E.me_Curve_add (ok_Curve_add E) rfl (by decide) (MetOk.nil)) (se_var 15 15) (sa_cons (se_var 18 18) (sa_cons (se_cal 10 (Cal.of (ok__law_moved E) E.g__law_moved) (sa_cons (se_var 1 1) (sa_cons (se_var 14 14) (sa_cons (se_var 5 5) (sa_nil)))) (len_cons (len_cons (len_cons (len_nil))))) (sa_nil))) (len_cons (len_cons (len_nil)))) (se_cal 10 (Cal.of (ok__law_moved E) E.g__law_moved) (sa_cons (se_var 1 1) (sa_cons (se_var 14 14) (sa_cons (se_met (j := 5) (MetOk.cons E.c_Curve E.me_Curve_add (ok_Curve_add E) rfl (by decide) (MetOk.nil)) (se_var 6 6) (sa_cons (se_var 17 17) (sa_cons (se_var 5 5) (sa_nil))) (len_cons (len_cons (len_nil)))) (sa_nil)))) (len_cons (len_cons (len_cons (len_nil)))))) (sl_one (ss_ret (se_bl))) (sl_nil))))))
    (sl_one (ss_ret (se_bl)))))))))))))))))
end L_curveseal_k75_whole_curves_and_their_twi

local macro_rules | `(tactic| array_mem_dec) => `(tactic| with_reducible first | assumption | ((apply Z.Bd.mul) <;> array_mem_dec) | ((apply Z.Bd.add) <;> array_mem_dec) | ((apply Z.Bd.sub) <;> array_mem_dec) | ((apply Z.Bd.neg) <;> array_mem_dec) | ((apply Z.Bd.mod) <;> assumption) | ((apply Z.bd_num) <;> decide))
local macro_rules | `(tactic| array_get_dec) => `(tactic| repeat (first | (with_reducible (apply Z.is_S; first | apply Z.w_seq | apply Z.w_set | apply Z.w_if | apply Z.w_ret | apply Z.w_expr | apply Z.w_For | apply Z.w_asg | apply Z.w_skip | apply Z.w_sub | apply Z.w_retN | apply Z.w_break | apply Z.w_cont | apply Z.w_fldset)) | ((with_reducible apply Z.is_O); first | (with_reducible first | apply Z.o_addI | apply Z.o_subI | apply Z.o_eqI | apply Z.o_neI | apply Z.o_ltI | apply Z.o_gtI | apply Z.o_leI | apply Z.o_geI | apply Z.o_andI | apply Z.o_orI | apply Z.o_xorI | apply Z.o_negI | apply Z.o_eqS | apply Z.o_neS | apply Z.o_eqB | apply Z.o_neB | apply Z.o_isN | apply Z.o_isnN | apply Z.o_isB | apply Z.o_isnB | apply Z.o_lenT | apply Z.o_abs | apply Z.o_int | apply Z.o_intB | apply Z.o_ord1 | apply Z.o_leS | apply Z.o_min | apply Z.o_max) | ((with_reducible apply Z.o_ixT); exact rfl) | ((with_reducible apply Z.o_mulB); array_mem_dec; array_mem_dec; decide)) | ((with_reducible apply Z.w_var); exact rfl) | (with_reducible (apply Z.is_E; first | apply Z.w_bin | apply Z.w_cons | apply Z.w_nil | apply Z.w_K | apply Z.w_call | apply Z.w_Fn | apply Z.w_B | apply Z.w_asB | apply Z.w_tup | apply Z.w_OrT | apply Z.w_AndT | apply Z.w_NotT | apply Z.w_lst | apply Z.w_Meth | apply Z.w_Isi | apply Z.w_And | apply Z.w_Or | apply Z.w_Not | apply Z.w_If | apply Z.w_Chain | apply Z.w_un | apply Z.w_oNone | apply Z.w_oSome | apply Z.w_Sl | apply Z.w_iRng1 | apply Z.w_iAny | apply Z.w_iRng2 | apply Z.w_iRev | apply Z.w_iZip | apply Z.w_iEnum | apply Z.w_comp | apply Z.w_true | apply Z.w_dic | apply Z.w_Fld | apply Z.w_Met | apply Z.w_Make)) | (with_reducible (apply Z.is_D; first | apply Z.d_T | apply Z.d_F | apply Z.d_not)) | (with_reducible apply Z.d_bl) | (with_reducible apply Z.d_int) | (with_reducible refine Z.d_len (by simp) ?_) | ((with_reducible apply Z.d_fld); (with_reducible assumption); exact rfl; exact rfl) | ((with_reducible apply Z.d_met); (with_reducible assumption); exact rfl; exact rfl)))
local macro_rules | `(tactic| sizeOf_list_dec) => `(tactic| repeat (first | (with_reducible (apply Z.is_S; first | apply Z.w_seq | apply Z.w_set | apply Z.w_if | apply Z.w_ret | apply Z.w_expr | apply Z.w_For | apply Z.w_asg | apply Z.w_skip | apply Z.w_sub | apply Z.w_retN | apply Z.w_break | apply Z.w_cont | apply Z.w_fldset)) | ((with_reducible apply Z.is_O); first | (with_reducible first | apply Z.o_addI | apply Z.o_subI | apply Z.o_eqI | apply Z.o_neI | apply Z.o_ltI | apply Z.o_gtI | apply Z.o_leI | apply Z.o_geI | apply Z.o_andI | apply Z.o_orI | apply Z.o_xorI | apply Z.o_negI | apply Z.o_eqS | apply Z.o_neS | apply Z.o_eqB | apply Z.o_neB | apply Z.o_isN | apply Z.o_isnN | apply Z.o_isB | apply Z.o_isnB | apply Z.o_lenT | apply Z.o_abs | apply Z.o_int | apply Z.o_intB | apply Z.o_ord1 | apply Z.o_leS | apply Z.o_min | apply Z.o_max) | ((with_reducible apply Z.o_ixT); exact rfl) | ((with_reducible apply Z.o_mulB); array_mem_dec; array_mem_dec; decide)) | ((with_reducible apply Z.w_var); exact rfl) | (with_reducible (apply Z.is_E; first | apply Z.w_bin | apply Z.w_cons | apply Z.w_nil | apply Z.w_K | apply Z.w_call | apply Z.w_Fn | apply Z.w_B | apply Z.w_asB | apply Z.w_tup | apply Z.w_OrT | apply Z.w_AndT | apply Z.w_NotT | apply Z.w_lst | apply Z.w_Meth | apply Z.w_Isi | apply Z.w_And | apply Z.w_Or | apply Z.w_Not | apply Z.w_If | apply Z.w_Chain | apply Z.w_un | apply Z.w_oNone | apply Z.w_oSome | apply Z.w_Sl | apply Z.w_iRng1 | apply Z.w_iAny | apply Z.w_iRng2 | apply Z.w_iRev | apply Z.w_iZip | apply Z.w_iEnum | apply Z.w_comp | apply Z.w_true | apply Z.w_dic | apply Z.w_Fld | apply Z.w_Met | apply Z.w_Make)) | (with_reducible (apply Z.is_D; first | apply Z.d_T | apply Z.d_F | apply Z.d_not)) | (with_reducible apply Z.d_bl) | (with_reducible apply Z.d_int) | (with_reducible refine Z.d_len (by simp) ?_) | ((with_reducible apply Z.d_fld); (with_reducible assumption); exact rfl; exact rfl) | ((with_reducible apply Z.d_met); (with_reducible assumption); exact rfl; exact rfl) | (with_reducible (apply Z.is_D; first | refine Z.d_decF (by omega) ?_ | refine Z.d_decT (by omega) ?_)) | (with_reducible (apply Z.is_O; first | refine Z.o_mulS (by first | decide | omega) ?_ | refine Z.o_mulSR (by first | decide | omega) ?_ | refine Z.o_modI (by first | decide | omega) ?_ | refine Z.o_fdivI (by first | decide | omega) ?_ | refine Z.o_shrI (by first | decide | omega) ?_ | refine Z.o_lenS (by first | decide | omega) ?_))))
namespace Z
open PySem PySem.Spec PyProof.Rows L2
open L_curveseal_k75_whole_curves_and_their_twi
section
variable {h : Hm} {V : W → Hm → Prop} {E : Exn → Hm → Prop}
structure BzI (a m f0 f1 f2 s0 s1 s2 : Int) : Prop where
  e1 : a * f1 + m * f2 = f0
  e2 : a * s1 + m * s2 = s0
  f : 0 ≤ f0 ∧ f0 ≤ m
  s : 0 ≤ s0 ∧ s0 ≤ m
  g : Int.gcd f0 s0 = Int.gcd a m
  b1 : -m ≤ f1 ∧ f1 ≤ m
  b2 : -m ≤ f2 ∧ f2 ≤ m
  c1 : -m ≤ s1 ∧ s1 ≤ m
  c2 : -m ≤ s2 ∧ s2 ≤ m
  sg : (0 ≤ f1 ∧ s1 ≤ 0 ∧ f2 ≤ 0 ∧ 0 ≤ s2 ∧ f1 * s0 - s1 * f0 = m ∧ s2 * f0 - f2 * s0 = a) ∨ (f1 ≤ 0 ∧ 0 ≤ s1 ∧ 0 ≤ f2 ∧ s2 ≤ 0 ∧ s1 * f0 - f1 * s0 = m ∧ f2 * s0 - s2 * f0 = a)
theorem gcd_step {x y : Int} : Int.gcd y (x - x / y * y) = Int.gcd x y := by
  rw [Int.gcd_sub_mul_right_right, Int.gcd_comm]
theorem mul_ge {x y : Int} (hx : 0 ≤ x) (hy : 1 ≤ y) : x ≤ x * y := by
  have := Int.mul_le_mul_of_nonneg_left hy hx
  rwa [Int.mul_one] at this
theorem BzI.next {a m f0 f1 f2 s0 s1 s2 : Int} (ha : 0 ≤ a) (ham : a ≤ m) (I : BzI a m f0 f1 f2 s0 s1 s2) (h0 : s0 ≠ 0) : BzI a m s0 s1 s2 (f0 - f0 / s0 * s0) (f1 - f0 / s0 * s1) (f2 - f0 / s0 * s2) := by
  have hs := I.s
  have hf := I.f
  have q0 : 0 ≤ f0 / s0 := Int.ediv_nonneg hf.1 hs.1
  have er : f0 - f0 / s0 * s0 = f0 % s0 := by
    have := Int.mul_ediv_add_emod f0 s0
    rw [Int.mul_comm s0] at this
    omega
  have r0 := Int.emod_nonneg f0 h0
  have r1 := Int.emod_lt_of_pos f0 (show 0 < s0 by omega)
  have r2 : 0 ≤ f0 - f0 / s0 * s0 := by omega
  have gg := gcd_step (x := f0) (y := s0)
  rw [I.g] at gg
  have e1 := I.e1
  have e2 := I.e2
  have sg := I.sg
  have c1 := I.c1
  have c2 := I.c2
  generalize f0 / s0 = q at *
  have d1 : s1 * (f0 - q * s0) - (f1 - q * s1) * s0 = s1 * f0 - f1 * s0 := by grind
  have d2 : (f2 - q * s2) * s0 - s2 * (f0 - q * s0) = f2 * s0 - s2 * f0 := by grind
  have ne : a * (f1 - q * s1) + m * (f2 - q * s2) = f0 - q * s0 := by
    rw [← e1, ← e2]
    grind
  rcases sg with ⟨g1, g2, g3, g4, g5, g6⟩ | ⟨g1, g2, g3, g4, g5, g6⟩
  · have k1 : q * s1 ≤ 0 := Int.mul_nonpos_of_nonneg_of_nonpos q0 g2
    have k2 : 0 ≤ q * s2 := Int.mul_nonneg q0 g4
    have l1 : 0 ≤ f1 - q * s1 := by omega
    have l2 : f2 - q * s2 ≤ 0 := by omega
    have u1 : s1 * (f0 - q * s0) ≤ 0 := Int.mul_nonpos_of_nonpos_of_nonneg g2 r2
    have u2 : 0 ≤ s2 * (f0 - q * s0) := Int.mul_nonneg g4 r2
    have v1 := mul_ge l1 (show 1 ≤ s0 by omega)
    have v2 := mul_ge (show 0 ≤ -(f2 - q * s2) by omega) (show 1 ≤ s0 by omega)
    rw [Int.neg_mul] at v2
    exact ⟨e2, ne, hs, ⟨r2, by omega⟩, gg, c1, c2, ⟨by omega, by omega⟩, ⟨by omega, by omega⟩, .inr ⟨g2, l1, g4, l2, by omega, by omega⟩⟩
  · have k1 : 0 ≤ q * s1 := Int.mul_nonneg q0 g2
    have k2 : q * s2 ≤ 0 := Int.mul_nonpos_of_nonneg_of_nonpos q0 g4
    have l1 : f1 - q * s1 ≤ 0 := by omega
    have l2 : 0 ≤ f2 - q * s2 := by omega
    have u1 : 0 ≤ s1 * (f0 - q * s0) := Int.mul_nonneg g2 r2
    have u2 : s2 * (f0 - q * s0) ≤ 0 := Int.mul_nonpos_of_nonpos_of_nonneg g4 r2
    have v1 := mul_ge (show 0 ≤ -(f1 - q * s1) by omega) (show 1 ≤ s0 by omega)
    have v2 := mul_ge l2 (show 1 ≤ s0 by omega)
    rw [Int.neg_mul] at v1
    exact ⟨e2, ne, hs, ⟨r2, by omega⟩, gg, c1, c2, ⟨by omega, by omega⟩, ⟨by omega, by omega⟩, .inl ⟨g2, l1, g4, l2, by omega, by omega⟩⟩
theorem sp_bezout {a m : Int} (h0 : 0 ≤ a) (ham : a < m) (mm : Md m) (hfu : m < 1000000000) (q : ∀ x y : Int, a * x + m * y = (Int.gcd a m : Nat) → V (.tup [.int (Int.gcd a m : Nat), .int x, .int y]) h) : (F_bezout [.int a, .int m] h).wp V E := by
  refine w_mk ?_
  sizeOf_list_dec
  refine w_while (fun d σ h1 => h1 = h ∧ ∃ f0 f1 f2 s0 s1 s2 u v, σ = [some (.int a), some (.int m), some (.tup [.int f0, .int f1, .int f2]), some (.tup [.int s0, .int s1, .int s2]), u, v] ∧ BzI a m f0 f1 f2 s0 s1 s2 ∧ d = s0.toNat) m.toNat (lt_fuel (by omega)) ⟨rfl, a, 1, 0, m, 0, 1, none, none, rfl, ⟨by omega, by omega, ⟨by omega, by omega⟩, ⟨by omega, by omega⟩, rfl, ⟨by omega, by omega⟩, ⟨by omega, by omega⟩, ⟨by omega, by omega⟩, ⟨by omega, by omega⟩, .inl ⟨by omega, by omega, by omega, by omega, by omega, by omega⟩⟩, rfl⟩ ?_
  rintro d σ h1 ⟨rfl, f0, f1, f2, s0, s1, s2, u, v, rfl, I, rfl⟩
  array_get_dec
  have hs := I.s
  have hf := I.f
  refine d_dec (fun hz => ?_) fun hz => ?_
  · subst hz
    have g := I.g
    rw [Int.gcd_zero_right] at g
    have ef : f0 = (Int.gcd a m : Nat) := by omega
    sizeOf_list_dec
    subst ef
    exact q _ _ I.e1
  · have ms : Md s0 := Md.small hs.1 hs.2 mm
    have mq : Md (f0 / s0) := Md.small (Int.ediv_nonneg hf.1 hs.1) (Int.le_trans (Int.ediv_le_self s0 hf.1) hf.2) mm
    have m1 : Md s1 := Md.ab I.c1.1 I.c1.2 mm
    have m2 : Md s2 := Md.ab I.c2.1 I.c2.2 mm
    array_get_dec
    refine o_fdivM ms (by omega) ?_
    array_get_dec
    refine o_mulM mq ms ?_
    array_get_dec
    refine o_mulM mq m1 ?_
    array_get_dec
    refine o_mulM mq m2 ?_
    array_get_dec
    have J := I.next h0 (Int.le_of_lt ham) hz
    have er : f0 - f0 / s0 * s0 = f0 % s0 := by
      have := Int.mul_ediv_add_emod f0 s0
      rw [Int.mul_comm s0] at this
      omega
    have r1 := Int.emod_lt_of_pos f0 (show 0 < s0 by omega)
    exact ⟨_, by have := J.s; omega, rfl, _, _, _, _, _, _, _, _, rfl, J, rfl⟩
/-- the inverse modulo m, where there is one -/
theorem sp_inverse {a m : Int} (hm : 0 < m) (mm : Md m) (hfu : m < 1000000000) (g : Int.gcd (a % m) m = 1) (q : ∀ x : Int, 0 ≤ x → x < m → m ∣ a * x - 1 → V (.int x) h) : (F_inverse [.int a, .int m] h).wp V E := by
  refine w_mk ?_
  sizeOf_list_dec
  refine sp_bezout (Int.emod_nonneg _ (by omega)) (Int.emod_lt_of_pos _ hm) mm hfu fun x y e => ?_
  rw [g] at e ⊢
  refine ⟨_, rfl, ?_⟩
  sizeOf_list_dec
  refine q _ (Int.emod_nonneg _ (by omega)) (Int.emod_lt_of_pos _ hm) ?_
  have e1 := Int.mul_ediv_add_emod a m
  have e2 := Int.mul_ediv_add_emod x m
  generalize a % m = ar at *
  generalize x % m = xr at *
  generalize a / m = aq at *
  generalize x / m = xq at *
  have e : ar * x + m * y = 1 := e
  refine ⟨aq * xr - ar * xq - y, ?_⟩
  subst e1 e2
  grind
end
end Z

namespace Z
open PySem PySem.Spec PyProof.Rows L2 Zp
open L_curveseal_k75_whole_curves_and_their_twi
section
variable {h : Hm} {V : W → Hm → Prop} {E : Exn → Hm → Prop}
theorem Md.mod {i m : Int} (hm : 0 < m) (mm : Md m) : Md (i % m) := Md.small (Int.emod_nonneg _ (by omega)) (Int.le_of_lt (Int.emod_lt_of_pos _ hm)) mm
theorem shr1 (e : Int) : e / 2 ^ (1 : Int).toNat = e / 2 := rfl
theorem sp_power {a e m : Int} (he : 0 ≤ e) (me : Md e) (hm : 0 < m) (mm : Md m) (q : ∀ r : Int, 0 ≤ r → r < m → zm m r = zm m a ^ e.toNat → V (.int r) h) : (F_power [.int a, .int e, .int m] h).wp V E := by
  refine w_mk ?_
  sizeOf_list_dec
  have fin : (4000 : Nat) < fuel := by decide
  refine w_while (fun d σ h1 => h1 = h ∧ ∃ e' r s, σ = [some (.int a), some (.int e'), some (.int m), some (.int r), some (.int s)] ∧ 0 ≤ e' ∧ e' < 2 ^ d ∧ 0 ≤ r ∧ r < m ∧ 0 ≤ s ∧ s < m ∧ zm m r * zm m s ^ e'.toNat = zm m a ^ e.toNat) 4000 fin ⟨rfl, e, 1 % m, a % m, rfl, he, me.2, Int.emod_nonneg _ (by omega), Int.emod_lt_of_pos _ hm, Int.emod_nonneg _ (by omega), Int.emod_lt_of_pos _ hm, ?_⟩ ?_
  · rw [zm_mod, zm_mod, show zm m 1 = (1 : Zm m) from rfl, Lean.Grind.Semiring.one_mul]
  rintro d σ h1 ⟨rfl, e', r, s, rfl, h0, h2, r0, r1, s0, s1, eq⟩
  array_get_dec
  have mr : Md r := Md.small r0 (Int.le_of_lt r1) mm
  have ms : Md s := Md.small s0 (Int.le_of_lt s1) mm
  refine d_dec (fun hp => ?_) fun hp => ?_
  · array_get_dec
    rw [bitAnd_m1]
    have hh := zpow_half (zm m s) e'.toNat
    have d1 : e'.toNat / 2 = (e' / 2).toNat := by omega
    have hd : d ≠ 0 := fun z => by
      subst z
      have : e' < 1 := h2
      omega
    have hb : e' / 2 < 2 ^ (d - 1) := by
      obtain ⟨k, rfl⟩ : ∃ k, d = k + 1 := ⟨d - 1, by omega⟩
      rw [Int.pow_succ] at h2
      rw [Nat.add_sub_cancel]
      omega
    refine d_dec (fun ho => ?_) fun ho => ?_
    · array_get_dec
      refine o_mulM mr ms ?_
      array_get_dec
      refine o_modI hm ?_
      array_get_dec
      refine o_mulM ms ms ?_
      array_get_dec
      refine o_modI hm ?_
      array_get_dec
      refine o_shrI (by decide) ?_
      refine ⟨d - 1, by omega, rfl, e' / 2, r * s % m, s * s % m, rfl, by omega, hb, Int.emod_nonneg _ (by omega), Int.emod_lt_of_pos _ hm, Int.emod_nonneg _ (by omega), Int.emod_lt_of_pos _ hm, ?_⟩
      rw [zm_mod, zm_mod, zm_mul, zm_mul, ← eq, hh, ← d1]
      have : e'.toNat % 2 = 1 := by omega
      rw [this, show (zm m s) ^ 1 = 1 * zm m s from rfl]
      generalize (zm m s * zm m s) ^ (e'.toNat / 2) = z
      grind
    · array_get_dec
      refine o_mulM ms ms ?_
      array_get_dec
      refine o_modI hm ?_
      array_get_dec
      refine o_shrI (by decide) ?_
      refine ⟨d - 1, by omega, rfl, e' / 2, r, s * s % m, rfl, by omega, hb, r0, r1, Int.emod_nonneg _ (by omega), Int.emod_lt_of_pos _ hm, ?_⟩
      rw [zm_mod, zm_mul, ← eq, hh, ← d1]
      have : e'.toNat % 2 = 0 := by omega
      rw [this, zpow_zero, Lean.Grind.Semiring.mul_one]
  · have : e' = 0 := by omega
    subst this
    rw [show (0 : Int).toNat = 0 from rfl, zpow_zero, Lean.Grind.Semiring.mul_one] at eq
    sizeOf_list_dec
    exact q r r0 r1 eq
def hf (p : Int) : Nat := ((p - 1) / 2).toNat
theorem sp_square_class {a p : Int} (P : Pm p) (mp : Md p) (q0 : zm p a = 0 → V (.int 0) h) (q1 : zm p a ^ hf p = 1 → V (.int 1) h) (q2 : zm p a ^ hf p = -1 → V (.int (-1)) h) : (F_square_class [.int a, .int p] h).wp V E := by
  have hp := P.gt
  refine w_mk ?_
  sizeOf_list_dec
  refine sp_power (by omega) (Md.small (by omega) (by omega) mp) (by omega) mp fun r r0 r1 er => ?_
  have er : zm p r = zm p a ^ hf p := er
  sizeOf_list_dec
  have m1 : zm p (p - 1) = -1 := by
    have : zm p (p - 1) = zm p (-1) := zm_sound ⟨1, by omega⟩
    rw [this]
    rfl
  refine d_dec (fun hr => ?_) fun hr => ?_
  · sizeOf_list_dec
    exact q2 (by rw [← er, hr, m1])
  · sizeOf_list_dec
    by_cases ha : zm p a = 0
    · have hh : hf p ≠ 0 := by unfold hf; omega
      have e0 : zm p r = 0 := by
        rw [er, ha]
        obtain ⟨k, ek⟩ : ∃ k, hf p = k + 1 := ⟨hf p - 1, by omega⟩
        rw [ek, zpow_succ, Lean.Grind.Semiring.mul_zero]
      have := zm_lt P r0 r1 e0
      subst this
      exact q0 ha
    · rcases P.half ha with e1 | e1
      · have e1 : zm p a ^ hf p = 1 := e1
        have : r = 1 := zm_inj (er.trans e1) r0 r1 (by omega) (by omega)
        subst this
        exact q1 e1
      · have e1 : zm p a ^ hf p = -1 := e1
        exact absurd (zm_inj (er.trans (e1.trans m1.symm)) r0 r1 (by omega) (by omega)) hr
theorem sp_other_class {p : Int} (P : Pm p) (mp : Md p) (hfu : p < 1000000000) (q : ∀ n : Int, zm p n ^ hf p = -1 → V (.int n) h) : (F_other_class [.int p] h).wp V E := by
  obtain ⟨g, g0, g1, ge⟩ := P.nonres
  refine w_mk ?_
  sizeOf_list_dec
  refine w_while (fun d σ h1 => h1 = h ∧ ∃ n : Int, σ = [some (.int p), some (.int n)] ∧ n ≤ g ∧ d = (g - n).toNat) (g - 2).toNat (lt_fuel (by omega)) ⟨rfl, 2, rfl, g0, rfl⟩ ?_
  rintro d σ h1 ⟨rfl, n, rfl, hn, rfl⟩
  have step : n ≠ g → (sAug 1 addI (xK (.int 1)) [some (.int p), some (.int n)] h1).wp (fun s h2 => ∃ d', d' < (g - n).toNat ∧ h2 = h1 ∧ ∃ n : Int, s = [some (.int p), some (.int n)] ∧ n ≤ g ∧ d' = (g - n).toNat) V (fun s h2 => (sRet (xVar 1) s h2).wp (fun x h1 => V W.non h1) V (fun x x_1 => False) (fun x x_1 => False) fun x x_1 h1 => E x h1) (fun s h2 => ∃ d', d' < (g - n).toNat ∧ h2 = h1 ∧ ∃ n : Int, s = [some (.int p), some (.int n)] ∧ n ≤ g ∧ d' = (g - n).toNat) (fun x x_1 h1 => E x h1) := by
    intro hne
    refine w_aug rfl ?_
    exact ⟨.int (n + 1), h1, rfl, (g - (n + 1)).toNat, by omega, rfl, n + 1, rfl, by omega, rfl⟩
  sizeOf_list_dec
  have one_neg : (1 : Zm p) ≠ -1 := fun z => P.neg_ne z.symm
  refine sp_square_class P mp (fun z => ?_) (fun z => ?_) (fun z => ?_)
  · sizeOf_list_dec
    refine step fun e => ?_
    subst e
    exact absurd z (zm_ne P (by omega) g1)
  · sizeOf_list_dec
    refine step fun e => ?_
    subst e
    exact one_neg (z.symm.trans ge)
  · sizeOf_list_dec
    exact q n z
end
end Z

namespace Z
open PySem PySem.Spec PyProof.Rows L2 Zp
open L_curveseal_k75_whole_curves_and_their_twi
section
variable {h : Hm} {V : W → Hm → Prop} {E : Exn → Hm → Prop}
theorem neg_one_sq {p : Int} : (-1 : Zm p) * -1 = 1 := by grind
/-- -1 at 2^n is a root of it -/
theorem sp_square_root {a p : Int} (P : Pm p) (mp : Md p) (hfu : p < 1000000000) (q0 : zm p a = 0 → V (.int 0) h) (q1 : zm p a ^ hf p = -1 → V .non h)
    (q2 : ∀ y : Int, 0 < y → 2 * y < p → zm p y * zm p y = zm p a → V (.int y) h) : (F_square_root [.int a, .int p] h).wp V E := by
  have hp := P.gt
  have ho := P.odd
  refine w_mk ?_
  array_get_dec
  refine o_modI (by omega) ?_
  sizeOf_list_dec
  have a0 := Int.emod_nonneg a (show p ≠ 0 by omega)
  have a1 := Int.emod_lt_of_pos a (show 0 < p by omega)
  have za : zm p (a % p) = zm p a := zm_mod a
  generalize a % p = b at a0 a1 za
  rw [← za] at q0 q1 q2
  refine d_dec (fun hb => ?_) fun hb => ?_
  · sizeOf_list_dec
    subst hb
    exact q0 rfl
  have nb : zm p b ≠ 0 := zm_ne P (by omega) a1
  sizeOf_list_dec
  refine sp_square_class P mp (fun z => (nb z).elim) (fun z => ?_) (fun z => ?_)
  rotate_left
  · sizeOf_list_dec
    exact q1 z
  sizeOf_list_dec
  have hE : ((p - 1) / 2).toNat = hf p := rfl
  refine w_while (fun d σ h1 => h1 = h ∧ ∃ (o : Int) (t : Nat), σ = [some (.int b), some (.int p), some (.int o), some (.int t), none, none, none, none, none, none, none] ∧ 0 < o ∧ o < 2 ^ d ∧ o * 2 ^ t = p - 1) 4000 (by decide) ⟨rfl, p - 1, 0, rfl, by omega, by have := mp.2; omega, by rw [Int.pow_zero, Int.mul_one]⟩ ?_
  rintro d σ h1 ⟨rfl, o, t, rfl, o0, o2, ot⟩
  array_get_dec
  rw [bitAnd_m1]
  refine d_dec (fun hev => ?_) fun hev => ?_
  · sizeOf_list_dec
    refine w_aug rfl ?_
    have hd : d ≠ 0 := fun z => by
      subst z
      have : o < 1 := o2
      omega
    have hb : o / 2 < 2 ^ (d - 1) := by
      obtain ⟨k, rfl⟩ : ∃ k, d = k + 1 := ⟨d - 1, by omega⟩
      rw [Int.pow_succ] at o2
      rw [Nat.add_sub_cancel]
      omega
    refine ⟨.int (((t + 1 : Nat) : Nat) : Int), h1, rfl, d - 1, by omega, rfl, o / 2, t + 1, rfl, by omega, hb, ?_⟩
    rw [Int.pow_succ, ← ot]
    have e : o = o / 2 * 2 := by omega
    have : o * 2 ^ t = o / 2 * 2 * 2 ^ t := by rw [← e]
    rw [this, Int.mul_comm (2 ^ t) 2, ← Int.mul_assoc]
  -- the odd part is found
  have odd : o % 2 = 1 := by omega
  have t1 : 1 ≤ t := by
    by_cases ht : t = 0
    · subst ht
      rw [Int.pow_zero, Int.mul_one] at ot
      omega
    · omega
  have ole : o ≤ p - 1 := by
    have : o * 1 ≤ o * 2 ^ t := Int.mul_le_mul_of_nonneg_left (by
      have := Int.pow_pos (n := 2) (m := t) (by decide)
      omega) (by omega)
    omega
  have mo : Md o := Md.small (by omega) (by omega) mp
  have hfo : hf p = o.toNat * 2 ^ (t - 1) := by
    obtain ⟨s, rfl⟩ : ∃ s, t = s + 1 := ⟨t - 1, by omega⟩
    rw [Nat.add_sub_cancel]
    have e1 : (o.toNat : Int) = o := Int.toNat_of_nonneg (by omega)
    have e2 : ((o.toNat * 2 ^ s : Nat) : Int) * 2 = p - 1 := by
      rw [Int.natCast_mul, e1, Int.natCast_pow, ← ot, Int.pow_succ, ← Int.mul_assoc]
      rfl
    unfold hf
    omega
  sizeOf_list_dec
  refine sp_power (by omega) (Md.small (by omega) (by omega) mp) (by omega) mp fun r r0 r1 er => ?_
  sizeOf_list_dec
  refine sp_power (by omega) mo (by omega) mp fun s s0 s1 es => ?_
  sizeOf_list_dec
  refine sp_other_class P mp hfu fun g eg => ?_
  sizeOf_list_dec
  refine sp_power (by omega) mo (by omega) mp fun u u0 u1 eu => ?_
  sizeOf_list_dec
  have er2 : zm p r * zm p r = zm p b * zm p s := by
    rw [er, es, ← zpow_add]
    have : ((o + 1) / 2).toNat + ((o + 1) / 2).toNat = o.toNat + 1 := by omega
    rw [this, zpow_succ]
    grind
  have es2 : zm p s ^ 2 ^ (t - 1) = 1 := by rw [es, ← zpow_mul, ← hfo, z]
  have eu2 : zm p u ^ 2 ^ (t - 1) = -1 := by rw [eu, ← zpow_mul, ← hfo, eg]
  have tb : t < 1000000000 := by
    have a : t < 2 ^ t := Nat.lt_two_pow_self
    have b : ((2 ^ t : Nat) : Int) = (2 : Int) ^ t := by rw [Int.natCast_pow]; rfl
    have c : 1 * (2 : Int) ^ t ≤ o * 2 ^ t := Int.mul_le_mul_of_nonneg_right (by omega) (Int.le_of_lt (Int.pow_pos (by decide)))
    omega
  clear er es eu hfo odd ole mo ot hev o0 o2
  refine w_while (fun d σ h2 => h2 = h1 ∧ ∃ (r s u : Int) (t : Nat) (v7 v8 v9 v10 : Option W), σ = [some (.int b), some (.int p), some (.int o), some (.int t), some (.int r), some (.int s), some (.int u), v7, v8, v9, v10] ∧ 1 ≤ t ∧ d = t ∧ 0 ≤ r ∧ r < p ∧ 0 ≤ s ∧ s < p ∧ 0 ≤ u ∧ u < p ∧ zm p r * zm p r = zm p b * zm p s ∧ zm p s ^ 2 ^ (t - 1) = 1 ∧ zm p u ^ 2 ^ (t - 1) = -1 ∧ t < 1000000000) t (lt_fuel tb) ⟨rfl, r, s, u, t, none, none, none, none, rfl, t1, rfl, r0, r1, s0, s1, u0, u1, er2, es2, eu2, tb⟩ ?_
  clear er2 es2 eu2 r0 r1 s0 s1 u0 u1 t1 tb
  rintro t σ h1 ⟨rfl, r, s, u, t', v7, v8, v9, v10, rfl, t1, rfl, r0, r1, s0, s1, u0, u1, er2, es2, eu2, tb⟩
  array_get_dec
  refine d_dec (fun hs => ?_) fun hs => ?_
  · subst hs
    sizeOf_list_dec
    have er2 : zm p r * zm p r = zm p b := by
      rw [er2, show zm p 1 = (1 : Zm p) from rfl]
      grind
    have nr : r ≠ 0 := fun e => by
      subst e
      exact nb (er2.symm.trans (Lean.Grind.Semiring.zero_mul _))
    split
    · refine q2 (p - r) (by omega) (by omega) ?_
      have : zm p (p - r) = -zm p r := by
        have : zm p (p - r) = zm p (-r) := zm_sound ⟨1, by omega⟩
        rw [this]
        rfl
      rw [this, ← er2]
      grind
    · exact q2 r (by omega) (by omega) er2
  -- the order of s
  sizeOf_list_dec
  have mr : Md r := Md.small r0 (Int.le_of_lt r1) mp
  have ms : Md s := Md.small s0 (Int.le_of_lt s1) mp
  have mu : Md u := Md.small u0 (Int.le_of_lt u1) mp
  have ns : zm p s ≠ 1 := fun e => hs (zm_inj e s0 s1 (by omega) (by omega))
  refine w_while (fun d σ h2 => h2 = h1 ∧ ∃ (k : Nat) (w : Int), σ = [some (.int b), some (.int p), some (.int o), some (.int t), some (.int r), some (.int s), some (.int u), some (.int k), some (.int w), v9, v10] ∧ k ≤ t - 1 ∧ d = t - 1 - k ∧ 0 ≤ w ∧ w < p ∧ zm p w = zm p s ^ 2 ^ k ∧ ∀ j, j < k → zm p s ^ 2 ^ j ≠ 1) (t - 1) (lt_fuel (by omega)) ⟨rfl, 0, s, rfl, by omega, rfl, s0, s1, by rw [Nat.pow_zero, zpow_succ, zpow_zero, Lean.Grind.Semiring.one_mul], fun j hj => by omega⟩ ?_
  rintro d σ h1 ⟨rfl, k, w, rfl, hk, rfl, w0, w1, ew, no⟩
  array_get_dec
  have mw : Md w := Md.small w0 (Int.le_of_lt w1) mp
  refine d_dec (fun hw => ?_) fun hw => ?_
  rotate_left
  · array_get_dec
    refine o_mulM mw mw ?_
    array_get_dec
    refine o_modI (by omega) ?_
    array_get_dec
    refine w_aug rfl ?_
    have nk : zm p s ^ 2 ^ k ≠ 1 := fun e => hw (zm_inj (ew.trans e) w0 w1 (by omega) (by omega))
    have lk : k ≠ t - 1 := fun e => nk (by rw [e]; exact es2)
    refine ⟨.int (((k + 1 : Nat) : Nat) : Int), h1, rfl, t - 1 - (k + 1), by omega, rfl, k + 1, w * w % p, rfl, by omega, rfl, Int.emod_nonneg _ (by omega), Int.emod_lt_of_pos _ (by omega), ?_, fun j hj => ?_⟩
    · rw [zm_mod, zm_mul, ew, zpow_two]
    · by_cases e : j = k
      · rw [e]
        exact nk
      · exact no j (by omega)
  subst hw
  have e1 : zm p s ^ 2 ^ k = 1 := ew.symm
  have k0 : k ≠ 0 := fun e => by
    subst e
    rw [Nat.pow_zero, zpow_succ, zpow_zero, Lean.Grind.Semiring.one_mul] at e1
    exact ns e1
  obtain ⟨k, rfl⟩ : ∃ j, k = j + 1 := ⟨k - 1, by omega⟩
  have em : zm p s ^ 2 ^ k = -1 := by
    have : zm p s ^ 2 ^ k * zm p s ^ 2 ^ k = 1 := by rw [← zpow_two, e1]
    exact (P.sq_one this).resolve_left (no k (by omega))
  sizeOf_list_dec
  refine ⟨_, rfl, smallI_ok (by omega), ?_⟩
  have hn : ((t : Int) - ((k + 1 : Nat) : Int) - 1).toNat = t - (k + 1) - 1 := by omega
  rw [hn]
  refine w_rng0 (fun (i : Nat) (σ : Sg) (h2 : Hm) => h2 = h1 ∧ ∃ (f : Int) (v : Option W), σ = [some (.int b), some (.int p), some (.int o), some (.int t), some (.int r), some (.int s), some (.int u), some (.int ((k + 1 : Nat) : Int)), some (.int 1), some (.int f), v] ∧ 0 ≤ f ∧ f < p ∧ zm p f = zm p u ^ 2 ^ i) (lt_fuel (by omega)) ⟨rfl, u, v10, rfl, u0, u1, by rw [Nat.pow_zero, zpow_succ, zpow_zero, Lean.Grind.Semiring.one_mul]⟩ ?_ ?_
  · rintro i σ h1 hi ⟨rfl, f, v, rfl, f0, f1, ef⟩
    refine ⟨_, rfl, ?_⟩
    have mf : Md f := Md.small f0 (Int.le_of_lt f1) mp
    array_get_dec
    refine o_mulM mf mf ?_
    array_get_dec
    refine o_modI (by omega) ?_
    exact ⟨rfl, f * f % p, _, rfl, Int.emod_nonneg _ (by omega), Int.emod_lt_of_pos _ (by omega), by rw [zm_mod, zm_mul, ef, zpow_two]⟩
  · rintro σ h1 ⟨rfl, f, v, rfl, f0, f1, ef⟩
    have mf : Md f := Md.small f0 (Int.le_of_lt f1) mp
    array_get_dec
    refine o_mulM mr mf ?_
    array_get_dec
    refine o_modI (by omega) ?_
    array_get_dec
    refine o_mulM mf mf ?_
    array_get_dec
    refine o_modI (by omega) ?_
    array_get_dec
    refine o_mulM ms (Md.mod (by omega) mp) ?_
    array_get_dec
    refine o_modI (by omega) ?_
    array_get_dec
    refine ⟨k + 1, by omega, rfl, r * f % p, s * (f * f % p) % p, f * f % p, k + 1, _, _, _, _, rfl, by omega, rfl, Int.emod_nonneg _ (by omega), Int.emod_lt_of_pos _ (by omega), Int.emod_nonneg _ (by omega), Int.emod_lt_of_pos _ (by omega), Int.emod_nonneg _ (by omega), Int.emod_lt_of_pos _ (by omega), ?_, ?_, ?_, ?_⟩
    · rw [zm_mod, zm_mod, zm_mul, zm_mul, zm_mod, zm_mul]
      grind
    · rw [zm_mod, zm_mul, zm_mod, zm_mul, ef, zmul_pow, Nat.add_sub_cancel, em, ← zpow_two, ← zpow_mul, ← Nat.pow_add]
      have : t - (k + 1) - 1 + 1 + k = t - 1 := by omega
      rw [this, eu2]
      grind
    · rw [zm_mod, zm_mul, ef, Nat.add_sub_cancel, ← zpow_two, ← zpow_mul, ← Nat.pow_add]
      have : t - (k + 1) - 1 + 1 + k = t - 1 := by omega
      rw [this, eu2]
    · omega
end
end Z

namespace Z
open PySem PySem.Spec PyProof.Rows L2 Zp
open L_curveseal_k75_whole_curves_and_their_twi
section
variable {h : Hm} {V : W → Hm → Prop} {E : Exn → Hm → Prop}
abbrev cvF (p a b : Int) : List (Str × W) := [("prime", .int p), ("a", .int a), ("b", .int b)]
/-- a curve object -/
structure Cv (h : Hm) (r : Nat) (p a b : Int) : Prop where
  at_ : h[r]? = some (.ins 4 (cvF p a b))
  pp : 0 < p
  bp : Bd 600 p
  ba : Bd 600 a
  bb : Bd 600 b
theorem Cv.pre {h h' : Hm} {r : Nat} {p a b : Int} (c : Cv h r p a b) (q : h <+: h') : Cv h' r p a b := ⟨pre_get q c.at_, c.pp, c.bp, c.ba, c.bb⟩
theorem sp_init {r : Nat} {p a b : Int} (e : h[r]? = some (.ins 4 [])) (h5 : 5 ≤ p) (ho : p % 2 = 1) (bp : Bd 600 p) (ns : (4 * (a % p) * (a % p) * (a % p) + 27 * (b % p) * (b % p)) % p ≠ 0) (q : V .non (h.set r (.ins 4 (cvF p (a % p) (b % p))))) : (F_Curve___init__ [.ref r, .int p, .int a, .int b] h).wp V E := by
  have hp : 0 < p := by omega
  have ba : Bd 600 (a % p) := Bd.mod hp bp
  have bb : Bd 600 (b % p) := Bd.mod hp bp
  refine w_mk ?_
  sizeOf_list_dec
  rw [bitAnd_m1]
  sizeOf_list_dec
  refine ⟨_, setF_at e rfl (by decide), ?_⟩
  have lt := lt_of_get' e
  have e1 : (h.set r (.ins 4 (putW "prime" (.int p) [])))[r]? = some (.ins 4 [("prime", .int p)]) := List.getElem?_set_self lt
  sizeOf_list_dec
  refine ⟨_, setF_at e1 rfl (by simp), ?_⟩
  have e2 : ((h.set r (.ins 4 (putW "prime" (.int p) []))).set r (.ins 4 (putW "a" (.int (a % p)) [("prime", .int p)])))[r]? = some (.ins 4 [("prime", .int p), ("a", .int (a % p))]) := List.getElem?_set_self (by simpa using lt)
  sizeOf_list_dec
  refine ⟨_, setF_at e2 rfl (by simp), ?_⟩
  rw [List.set_set, List.set_set] at *
  have e3 : (h.set r (.ins 4 (putW "b" (.int (b % p)) [("prime", .int p), ("a", .int (a % p))])))[r]? = some (.ins 4 (cvF p (a % p) (b % p))) := List.getElem?_set_self lt
  sizeOf_list_dec
  exact q
theorem sp_right_side {r : Nat} {p a b x : Int} (c : Cv h r p a b) (bx : Bd 600 x) (q : V (.int ((x * x * x + a * x + b) % p)) h) : (F_Curve_right_side [.ref r, .int x] h).wp V E := by
  obtain ⟨e, pp, bp, ba, bb⟩ := c
  refine w_mk ?_
  sizeOf_list_dec
  exact q
/-- numbers below p have inverses -/
structure Pg (p : Int) : Prop where
  pm : Pm p
  gcd : ∀ r : Int, 0 < r → r < p → Int.gcd r p = 1
  small : p < 1000000000
theorem Pg.bd {p : Int} (g : Pg p) : Bd 600 p := by
  have a := g.small
  have b := g.pm.gt
  have c : (p.natAbs : Int) = p := by omega
  have d : Bd 30 p := by
    unfold Bd
    omega
  exact d.mono (by decide)
theorem sp_inv {d m : Int} (g : Pg m) (hd : zm m d ≠ 0) (q : ∀ x : Int, 0 ≤ x → x < m → zm m d * zm m x = 1 → V (.int x) h) : (F_inverse [.int d, .int m] h).wp V E := by
  have gt := g.pm.gt
  refine sp_inverse (by omega) (g.bd.md (by decide)) g.small ?_ fun x x0 x1 e => q x x0 x1 ?_
  · have a0 := Int.emod_nonneg d (show m ≠ 0 by omega)
    have a1 := Int.emod_lt_of_pos d (show 0 < m by omega)
    refine g.gcd _ ?_ a1
    by_cases e : d % m = 0
    · exact absurd (mod_zero.mp e) hd
    · omega
  · exact zm_sound e
def ptW : Option (Int × Int) → W
  | none => .non
  | some (x, y) => .tup [.int x, .int y]
def Rp (p : Int) : Option (Int × Int) → Pt p → Prop
  | none, z => z = none
  | some (x, y), z => 0 ≤ x ∧ x < p ∧ 0 ≤ y ∧ y < p ∧ z = some (zm p x, zm p y)
set_option maxHeartbeats 4000000 in
theorem sp_add {r : Nat} {p a b : Int} {P Q : Option (Int × Int)} {zP zQ : Pt p} (c : Cv h r p a b) (g : Pg p) (hP : Rp p P zP) (hQ : Rp p Q zQ) (oP : OnC (zm p a) (zm p b) zP) (oQ : OnC (zm p a) (zm p b) zQ)
    (q : ∀ R zR, Rp p R zR → AddZ (zm p a) zP zQ zR → V (ptW R) h) : (F_Curve_add [.ref r, ptW P, ptW Q] h).wp V E := by
  obtain ⟨e, pp, bp, ba, bb⟩ := c
  refine w_mk ?_
  match P, hP with
  | none, hP =>
    have hP : zP = none := hP
    subst hP
    sizeOf_list_dec
    dsimp only [isNonW, ptW]
    sizeOf_list_dec
    exact q Q zQ hQ rfl
  | some (x1, y1), hP =>
    match Q, hQ with
    | none, hQ =>
      have hQ : zQ = none := hQ
      subst hQ
      sizeOf_list_dec
      dsimp only [isNonW, ptW]
      sizeOf_list_dec
      dsimp only [isNonW, ptW]
      sizeOf_list_dec
      refine q (some (x1, y1)) zP hP ?_
      obtain ⟨_, _, _, _, rfl⟩ := hP
      exact rfl
    | some (x2, y2), hQ =>
      obtain ⟨x10, x11, y10, y11, rfl⟩ := hP
      obtain ⟨x20, x21, y20, y21, rfl⟩ := hQ
      have bx1 : Bd 600 x1 := Bd.of_lt x10 x11 bp
      have by1 : Bd 600 y1 := Bd.of_lt y10 y11 bp
      have bx2 : Bd 600 x2 := Bd.of_lt x20 x21 bp
      have by2 : Bd 600 y2 := Bd.of_lt y20 y21 bp
      dsimp only [ptW]
      refine w_seqM (fun σ h1 => h1 = h ∧ σ = [some (.ref r), some (.tup [.int x1, .int y1]), some (.tup [.int x2, .int y2]), none, none, none, none, none, none]) (by array_get_dec; dsimp only [isNonW]; array_get_dec; exact ⟨rfl, rfl⟩) ?_
      rintro σ h ⟨rfl, rfl⟩
      refine w_seqM (fun σ h1 => h1 = h ∧ σ = [some (.ref r), some (.tup [.int x1, .int y1]), some (.tup [.int x2, .int y2]), none, none, none, none, none, none]) (by array_get_dec; dsimp only [isNonW]; array_get_dec; exact ⟨rfl, rfl⟩) ?_
      rintro σ h ⟨rfl, rfl⟩
      refine w_seqM (fun σ h1 => h1 = h ∧ σ = [some (.ref r), some (.tup [.int x1, .int y1]), some (.tup [.int x2, .int y2]), some (.int x1), some (.int y1), none, none, none, none]) (by array_get_dec; exact ⟨_, rfl, rfl, rfl⟩) ?_
      rintro σ h ⟨rfl, rfl⟩
      refine w_seqM (fun σ h1 => h1 = h ∧ σ = [some (.ref r), some (.tup [.int x1, .int y1]), some (.tup [.int x2, .int y2]), some (.int x1), some (.int y1), some (.int x2), some (.int y2), none, none]) (by array_get_dec; exact ⟨_, rfl, rfl, rfl⟩) ?_
      rintro σ h ⟨rfl, rfl⟩
      have xe : x1 = x2 ↔ zm p x1 = zm p x2 := ⟨fun e => by rw [e], fun e => zm_inj e x10 x11 x20 x21⟩
      refine w_seqM (fun σ h1 => h1 = h ∧ σ = [some (.ref r), some (.tup [.int x1, .int y1]), some (.tup [.int x2, .int y2]), some (.int x1), some (.int y1), some (.int x2), some (.int y2), none, none] ∧ ¬ (zm p x1 = zm p x2 ∧ zm p y1 + zm p y2 = 0)) ?_ ?_
      · array_get_dec
        refine d_dec (fun hx => ?_) fun hx => ?_
        · array_get_dec
          refine o_modI pp ?_
          array_get_dec
          refine d_dec (fun hy => ?_) fun hy => ?_
          · array_get_dec
            refine q none none rfl (.inl ⟨xe.mp hx, ?_, rfl⟩)
            rw [← zm_add]
            exact mod_zero.mp hy
          · array_get_dec
            exact ⟨rfl, rfl, fun z => hy (mod_zero.mpr z.2)⟩
        · array_get_dec
          exact ⟨rfl, rfl, fun z => hx (xe.mpr z.1)⟩
      rintro σ h ⟨rfl, rfl, hn⟩
      refine w_seqM (fun σ h1 => h1 = h ∧ ∃ l : Int, σ = [some (.ref r), some (.tup [.int x1, .int y1]), some (.tup [.int x2, .int y2]), some (.int x1), some (.int y1), some (.int x2), some (.int y2), some (.int l), none] ∧ Bd 2500 l ∧
          ∃ i, (zm p x1 = zm p x2 ∧ (2 * zm p y1) * i = 1 ∧ zm p l = (3 * zm p x1 * zm p x1 + zm p a) * i) ∨ (zm p x1 ≠ zm p x2 ∧ (zm p x2 - zm p x1) * i = 1 ∧ zm p l = (zm p y2 - zm p y1) * i)) ?_ ?_
      · array_get_dec
        refine d_dec (fun hx => ?_) fun hx => ?_
        · have eq : zm p y1 = zm p y2 := by
            have o1 : zm p y1 * zm p y1 = zm p x1 * zm p x1 * zm p x1 + zm p a * zm p x1 + zm p b := oP
            have o2 : zm p y2 * zm p y2 = zm p x2 * zm p x2 * zm p x2 + zm p a * zm p x2 + zm p b := oQ
            rw [← xe.mp hx] at o2
            rcases g.pm.dom (zm p y1 - zm p y2) (zm p y1 + zm p y2) (by clear q; grind) with z | z
            · clear q
              grind
            · exact absurd ⟨xe.mp hx, z⟩ hn
          have n2 : zm p (2 * y1) ≠ 0 := by
            rw [zm_mul, show zm p 2 = (2 : Zm p) from rfl]
            intro z
            exact hn ⟨xe.mp hx, by rw [← eq]; clear q; grind⟩
          array_get_dec
          refine sp_inv g n2 fun i i0 i1 ei => ?_
          have bi : Bd 600 i := Bd.of_lt i0 i1 bp
          have b3 : Bd 64 3 := bd_lit (by decide)
          have bn : Bd 1900 (3 * x1 * x1 + a) := (((b3.mul bx1).mul bx1).add ba).mono (by decide)
          array_get_dec
          refine ⟨rfl, _, rfl, bn.mul bi, zm p i, .inl ⟨xe.mp hx, ?_, rfl⟩⟩
          rw [zm_mul] at ei
          exact ei
        · have n2 : zm p (x2 - x1) ≠ 0 := by
            rw [zm_sub]
            intro z
            exact hx (xe.mpr (by clear q; grind))
          array_get_dec
          refine sp_inv g n2 fun i i0 i1 ei => ?_
          have bi : Bd 600 i := Bd.of_lt i0 i1 bp
          have bn : Bd 1900 (y2 - y1) := (by2.sub by1).mono (by decide)
          array_get_dec
          refine ⟨rfl, _, rfl, bn.mul bi, zm p i, .inr ⟨fun z => hx (xe.mpr z), ?_, ?_⟩⟩
          · rw [zm_sub] at ei
            exact ei
          · rw [zm_mul, zm_sub]
      rintro σ h ⟨rfl, l, rfl, bl, i, hs⟩
      refine w_seqM (fun σ h1 => h1 = h ∧ ∃ x3 : Int, σ = [some (.ref r), some (.tup [.int x1, .int y1]), some (.tup [.int x2, .int y2]), some (.int x1), some (.int y1), some (.int x2), some (.int y2), some (.int l), some (.int x3)] ∧ 0 ≤ x3 ∧ x3 < p ∧ zm p x3 = zm p l * zm p l - zm p x1 - zm p x2) ?_ ?_
      · array_get_dec
        refine o_modI pp ?_
        exact ⟨rfl, _, rfl, Int.emod_nonneg _ (by omega), Int.emod_lt_of_pos _ pp, by rw [zm_mod, zm_sub, zm_sub, zm_mul]⟩
      rintro σ h ⟨rfl, x3, rfl, x30, x31, e3⟩
      have bx3 : Bd 600 x3 := Bd.of_lt x30 x31 bp
      array_get_dec
      refine o_modI pp ?_
      array_get_dec
      exact q (some (x3, (l * (x1 - x3) - y1) % p)) _ ⟨x30, x31, Int.emod_nonneg _ (by omega), Int.emod_lt_of_pos _ pp, rfl⟩ (.inr ⟨hn, i, zm p l, _, _, rfl, hs, e3, by rw [zm_mod, zm_sub, zm_mul, zm_sub]⟩)
end
end Z

namespace Z
open PySem PySem.Spec PyProof.Rows L2 Zp
open L_curveseal_k75_whole_curves_and_their_twi
def ngZ {p : Int} : Pt p → Pt p
  | none => none
  | some (x, y) => some (x, -y)
theorem ng_on {p : Int} {a b : Zm p} {P : Pt p} (h : OnC a b P) : OnC a b (ngZ P) := by
  match P with
  | none => trivial
  | some (x, y) =>
    have h : y * y = x * x * x + a * x + b := h
    show -y * -y = x * x * x + a * x + b
    rw [← h]
    grind
theorem Bd.lt {f : Int} {k : Nat} (b : Bd k f) : f < 2 ^ k := by
  unfold Bd at b
  have d : ((2 ^ k : Nat) : Int) = (2 : Int) ^ k := by rw [Int.natCast_pow]; rfl
  omega
section
variable {h : Hm} {V : W → Hm → Prop} {E : Exn → Hm → Prop}
theorem sp_negate {r : Nat} {p a b : Int} {P : Option (Int × Int)} {zP : Pt p} (c : Cv h r p a b) (hP : Rp p P zP) (q : ∀ R, Rp p R (ngZ zP) → V (ptW R) h) : (F_Curve_negate [.ref r, ptW P] h).wp V E := by
  obtain ⟨e, pp, bp, ba, bb⟩ := c
  refine w_mk ?_
  match P, hP with
  | none, hP =>
    have hP : zP = none := hP
    subst hP
    array_get_dec
    dsimp only [isNonW, ptW]
    array_get_dec
    exact q none rfl
  | some (x, y), hP =>
    obtain ⟨x0, x1, y0, y1, rfl⟩ := hP
    dsimp only [ptW]
    array_get_dec
    dsimp only [isNonW]
    array_get_dec
    refine o_modI pp ?_
    array_get_dec
    refine q (some (x, -y % p)) ⟨x0, x1, Int.emod_nonneg _ (by omega), Int.emod_lt_of_pos _ pp, ?_⟩
    rw [zm_mod, zm_neg]
    rfl
theorem sp_mul_pos {rec : List W → Hm → Out W} {r : Nat} {p a b f : Int} {P : Option (Int × Int)} {zP : Pt p} (c : Cv h r p a b) (g : Pg p) (hP : Rp p P zP) (oP : OnC (zm p a) (zm p b) zP) (h0 : 0 ≤ f) (bf : Bd 600 f)
    (q : ∀ R zR, Rp p R zR → OnC (zm p a) (zm p b) zR → MulL (zm p a) f.toNat none zP zR → V (ptW R) h) : (mkF 4 (b_Curve_multiply rec) [.ref r, .int f, ptW P] h).wp V E := by
  have e := c.at_
  have pp := c.pp
  refine w_mk ?_
  refine w_seqM (fun σ h1 => h1 = h ∧ σ = [some (.ref r), some (.int f), some (ptW P), none]) (by sizeOf_list_dec; exact ⟨rfl, rfl⟩) ?_
  rintro σ h ⟨rfl, rfl⟩
  refine w_seqM (fun σ h1 => h1 = h ∧ σ = [some (.ref r), some (.int f), some (ptW P), some .non]) (by array_get_dec; exact ⟨rfl, rfl⟩) ?_
  rintro σ h ⟨rfl, rfl⟩
  array_get_dec
  refine w_while (fun d σ h1 => h1 = h ∧ ∃ (n : Int) (A Q : Option (Int × Int)) (zA zQ : Pt p), σ = [some (.ref r), some (.int n), some (ptW Q), some (ptW A)] ∧ 0 ≤ n ∧ n < 2 ^ d ∧ Rp p A zA ∧ Rp p Q zQ ∧ OnC (zm p a) (zm p b) zA ∧ OnC (zm p a) (zm p b) zQ ∧ ∀ zR, MulL (zm p a) n.toNat zA zQ zR → MulL (zm p a) f.toNat none zP zR) 600 (lt_fuel (by decide))
    ⟨rfl, f, none, P, none, zP, rfl, h0, bf.lt, rfl, hP, trivial, oP, fun zR m => m⟩ ?_
  rintro d σ h ⟨rfl, n, A, Q, zA, zQ, rfl, n0, n2, hA, hQ, oA, oQ, back⟩
  array_get_dec
  refine d_dec (fun hn => ?_) fun hn => ?_
  · have hd : d ≠ 0 := fun z => by
      subst z
      have : n < 1 := n2
      omega
    have hb : n / 2 < 2 ^ (d - 1) := by
      obtain ⟨k, rfl⟩ : ∃ k, d = k + 1 := ⟨d - 1, by omega⟩
      rw [Int.pow_succ] at n2
      rw [Nat.add_sub_cancel]
      omega
    have hh : n.toNat / 2 = (n / 2).toNat := by omega
    refine w_seqM (fun σ h1 => h1 = h ∧ ∃ (A' : Option (Int × Int)) (zA' : Pt p), σ = [some (.ref r), some (.int n), some (ptW Q), some (ptW A')] ∧ Rp p A' zA' ∧ OnC (zm p a) (zm p b) zA' ∧ ∀ zQ' zR, AddZ (zm p a) zQ zQ zQ' → MulL (zm p a) (n / 2).toNat zA' zQ' zR → MulL (zm p a) f.toNat none zP zR) ?_ ?_
    · array_get_dec
      rw [bitAnd_m1]
      refine d_dec (fun ho => ?_) fun ho => ?_
      · array_get_dec
        refine sp_add c g hA hQ oA oQ fun R zR hR hz => ?_
        exact ⟨rfl, R, zR, rfl, hR, AddZ.on oA oQ hz, fun zQ' zS ha hm => back zS (.odd (by omega) hz ha (by rw [hh]; exact hm))⟩
      · array_get_dec
        exact ⟨rfl, A, zA, rfl, hA, oA, fun zQ' zS ha hm => back zS (.even (by omega) (by omega) ha (by rw [hh]; exact hm))⟩
    rintro σ h ⟨rfl, A', zA', rfl, hA', oA', back'⟩
    refine w_seqM (fun σ h1 => h1 = h ∧ ∃ (Q' : Option (Int × Int)) (zQ' : Pt p), σ = [some (.ref r), some (.int n), some (ptW Q'), some (ptW A')] ∧ Rp p Q' zQ' ∧ AddZ (zm p a) zQ zQ zQ') ?_ ?_
    · array_get_dec
      refine sp_add c g hQ hQ oQ oQ fun R zR hR hz => ?_
      exact ⟨rfl, R, zR, rfl, hR, hz⟩
    rintro σ h ⟨rfl, Q', zQ', rfl, hQ', hz⟩
    array_get_dec
    refine o_shrI (by decide) ?_
    exact ⟨d - 1, by omega, rfl, n / 2, A', Q', zA', zQ', rfl, by omega, hb, hA', hQ', oA', AddZ.on oQ oQ hz, fun zR hm => back' zQ' zR hz hm⟩
  · have : n = 0 := by omega
    subst this
    array_get_dec
    exact q A zA hA oA (back zA .zero)
/-- the multiple -/
def MulZ {p : Int} (a : Zm p) (f : Int) (P R : Pt p) : Prop := if f < 0 then MulL a (-f).toNat none (ngZ P) R else MulL a f.toNat none P R
theorem sp_multiply {r : Nat} {p a b f : Int} {P : Option (Int × Int)} {zP : Pt p} (c : Cv h r p a b) (g : Pg p) (hP : Rp p P zP) (oP : OnC (zm p a) (zm p b) zP) (bf : Bd 600 f)
    (q : ∀ R zR, Rp p R zR → OnC (zm p a) (zm p b) zR → MulZ (zm p a) f zP zR → V (ptW R) h) : (F_Curve_multiply [.ref r, .int f, ptW P] h).wp V E := by
  by_cases hf : f < 0
  · have e := c.at_
    refine w_mk ?_
    array_get_dec
    refine d_decT hf ?_
    array_get_dec
    refine sp_negate c hP fun R hR => ?_
    array_get_dec
    refine sp_mul_pos c g hR (ng_on oP) (by omega) bf.neg fun S zS hS oS hm => ?_
    refine q S zS hS oS ?_
    unfold MulZ
    rw [if_pos hf]
    exact hm
  · refine sp_mul_pos c g hP oP (by omega) bf fun S zS hS oS hm => ?_
    refine q S zS hS oS ?_
    unfold MulZ
    rw [if_neg hf]
    exact hm
end
end Z

namespace Z
open PySem PySem.Spec PyProof.Rows L2 Zp
open L_curveseal_k75_whole_curves_and_their_twi
section
variable {h : Hm} {V : W → Hm → Prop} {E : Exn → Hm → Prop}
theorem sp_has {r : Nat} {p a b : Int} {P : Option (Int × Int)} {zP : Pt p} (c : Cv h r p a b) (hP : Rp p P zP) (oP : OnC (zm p a) (zm p b) zP) (q : V (.bl true) h) : (F_Curve_has [.ref r, ptW P] h).wp V E := by
  have e := c.at_
  have pp := c.pp
  have bp := c.bp
  refine w_mk ?_
  match P, hP with
  | none, hP =>
    array_get_dec
    dsimp only [isNonW, ptW]
    array_get_dec
    exact q
  | some (x, y), hP =>
    obtain ⟨x0, x1, y0, y1, rfl⟩ := hP
    have bx : Bd 600 x := Bd.of_lt x0 x1 bp
    have bY : Bd 600 y := Bd.of_lt y0 y1 bp
    dsimp only [ptW]
    refine w_seqM (fun σ h1 => h1 = h ∧ σ = [some (.ref r), some (.tup [.int x, .int y]), none]) (by array_get_dec; dsimp only [isNonW]; array_get_dec; exact ⟨rfl, rfl⟩) ?_
    rintro σ h ⟨rfl, rfl⟩
    refine w_seqM (fun σ h1 => h1 = h ∧ σ = [some (.ref r), some (.tup [.int x, .int y]), none]) (by array_get_dec; exact ⟨true, rfl, by sizeOf_list_dec; refine d_decT (by simp) ?_; array_get_dec; exact ⟨rfl, rfl⟩⟩) ?_
    rintro σ h ⟨rfl, rfl⟩
    refine w_seqM (fun σ h1 => h1 = h ∧ ∃ v, σ = [some (.ref r), some (.tup [.int x, .int y]), v]) ?_ ?_
    · array_get_dec
      refine .inl ⟨[.int x, .int y], rfl, ?_⟩
      refine w_items (xs := [.int x, .int y]) (fun i σ h1 => h1 = h ∧ ∃ v, σ = [some (.ref r), some (.tup [.int x, .int y]), v]) (lt_fuel (by simp)) ⟨rfl, none, rfl⟩ (fun _ _ _ _ => rfl) ?_ (fun _ _ z => z)
      rintro i σ h w ew ⟨rfl, v, rfl⟩
      obtain ⟨n, rfl, n0, n1⟩ : ∃ n : Int, w = .int n ∧ 0 ≤ n ∧ n < p := by
        have := List.mem_of_getElem? ew
        simp only [List.mem_cons, List.not_mem_nil, or_false] at this
        rcases this with rfl | rfl
        · exact ⟨x, rfl, x0, x1⟩
        · exact ⟨y, rfl, y0, y1⟩
      refine ⟨_, rfl, ?_⟩
      array_get_dec
      refine ⟨true, rfl, ?_⟩
      array_get_dec
      refine ⟨false, rfl, ?_⟩
      sizeOf_list_dec
      exact ⟨rfl, _, rfl⟩
    rintro σ h ⟨rfl, v, rfl⟩
    array_get_dec
    refine sp_right_side c bx ?_
    array_get_dec
    refine o_modI pp ?_
    array_get_dec
    have z : (y * y - (x * x * x + a * x + b) % p) % p = 0 := by
      rw [mod_zero, zm_sub, zm_mod, zm_add, zm_add, zm_mul, zm_mul, zm_mul, zm_mul]
      have oP : zm p y * zm p y = zm p x * zm p x * zm p x + zm p a * zm p x + zm p b := oP
      rw [oP]
      clear q
      grind
    rw [z]
    exact q
theorem sp_lift {r : Nat} {p a b x : Int} {o : Bool} (c : Cv h r p a b) (g : Pg p) (x0 : 0 ≤ x) (x1 : x < p)
    (q0 : zm p (x * x * x + a * x + b) = 0 → V (if o then .non else .tup [.int x, .int 0]) h) (q1 : zm p (x * x * x + a * x + b) ^ hf p = -1 → V .non h)
    (q2 : ∀ y : Int, 0 < y → y < p → zm p y * zm p y = zm p (x * x * x + a * x + b) → y % 2 = (if o then 1 else 0) → V (.tup [.int x, .int y]) h) : (F_Curve_lift [.ref r, .int x, .bl o] h).wp V E := by
  have e := c.at_
  have pp := c.pp
  have bp := c.bp
  have bx : Bd 600 x := Bd.of_lt x0 x1 bp
  have od := g.pm.odd
  refine w_mk ?_
  refine w_seqM (fun σ h1 => h1 = h ∧ σ = [some (.ref r), some (.int x), some (.bl o), none]) (by sizeOf_list_dec; exact ⟨rfl, rfl⟩) ?_
  rintro σ h ⟨rfl, rfl⟩
  array_get_dec
  refine sp_right_side c bx ?_
  array_get_dec
  have zv : zm p ((x * x * x + a * x + b) % p) = zm p (x * x * x + a * x + b) := zm_mod _
  refine sp_square_root g.pm (bp.md (by decide)) g.small (fun z => ?_) (fun z => ?_) (fun y y0 y1 ey => ?_)
  · rw [zv] at z
    have q0 := q0 z
    array_get_dec
    dsimp only [isNonW]
    sizeOf_list_dec
    cases o with
    | true =>
      sizeOf_list_dec
      exact q0
    | false =>
      sizeOf_list_dec
      rw [bitAnd_m1]
      refine d_decT (by decide) ?_
      sizeOf_list_dec
      exact q0
  · rw [zv] at z
    array_get_dec
    dsimp only [isNonW]
    array_get_dec
    exact q1 z
  · rw [zv] at ey
    have bY : Bd 600 y := Bd.of_lt (by omega) (by omega) bp
    array_get_dec
    dsimp only [isNonW]
    sizeOf_list_dec
    rw [bitAnd_m1]
    have ng : zm p (p - y) * zm p (p - y) = zm p y * zm p y := by
      have : zm p (p - y) = -zm p y := by
        have : zm p (p - y) = zm p (-y) := zm_sound ⟨1, by omega⟩
        rw [this]
        rfl
      rw [this]
      clear q0 q1 q2
      grind
    by_cases hy : y % 2 = 1
    · rw [decide_eq_true hy]
      cases o with
      | true =>
        sizeOf_list_dec
        refine d_decT rfl ?_
        sizeOf_list_dec
        exact q2 y y0 (by omega) ey hy
      | false =>
        sizeOf_list_dec
        refine d_decF (by decide) ?_
        sizeOf_list_dec
        exact q2 (p - y) (by omega) (by omega) (ng.trans ey) (by show (p - y) % 2 = 0; omega)
    · rw [decide_eq_false hy]
      cases o with
      | true =>
        sizeOf_list_dec
        refine d_decF (by decide) ?_
        sizeOf_list_dec
        exact q2 (p - y) (by omega) (by omega) (ng.trans ey) (by show (p - y) % 2 = 1; omega)
      | false =>
        sizeOf_list_dec
        refine d_decT rfl ?_
        sizeOf_list_dec
        exact q2 y y0 (by omega) ey (by show y % 2 = 0; omega)
end
end Z

namespace Z
open PySem PySem.Spec PyProof.Rows L2 Zp
open L_curveseal_k75_whole_curves_and_their_twi
/-- how many of the first i numbers have the square v -/
def rt (p : Int) (i v : Nat) : Nat := (List.range i).countP fun (y : Nat) => decide ((y : Int) * y % p = v)
def rtab (p : Int) (i : Nat) : List W := (List.range p.toNat).map fun v => .int (rt p i v)
theorem rt_succ (p : Int) (i v : Nat) : rt p (i + 1) v = rt p i v + if (i : Int) * i % p = v then 1 else 0 := by
  unfold rt
  rw [List.range_succ, List.countP_append, List.countP_singleton]
  simp
theorem rtab_len (p : Int) (i : Nat) : (rtab p i).length = p.toNat := by simp [rtab]
theorem rtab_get {p : Int} {i v : Nat} (h : v < p.toNat) : (rtab p i)[v]? = some (.int (rt p i v)) := by
  unfold rtab
  rw [List.getElem?_map, List.getElem?_range h]
  rfl
theorem rtab_set {p : Int} {i : Nat} (hp : 0 < p) : (rtab p i).set ((i : Int) * i % p).toNat (.int ((rt p i ((i : Int) * i % p).toNat : Nat) + 1)) = rtab p (i + 1) := by
  have a0 := Int.emod_nonneg ((i : Int) * i) (show p ≠ 0 by omega)
  have a1 := Int.emod_lt_of_pos ((i : Int) * i) hp
  apply List.ext_getElem?
  intro v
  by_cases hv : v < p.toNat
  · by_cases he : ((i : Int) * i % p).toNat = v
    · subst he
      rw [List.getElem?_set_self (by rw [rtab_len]; exact hv), rtab_get hv, rt_succ, if_pos (by omega)]
      rfl
    · rw [List.getElem?_set_ne he, rtab_get hv, rtab_get hv, rt_succ, if_neg (by omega)]
      rfl
  · rw [List.getElem?_eq_none (by rw [List.length_set, rtab_len]; omega), List.getElem?_eq_none (by rw [rtab_len]; omega)]
theorem rtab_zero (p : Int) : rtab p 0 = (List.replicate p.toNat [W.int 0]).flatten := by
  unfold rtab
  have e : ∀ n : Nat, (List.range n).map (fun v => W.int (rt p 0 v)) = (List.replicate n [W.int 0]).flatten := by
    intro n
    induction n with
    | zero => rfl
    | succ n ih =>
      rw [List.range_succ, List.map_append, ih, List.replicate_succ', List.flatten_append]
      rfl
  exact e _
def rhs (p a b x : Int) : Int := (x * x * x + a * x + b) % p
/-- the points of the curve -/
def cnt (p a b : Int) : Int := 1 + ((List.range p.toNat).map fun (x : Nat) => ((rt p p.toNat (rhs p a b x).toNat : Nat) : Int)).sum
section
variable {h : Hm} {V : W → Hm → Prop} {E : Exn → Hm → Prop}
theorem o_repL {r : Nat} {k : Int} {xs : List W} (e : h[r]? = some (.lst xs)) (m : -(2 ^ 63) ≤ k ∧ k < 2 ^ 63 ∧ xs.length * k.toNat ≤ 16777216) (q : V (.ref h.length) (h ++ [.lst (List.replicate k.toNat xs).flatten])) : (ofO (mulW (.ref r) (.int k) h)).wp V E := by
  refine w_ofO (p := mulW (.ref r) (.int k) h) ?_ q
  unfold mulW
  simp only [e]
  rw [if_pos m]
theorem ints_map (f : Nat → Int) : ∀ xs : List Nat, ints? (xs.map fun x => W.int (f x)) = some (xs.map f)
  | [] => rfl
  | x :: xs => by
    show (ints? (xs.map fun x => W.int (f x))).map _ = _
    rw [ints_map f xs]
    rfl
theorem o_sum {a : W} {xs : List W} {ns : List Int} (hl : isL a h = true) (e : seqC a h = some xs) (e2 : ints? xs = some ns) (q : V (.int ns.sum) h) : (ofO (sumW [a] h)).wp V E := by
  refine w_ofO (p := sumW [a] h) ?_ q
  unfold sumW
  dsimp only
  rw [if_pos hl, e]
  show (ints? xs).map _ = _
  rw [e2]
  rfl
theorem sp_count {r : Nat} {p a b : Int} (c : Cv h r p a b) (hs : p < 60000) (q : ∀ h', h <+: h' → V (.int (cnt p a b)) h') : (F_count_points [.ref r] h).wp V E := by
  have e := c.at_
  have pp := c.pp
  have bp := c.bp
  refine w_mk ?_
  refine w_seqM (fun σ h1 => h1 = h ∧ σ = [some (.ref r), none, none, none, none]) ?_ ?_
  · array_get_dec
    refine d_decF ?_ ?_
    · show ¬ (65536 : Int) ≤ p
      omega
    array_get_dec
    exact ⟨rfl, rfl⟩
  rintro σ h ⟨rfl, rfl⟩
  refine w_seqM (fun σ h1 => ∃ t, h <+: h1 ∧ h.length ≤ t ∧ h1[t]? = some (.lst (rtab p 0)) ∧ σ = [some (.ref r), some (.ref t), none, none, none]) ?_ ?_
  · array_get_dec
    have e' : (h ++ [O.lst [.int 0]])[r]? = some (.ins 4 (cvF p a b)) := get_old e
    array_get_dec
    refine o_repL get_new (by simp; omega) ?_
    rw [← rtab_zero]
    exact ⟨_, pre_new ⟨_, rfl⟩, by simp, get_new, rfl⟩
  rintro σ h1 ⟨t, p1, ht, g1, rfl⟩
  refine w_seqM (fun σ h2 => ∃ u v, h <+: h2 ∧ h2[t]? = some (.lst (rtab p p.toNat)) ∧ σ = [some (.ref r), some (.ref t), u, v, none]) ?_ ?_
  · have e1 := pre_get p1 e
    array_get_dec
    refine ⟨_, rfl, smallI_ok (by omega), ?_⟩
    refine w_rng0 (fun i σ h2 => ∃ u v, h <+: h2 ∧ h2[t]? = some (.lst (rtab p i)) ∧ σ = [some (.ref r), some (.ref t), u, v, none]) (lt_fuel (by omega)) ⟨none, none, p1, g1, rfl⟩ ?_ (fun _ _ z => z)
    rintro i σ h2 hi ⟨u, v, p2, g2, rfl⟩
    have e2 := pre_get p2 e
    have bi : Bd 64 (i : Int) := bd_lit (by omega)
    have gs := rtab_set (p := p) (i := i) pp
    have gl : ∀ v, v < p.toNat → (rtab p i)[v]? = some (.int (rt p i v)) := fun v hv => rtab_get hv
    refine ⟨[some (.ref r), some (.ref t), some (.int i), v, none], rfl, ?_⟩
    generalize (i : Int) = iz at *
    array_get_dec
    refine o_modI pp ?_
    have a0 := Int.emod_nonneg (iz * iz) (show p ≠ 0 by omega)
    have a1 := Int.emod_lt_of_pos (iz * iz) pp
    array_get_dec
    refine o_ix (seqC_at g2) (w := .int (rt p i (iz * iz % p).toNat)) ?_ ?_
    · have := atI_nat' (gl (iz * iz % p).toNat (by omega))
      rw [Int.toNat_of_nonneg a0] at this
      exact this
    array_get_dec
    refine ⟨_, setW_ok g2 a0 (by rw [rtab_len]; omega), ?_⟩
    rw [gs]
    exact ⟨_, _, pre_set p2 ht, List.getElem?_set_self (lt_of_get' g2), rfl⟩
  rintro σ h2 ⟨u, v, p2, g2, rfl⟩
  have e2 := pre_get p2 e
  array_get_dec
  refine ⟨_, rfl, smallI_ok (by omega), ?_⟩
  refine w_compL (n := p.toNat) (fun i acc h3 => h3 = h2 ++ [.lst acc] ∧ acc = (List.range i).map fun (x : Nat) => W.int ((rt p p.toNat (rhs p a b x).toNat : Nat) : Int)) (lt_fuel (by omega)) (by omega) ⟨rfl, rfl⟩ (fun i acc h3 ⟨z1, z2⟩ => ⟨by rw [z1]; exact get_new, by rw [z2]; simp⟩) ?_ ?_
  · rintro i acc h3 hi ⟨rfl, rfl⟩
    have c3 : Cv (h2 ++ [.lst ((List.range i).map fun (x : Nat) => W.int ((rt p p.toNat (rhs p a b x).toNat : Nat) : Int))]) r p a b := c.pre (pre_new p2)
    have e3 := c3.at_
    have bi : Bd 600 (i : Int) := (bd_lit (by omega) : Bd 64 (i : Int)).mono (by decide)
    refine ⟨.int i, [some (.ref r), some (.ref t), u, v, some (.int i)], ?_, rfl, ?_⟩
    · unfold itRng
      rw [if_pos hi]
      simp
    have fin : (List.range (i + 1)).map (fun (x : Nat) => W.int ((rt p p.toNat (rhs p a b x).toNat : Nat) : Int)) = (List.range i).map (fun (x : Nat) => W.int ((rt p p.toNat (rhs p a b x).toNat : Nat) : Int)) ++ [W.int ((rt p p.toNat (rhs p a b (i : Int)).toNat : Nat) : Int)] := by
      rw [List.range_succ, List.map_append]
      rfl
    rw [fin]
    generalize (i : Int) = iz at *
    array_get_dec
    refine sp_right_side c3 bi ?_
    have a0 := Int.emod_nonneg (iz * iz * iz + a * iz + b) (show p ≠ 0 by omega)
    have a1 := Int.emod_lt_of_pos (iz * iz * iz + a * iz + b) pp
    refine o_ix (seqC_at (get_old g2)) (w := .int (rt p p.toNat (rhs p a b iz).toNat)) ?_ ?_
    · have := atI_nat' (rtab_get (p := p) (i := p.toNat) (v := (rhs p a b iz).toNat) (by unfold rhs; omega))
      rw [Int.toNat_of_nonneg (show 0 ≤ rhs p a b iz from a0)] at this
      exact this
    exact ⟨get_new, set_new, rfl⟩
  · rintro acc h3 ⟨rfl, rfl⟩
    refine ⟨?_, ?_⟩
    · unfold itRng
      rw [if_neg (Nat.lt_irrefl _)]
    array_get_dec
    refine o_sum isL_new seqC_new (ints_map _ _) ?_
    array_get_dec
    exact q _ (pre_new p2)
end
end Z

namespace Z
open PySem PySem.Spec PyProof.Rows L2 Zp
open L_curveseal_k75_whole_curves_and_their_twi
section
variable {h : Hm} {V : W → Hm → Prop} {E : Exn → Hm → Prop}
theorem sp_cell {ns : List Int} {k : Int} (e : h[0]? = some (.frz (ns.map .int))) (hk : 0 ≤ k) (q : ∀ c, V (.int c) h) : (F__law_cell [.ref 0, .int k] h).wp V E := by
  refine w_mk ?_
  sizeOf_list_dec
  refine o_len (seqC_frz e) ?_
  sizeOf_list_dec
  refine d_dec (fun hl => ?_) fun hl => ?_
  · sizeOf_list_dec
    obtain ⟨j, rfl⟩ := Int.eq_ofNat_of_zero_le hk
    have hj : j < ns.length := by
      rw [List.length_map] at hl
      omega
    refine o_ix (w := .int ns[j]) (seqC_frz e) (atI_nat' ?_) ?_
    · rw [List.getElem?_map, List.getElem?_eq_getElem hj]
      rfl
    sizeOf_list_dec
    exact q _
  · sizeOf_list_dec
    exact q _
theorem ten18 : (10 : Int) ^ (18 : Int).toNat = 1000000000000000000 := by decide
theorem six_at {a b c d e f k : Int} (k0 : 0 ≤ k) (k1 : k < 6) : ∃ v : Int, atI [W.int a, .int b, .int c, .int d, .int e, .int f] k = some (.int v) := by
  have : k = 0 ∨ k = 1 ∨ k = 2 ∨ k = 3 ∨ k = 4 ∨ k = 5 := by omega
  rcases this with rfl | rfl | rfl | rfl | rfl | rfl <;> exact ⟨_, rfl⟩
theorem two_at {a b k : Int} (k0 : 0 ≤ k) (k1 : k < 2) : ∃ v : Int, atI [W.int a, .int b] k = some (.int v) ∧ (v = a ∨ v = b) := by
  have : k = 0 ∨ k = 1 := by omega
  rcases this with rfl | rfl
  · exact ⟨a, rfl, .inl rfl⟩
  · exact ⟨b, rfl, .inr rfl⟩
theorem sp_residue {c p : Int} (hp : 0 < p) (q : ∀ v h', 0 ≤ v → v < p → h <+: h' → V (.int v) h') : (F__law_residue [.int c, .int p] h).wp V E := by
  refine w_mk ?_
  refine w_seqM (fun σ h1 => h1 = h ∧ ∃ r : Int, 0 ≤ r ∧ σ = [some (.int c), some (.int p), some (.int r)]) (by array_get_dec; exact ⟨rfl, _, by split <;> omega, rfl⟩) ?_
  rintro σ h ⟨rfl, r, r0, rfl⟩
  have fin : ∀ x : Int, 0 ≤ x % p ∧ x % p < p := fun x => ⟨Int.emod_nonneg _ (by omega), Int.emod_lt_of_pos _ hp⟩
  refine w_seqM (fun σ h1 => h1 = h ∧ r < 1000000000000000000 ∧ σ = [some (.int c), some (.int p), some (.int r)]) ?_ ?_
  · array_get_dec
    refine o_powI (by decide) ?_
    rw [ten18]
    array_get_dec
    refine d_dec (fun hl => ?_) fun hl => ?_
    · array_get_dec
      refine o_modI hp ?_
      exact q _ _ (fin _).1 (fin _).2 ⟨[], by simp⟩
    · array_get_dec
      exact ⟨rfl, by omega, rfl⟩
  rintro σ h ⟨rfl, r1, rfl⟩
  refine w_seqM (fun σ h1 => h1 = h ∧ σ = [some (.int c), some (.int p), some (.int r)]) ?_ ?_
  · sizeOf_list_dec
    refine d_dec (fun hl => ?_) fun hl => ?_
    · sizeOf_list_dec
      have k0 := Int.emod_nonneg (r / 3) (show (6 : Int) ≠ 0 by decide)
      have k1 := Int.emod_lt_of_pos (r / 3) (show (0 : Int) < 6 by decide)
      obtain ⟨v, e⟩ := six_at (a := 0) (b := 1) (c := 2) (d := p - 1) (e := p - 2) (f := 3) k0 k1
      refine o_ix seqC_new e ?_
      array_get_dec
      refine o_modI hp ?_
      exact q _ _ (fin _).1 (fin _).2 ⟨_, rfl⟩
    · sizeOf_list_dec
      exact ⟨rfl, rfl⟩
  rintro σ h ⟨rfl, rfl⟩
  sizeOf_list_dec
  exact q _ _ (fin _).1 (fin _).2 ⟨[], by simp⟩
theorem sp_lpower {a e m : Int} (he : 0 ≤ e) (me : e < 2 ^ 259) (hm : 1 < m) (bm : Bd 600 m) (q : ∀ r : Int, 0 ≤ r → r < m → zm m r = zm m a ^ e.toNat → V (.int r) h) : (F__law_power [.int a, .int e, .int m] h).wp V E := by
  have hm0 : 0 < m := by omega
  refine w_mk ?_
  refine w_seqM (fun σ h1 => h1 = h ∧ σ = [some (.int a), some (.int e), some (.int m), some (.int 1), none, none]) (by array_get_dec; exact ⟨rfl, rfl⟩) ?_
  rintro σ h ⟨rfl, rfl⟩
  refine w_seqM (fun σ h1 => h1 = h ∧ σ = [some (.int a), some (.int e), some (.int m), some (.int 1), some (.int (a % m)), none]) (by sizeOf_list_dec; exact ⟨rfl, rfl⟩) ?_
  rintro σ h ⟨rfl, rfl⟩
  refine w_seqM (fun σ h1 => h1 = h ∧ ∃ e' r s z, σ = [some (.int a), some (.int e'), some (.int m), some (.int r), some (.int s), z] ∧ 0 ≤ r ∧ r < m ∧ zm m r = zm m a ^ e.toNat) ?_ ?_
  rotate_left
  · rintro σ h ⟨rfl, e', r, s, z, rfl, r0, r1, er⟩
    array_get_dec
    exact q r r0 r1 er
  sizeOf_list_dec
  refine ⟨_, rfl, smallI_ok (by omega), ?_⟩
  refine w_rng0 (fun i σ h1 => h1 = h ∧ ∃ e' r s z, σ = [some (.int a), some (.int e'), some (.int m), some (.int r), some (.int s), z] ∧ 0 ≤ e' ∧ e' < 2 ^ (260 - i) ∧ 0 ≤ r ∧ r < m ∧ 0 ≤ s ∧ s < m ∧ zm m r * zm m s ^ e'.toNat = zm m a ^ e.toNat) (lt_fuel (by decide)) ⟨rfl, e, 1, a % m, none, rfl, he, Int.lt_trans me (by decide), by omega, by omega, Int.emod_nonneg _ (by omega), Int.emod_lt_of_pos _ hm0, ?_⟩ ?_ ?_
  · rw [zm_mod, show zm m 1 = (1 : Zm m) from rfl, Lean.Grind.Semiring.one_mul]
  · rintro i σ h1 hi ⟨rfl, e', r, s, z, rfl, h0, h2, r0, r1, s0, s1, eq⟩
    have hi : i < 260 := hi
    refine ⟨_, rfl, ?_⟩
    generalize (i : Int) = iz at *
    have br : Bd 600 r := Bd.of_lt r0 r1 bm
    have bs : Bd 600 s := Bd.of_lt s0 s1 bm
    refine w_seqM (fun σ h2 => h2 = h1 ∧ e' ≠ 0 ∧ σ = [some (.int a), some (.int e'), some (.int m), some (.int r), some (.int s), some (.int iz)]) ?_ ?_
    · array_get_dec
      refine d_dec (fun hz => ?_) fun hz => ?_
      · subst hz
        array_get_dec
        refine ⟨rfl, 0, r, s, some (.int iz), rfl, r0, r1, ?_⟩
        rw [← eq]
        show zm m r = zm m r * 1
        rw [Lean.Grind.Semiring.mul_one]
      · array_get_dec
        exact ⟨rfl, hz, rfl⟩
    rintro σ h ⟨rfl, hz, rfl⟩
    have hh := zpow_half (zm m s) e'.toNat
    have d1 : e'.toNat / 2 = (e' / 2).toNat := by omega
    have hb : e' / 2 < 2 ^ (260 - (i + 1)) := by
      have : 260 - i = (260 - (i + 1)) + 1 := by omega
      rw [this, Int.pow_succ] at h2
      omega
    have key : ∀ r', zm m r' = zm m r * zm m s ^ (e'.toNat % 2) → zm m r' * zm m (s * s % m) ^ (e' / 2).toNat = zm m a ^ e.toNat := fun r' e1 => by
      rw [zm_mod, zm_mul, ← eq, hh, ← d1, e1]
      generalize (zm m s * zm m s) ^ (e'.toNat / 2) = z1
      generalize zm m s ^ (e'.toNat % 2) = z2
      grind
    refine w_seqM (fun σ h2 => h2 = h ∧ ∃ r', 0 ≤ r' ∧ r' < m ∧ zm m r' = zm m r * zm m s ^ (e'.toNat % 2) ∧ σ = [some (.int a), some (.int e'), some (.int m), some (.int r'), some (.int s), some (.int iz)]) ?_ ?_
    · sizeOf_list_dec
      refine d_dec (fun ho => ?_) fun ho => ?_
      · array_get_dec
        refine o_modI hm0 ?_
        refine ⟨rfl, _, Int.emod_nonneg _ (by omega), Int.emod_lt_of_pos _ hm0, ?_, rfl⟩
        have : e'.toNat % 2 = 1 := by omega
        rw [this, show (zm m s) ^ 1 = 1 * zm m s from rfl, zm_mod, zm_mul]
        grind
      · array_get_dec
        refine ⟨rfl, r, r0, r1, ?_, rfl⟩
        have : e'.toNat % 2 = 0 := by omega
        rw [this, show (zm m s) ^ 0 = 1 from rfl]
        grind
    rintro σ h ⟨rfl, r', r0', r1', er', rfl⟩
    sizeOf_list_dec
    exact ⟨rfl, _, _, _, _, rfl, by omega, hb, r0', r1', Int.emod_nonneg _ (by omega), Int.emod_lt_of_pos _ hm0, key r' er'⟩
  · rintro σ h1 ⟨rfl, e', r, s, z, rfl, h0, h2, r0, r1, s0, s1, eq⟩
    refine ⟨rfl, e', r, s, z, rfl, r0, r1, ?_⟩
    have : e' = 0 := by
      have : e' < 1 := h2
      omega
    subst this
    rw [← eq]
    show zm m r = zm m r * 1
    rw [Lean.Grind.Semiring.mul_one]
/-- a prime of this law -/
structure P5 (p : Int) : Prop where
  pk : PK p.toNat
  pos : 0 < p
theorem P5.cast {p : Int} (k : P5 p) : ((p.toNat : Nat) : Int) = p := Int.toNat_of_nonneg (by have := k.pos; omega)
theorem P5.pm {p : Int} (k : P5 p) : Pm p := by
  have := k.pk.pm
  rwa [k.cast] at this
theorem P5.lt {p : Int} (k : P5 p) : 4 < p ∧ p < 220 := by
  have := k.pk.gt
  have := k.pk.lt
  omega
theorem P5.bd {p : Int} (k : P5 p) : Bd 600 p := Bd.mono (k := 64) (by
  have := k.lt
  unfold Bd
  have : p.natAbs < 220 := by omega
  exact Nat.lt_trans this (by decide)) (by decide)
theorem P5.pg {p : Int} (k : P5 p) : Pg p := by
  have l := k.lt
  refine ⟨k.pm, fun r r0 r1 => ?_, by omega⟩
  have := k.pk.gcd r.toNat (by omega) (by omega)
  unfold Int.gcd
  rw [show r.natAbs = r.toNat by omega, show p.natAbs = p.toNat by omega]
  exact this
theorem sp_linverse {a p : Int} (k : P5 p) (ha : zm p a ≠ 0) (q : ∀ r : Int, 0 ≤ r → r < p → zm p a * zm p r = 1 → V (.int r) h) : (F__law_inverse [.int a, .int p] h).wp V E := by
  have l := k.lt
  refine w_mk ?_
  array_get_dec
  refine sp_lpower (by omega) (Int.lt_trans (by omega : p - 2 < 220) (by decide)) (by omega) k.bd fun r r0 r1 e => ?_
  refine q r r0 r1 ?_
  have f := k.pm.fermat _ ha
  rw [show (p - 1).toNat = (p - 2).toNat + 1 by omega, zpow_succ, ← e] at f
  rw [Lean.Grind.CommSemiring.mul_comm]
  exact f
theorem tdivs_of {n : Int} {acc : List W} (hn : 5 ≤ n ∧ n < 220) (ha : ∀ j : Nat, 2 ≤ j → j < 15 → (j : Int) < n → n % (j : Int) = 0 → acc ≠ []) (hb : acc = []) : tdiv n.toNat = true := by
  unfold tdiv
  rw [List.all_eq_true]
  intro j hj
  have hj := List.mem_range'_1.mp hj
  by_cases hl : j < n.toNat
  · rw [decide_eq_true hl, Bool.true_and, Bool.not_eq_true']
    by_cases hm : n.toNat % j = 0
    · exact absurd hb (ha j (by omega) (by omega) (by omega) (by
        have : (n.toNat : Int) % (j : Int) = ((n.toNat % j : Nat) : Int) := (Int.natCast_emod _ _).symm
        rw [Int.toNat_of_nonneg (by omega), hm] at this
        exact this))
    · simpa using hm
  · rw [decide_eq_false hl]
    rfl
theorem sp_prime {c : Int} (q : ∀ p h', P5 p → h <+: h' → V (.int p) h') : (F__law_prime [.int c] h).wp V E := by
  refine w_mk ?_
  refine w_seqM (fun σ h1 => h1 = h ∧ ∃ n : Int, 5 ≤ n ∧ n < 200 ∧ σ = [some (.int c), some (.int n), none, none]) ?_ ?_
  · sizeOf_list_dec
    exact ⟨rfl, _, by omega, by omega, rfl⟩
  rintro σ h0 ⟨rfl, n, n0, n1, rfl⟩
  refine w_seqM (fun σ h1 => False) ?_ (fun _ _ z => z.elim)
  array_get_dec
  refine ⟨_, rfl, smallI_ok (by omega), ?_⟩
  have gp := List.all_eq_true.mp gaps n.toNat (List.mem_range'_1.mpr (by omega))
  obtain ⟨g, hg, eg⟩ := List.any_eq_true.mp gp
  have hg := List.mem_range.mp hg
  refine w_rng0 (fun i σ h1 => h0 <+: h1 ∧ i ≤ g ∧ ∃ u v, σ = [some (.int c), some (.int (n + i)), u, v]) (lt_fuel (by decide)) ⟨⟨[], by simp⟩, by omega, none, none, by simp⟩ ?_ ?_
  · rintro i σ h1 hi ⟨p1, hig, u, v, rfl⟩
    have hi : i < 20 := hi
    refine ⟨[some (.int c), some (.int (n + i)), some (.int i), v], rfl, ?_⟩
    have en : (n + (i : Int)).toNat = n.toNat + i := by omega
    have hm : 5 ≤ n + (i : Int) ∧ n + (i : Int) < 220 := by omega
    have stp : ¬ tdiv (n + (i : Int)).toNat = true → i + 1 ≤ g := fun nt => by
      rw [en] at nt
      have : i ≠ g := fun z => by
        subst z
        exact nt eg
      omega
    have ec : ((i + 1 : Nat) : Int) = (i : Int) + 1 := by omega
    rw [ec, ← Int.add_assoc]
    generalize (i : Int) = iz at *
    generalize n + iz = m at *
    refine w_seqM (fun σ h2 => h0 <+: h2 ∧ ¬ tdiv m.toNat = true ∧ σ = [some (.int c), some (.int m), some (.int iz), v]) ?_ ?_
    · array_get_dec
      refine ⟨_, _, rfl, smallI_ok (by omega), smallI_ok (by omega), ?_⟩
      refine w_compL (n := 13) (fun j acc h3 => h3 = h1 ++ [.lst acc] ∧ acc.length ≤ j ∧ (acc ≠ [] → ¬ tdiv m.toNat = true) ∧ ∀ y : Nat, 2 ≤ y → y < 2 + j → (y : Int) < m → m % (y : Int) = 0 → acc ≠ []) (lt_fuel (by decide)) (by omega) ⟨rfl, by simp, nofun, fun y a b => by omega⟩ (fun j acc h3 ⟨z1, z2, _⟩ => ⟨by rw [z1]; exact get_new, z2⟩) ?_ ?_
      · rintro j acc h3 hj ⟨rfl, hl, hc, ha⟩
        refine ⟨.int (2 + (j : Nat)), [some (.int c), some (.int m), some (.int iz), some (.int (2 + (j : Nat)))], ?_, rfl, ?_⟩
        · unfold itRng
          rw [if_pos (show j < (15 - 2 : Int).toNat from hj), Int.mul_one]
        have wr : (2 : Int) + j < m → m % (2 + j) = 0 → ¬ tdiv m.toNat = true := fun a b t => by
          unfold tdiv at t
          have := List.all_eq_true.mp t (2 + j) (List.mem_range'_1.mpr (by omega))
          rw [decide_eq_true (by omega : 2 + j < m.toNat), Bool.true_and, Bool.not_eq_true', beq_eq_false_iff_ne] at this
          refine this ?_
          have e : (m.toNat : Int) % ((2 + j : Nat) : Int) = ((m.toNat % (2 + j) : Nat) : Int) := (Int.natCast_emod _ _).symm
          rw [Int.toNat_of_nonneg (by omega), show ((2 + j : Nat) : Int) = 2 + (j : Int) by omega, b] at e
          omega
        have keep : ¬ ((2 : Int) + j < m ∧ m % (2 + j) = 0) → ∀ y : Nat, 2 ≤ y → y < 2 + (j + 1) → (y : Int) < m → m % (y : Int) = 0 → acc ≠ [] := fun nn y a b c d => by
          by_cases hy : y < 2 + j
          · exact ha y a hy c d
          · have : y = 2 + j := by omega
            subst this
            exact absurd ⟨by omega, by rw [← d]; congr 1⟩ nn
        have jp : 0 < (2 : Int) + j := by omega
        generalize (2 : Int) + j = jz at *
        array_get_dec
        refine d_dec (fun a => ?_) fun a => ?_
        · array_get_dec
          refine o_modI jp ?_
          array_get_dec
          refine d_dec (fun b => ?_) fun b => ?_
          · array_get_dec
            refine ⟨get_new, ?_⟩
            exact ⟨set_new, by rw [List.length_append]; simp; omega, fun _ => wr a b, fun _ _ _ _ _ => by simp⟩
          · array_get_dec
            exact ⟨rfl, by omega, hc, keep fun z => b z.2⟩
        · array_get_dec
          exact ⟨rfl, by omega, hc, keep fun z => a z.1⟩
      · rintro acc h3 ⟨rfl, hl, hc, ha⟩
        refine ⟨by unfold itRng; rw [if_neg (by decide)], ?_⟩
        array_get_dec
        refine o_len seqC_new ?_
        array_get_dec
        refine d_dec (fun b => ?_) fun b => ?_
        · array_get_dec
          have e : acc = [] := List.length_eq_zero_iff.mp (by omega)
          refine q m _ ⟨pk_of (by omega) (by omega) (tdivs_of hm (fun y a b => ha y a (by omega)) e), by omega⟩ (pre_new p1)
        · array_get_dec
          exact ⟨pre_new p1, hc fun z => b (by rw [z]; rfl), rfl⟩
    rintro σ h2 ⟨p2, nt, rfl⟩
    array_get_dec
    exact ⟨p2, stp nt, _, _, rfl⟩
  · rintro σ h1 ⟨p1, hig, _⟩
    have : (20 : Int).toNat ≤ g := hig
    have : (20 : Int).toNat = 20 := rfl
    omega
theorem sp_lowest {p : Int} (k : P5 p) (q : ∀ g : Int, 0 ≤ g → g < 60 → zm p g ^ hf p = -1 → V (.int g) h) : (F__law_lowest [.int p] h).wp V E := by
  have l := k.lt
  refine w_mk ?_
  obtain ⟨g, g0, g1, g2, eg⟩ := k.pk.low
  have eg : zm p g ^ hf p = -1 := by
    have h1 : zm p ((g ^ ((p.toNat - 1) / 2) % p.toNat : Nat) : Int) = zm p g ^ hf p := by
      have e1 := zm_natmod (p := p.toNat) (a := g ^ ((p.toNat - 1) / 2))
      rw [zm_natpow, k.cast] at e1
      rw [e1]
      unfold hf
      congr 1
      omega
    rw [← h1, eg]
    refine (zm_sound ⟨1, ?_⟩ : zm p ((p.toNat - 1 : Nat) : Int) = zm p (-1))
    omega
  refine w_seqM (fun σ h1 => False) ?_ (fun _ _ z => z.elim)
  array_get_dec
  refine ⟨_, _, rfl, smallI_ok (by omega), smallI_ok (by omega), ?_⟩
  refine w_rng (n := 58) (fun i σ h1 => h1 = h ∧ i + 2 ≤ g ∧ ∃ u, σ = [some (.int p), u]) (lt_fuel (by decide)) ⟨rfl, by omega, none, rfl⟩ ?_ ?_
  · rintro i σ h1 hi ⟨rfl, hig, u, rfl⟩
    refine ⟨_, rfl, ?_⟩
    have nx : ¬ zm p (2 + (i : Int)) ^ hf p = -1 → i + 1 + 2 ≤ g := fun nn => by
      have : i + 2 ≠ g := fun z => by
        subst z
        refine nn ?_
        rw [← eg]
        congr 2
        omega
      omega
    have hz : 0 ≤ (2 : Int) + i ∧ (2 : Int) + i < 60 := by omega
    generalize (2 : Int) + i = iz at *
    sizeOf_list_dec
    refine sp_lpower (by omega) (Int.lt_trans (by omega : (p - 1) / 2 < 220) (by decide)) (by omega) k.bd fun r r0 r1 e => ?_
    have e : zm p r = zm p iz ^ hf p := e
    have em : zm p (p - 1) = -1 := (zm_sound ⟨1, by omega⟩ : zm p (p - 1) = zm p (-1))
    array_get_dec
    refine d_dec (fun b => ?_) fun b => ?_
    · array_get_dec
      refine q iz hz.1 hz.2 ?_
      rw [← e, b, em]
    · array_get_dec
      refine ⟨rfl, nx fun z => b ?_, _, rfl⟩
      rw [z, ← em] at e
      exact zm_inj e r0 r1 (by omega) (by omega)
  · rintro σ h1 ⟨rfl, hig, _⟩
    omega
end
end Z

namespace Z
open PySem PySem.Spec PyProof.Rows L2 Zp
open L_curveseal_k75_whole_curves_and_their_twi
section
variable {h : Hm} {V : W → Hm → Prop} {E : Exn → Hm → Prop}
theorem P5.mod {p : Int} (k : P5 p) (x : Int) : 0 ≤ x % p ∧ x % p < p := ⟨Int.emod_nonneg _ (by have := k.pos; omega), Int.emod_lt_of_pos _ k.pos⟩
def nsH (ns : List Int) (h : Hm) : Prop := h[0]? = some (.frz (ns.map .int))
set_option maxHeartbeats 4000000 in
theorem sp_points {ns : List Int} {p : Int} (k : P5 p) (e : nsH ns h) (q : ∀ a b x1 y1 x2 y2 h', h <+: h' → 0 ≤ a → a < p → 0 ≤ b → b < p → Rp p (some (x1, y1)) (some (zm p x1, zm p y1)) → Rp p (some (x2, y2)) (some (zm p x2, zm p y2)) → OnC (zm p a) (zm p b) (some (zm p x1, zm p y1)) → OnC (zm p a) (zm p b) (some (zm p x2, zm p y2)) →
    V (.tup [.int a, .int b, .tup [.int x1, .int y1], .tup [.int x2, .int y2]]) h') : (F__law_curve_and_points [.ref 0, .int 1, .int p] h).wp V E := by
  have pos := k.pos
  have bp := k.bd
  have md := k.mod
  refine w_mk ?_
  refine w_seqM (fun σ h1 => h <+: h1 ∧ ∃ x1 : Int, 0 ≤ x1 ∧ x1 < p ∧ σ = [some (.ref 0), some (.int 1), some (.int p), some (.int x1), none, none, none, none, none]) ?_ ?_
  · array_get_dec
    refine sp_cell e (by decide) fun c => ?_
    array_get_dec
    exact sp_residue pos fun v h' v0 v1 p' => ⟨p', v, v0, v1, rfl⟩
  rintro σ h1 ⟨p1, x1, x10, x11, rfl⟩
  refine w_seqM (fun σ h1 => h <+: h1 ∧ ∃ y1 : Int, 0 ≤ y1 ∧ y1 < p ∧ σ = [some (.ref 0), some (.int 1), some (.int p), some (.int x1), some (.int y1), none, none, none, none]) ?_ ?_
  · array_get_dec
    refine sp_cell (pre_get p1 e) (by decide) fun c => ?_
    array_get_dec
    exact sp_residue pos fun v h' v0 v1 p' => ⟨p1.trans p', v, v0, v1, rfl⟩
  rintro σ h2 ⟨p2, y1, y10, y11, rfl⟩
  refine w_seqM (fun σ h1 => h <+: h1 ∧ ∃ x2 : Int, 0 ≤ x2 ∧ x2 < p ∧ σ = [some (.ref 0), some (.int 1), some (.int p), some (.int x1), some (.int y1), some (.int x2), none, none, none]) ?_ ?_
  · array_get_dec
    refine sp_cell (pre_get p2 e) (by decide) fun c => ?_
    array_get_dec
    exact sp_residue pos fun v h' v0 v1 p' => ⟨p2.trans p', v, v0, v1, rfl⟩
  rintro σ h3 ⟨p3, x2, x20, x21, rfl⟩
  refine w_seqM (fun σ h1 => h <+: h1 ∧ ∃ y2 : Int, 0 ≤ y2 ∧ y2 < p ∧ σ = [some (.ref 0), some (.int 1), some (.int p), some (.int x1), some (.int y1), some (.int x2), some (.int y2), none, none]) ?_ ?_
  · array_get_dec
    refine sp_cell (pre_get p3 e) (by decide) fun c => ?_
    array_get_dec
    exact sp_residue pos fun v h' v0 v1 p' => ⟨p3.trans p', v, v0, v1, rfl⟩
  rintro σ h4 ⟨p4, y2, y20, y21, rfl⟩
  refine w_seqM (fun σ h1 => h <+: h1 ∧ ∃ a : Int, 0 ≤ a ∧ a < p ∧ σ = [some (.ref 0), some (.int 1), some (.int p), some (.int x1), some (.int y1), some (.int x2), some (.int y2), some (.int a), none]) ?_ ?_
  · array_get_dec
    refine sp_cell (pre_get p4 e) (by decide) fun c => ?_
    array_get_dec
    exact sp_residue pos fun v h' v0 v1 p' => ⟨p4.trans p', v, v0, v1, rfl⟩
  rintro σ h5 ⟨p5, a, a0, a1, rfl⟩
  have bx1 : Bd 600 x1 := Bd.of_lt x10 x11 bp
  have by1 : Bd 600 y1 := Bd.of_lt y10 y11 bp
  have bx2 : Bd 600 x2 := Bd.of_lt x20 x21 bp
  have by2 : Bd 600 y2 := Bd.of_lt y20 y21 bp
  refine w_seqM (fun σ h1 => h <+: h1 ∧ ∃ a y2 : Int, 0 ≤ a ∧ a < p ∧ 0 ≤ y2 ∧ y2 < p ∧ zm p y2 * zm p y2 - zm p x2 * zm p x2 * zm p x2 - zm p a * zm p x2 = zm p y1 * zm p y1 - zm p x1 * zm p x1 * zm p x1 - zm p a * zm p x1 ∧ σ = [some (.ref 0), some (.int 1), some (.int p), some (.int x1), some (.int y1), some (.int x2), some (.int y2), some (.int a), none]) ?_ ?_
  · array_get_dec
    refine d_dec (fun hx => ?_) fun hx => ?_
    · subst hx
      array_get_dec
      refine o_modI pos ?_
      array_get_dec
      have e5 : nsH ns (h5 ++ [.lst [.int y1, .int (-y1 % p)]]) := pre_get (pre_new p5) e
      refine sp_cell e5 (by decide) fun c => ?_
      sizeOf_list_dec
      obtain ⟨v, ev, hv⟩ := two_at (a := y1) (b := -y1 % p) (Int.emod_nonneg (if c < 0 then -c else c) (show (2 : Int) ≠ 0 by decide)) (Int.emod_lt_of_pos (if c < 0 then -c else c) (show (0 : Int) < 2 by decide))
      refine o_ix seqC_new ev ?_
      refine ⟨pre_new p5, a, v, a0, a1, ?_, ?_, ?_, rfl⟩
      · rcases hv with rfl | rfl
        · exact y10
        · exact (md _).1
      · rcases hv with rfl | rfl
        · exact y11
        · exact (md _).2
      · have : zm p v * zm p v = zm p y1 * zm p y1 := by
          rcases hv with rfl | rfl
          · rfl
          · rw [zm_mod, zm_neg]
            clear q md
            grind
        rw [this]
    · have n2 : zm p (x2 - x1) ≠ 0 := by
        rw [zm_sub]
        intro z
        exact hx (zm_inj (by clear q md; grind) x10 x11 x20 x21)
      array_get_dec
      refine sp_linverse k n2 fun i i0 i1 ei => ?_
      have bi : Bd 600 i := Bd.of_lt i0 i1 bp
      have bn : Bd 12000 (y2 * y2 - x2 * x2 * x2 - y1 * y1 + x1 * x1 * x1) := ((((by2.mul by2).sub ((bx2.mul bx2).mul bx2)).sub (by1.mul by1)).add ((bx1.mul bx1).mul bx1)).mono (by decide)
      array_get_dec
      refine o_modI pos ?_
      refine ⟨p5, _, y2, (md _).1, (md _).2, y20, y21, ?_, rfl⟩
      rw [zm_mod, zm_mul, zm_add, zm_sub, zm_sub, zm_mul, zm_mul, zm_mul, zm_mul, zm_mul, zm_mul]
      rw [zm_sub] at ei
      clear q md
      generalize zm p x1 = X1 at *
      generalize zm p x2 = X2 at *
      generalize zm p y1 = Y1 at *
      generalize zm p y2 = Y2 at *
      generalize zm p i = I at *
      have : (Y2 * Y2 - X2 * X2 * X2 - Y1 * Y1 + X1 * X1 * X1) * I * (X2 - X1) = Y2 * Y2 - X2 * X2 * X2 - Y1 * Y1 + X1 * X1 * X1 := by
        have : (Y2 * Y2 - X2 * X2 * X2 - Y1 * Y1 + X1 * X1 * X1) * I * (X2 - X1) = (Y2 * Y2 - X2 * X2 * X2 - Y1 * Y1 + X1 * X1 * X1) * ((X2 - X1) * I) := by grind
        rw [this, ei]
        grind
      clear ei n2
      grind
  rintro σ h6 ⟨p6, a, y2, a0, a1, y20, y21, ea, rfl⟩
  have by2 : Bd 600 y2 := Bd.of_lt y20 y21 bp
  have ba : Bd 600 a := Bd.of_lt a0 a1 bp
  refine w_seqM (fun σ h1 => h <+: h1 ∧ ∃ b : Int, 0 ≤ b ∧ b < p ∧ zm p b = zm p y1 * zm p y1 - zm p x1 * zm p x1 * zm p x1 - zm p a * zm p x1 ∧ σ = [some (.ref 0), some (.int 1), some (.int p), some (.int x1), some (.int y1), some (.int x2), some (.int y2), some (.int a), some (.int b)]) ?_ ?_
  · array_get_dec
    refine o_modI pos ?_
    exact ⟨p6, _, (md _).1, (md _).2, by rw [zm_mod, zm_sub, zm_sub, zm_mul, zm_mul, zm_mul, zm_mul], rfl⟩
  rintro σ h7 ⟨p7, b, b0, b1, eb, rfl⟩
  array_get_dec
  refine q a b x1 y1 x2 y2 h7 p7 a0 a1 b0 b1 ⟨x10, x11, y10, y11, rfl⟩ ⟨x20, x21, y20, y21, rfl⟩ ?_ ?_
  · show zm p y1 * zm p y1 = zm p x1 * zm p x1 * zm p x1 + zm p a * zm p x1 + zm p b
    clear q md
    grind
  · show zm p y2 * zm p y2 = zm p x2 * zm p x2 * zm p x2 + zm p a * zm p x2 + zm p b
    clear q md
    grind
theorem sp_singular {p a b : Int} (k : P5 p) (ba : Bd 600 a) (bb : Bd 600 b) (q : V (.bl (decide ((4 * a * a * a + 27 * b * b) % p = 0))) h) : (F__law_singular [.int p, .int a, .int b] h).wp V E := by
  have pos := k.pos
  refine w_mk ?_
  array_get_dec
  refine o_modI pos ?_
  array_get_dec
  exact q
theorem sp_moved {p u : Int} {P : Option (Int × Int)} {zP : Pt p} (k : P5 p) (bu : Bd 600 u) (hP : Rp p P zP) (q : ∀ R, Rp p R (mv (zm p u) zP) → V (ptW R) h) : (F__law_moved [.int p, .int u, ptW P] h).wp V E := by
  have pos := k.pos
  have bp := k.bd
  have md := k.mod
  refine w_mk ?_
  match P, hP with
  | none, hP =>
    have hP : zP = none := hP
    subst hP
    array_get_dec
    dsimp only [isNonW, ptW]
    array_get_dec
    exact q none rfl
  | some (x, y), hP =>
    obtain ⟨x0, x1, y0, y1, rfl⟩ := hP
    have bx : Bd 600 x := Bd.of_lt x0 x1 bp
    have bY : Bd 600 y := Bd.of_lt y0 y1 bp
    dsimp only [ptW]
    array_get_dec
    dsimp only [isNonW]
    array_get_dec
    refine o_modI pos ?_
    array_get_dec
    refine o_modI pos ?_
    array_get_dec
    refine q (some (x * u * u % p, y * u * u * u % p)) ⟨(md _).1, (md _).2, (md _).1, (md _).2, ?_⟩
    show some (zm p u * zm p u * zm p x, zm p u * zm p u * zm p u * zm p y) = _
    rw [zm_mod, zm_mod, zm_mul, zm_mul, zm_mul, zm_mul, zm_mul]
    have h1 : zm p u * zm p u * zm p x = zm p x * zm p u * zm p u := by clear q md; grind
    have h2 : zm p u * zm p u * zm p u * zm p y = zm p y * zm p u * zm p u * zm p u := by clear q md; grind
    rw [h1, h2]
set_option maxHeartbeats 4000000 in
theorem sp_ladd {p a b : Int} {P Q : Option (Int × Int)} {zP zQ : Pt p} (k : P5 p) (ba : Bd 600 a) (hP : Rp p P zP) (hQ : Rp p Q zQ) (oP : OnC (zm p a) (zm p b) zP) (oQ : OnC (zm p a) (zm p b) zQ)
    (q : ∀ R zR, Rp p R zR → AddZ (zm p a) zP zQ zR → V (ptW R) h) : (F__law_add [.int p, .int a, ptW P, ptW Q] h).wp V E := by
  have pp := k.pos
  have bp := k.bd
  have md := k.mod
  refine w_mk ?_
  match P, hP with
  | none, hP =>
    have hP : zP = none := hP
    subst hP
    array_get_dec
    dsimp only [isNonW, ptW]
    array_get_dec
    exact q Q zQ hQ rfl
  | some (x1, y1), hP =>
    match Q, hQ with
    | none, hQ =>
      have hQ : zQ = none := hQ
      subst hQ
      array_get_dec
      dsimp only [isNonW, ptW]
      array_get_dec
      dsimp only [isNonW, ptW]
      array_get_dec
      refine q (some (x1, y1)) zP hP ?_
      obtain ⟨_, _, _, _, rfl⟩ := hP
      exact rfl
    | some (x2, y2), hQ =>
      obtain ⟨x10, x11, y10, y11, rfl⟩ := hP
      obtain ⟨x20, x21, y20, y21, rfl⟩ := hQ
      have bx1 : Bd 600 x1 := Bd.of_lt x10 x11 bp
      have by1 : Bd 600 y1 := Bd.of_lt y10 y11 bp
      have bx2 : Bd 600 x2 := Bd.of_lt x20 x21 bp
      have by2 : Bd 600 y2 := Bd.of_lt y20 y21 bp
      dsimp only [ptW]
      refine w_seqM (fun σ h1 => h1 = h ∧ σ = [some (.int p), some (.int a), some (.tup [.int x1, .int y1]), some (.tup [.int x2, .int y2]), none, none, none, none, none, none]) (by array_get_dec; dsimp only [isNonW]; array_get_dec; exact ⟨rfl, rfl⟩) ?_
      rintro σ h ⟨rfl, rfl⟩
      refine w_seqM (fun σ h1 => h1 = h ∧ σ = [some (.int p), some (.int a), some (.tup [.int x1, .int y1]), some (.tup [.int x2, .int y2]), none, none, none, none, none, none]) (by array_get_dec; dsimp only [isNonW]; array_get_dec; exact ⟨rfl, rfl⟩) ?_
      rintro σ h ⟨rfl, rfl⟩
      refine w_seqM (fun σ h1 => h1 = h ∧ σ = [some (.int p), some (.int a), some (.tup [.int x1, .int y1]), some (.tup [.int x2, .int y2]), some (.int x1), some (.int y1), none, none, none, none]) (by array_get_dec; exact ⟨_, rfl, rfl, rfl⟩) ?_
      rintro σ h ⟨rfl, rfl⟩
      refine w_seqM (fun σ h1 => h1 = h ∧ σ = [some (.int p), some (.int a), some (.tup [.int x1, .int y1]), some (.tup [.int x2, .int y2]), some (.int x1), some (.int y1), some (.int x2), some (.int y2), none, none]) (by array_get_dec; exact ⟨_, rfl, rfl, rfl⟩) ?_
      rintro σ h ⟨rfl, rfl⟩
      have xe : x1 = x2 ↔ zm p x1 = zm p x2 := ⟨fun e => by rw [e], fun e => zm_inj e x10 x11 x20 x21⟩
      refine w_seqM (fun σ h1 => h1 = h ∧ σ = [some (.int p), some (.int a), some (.tup [.int x1, .int y1]), some (.tup [.int x2, .int y2]), some (.int x1), some (.int y1), some (.int x2), some (.int y2), none, none] ∧ ¬ (zm p x1 = zm p x2 ∧ zm p y1 + zm p y2 = 0)) ?_ ?_
      · array_get_dec
        refine d_dec (fun hx => ?_) fun hx => ?_
        · array_get_dec
          refine o_modI pp ?_
          array_get_dec
          refine d_dec (fun hy => ?_) fun hy => ?_
          · array_get_dec
            refine q none none rfl (.inl ⟨xe.mp hx, ?_, rfl⟩)
            rw [← zm_add]
            exact mod_zero.mp hy
          · array_get_dec
            exact ⟨rfl, rfl, fun z => hy (mod_zero.mpr z.2)⟩
        · array_get_dec
          exact ⟨rfl, rfl, fun z => hx (xe.mpr z.1)⟩
      rintro σ h ⟨rfl, rfl, hn⟩
      refine w_seqM (fun σ h1 => h1 = h ∧ ∃ l : Int, σ = [some (.int p), some (.int a), some (.tup [.int x1, .int y1]), some (.tup [.int x2, .int y2]), some (.int x1), some (.int y1), some (.int x2), some (.int y2), some (.int l), none] ∧ 0 ≤ l ∧ l < p ∧
          ∃ i, (zm p x1 = zm p x2 ∧ (2 * zm p y1) * i = 1 ∧ zm p l = (3 * zm p x1 * zm p x1 + zm p a) * i) ∨ (zm p x1 ≠ zm p x2 ∧ (zm p x2 - zm p x1) * i = 1 ∧ zm p l = (zm p y2 - zm p y1) * i)) ?_ ?_
      · array_get_dec
        refine d_dec (fun hx => ?_) fun hx => ?_
        · have eq : zm p y1 = zm p y2 := by
            have o1 : zm p y1 * zm p y1 = zm p x1 * zm p x1 * zm p x1 + zm p a * zm p x1 + zm p b := oP
            have o2 : zm p y2 * zm p y2 = zm p x2 * zm p x2 * zm p x2 + zm p a * zm p x2 + zm p b := oQ
            rw [← xe.mp hx] at o2
            rcases k.pm.dom (zm p y1 - zm p y2) (zm p y1 + zm p y2) (by clear q md; grind) with z | z
            · clear q md
              grind
            · exact absurd ⟨xe.mp hx, z⟩ hn
          have n2 : zm p (2 * y1) ≠ 0 := by
            rw [zm_mul, show zm p 2 = (2 : Zm p) from rfl]
            intro z
            exact hn ⟨xe.mp hx, by rw [← eq]; clear q md; grind⟩
          array_get_dec
          refine sp_linverse k n2 fun i i0 i1 ei => ?_
          have bi : Bd 600 i := Bd.of_lt i0 i1 bp
          have b3 : Bd 64 3 := bd_lit (by decide)
          have bn : Bd 1900 (3 * x1 * x1 + a) := (((b3.mul bx1).mul bx1).add ba).mono (by decide)
          array_get_dec
          refine o_modI pp ?_
          refine ⟨rfl, _, rfl, (md _).1, (md _).2, zm p i, .inl ⟨xe.mp hx, ?_, by rw [zm_mod]; rfl⟩⟩
          rw [zm_mul] at ei
          exact ei
        · have n2 : zm p (x2 - x1) ≠ 0 := by
            rw [zm_sub]
            intro z
            exact hx (xe.mpr (by clear q md; grind))
          array_get_dec
          refine sp_linverse k n2 fun i i0 i1 ei => ?_
          have bi : Bd 600 i := Bd.of_lt i0 i1 bp
          have bn : Bd 1900 (y2 - y1) := (by2.sub by1).mono (by decide)
          array_get_dec
          refine o_modI pp ?_
          refine ⟨rfl, _, rfl, (md _).1, (md _).2, zm p i, .inr ⟨fun z => hx (xe.mpr z), ?_, ?_⟩⟩
          · rw [zm_sub] at ei
            exact ei
          · rw [zm_mod, zm_mul, zm_sub]
      rintro σ h ⟨rfl, l, rfl, l0, l1, i, hs⟩
      have bl : Bd 600 l := Bd.of_lt l0 l1 bp
      refine w_seqM (fun σ h1 => h1 = h ∧ ∃ x3 : Int, σ = [some (.int p), some (.int a), some (.tup [.int x1, .int y1]), some (.tup [.int x2, .int y2]), some (.int x1), some (.int y1), some (.int x2), some (.int y2), some (.int l), some (.int x3)] ∧ 0 ≤ x3 ∧ x3 < p ∧ zm p x3 = zm p l * zm p l - zm p x1 - zm p x2) ?_ ?_
      · array_get_dec
        refine o_modI pp ?_
        exact ⟨rfl, _, rfl, (md _).1, (md _).2, by rw [zm_mod, zm_sub, zm_sub, zm_mul]⟩
      rintro σ h ⟨rfl, x3, rfl, x30, x31, e3⟩
      have bx3 : Bd 600 x3 := Bd.of_lt x30 x31 bp
      array_get_dec
      refine o_modI pp ?_
      array_get_dec
      exact q (some (x3, (l * (x1 - x3) - y1) % p)) _ ⟨x30, x31, (md _).1, (md _).2, rfl⟩ (.inr ⟨hn, i, zm p l, _, _, rfl, hs, e3, by rw [zm_mod, zm_sub, zm_mul, zm_sub]⟩)
end
end Z

namespace Z
open PySem PySem.Spec PyProof.Rows L2 Zp
open L_curveseal_k75_whole_curves_and_their_twi
theorem eqB_pt {h : Hm} (P Q : Option (Int × Int)) : eqB (ptW P) (ptW Q) h = some (decide (P = Q)) := by
  match P, Q with
  | none, none => rfl
  | none, some (x, y) => rfl
  | some (x, y), none => rfl
  | some (x, y), some (u, v) =>
    show some (PyData.eqv (.tuple [.int x, .int y]) (.tuple [.int u, .int v])) = _
    congr 1
    simp [PyData.eqv, PyData.eqvAll]
    rfl
/-- how many points above x -/
def Tc (p a b x : Int) : Nat := rtN p.toNat (rhs p a b x).toNat
theorem rt_rtN {p : Int} (hp : 0 ≤ p) (v : Nat) : rt p p.toNat v = rtN p.toNat v := by
  unfold rt rtN
  congr 1
  funext y
  have : (y : Int) * y % p = ((y * y % p.toNat : Nat) : Int) := by
    rw [Int.natCast_emod, Int.natCast_mul, Int.toNat_of_nonneg hp]
  rw [this]
  by_cases e : y * y % p.toNat = v
  · rw [e]
    simp
  · rw [decide_eq_false (by omega)]
    simp [e]
theorem cnt_Tc {p a b : Int} (hp : 0 ≤ p) : cnt p a b = 1 + ((List.range p.toNat).map fun (x : Nat) => ((Tc p a b x : Nat) : Int)).sum := by
  unfold cnt Tc
  congr 2
  apply List.map_congr_left
  intro x _
  rw [rt_rtN hp]
theorem rhs_zm (p a b x : Int) : zm p (rhs p a b x) = zm p x * zm p x * zm p x + zm p a * zm p x + zm p b := by
  unfold rhs
  rw [zm_mod]
  rfl
section
variable {p a b a' b' : Int} (k : P5 p)
include k
theorem rhs_lt (a b x : Int) : (rhs p a b x).toNat < p.toNat ∧ (((rhs p a b x).toNat : Nat) : Int) = rhs p a b x := by
  have := k.mod (x * x * x + a * x + b)
  unfold rhs
  exact ⟨by omega, by omega⟩
theorem zrt (a b x : Int) : zm p ((rhs p a b x).toNat : Int) = zm p x * zm p x * zm p x + zm p a * zm p x + zm p b := by
  rw [(rhs_lt k a b x).2, rhs_zm]
theorem Tc_twist {g x y : Int} (hg : zm p g ^ hf p = -1) (ea : zm p a' = zm p a * zm p g * zm p g) (eb : zm p b' = zm p b * zm p g * zm p g * zm p g) (ey : zm p y = zm p x * zm p g) : Tc p a b x + Tc p a' b' y = 2 := by
  have h1 := zrt k a b x
  have h2 := zrt k a' b' y
  have l1 := (rhs_lt k a b x).1
  have l2 := (rhs_lt k a' b' y).1
  unfold Tc
  have kk := k.pk
  have c := k.cast
  have hf' : hf p = (p.toNat - 1) / 2 := by
    unfold hf
    have := k.lt
    omega
  rw [hf'] at hg
  generalize (rhs p a b x).toNat = v at *
  generalize (rhs p a' b' y).toNat = w at *
  generalize p.toNat = n at *
  clear hf'
  subst c
  refine kk.rt_twist l1 l2 hg ?_
  rw [h2, h1, ea, eb, ey]
  clear h1 h2 hg ea eb ey
  grind
theorem Tc_iso {u x y : Int} (hu : zm p u ≠ 0) (ea : zm p a' = zm p a * (zm p u * zm p u * zm p u * zm p u)) (eb : zm p b' = zm p b * (zm p u * zm p u * zm p u) * (zm p u * zm p u * zm p u)) (ey : zm p y = zm p u * zm p u * zm p x) : Tc p a' b' y = Tc p a b x := by
  have h1 := zrt k a b x
  have h2 := zrt k a' b' y
  have l1 := (rhs_lt k a b x).1
  have l2 := (rhs_lt k a' b' y).1
  unfold Tc
  have kk := k.pk
  have c := k.cast
  have P := k.pm
  have h3 : zm p u * zm p u * zm p u ≠ 0 := fun z => (P.dom _ _ z).elim (fun z => (P.dom _ _ z).elim hu hu) hu
  generalize (rhs p a b x).toNat = v at *
  generalize (rhs p a' b' y).toNat = w at *
  generalize p.toNat = n at *
  subst c
  refine kk.rt_iso l1 l2 h3 ?_
  rw [h2, h1, ea, eb, ey]
  clear h1 h2 ea eb ey h3 hu
  grind
theorem Tc_move {F : Int → Nat} {g : Int} (hg : zm p g ≠ 0) : ((List.range p.toNat).map fun (x : Nat) => ((F x : Nat) : Int)).sum = ((List.range p.toNat).map fun (x : Nat) => ((F ((g * (x : Int)) % p) : Nat) : Int)).sum := by
  have kk := k.pk
  have c := k.cast
  have md := k.mod
  generalize p.toNat = n at *
  subst c
  rw [sum_move kk hg fun x => ((F x : Nat) : Int)]
  congr 2
  funext x
  rw [Int.toNat_of_nonneg (md _).1]
theorem cnt_twist {g : Int} (hg : zm p g ^ hf p = -1) (gz : zm p g ≠ 0) (ea : zm p a' = zm p a * zm p g * zm p g) (eb : zm p b' = zm p b * zm p g * zm p g * zm p g) : cnt p a b + cnt p a' b' = 2 * p + 2 := by
  have pos := k.pos
  rw [cnt_Tc (by omega), cnt_Tc (by omega), Tc_move k (F := Tc p a' b') gz]
  have := sum_const p.toNat (fun (x : Nat) => ((Tc p a b x : Nat) : Int)) (fun (x : Nat) => ((Tc p a' b' ((g * (x : Int)) % p) : Nat) : Int)) 2 fun x _ => by
    have := Tc_twist k (x := x) (y := (g * (x : Int)) % p) hg ea eb (by rw [zm_mod, zm_mul]; exact Lean.Grind.CommSemiring.mul_comm _ _)
    omega
  have c := k.cast
  omega
theorem cnt_iso {u : Int} (hu : zm p u ≠ 0) (ea : zm p a' = zm p a * (zm p u * zm p u * zm p u * zm p u)) (eb : zm p b' = zm p b * (zm p u * zm p u * zm p u) * (zm p u * zm p u * zm p u)) : cnt p a' b' = cnt p a b := by
  have pos := k.pos
  have P := k.pm
  have h2 : zm p (u * u) ≠ 0 := fun z => (P.dom _ _ z).elim hu hu
  rw [cnt_Tc (by omega), cnt_Tc (by omega), Tc_move k (F := Tc p a' b') h2]
  congr 1
  refine sum_same _ _ _ fun x _ => ?_
  rw [Tc_iso k (x := x) (y := (u * u * (x : Int)) % p) hu ea eb (by rw [zm_mod, zm_mul, zm_mul])]
/-- what is lifted, by the number of roots -/
theorem sp_liftT {h : Hm} {V : W → Hm → Prop} {E : Exn → Hm → Prop} {r : Nat} {x : Int} {o : Bool} (c : Cv h r p a b) (x0 : 0 ≤ x) (x1 : x < p)
    (q : ∀ w, isNonW w = (decide (Tc p a b x = 0) || (decide (Tc p a b x = 1) && o)) → (o = false → eqB w (.tup [.int x, .int 0]) h = some (decide (Tc p a b x = 1))) → V w h) : (F_Curve_lift [.ref r, .int x, .bl o] h).wp V E := by
  have ez := zrt k a b x
  have l := (rhs_lt k a b x).1
  have kk := k.pk
  have hf' : hf p = (p.toNat - 1) / 2 := by
    unfold hf
    have := k.lt
    omega
  have U : (zm p (x * x * x + a * x + b) = 0 → Tc p a b x = 1) ∧ (zm p (x * x * x + a * x + b) ^ hf p = 1 → Tc p a b x = 2) ∧ (zm p (x * x * x + a * x + b) ^ hf p = -1 → Tc p a b x = 0) := by
    have := kk.uniq l
    rw [k.cast, ez, ← hf'] at this
    exact this
  have P := k.pm
  refine sp_lift c k.pg x0 x1 (fun z => ?_) (fun z => ?_) (fun y y0 y1 ey eo => ?_)
  · have t := U.1 z
    refine q _ ?_ ?_
    · rw [t]
      cases o <;> rfl
    · intro e
      subst e
      rw [t]
      exact eqB_pt (some (x, 0)) (some (x, 0)) |>.trans (by simp)
  · have t := U.2.2 z
    refine q _ ?_ ?_
    · rw [t]
      rfl
    · intro _
      rw [t]
      exact eqB_pt none (some (x, 0))
  · have yz : zm p y ≠ 0 := zm_ne P y0 y1
    have t := U.2.1 (by
      rw [← ey, zmul_pow, ← zpow_add]
      have e : hf p + hf p = (p - 1).toNat := by
        have := k.pm.odd
        have := k.lt
        unfold hf
        omega
      rw [e]
      exact P.fermat _ yz)
    refine q _ ?_ ?_
    · rw [t]
      rfl
    · intro _
      rw [t]
      refine (eqB_pt (some (x, y)) (some (x, 0))).trans ?_
      congr 1
      refine decide_eq_false fun z => ?_
      have := Option.some.inj z
      have := (Prod.mk.inj this).2
      omega
end
end Z

namespace Z
open PySem PySem.Spec PyProof.Rows L2 Zp
open L_curveseal_k75_whole_curves_and_their_twi
section
variable {h : Hm} {V : W → Hm → Prop} {E : Exn → Hm → Prop}
theorem sp_mk {Q : Hm → Prop} {p a b : Int} (k : P5 p) (ns : 4 * zm p a * zm p a * zm p a + 27 * zm p b * zm p b ≠ 0) (q : Q (h ++ [.ins 4 (cvF p (a % p) (b % p))])) : (F_Curve___init__ [.ref h.length, .int p, .int a, .int b] (h ++ [.ins 4 []])).wp (fun v h2 => v = .non ∧ Q h2) E := by
  have l := k.lt
  refine sp_init get_new (by omega) k.pm.odd k.bd (fun z => ns ?_) ?_
  · have := mod_zero.mp z
    rw [zm_add, zm_mul, zm_mul, zm_mul, zm_mul, zm_mul, zm_mod, zm_mod] at this
    exact this
  · rw [set_new]
    exact ⟨rfl, q⟩
theorem Cv_new {p a b : Int} (k : P5 p) : Cv (h ++ [.ins 4 (cvF p (a % p) (b % p))]) h.length p (a % p) (b % p) := ⟨get_new, k.pos, k.bd, Bd.mod k.pos k.bd, Bd.mod k.pos k.bd⟩
theorem Rp.inj {p : Int} {P Q : Option (Int × Int)} {z : Pt p} (a : Rp p P z) (b : Rp p Q z) : P = Q := by
  match P, Q with
  | none, none => rfl
  | none, some (x, y) =>
    have a : z = none := a
    obtain ⟨_, _, _, _, b⟩ := b
    rw [a] at b
    cases b
  | some (x, y), none =>
    have b : z = none := b
    obtain ⟨_, _, _, _, a⟩ := a
    rw [b] at a
    cases a
  | some (x, y), some (u, v) =>
    obtain ⟨x0, x1, y0, y1, a⟩ := a
    obtain ⟨u0, u1, v0, v1, b⟩ := b
    rw [a] at b
    have := Option.some.inj b
    obtain ⟨e1, e2⟩ := Prod.mk.inj this
    rw [zm_inj e1 x0 x1 u0 u1, zm_inj e2 y0 y1 v0 v1]
theorem mv_on {p : Int} {a b u : Zm p} {P : Pt p} (h : OnC a b P) : OnC (a * (u * u * u * u)) (b * (u * u * u) * (u * u * u)) (mv u P) := by
  match P with
  | none => trivial
  | some (x, y) =>
    have h : y * y = x * x * x + a * x + b := h
    show u * u * u * y * (u * u * u * y) = u * u * x * (u * u * x) * (u * u * x) + a * (u * u * u * u) * (u * u * x) + b * (u * u * u) * (u * u * u)
    grind
theorem mv_ng {p : Int} {u : Zm p} (P : Pt p) : ngZ (mv u P) = mv u (ngZ P) := by
  match P with
  | none => rfl
  | some (x, y) =>
    show some (u * u * x, -(u * u * u * y)) = some (u * u * x, u * u * u * -y)
    congr 2
    grind
theorem MulZ.mv {p : Int} {a u v : Zm p} (huv : u * v = 1) {f : Int} {P R : Pt p} (h : MulZ a f P R) : MulZ (a * (u * u * u * u)) f (mv u P) (mv u R) := by
  unfold MulZ at h ⊢
  by_cases hf : f < 0
  · rw [if_pos hf] at h ⊢
    rw [mv_ng]
    exact MulL.mv huv h
  · rw [if_neg hf] at h ⊢
    exact MulL.mv huv h
theorem MulZ.fn {p : Int} {a : Zm p} {f : Int} {P R R' : Pt p} (h : MulZ a f P R) (k : MulZ a f P R') : R = R' := by
  unfold MulZ at h k
  by_cases hf : f < 0
  · rw [if_pos hf] at h k
    exact MulL.fn h k
  · rw [if_neg hf] at h k
    exact MulL.fn h k
/-- the state -/
def st (p a b : Int) (F S : Option (Int × Int)) (l : List (Option W)) : Sg := [some (.ref 0), some (.int p), some (.int a), some (.int b), some (ptW F), some (ptW S)] ++ l
set_option maxHeartbeats 8000000 in
theorem law_holds {ns : List Int} : ∃ h', F_law [.ref 0] [.frz (ns.map .int)] = .ok (.bl true) h' := by
  have main : (F_law [.ref 0] [.frz (ns.map .int)]).wp (fun v _ => v = .bl true) nE := by
    refine w_mk ?_
    refine w_seqM (fun σ h1 => nsH ns h1 ∧ ∃ p, P5 p ∧ σ = [some (.ref 0), some (.int p), none, none, none, none, none, none, none, none, none, none, none, none, none, none, none, none, none]) ?_ ?_
    · array_get_dec
      refine sp_cell rfl (by decide) fun c => ?_
      array_get_dec
      exact sp_prime fun p h' k pr => ⟨pre_get pr rfl, p, k, rfl⟩
    rintro σ h1 ⟨e1, p, k, rfl⟩
    have pos := k.pos
    have l5 := k.lt
    have bp := k.bd
    have PM := k.pm
    refine w_seqM (fun σ h2 => nsH ns h2 ∧ ∃ a b F S zF zS, 0 ≤ a ∧ a < p ∧ 0 ≤ b ∧ b < p ∧ Rp p F zF ∧ Rp p S zS ∧ OnC (zm p a) (zm p b) zF ∧ OnC (zm p a) (zm p b) zS ∧ σ = [some (.ref 0), some (.int p), some (.int a), some (.int b), some (ptW F), some (ptW S), none, none, none, none, none, none, none, none, none, none, none, none, none]) ?_ ?_
    · array_get_dec
      refine sp_points k e1 fun a b x1 y1 x2 y2 h' pr a0 a1 b0 b1 r1 r2 o1 o2 => ?_
      exact ⟨_, rfl, pre_get pr e1, a, b, some (x1, y1), some (x2, y2), _, _, a0, a1, b0, b1, r1, r2, o1, o2, rfl⟩
    clear e1
    rintro σ h2 ⟨e2, a, b, F, S, zF, zS, a0, a1, b0, b1, rF, rS, oF, oS, rfl⟩
    have ba : Bd 600 a := Bd.of_lt a0 a1 bp
    have bb : Bd 600 b := Bd.of_lt b0 b1 bp
    refine w_seqM (fun σ h3 => h3 = h2 ∧ 4 * zm p a * zm p a * zm p a + 27 * zm p b * zm p b ≠ 0 ∧ σ = [some (.ref 0), some (.int p), some (.int a), some (.int b), some (ptW F), some (ptW S), none, none, none, none, none, none, none, none, none, none, none, none, none]) ?_ ?_
    · array_get_dec
      refine sp_singular k ba bb ?_
      array_get_dec
      refine d_dec (fun z => ?_) fun z => ?_
      · array_get_dec
        rfl
      · array_get_dec
        refine ⟨rfl, fun q => z (mod_zero.mpr ?_), rfl⟩
        rw [zm_add, zm_mul, zm_mul, zm_mul, zm_mul, zm_mul]
        exact q
    rintro σ h3 ⟨rfl, ns3, rfl⟩
    have am : a % p = a := Int.emod_eq_of_lt a0 a1
    have bm : b % p = b := Int.emod_eq_of_lt b0 b1
    refine w_seqM (fun σ h4 => nsH ns h4 ∧ ∃ rc, Cv h4 rc p a b ∧ σ = [some (.ref 0), some (.int p), some (.int a), some (.int b), some (ptW F), some (ptW S), some (.ref rc), none, none, none, none, none, none, none, none, none, none, none, none]) ?_ ?_
    · array_get_dec
      refine sp_mk k ns3 ?_
      have := Cv_new (h := h3) (a := a) (b := b) k
      rw [am, bm] at this ⊢
      exact ⟨get_old e2, _, this, rfl⟩
    clear e2
    rintro σ h4 ⟨e4, rc, c4, rfl⟩
    refine w_seqM (fun σ h5 => h5 = h4 ∧ ∃ g : Int, 0 ≤ g ∧ g < 60 ∧ zm p g ^ hf p = -1 ∧ σ = [some (.ref 0), some (.int p), some (.int a), some (.int b), some (ptW F), some (ptW S), some (.ref rc), some (.int g), none, none, none, none, none, none, none, none, none, none, none]) ?_ ?_
    · array_get_dec
      exact sp_lowest k fun g g0 g1 eg => ⟨rfl, g, g0, g1, eg, rfl⟩
    rintro σ h5 ⟨rfl, g, g0, g1, eg, rfl⟩
    have bg : Bd 64 g := bd_lit (by omega)
    have gz : zm p g ≠ 0 := fun z => by
      rw [z] at eg
      have z0 : (0 : Zm p) ^ hf p = 0 := by
        obtain ⟨n, e⟩ : ∃ n, hf p = n + 1 := ⟨hf p - 1, by unfold hf; omega⟩
        rw [e, zpow_succ]
        generalize (0 : Zm p) ^ n = z
        grind
      rw [z0] at eg
      exact PM.one_ne (by grind)
    have ta : zm p (a * g * g % p) = zm p a * zm p g * zm p g := by rw [zm_mod, zm_mul, zm_mul]
    have tb : zm p (b * g * g * g % p) = zm p b * zm p g * zm p g * zm p g := by rw [zm_mod, zm_mul, zm_mul, zm_mul]
    refine w_seqM (fun σ h6 => nsH ns h6 ∧ Cv h6 rc p a b ∧ ∃ rt, Cv h6 rt p (a * g * g % p) (b * g * g * g % p) ∧ σ = [some (.ref 0), some (.int p), some (.int a), some (.int b), some (ptW F), some (ptW S), some (.ref rc), some (.int g), some (.ref rt), none, none, none, none, none, none, none, none, none, none]) ?_ ?_
    · array_get_dec
      refine sp_mk k ?_ ⟨get_old e4, c4.pre (pre_new ⟨[], by simp⟩), _, Cv_new k, rfl⟩
      rw [zm_mul, zm_mul, zm_mul, zm_mul, zm_mul]
      intro z
      have h3 : zm p g * zm p g * zm p g ≠ 0 := fun z => (PM.dom _ _ z).elim (fun z => (PM.dom _ _ z).elim gz gz) gz
      have : (zm p g * zm p g * zm p g) * (zm p g * zm p g * zm p g) * (4 * zm p a * zm p a * zm p a + 27 * zm p b * zm p b) = 0 := by
        rw [← z]
        clear z h3 ta tb gz eg ns3
        grind
      exact (PM.dom _ _ this).elim (fun z => (PM.dom _ _ z).elim h3 h3) ns3
    clear e4 c4
    rintro σ h6 ⟨e6, c6, rt, t6, rfl⟩
    refine w_seqM (fun σ h7 => nsH ns h7 ∧ Cv h7 rc p a b ∧ Cv h7 rt p (a * g * g % p) (b * g * g * g % p) ∧ σ = [some (.ref 0), some (.int p), some (.int a), some (.int b), some (ptW F), some (ptW S), some (.ref rc), some (.int g), some (.ref rt), some (.int (cnt p a b)), none, none, none, none, none, none, none, none, none]) ?_ ?_
    · array_get_dec
      exact sp_count c6 (by omega) fun h' pr => ⟨pre_get pr e6, c6.pre pr, t6.pre pr, rfl⟩
    clear e6 c6 t6
    rintro σ h7 ⟨e7, c7, t7, rfl⟩
    refine w_seqM (fun σ h7 => nsH ns h7 ∧ Cv h7 rc p a b ∧ Cv h7 rt p (a * g * g % p) (b * g * g * g % p) ∧ σ = [some (.ref 0), some (.int p), some (.int a), some (.int b), some (ptW F), some (ptW S), some (.ref rc), some (.int g), some (.ref rt), some (.int (cnt p a b)), none, none, none, none, none, none, none, none, none]) ?_ ?_
    · array_get_dec
      refine sp_count t7 (by omega) fun h' pr => ?_
      array_get_dec
      refine d_decT (cnt_twist k eg gz ta tb) ?_
      array_get_dec
      exact ⟨pre_get pr e7, c7.pre pr, t7.pre pr, rfl⟩
    clear e7 c7 t7
    rintro σ h8 ⟨e8, c8, t8, rfl⟩
    refine w_seqM (fun σ h9 => h9 = h8 ∧ ∃ x e t z, σ = [some (.ref 0), some (.int p), some (.int a), some (.int b), some (ptW F), some (ptW S), some (.ref rc), some (.int g), some (.ref rt), some (.int (cnt p a b)), x, e, t, z, none, none, none, none, none]) ?_ ?_
    · array_get_dec
      refine ⟨_, rfl, smallI_ok (by omega), ?_⟩
      refine w_rng0 (fun i σ h9 => h9 = h8 ∧ ∃ x e t z, σ = [some (.ref 0), some (.int p), some (.int a), some (.int b), some (ptW F), some (ptW S), some (.ref rc), some (.int g), some (.ref rt), some (.int (cnt p a b)), x, e, t, z, none, none, none, none, none]) (lt_fuel (by omega)) ⟨rfl, none, none, none, none, rfl⟩ ?_ (fun _ _ q => q)
      rintro i σ h9 hi ⟨rfl, x, e, t, z, rfl⟩
      refine ⟨_, rfl, ?_⟩
      have i0 : (0 : Int) ≤ i ∧ (i : Int) < p := by omega
      generalize (i : Int) = iz at *
      have bi : Bd 600 iz := Bd.of_lt i0.1 i0.2 bp
      have tw := Tc_twist k (x := iz) (y := iz * g % p) eg ta tb (by rw [zm_mod, zm_mul])
      have ym := k.mod (iz * g)
      have ec := c8.at_
      have et := t8.at_
      refine w_seqM (fun σ h10 => h10 = h9 ∧ σ = [some (.ref 0), some (.int p), some (.int a), some (.int b), some (ptW F), some (ptW S), some (.ref rc), some (.int g), some (.ref rt), some (.int (cnt p a b)), some (.int iz), some (.bl (!decide (Tc p a b iz = 0))), t, z, none, none, none, none, none]) ?_ ?_
      · array_get_dec
        refine sp_liftT k c8 i0.1 i0.2 fun w hw _ => ?_
        array_get_dec
        rw [hw, Bool.and_false, Bool.or_false]
        refine d_dec (fun hz => ?_) fun hz => ?_
        · array_get_dec
          refine sp_liftT k c8 i0.1 i0.2 fun w hw _ => ?_
          array_get_dec
          rw [hw, decide_eq_true hz]
          exact ⟨rfl, rfl⟩
        · rw [decide_eq_false hz]
          exact ⟨rfl, rfl⟩
      rintro σ h10 ⟨rfl, rfl⟩
      refine w_seqM (fun σ h11 => h11 = h10 ∧ σ = [some (.ref 0), some (.int p), some (.int a), some (.int b), some (ptW F), some (ptW S), some (.ref rc), some (.int g), some (.ref rt), some (.int (cnt p a b)), some (.int iz), some (.bl (!decide (Tc p a b iz = 0))), some (.bl (!decide (Tc p (a * g * g % p) (b * g * g * g % p) (iz * g % p) = 0))), z, none, none, none, none, none]) ?_ ?_
      · array_get_dec
        refine o_modI pos ?_
        array_get_dec
        refine sp_liftT k t8 ym.1 ym.2 fun w hw _ => ?_
        array_get_dec
        rw [hw, Bool.and_false, Bool.or_false]
        refine d_dec (fun hz => ?_) fun hz => ?_
        · array_get_dec
          refine o_modI pos ?_
          array_get_dec
          refine sp_liftT k t8 ym.1 ym.2 fun w hw _ => ?_
          array_get_dec
          rw [hw, decide_eq_true hz]
          exact ⟨rfl, rfl⟩
        · rw [decide_eq_false hz]
          exact ⟨rfl, rfl⟩
      rintro σ h11 ⟨rfl, rfl⟩
      refine w_seqM (fun σ h12 => h12 = h11 ∧ σ = [some (.ref 0), some (.int p), some (.int a), some (.int b), some (ptW F), some (ptW S), some (.ref rc), some (.int g), some (.ref rt), some (.int (cnt p a b)), some (.int iz), some (.bl (!decide (Tc p a b iz = 0))), some (.bl (!decide (Tc p (a * g * g % p) (b * g * g * g % p) (iz * g % p) = 0))), some (.bl (decide (Tc p a b iz = 1))), none, none, none, none, none]) ?_ ?_
      · array_get_dec
        refine sp_liftT k c8 i0.1 i0.2 fun w _ hw => ?_
        array_get_dec
        refine o_eq (hw rfl) ?_
        exact ⟨rfl, rfl⟩
      rintro σ h12 ⟨rfl, rfl⟩
      generalize Tc p a b iz = n at *
      generalize Tc p (a * g * g % p) (b * g * g * g % p) (iz * g % p) = m at *
      have : (n = 0 ∧ m = 2) ∨ (n = 1 ∧ m = 1) ∨ (n = 2 ∧ m = 0) := by omega
      rcases this with ⟨rfl, rfl⟩ | ⟨rfl, rfl⟩ | ⟨rfl, rfl⟩
      · show ((sIf _ _ _ [some (.ref 0), some (.int p), some (.int a), some (.int b), some (ptW F), some (ptW S), some (.ref rc), some (.int g), some (.ref rt), some (.int (cnt p a b)), some (.int iz), some (.bl false), some (.bl true), some (.bl false), none, none, none, none, none] h12 : SOut)).wp _ _ _ _ _
        array_get_dec
        refine d_decT rfl ?_
        array_get_dec
        exact ⟨rfl, _, _, _, _, rfl⟩
      · show ((sIf _ _ _ [some (.ref 0), some (.int p), some (.int a), some (.int b), some (ptW F), some (ptW S), some (.ref rc), some (.int g), some (.ref rt), some (.int (cnt p a b)), some (.int iz), some (.bl true), some (.bl true), some (.bl true), none, none, none, none, none] h12 : SOut)).wp _ _ _ _ _
        array_get_dec
        refine d_decT rfl ?_
        array_get_dec
        exact ⟨rfl, _, _, _, _, rfl⟩
      · show ((sIf _ _ _ [some (.ref 0), some (.int p), some (.int a), some (.int b), some (ptW F), some (ptW S), some (.ref rc), some (.int g), some (.ref rt), some (.int (cnt p a b)), some (.int iz), some (.bl true), some (.bl false), some (.bl false), none, none, none, none, none] h12 : SOut)).wp _ _ _ _ _
        array_get_dec
        refine d_decT rfl ?_
        array_get_dec
        exact ⟨rfl, _, _, _, _, rfl⟩
    rintro σ h9 ⟨rfl, x, e, t, z, rfl⟩
    refine w_seqM (fun σ h9 => nsH ns h9 ∧ Cv h9 rc p a b ∧ ∃ u : Int, 0 < u ∧ u < p ∧ σ = [some (.ref 0), some (.int p), some (.int a), some (.int b), some (ptW F), some (ptW S), some (.ref rc), some (.int g), some (.ref rt), some (.int (cnt p a b)), x, e, t, z, some (.int u), none, none, none, none]) ?_ ?_
    · array_get_dec
      refine sp_cell e8 (by decide) fun c => ?_
      array_get_dec
      refine sp_residue (by omega) fun v h' v0 v1 pr => ?_
      array_get_dec
      exact ⟨pre_get pr e8, c8.pre pr, _, by omega, by omega, rfl⟩
    clear e8 c8 t8
    rintro σ h10 ⟨e10, c10, u, u0, u1, rfl⟩
    have bu : Bd 600 u := Bd.of_lt (by omega) u1 bp
    have uz : zm p u ≠ 0 := zm_ne PM u0 u1
    obtain ⟨v, huv⟩ : ∃ v, zm p u * v = 1 := by
      refine ⟨zm p u ^ (p - 2).toNat, ?_⟩
      have f := PM.fermat _ uz
      rw [show (p - 1).toNat = (p - 2).toNat + 1 by omega, zpow_succ] at f
      rw [Lean.Grind.CommSemiring.mul_comm]
      exact f
    have oa : zm p (a * u * u * u * u % p) = zm p a * (zm p u * zm p u * zm p u * zm p u) := by
      rw [zm_mod, zm_mul, zm_mul, zm_mul, zm_mul]
      clear huv uz eg gz ta tb ns3
      grind
    have ob : zm p (b * u * u * u * u * u * u % p) = zm p b * (zm p u * zm p u * zm p u) * (zm p u * zm p u * zm p u) := by
      rw [zm_mod, zm_mul, zm_mul, zm_mul, zm_mul, zm_mul, zm_mul]
      clear huv uz eg gz ta tb ns3 oa
      grind
    refine w_seqM (fun σ h9 => nsH ns h9 ∧ Cv h9 rc p a b ∧ ∃ ro : Nat, Cv h9 ro p (a * u * u * u * u % p) (b * u * u * u * u * u * u % p) ∧ σ = [some (.ref 0), some (.int p), some (.int a), some (.int b), some (ptW F), some (ptW S), some (.ref rc), some (.int g), some (.ref rt), some (.int (cnt p a b)), x, e, t, z, some (.int u), some (.ref ro), none, none, none]) ?_ ?_
    · array_get_dec
      refine sp_mk k ?_ ⟨get_old e10, c10.pre (pre_new ⟨[], by simp⟩), _, Cv_new k, rfl⟩
      rw [← zm_mod (a * u * u * u * u), ← zm_mod (b * u * u * u * u * u * u), oa, ob]
      intro z
      have h3 : zm p u * zm p u * zm p u ≠ 0 := fun z => (PM.dom _ _ z).elim (fun z => (PM.dom _ _ z).elim uz uz) uz
      have : (zm p u * zm p u * zm p u) * (zm p u * zm p u * zm p u) * ((zm p u * zm p u * zm p u) * (zm p u * zm p u * zm p u) * (4 * zm p a * zm p a * zm p a + 27 * zm p b * zm p b)) = 0 := by
        rw [← z]
        clear z h3 ta tb gz eg ns3 oa ob huv uz
        grind
      exact (PM.dom _ _ this).elim (fun z => (PM.dom _ _ z).elim h3 h3) fun z => (PM.dom _ _ z).elim (fun z => (PM.dom _ _ z).elim h3 h3) ns3
    clear e10 c10
    rintro σ h11 ⟨e11, c11, ro, o11, rfl⟩
    refine w_seqM (fun σ h9 => nsH ns h9 ∧ Cv h9 rc p a b ∧ Cv h9 ro p (a * u * u * u * u % p) (b * u * u * u * u * u * u % p) ∧ σ = [some (.ref 0), some (.int p), some (.int a), some (.int b), some (ptW F), some (ptW S), some (.ref rc), some (.int g), some (.ref rt), some (.int (cnt p a b)), x, e, t, z, some (.int u), some (.ref ro), none, none, none]) ?_ ?_
    · array_get_dec
      refine sp_count o11 (by omega) fun h' pr => ?_
      array_get_dec
      refine d_decT (cnt_iso k uz oa ob) ?_
      array_get_dec
      exact ⟨pre_get pr e11, c11.pre pr, o11.pre pr, rfl⟩
    clear e11 c11 o11
    rintro σ h12 ⟨e12, c12, o12, rfl⟩
    refine w_seqM (fun σ h9 => h9 = h12 ∧ ∃ f : Int, Bd 600 f ∧ σ = [some (.ref 0), some (.int p), some (.int a), some (.int b), some (ptW F), some (ptW S), some (.ref rc), some (.int g), some (.ref rt), some (.int (cnt p a b)), x, e, t, z, some (.int u), some (.ref ro), some (.int f), none, none]) ?_ ?_
    · array_get_dec
      refine sp_cell e12 (by decide) fun c => ?_
      sizeOf_list_dec
      exact ⟨rfl, _, (bd_lit (by omega)).mono (by decide), rfl⟩
    rintro σ h13 ⟨rfl, f, bf, rfl⟩
    refine w_seqM (fun σ h9 => True) ?_ ?_
    rotate_left
    · rintro σ h14 -
      array_get_dec
      rfl
    array_get_dec
    refine sp_ladd k ba rF rS oF oS fun R zR hR hz => ?_
    array_get_dec
    have oR := AddZ.on oF oS hz
    refine .inl ⟨_, seqC_new, ?_⟩
    refine w_items (xs := [ptW F, ptW S, .non, ptW R]) (fun i σ h9 => h9 = h13 ++ [.lst [ptW F, ptW S, .non, ptW R]] ∧ ∃ v m, σ = [some (.ref 0), some (.int p), some (.int a), some (.int b), some (ptW F), some (ptW S), some (.ref rc), some (.int g), some (.ref rt), some (.int (cnt p a b)), x, e, t, z, some (.int u), some (.ref ro), some (.int f), v, m]) (lt_fuel (by simp)) ⟨rfl, none, none, rfl⟩ (fun _ _ _ q => by rw [q.1]; exact seqC_new) ?_ (fun _ _ _ => trivial)
    rintro i σ h14 w ew ⟨rfl, v, m, rfl⟩
    obtain ⟨P, zP, rfl, rP, oP⟩ : ∃ P zP, w = ptW P ∧ Rp p P zP ∧ OnC (zm p a) (zm p b) zP := by
      have := List.mem_of_getElem? ew
      simp only [List.mem_cons, List.not_mem_nil, or_false] at this
      rcases this with rfl | rfl | rfl | rfl
      · exact ⟨F, zF, rfl, rF, oF⟩
      · exact ⟨S, zS, rfl, rS, oS⟩
      · exact ⟨none, none, rfl, rfl, trivial⟩
      · exact ⟨R, zR, rfl, hR, oR⟩
    refine ⟨_, rfl, ?_⟩
    have cc : Cv (h13 ++ [.lst [ptW F, ptW S, .non, ptW R]]) rc p a b := c12.pre ⟨_, rfl⟩
    have co : Cv (h13 ++ [.lst [ptW F, ptW S, .non, ptW R]]) ro p (a * u * u * u * u % p) (b * u * u * u * u * u * u % p) := o12.pre ⟨_, rfl⟩
    generalize (h13 ++ [O.lst [ptW F, ptW S, .non, ptW R]]) = h15 at *
    have ec := cc.at_
    have eo := co.at_
    have pg := k.pg
    refine w_seqM (fun σ h9 => h9 = h15 ∧ ∃ Q, Rp p Q (mv (zm p u) zP) ∧ σ = [some (.ref 0), some (.int p), some (.int a), some (.int b), some (ptW F), some (ptW S), some (.ref rc), some (.int g), some (.ref rt), some (.int (cnt p a b)), x, e, t, z, some (.int u), some (.ref ro), some (.int f), some (ptW P), some (ptW Q)]) ?_ ?_
    · array_get_dec
      exact sp_moved k bu rP fun Q hQ => ⟨rfl, Q, hQ, rfl⟩
    rintro σ h16 ⟨rfl, Q, hQ, rfl⟩
    have oQ := mv_on (u := zm p u) oP
    rw [← oa, ← ob] at oQ
    refine w_seqM (fun σ h9 => h9 = h16 ∧ σ = [some (.ref 0), some (.int p), some (.int a), some (.int b), some (ptW F), some (ptW S), some (.ref rc), some (.int g), some (.ref rt), some (.int (cnt p a b)), x, e, t, z, some (.int u), some (.ref ro), some (.int f), some (ptW P), some (ptW Q)]) ?_ ?_
    · array_get_dec
      refine sp_has co hQ oQ ?_
      array_get_dec
      refine sp_multiply co pg hQ oQ bf fun R1 z1 hR1 oR1 m1 => ?_
      array_get_dec
      refine sp_multiply cc pg rP oP bf fun R2 z2 hR2 oR2 m2 => ?_
      array_get_dec
      refine sp_moved k bu hR2 fun R3 hR3 => ?_
      refine o_ne (eqB_pt R1 R3) ?_
      array_get_dec
      refine d_decT (Rp.inj hR1 ?_) ?_
      · have m3 := MulZ.mv huv m2
        rw [← oa] at m3
        rw [MulZ.fn m1 m3]
        exact hR3
      array_get_dec
      exact ⟨rfl, rfl⟩
    rintro σ h17 ⟨rfl, rfl⟩
    array_get_dec
    refine sp_moved k bu rS fun S' hS' => ?_
    have oS' := mv_on (u := zm p u) oS
    rw [← oa, ← ob] at oS'
    array_get_dec
    refine sp_add co pg hQ hS' oQ oS' fun R1 z1 hR1 m1 => ?_
    array_get_dec
    refine sp_add cc pg rP rS oP oS fun R2 z2 hR2 m2 => ?_
    array_get_dec
    refine sp_moved k bu hR2 fun R3 hR3 => ?_
    refine o_ne (eqB_pt R1 R3) ?_
    array_get_dec
    refine d_decT (Rp.inj hR1 ?_) ?_
    · have m3 := AddZ.mv huv m2
      rw [← oa] at m3
      rw [AddZ.fn m1 m3]
      exact hR3
    array_get_dec
    exact ⟨rfl, _, _, rfl⟩
  obtain ⟨a, h', e1, e2⟩ := Out.wp_get main
  exact ⟨h', by rw [e1, e2]⟩
end
end Z

namespace L_curveseal_k75_whole_curves_and_their_twi
open PySem PySem.Spec PyProof.Rows L2 Z
def D__law_power : He.DefD := ⟨("_law_power", none), "_law_power", "_law_power", defArgs (topS 20), defBody (topS 20), defScope (topS 20), [], []⟩
def D__law_inverse : He.DefD := ⟨("_law_inverse", none), "_law_inverse", "_law_inverse", defArgs (topS 21), defBody (topS 21), defScope (topS 21), [], []⟩
def D__law_add : He.DefD := ⟨("_law_add", none), "_law_add", "_law_add", defArgs (topS 24), defBody (topS 24), defScope (topS 24), [], []⟩
def D_bezout : He.DefD := ⟨("bezout", none), "bezout", "bezout", defArgs (topS 9), defBody (topS 9), defScope (topS 9), [], []⟩
def D_inverse : He.DefD := ⟨("inverse", none), "inverse", "inverse", defArgs (topS 10), defBody (topS 10), defScope (topS 10), [], []⟩
def D_Curve_add : He.DefD := ⟨("Curve", some "add"), "add", "Curve.add", defArgs (inClass (topS 16) 4), defBody (inClass (topS 16) 4), defScope (inClass (topS 16) 4), [], []⟩
def D__law_moved : He.DefD := ⟨("_law_moved", none), "_law_moved", "_law_moved", defArgs (topS 29), defBody (topS 29), defScope (topS 29), [], []⟩
def D_Curve_right_side : He.DefD := ⟨("Curve", some "right_side"), "right_side", "Curve.right_side", defArgs (inClass (topS 16) 1), defBody (inClass (topS 16) 1), defScope (inClass (topS 16) 1), [], []⟩
def D_Curve_has : He.DefD := ⟨("Curve", some "has"), "has", "Curve.has", defArgs (inClass (topS 16) 2), defBody (inClass (topS 16) 2), defScope (inClass (topS 16) 2), [], []⟩
def D_Curve_negate : He.DefD := ⟨("Curve", some "negate"), "negate", "Curve.negate", defArgs (inClass (topS 16) 3), defBody (inClass (topS 16) 3), defScope (inClass (topS 16) 3), [], []⟩
def D_Curve_multiply : He.DefD := ⟨("Curve", some "multiply"), "multiply", "Curve.multiply", defArgs (inClass (topS 16) 6), defBody (inClass (topS 16) 6), defScope (inClass (topS 16) 6), [], []⟩
def D__law_cell : He.DefD := ⟨("_law_cell", none), "_law_cell", "_law_cell", defArgs (topS 18), defBody (topS 18), defScope (topS 18), [], []⟩
def D_count_points : He.DefD := ⟨("count_points", none), "count_points", "count_points", defArgs (topS 7), defBody (topS 7), defScope (topS 7), [], []⟩
def D_Curve___init__ : He.DefD := ⟨("Curve", some "__init__"), "__init__", "Curve.__init__", defArgs (inClass (topS 16) 0), defBody (inClass (topS 16) 0), defScope (inClass (topS 16) 0), [], []⟩
def D__law_residue : He.DefD := ⟨("_law_residue", none), "_law_residue", "_law_residue", defArgs (topS 22), defBody (topS 22), defScope (topS 22), [], []⟩
def D_power : He.DefD := ⟨("power", none), "power", "power", defArgs (topS 11), defBody (topS 11), defScope (topS 11), [], []⟩
def D_square_class : He.DefD := ⟨("square_class", none), "square_class", "square_class", defArgs (topS 12), defBody (topS 12), defScope (topS 12), [], []⟩
def D_other_class : He.DefD := ⟨("other_class", none), "other_class", "other_class", defArgs (topS 13), defBody (topS 13), defScope (topS 13), [], []⟩
def D_square_root : He.DefD := ⟨("square_root", none), "square_root", "square_root", defArgs (topS 14), defBody (topS 14), defScope (topS 14), [], []⟩
def D_Curve_lift : He.DefD := ⟨("Curve", some "lift"), "lift", "Curve.lift", defArgs (inClass (topS 16) 7), defBody (inClass (topS 16) 7), defScope (inClass (topS 16) 7), [], []⟩
def D__law_lowest : He.DefD := ⟨("_law_lowest", none), "_law_lowest", "_law_lowest", defArgs (topS 28), defBody (topS 28), defScope (topS 28), [], []⟩
def D__law_singular : He.DefD := ⟨("_law_singular", none), "_law_singular", "_law_singular", defArgs (topS 26), defBody (topS 26), defScope (topS 26), [], []⟩
def D__law_curve_and_points : He.DefD := ⟨("_law_curve_and_points", none), "_law_curve_and_points", "_law_curve_and_points", defArgs (topS 23), defBody (topS 23), defScope (topS 23), [], []⟩
def D__law_prime : He.DefD := ⟨("_law_prime", none), "_law_prime", "_law_prime", defArgs (topS 27), defBody (topS 27), defScope (topS 27), [], []⟩
def D_law : He.DefD := ⟨("law", none), "law", "law", defArgs (topS 30), defBody (topS 30), defScope (topS 30), [], []⟩
def fnL : List He.DefD := [D__law_power, D__law_inverse, D__law_add, D_bezout, D_inverse, D_Curve_add, D__law_moved, D_Curve_right_side, D_Curve_has, D_Curve_negate, D_Curve_multiply, D__law_cell, D_count_points, D_Curve___init__, D__law_residue, D_power, D_square_class, D_other_class, D_square_root, D_Curve_lift, D__law_lowest, D__law_singular, D__law_curve_and_points, D__law_prime, D_law]
def faL_0 : List FaZ := [freeZ "abs", freeZ "all", freeZ "bool", freeZ "enumerate", freeZ "int", freeZ "isinstance", freeZ "len", freeZ "list", freeZ "max", freeZ "min", freeZ "ord", freeZ "range", freeZ "reversed", freeZ "sorted", freeZ "str", freeZ "sum", freeZ "tuple", freeZ "zip", gloZ "_law_add", gloZ "_law_cell", gloZ "_law_curve_and_points", gloZ "_law_inverse", gloZ "_law_lowest", gloZ "_law_moved", gloZ "_law_power", gloZ "_law_prime", gloZ "_law_residue", gloZ "_law_singular", gloZ "bezout", gloZ "count_points"]
def faL_1 : List FaZ := [gloZ "inverse", gloZ "law", gloZ "other_class", gloZ "power", gloZ "square_class", gloZ "square_root", fun K => (He.Fa.cls "Curve").ok K, fun K => (He.Fa.noat "Curve" "a").ok K, fun K => (He.Fa.noat "Curve" "b").ok K, fun K => (He.Fa.noat "Curve" "prime").ok K, fun K => (He.Fa.meth "Curve" "add").ok K, fun K => (He.Fa.meth "Curve" "has").ok K, fun K => (He.Fa.meth "Curve" "lift").ok K, fun K => (He.Fa.meth "Curve" "multiply").ok K, fun K => (He.Fa.meth "Curve" "negate").ok K, fun K => (He.Fa.meth "Curve" "right_side").ok K, fun K => (He.Fa.mkr "Curve").ok K, gloZ "Curve", kC "COUNT_LIMIT" (.int 65536)]
def faL : List FaZ := faL_0 ++ faL_1
def looseL : List PySem.Str := ["CurveError", "OutOfRange", "NoInverse", "Refused", "COUNT_LIMIT", "count_points", "bezout", "inverse", "power", "square_class", "other_class", "square_root", "Curve", "_law_cell", "_law_is_integer", "_law_power", "_law_inverse", "_law_residue", "_law_curve_and_points", "_law_add", "_law_on", "_law_singular", "_law_prime", "_law_lowest", "_law_moved"]
abbrev R : PySem.W.OpenRow := PySem.W.OpenLaw.row PySem.Challenge.rw_curveseal_k75_whole_curves_and_their_twi
abbrev hk : PySem.W.Hook := hookZ 5 faL fnL
def ob (s : PySem.W.SharedT) : He.AlD := obsZG 5 faL fnL (HandSHeadRun.getT s)
theorem ob_eq (s : PySem.W.SharedT) : ob s = hk.obs s.abs := obsZG_eq (HandSHeadRun.getT_eq s)
set_option maxHeartbeats 0 in
theorem run (w : World) : HandSHeadRun.RunEq R (PySem.W.view R.prog [30]) hk ob 3000 looseL w := by
  intro os
  kernel_rfl
theorem env_of {P : Program} {w : World} {K : PySem.W.Frag} {base h : Heap} {mg : Str → Option Value} (X : K.In h) (G : h.Ns mainGlobals mg) (c : SaysZ faL fnL K) : Env ⟨P, w, K, mg, base, clsOf K⟩ where
  B := ⟨He.free_ok X G (c.fact 6), He.free_ok X G (c.fact 11), He.free_ok X G (c.fact 0), He.free_ok X G (c.fact 9), He.free_ok X G (c.fact 8), He.free_ok X G (c.fact 4), He.free_ok X G (c.fact 2), He.free_ok X G (c.fact 14), He.free_ok X G (c.fact 7), He.free_ok X G (c.fact 16), He.free_ok X G (c.fact 10), He.free_ok X G (c.fact 15), He.free_ok X G (c.fact 1), He.free_ok X G (c.fact 13), He.free_ok X G (c.fact 17), He.free_ok X G (c.fact 3), He.free_ok X G (c.fact 12), He.free_ok X G (c.fact 5)⟩
  d__law_power := c.def_ 0 (d := D__law_power)
  d__law_inverse := c.def_ 1 (d := D__law_inverse)
  d__law_add := c.def_ 2 (d := D__law_add)
  d_bezout := c.def_ 3 (d := D_bezout)
  d_inverse := c.def_ 4 (d := D_inverse)
  d_Curve_add := c.def_ 5 (d := D_Curve_add)
  d__law_moved := c.def_ 6 (d := D__law_moved)
  d_Curve_right_side := c.def_ 7 (d := D_Curve_right_side)
  d_Curve_has := c.def_ 8 (d := D_Curve_has)
  d_Curve_negate := c.def_ 9 (d := D_Curve_negate)
  d_Curve_multiply := c.def_ 10 (d := D_Curve_multiply)
  d__law_cell := c.def_ 11 (d := D__law_cell)
  d_count_points := c.def_ 12 (d := D_count_points)
  d_Curve___init__ := c.def_ 13 (d := D_Curve___init__)
  d__law_residue := c.def_ 14 (d := D__law_residue)
  d_power := c.def_ 15 (d := D_power)
  d_square_class := c.def_ 16 (d := D_square_class)
  d_other_class := c.def_ 17 (d := D_other_class)
  d_square_root := c.def_ 18 (d := D_square_root)
  d_Curve_lift := c.def_ 19 (d := D_Curve_lift)
  d__law_lowest := c.def_ 20 (d := D__law_lowest)
  d__law_singular := c.def_ 21 (d := D__law_singular)
  d__law_curve_and_points := c.def_ 22 (d := D__law_curve_and_points)
  d__law_prime := c.def_ 23 (d := D__law_prime)
  d_law := c.def_ 24 (d := D_law)
  g__law_add := He.glo_ok X G (c.fact 18)
  g__law_cell := He.glo_ok X G (c.fact 19)
  g__law_curve_and_points := He.glo_ok X G (c.fact 20)
  g__law_inverse := He.glo_ok X G (c.fact 21)
  g__law_lowest := He.glo_ok X G (c.fact 22)
  g__law_moved := He.glo_ok X G (c.fact 23)
  g__law_power := He.glo_ok X G (c.fact 24)
  g__law_prime := He.glo_ok X G (c.fact 25)
  g__law_residue := He.glo_ok X G (c.fact 26)
  g__law_singular := He.glo_ok X G (c.fact 27)
  g_bezout := He.glo_ok X G (c.fact 28)
  g_count_points := He.glo_ok X G (c.fact 29)
  g_inverse := He.glo_ok X G (c.fact 30)
  g_law := He.glo_ok X G (c.fact 31)
  g_other_class := He.glo_ok X G (c.fact 32)
  g_power := He.glo_ok X G (c.fact 33)
  g_square_class := He.glo_ok X G (c.fact 34)
  g_square_root := He.glo_ok X G (c.fact 35)
  c_Curve := He.cls_ok (x := "Curve") (c.fact 36)
  n_Curve_a := He.noat_ok (x := "Curve") (c.fact 37)
  n_Curve_b := He.noat_ok (x := "Curve") (c.fact 38)
  n_Curve_prime := He.noat_ok (x := "Curve") (c.fact 39)
  me_Curve_add := He.meth_ok (x := "Curve") (c.fact 40)
  me_Curve_has := He.meth_ok (x := "Curve") (c.fact 41)
  me_Curve_lift := He.meth_ok (x := "Curve") (c.fact 42)
  me_Curve_multiply := He.meth_ok (x := "Curve") (c.fact 43)
  me_Curve_negate := He.meth_ok (x := "Curve") (c.fact 44)
  me_Curve_right_side := He.meth_ok (x := "Curve") (c.fact 45)
  mk_Curve := He.mkr_ok (x := "Curve") (c.fact 46)
  gc_Curve := He.glo_ok (x := "Curve") X G (c.fact 47)
  k_COUNT_LIMIT := kon_cn (Γ := ⟨P, w, K, mg, base, clsOf K⟩) X G (c.fact 48)
/-- the plain law -/
def LAW : Prop := ∀ ns : List Int, ns.length ≤ 63 → (∀ z ∈ ns, Builtin.Int.intBits z ≤ 1048576) → ∃ h', F_law [.ref 0] [.frz (ns.map .int)] = .ok (.bl true) h'
end L_curveseal_k75_whole_curves_and_their_twi

open PySem PySem.W PySem.Calls PyProof.Rows
set_option maxHeartbeats 0 in
theorem PySem.Challenge.cw_curveseal_k75_whole_curves_and_their_twi_holds : PySem.Challenge.rw_curveseal_k75_whole_curves_and_their_twi.Holds := by
  w_on; o_law
  refine HandSHeadRun.head_any (r := OpenLaw.row PySem.Challenge.rw_curveseal_k75_whole_curves_and_their_twi) (q := view (OpenLaw.row PySem.Challenge.rw_curveseal_k75_whole_curves_and_their_twi).prog [30]) (H := L_curveseal_k75_whole_curves_and_their_twi.hk) (ob := L_curveseal_k75_whole_curves_and_their_twi.ob) (M := 3000) (loose := L_curveseal_k75_whole_curves_and_their_twi.looseL) (d := HandSHeadRun.topDef (OpenLaw.row PySem.Challenge.rw_curveseal_k75_whole_curves_and_their_twi).prog 30) (kwd := []) L_curveseal_k75_whole_curves_and_their_twi.ob_eq
    (by kernel_rfl) (fun s => by kernel_rfl) L_curveseal_k75_whole_curves_and_their_twi.run (by kernel_rfl) (by kernel_rfl) (by kernel_rfl) (by rfl) (by first | assumption | decide +kernel) (by decide +kernel) ⟨rfl, rfl, rfl, rfl, rfl, by decide +kernel⟩ ?hw ?hc
  case hw => w_witness2
  case hc =>
    refine Z.walk_z (l := PySem.Challenge.rw_curveseal_k75_whole_curves_and_their_twi) (n := 63) (k := 6) (x := "_law_script") (F := L_curveseal_k75_whole_curves_and_their_twi.F_law) L_curveseal_k75_whole_curves_and_their_twi.clsOf rfl (by decide) (by kernel_rfl) ⟨rfl, by decide, by decide⟩ ?F fun ns _ _ => Z.law_holds
    intro w mg fa h Y G hmg0
    obtain ⟨K, KX, c⟩ := Y
    have en : (HandSHeadRun.topDef (OpenLaw.row PySem.Challenge.rw_curveseal_k75_whole_curves_and_their_twi).prog 30).name = ("law" : PySem.Str) := by kernel_rfl
    have hmg : mg ("law" : PySem.Str) = some (.ref fa) := by
      rw [← en]
      exact hmg0
    have eg := He.glo_ok KX G (c.fact 31 (f := Z.gloZ "law") rfl)
    have efa : fa = He.ga K "law" := by
      have := hmg.symm.trans eg
      cases this
      rfl
    obtain ⟨fd, FD⟩ := c.def_ 24 (d := L_curveseal_k75_whole_curves_and_their_twi.D_law) rfl
    subst efa
    have b := FD.bindsA (ps := ["_law_script"]) L_curveseal_k75_whole_curves_and_their_twi.cb_law
    refine ⟨K, KX, by rw [en], fd, fun s u => b s [u] rfl, fun base h1 h2 => ?_⟩
    exact (L_curveseal_k75_whole_curves_and_their_twi.ok_law (L_curveseal_k75_whole_curves_and_their_twi.env_of (P := (PySem.Challenge.rw_curveseal_k75_whole_curves_and_their_twi).prog) (w := w) (base := base) KX G c)).at FD

