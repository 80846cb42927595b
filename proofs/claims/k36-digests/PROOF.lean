import PyProof.Rows.All
import Wide.All
import OpenK.AllK
import Wide.FinOn
import HandS.ForMost
import HandS.Exc
import HandS.ExcOwn
import HandS.TryOnly
import HandS.TryMany
import HandS.CallSlots
import PyProof.Rows.StrMul
import HandS.TupAny
import HandS.Style
import HandS.Wide
import HandS.WideBits
import HandS.WordsExc
import HandS.Rev
import HandS.IsInst
import KE.KStateDown
import HandS.Defaults
import HandS.Head0
import HandS.Head1
import HandS.Head2
import HandS.HeadEnd
import HandS.HeadHook1
import HandS.HeadHook2
import HandS.EndBits
import HandS.Dict
import HandS.More
import HandS.Gcd
import HandS.ExcIs
import KE.BitLaws
import KE.KBits
import Open.Gens
import KE.KDictDisplayH
import HandS.Head3
import PySem.Challenge.RW_curveseal_k36_digests_in_pieces
set_option Elab.async false
set_option linter.all false
set_option maxRecDepth 100000
namespace Z
open PySem PySem.Spec PyProof.Rows L2

/-! ### values and objects of the mirror -/
inductive W where
  | non | bl (b : Bool) | int (i : Int) | str (x : Str) | tup (xs : List W) | ref (i : Nat) | exn (c : Nat) (d : Option Int)
inductive O where
  | lst (xs : List W)
  | frz (xs : List W)
  | ins (c : Nat) (fs : List (Str × W))
  | dic (kvs : List (Key × W))
abbrev Hm := List O
abbrev Sg := List (Option W)
structure Exn where
  c : Nat
  d : Option Int
inductive Out (α : Type) where
  | ok (a : α) (h : Hm)
  | err (x : Exn) (h : Hm)
  | bad
def Out.bind {α β : Type} (o : Out α) (f : α → Hm → Out β) : Out β :=
  match o with
  | .ok a h => f a h
  | .err x h => .err x h
  | .bad => .bad
inductive SOut where
  | nx (s : Sg) (h : Hm)
  | rt (w : W) (h : Hm)
  | bk (s : Sg) (h : Hm)
  | ct (s : Sg) (h : Hm)
  | err (x : Exn) (s : Sg) (h : Hm)
  | bad
abbrev XE := Sg → Hm → Out W
abbrev XT := Sg → Hm → Out Bool
abbrev XA := Sg → Hm → Out (List W)
abbrev XS := Sg → Hm → SOut

/-! ### the world of a run -/
structure Gam where
  P : Program
  w : World
  K : PySem.W.Frag
  mg : Str → Option Value
  base : Heap
  cl : Nat → Addr

/-- what is known of a caught exception, as an object that nobody writes -/
def ExnAt (a : Addr) (C : Addr) (d : Option Addr) (h : Heap) : Prop := ∃ o : Obj, h.get? a = some o ∧ o.cls = .ref C ∧ o.dict = d ∧ ∃ vs, o.data = .fields vs

mutual
def RelW (Γ : Gam) (ρ : List Addr) (H : Hp) : W → V → Prop
  | .non, v => v = .non
  | .bl b, v => v = .bl b
  | .int i, v => v = .int i
  | .str x, v => v = .str x
  | .ref i, v => ∃ a, ρ[i]? = some a ∧ v = .ref a
  | .tup xs, v => ∃ a ys, v = .ref a ∧ SqT Γ.K H a ys ∧ RelWs Γ ρ H xs ys
  | .exn c d, v => ∃ a dx, v = .ref a ∧ H a = some (.ext (ExnAt a (Γ.cl c) dx)) ∧ (match d with | none => dx = none | some n => ∃ b, dx = some b ∧ H b = some (.xd [("line", .int n)]))
def RelWs (Γ : Gam) (ρ : List Addr) (H : Hp) : List W → List V → Prop
  | [], ys => ys = []
  | x :: xs, ys => ∃ y r, ys = y :: r ∧ RelW Γ ρ H x y ∧ RelWs Γ ρ H xs r
end
def RelFs (Γ : Gam) (ρ : List Addr) (H : Hp) : List (Str × W) → List (Str × V) → Prop
  | [], ys => ys = []
  | x :: xs, ys => ∃ y r, ys = (x.1, y) :: r ∧ RelW Γ ρ H x.2 y ∧ RelFs Γ ρ H xs r
def RelKs (Γ : Gam) (ρ : List Addr) (H : Hp) : List (Key × W) → List (Key × V) → Prop
  | [], ys => ys = []
  | x :: xs, ys => ∃ y r, ys = (x.1, y) :: r ∧ RelW Γ ρ H x.2 y ∧ RelKs Γ ρ H xs r

/-- the script's list, locked or the module's own -/
def FzL (K : PySem.W.Frag) (H : Hp) (a : Addr) (ys : List V) : Prop :=
  (∃ o, H a = some (.frz o (.lst ys))) ∨
    ∃ (o : Obj) (its : Array Value) (n : Nat), K.lookup a = some o ∧ o.cls = .type "list" ∧ o.dict = none ∧ o.data = .seq its n ∧ its.size ≤ sizeLine ∧ Vals ys its.toList
theorem FzL.sq {K : PySem.W.Frag} {H : Hp} {a : Addr} {ys : List V} (h : FzL K H a ys) : SqL K H a ys := by
  rcases h with ⟨o, h⟩ | h
  · exact .inl (.inr ⟨o, h⟩)
  · exact .inr h

def RelO (Γ : Gam) (ρ : List Addr) (H : Hp) (a : Addr) : O → Prop
  | .lst xs => ∃ ys, H a = some (.lst ys) ∧ RelWs Γ ρ H xs ys
  | .frz xs => ∃ ys, FzL Γ.K H a ys ∧ RelWs Γ ρ H xs ys
  | .ins c fs => ∃ dx gs, H a = some (.ins (Γ.cl c) dx gs) ∧ RelFs Γ ρ H fs gs
  | .dic kvs => ∃ gs, H a = some (.dK gs) ∧ RelKs Γ ρ H kvs gs
def O.mut : O → Prop
  | .frz _ => False
  | _ => True
structure Rel (Γ : Gam) (ρ : List Addr) (h : Hm) (H : Hp) : Prop where
  len : ρ.length = h.length
  obj : ∀ (i : Nat) (o : O), h[i]? = some o → ∃ a, ρ[i]? = some a ∧ RelO Γ ρ H a o
  inj : ∀ (i j : Nat) (oi oj : O) (a : Addr), h[i]? = some oi → h[j]? = some oj → oi.mut → oj.mut → ρ[i]? = some a → ρ[j]? = some a → i = j
/-- slots -/
def RelS (Γ : Gam) (ρ : List Addr) (H : Hp) (σ : Sg) (τ : L2.St) : Prop :=
  σ.length = τ.length ∧ ∀ (i : Nat) (w : W), σ[i]? = some (some w) → ∃ v, τ[i]? = some (some v) ∧ RelW Γ ρ H w v
structure Le (Γ : Gam) (ρ ρ' : List Addr) (H H' : Hp) : Prop where
  pre : ∃ l, ρ' = ρ ++ l
  tup : ∀ a xs, SqT Γ.K H a xs → SqT Γ.K H' a xs
  ext : ∀ a φ, H a = some (.ext φ) → H' a = some (.ext φ)
  xd : ∀ a fs, H a = some (.xd fs) → H' a = some (.xd fs)
  frz : ∀ a ob u, H a = some (.frz ob u) → H' a = some (.frz ob u)
section
variable {Γ : Gam} {ρ ρ' ρ2 : List Addr} {H H' H2 : Hp}
theorem Le.refl : Le Γ ρ ρ H H := ⟨⟨[], by simp⟩, fun _ _ h => h, fun _ _ h => h, fun _ _ h => h, fun _ _ _ h => h⟩
theorem Le.trans (a : Le Γ ρ ρ' H H') (b : Le Γ ρ' ρ2 H' H2) : Le Γ ρ ρ2 H H2 := by
  obtain ⟨l, e⟩ := a.pre
  obtain ⟨m, e'⟩ := b.pre
  exact ⟨⟨l ++ m, by rw [e', e, List.append_assoc]⟩, fun x xs h => b.tup x xs (a.tup x xs h), fun x xs h => b.ext x xs (a.ext x xs h), fun x xs h => b.xd x xs (a.xd x xs h), fun x o u h => b.frz x o u (a.frz x o u h)⟩
theorem Le.at (a : Le Γ ρ ρ' H H') {i : Nat} {x : Addr} (e : ρ[i]? = some x) : ρ'[i]? = some x := by
  obtain ⟨l, rfl⟩ := a.pre
  rw [List.getElem?_append_left (List.getElem?_eq_some_iff.mp e).1]
  exact e
mutual
theorem RelW.mono (a : Le Γ ρ ρ' H H') : ∀ (w : W) (v : V), RelW Γ ρ H w v → RelW Γ ρ' H' w v
  | .non, v, h => by simpa [RelW] using h
  | .bl b, v, h => by simpa [RelW] using h
  | .int b, v, h => by simpa [RelW] using h
  | .str b, v, h => by simpa [RelW] using h
  | .ref i, v, h => by
    unfold RelW at h ⊢
    obtain ⟨x, e, r⟩ := h
    exact ⟨x, a.at e, r⟩
  | .tup xs, v, h => by
    unfold RelW at h ⊢
    obtain ⟨x, ys, e, t, r⟩ := h
    exact ⟨x, ys, e, a.tup _ _ t, RelWs.mono a xs ys r⟩
  | .exn c d, v, h => by
    unfold RelW at h ⊢
    obtain ⟨x, dx, e, t, r⟩ := h
    refine ⟨x, dx, e, a.ext _ _ t, ?_⟩
    cases d with
    | none => exact r
    | some n =>
      obtain ⟨b, e1, e2⟩ := r
      exact ⟨b, e1, a.xd _ _ e2⟩
theorem RelWs.mono (a : Le Γ ρ ρ' H H') : ∀ (w : List W) (v : List V), RelWs Γ ρ H w v → RelWs Γ ρ' H' w v
  | [], v, h => by simpa [RelWs] using h
  | x :: xs, v, h => by
    unfold RelWs at h ⊢
    obtain ⟨y, r, e, h1, h2⟩ := h
    exact ⟨y, r, e, RelW.mono a x y h1, RelWs.mono a xs r h2⟩
end
theorem RelFs.mono (a : Le Γ ρ ρ' H H') : ∀ (w : List (Str × W)) (v : List (Str × V)), RelFs Γ ρ H w v → RelFs Γ ρ' H' w v
  | [], v, h => by simpa [RelFs] using h
  | x :: xs, v, h => by
    unfold RelFs at h ⊢
    obtain ⟨y, r, e, h1, h2⟩ := h
    exact ⟨y, r, e, RelW.mono a x.2 y h1, RelFs.mono a xs r h2⟩
theorem RelKs.mono (a : Le Γ ρ ρ' H H') : ∀ (w : List (Key × W)) (v : List (Key × V)), RelKs Γ ρ H w v → RelKs Γ ρ' H' w v
  | [], v, h => by simpa [RelKs] using h
  | x :: xs, v, h => by
    unfold RelKs at h ⊢
    obtain ⟨y, r, e, h1, h2⟩ := h
    exact ⟨y, r, e, RelW.mono a x.2 y h1, RelKs.mono a xs r h2⟩
theorem RelS.mono {σ : Sg} {τ : L2.St} (a : Le Γ ρ ρ' H H') (r : RelS Γ ρ H σ τ) : RelS Γ ρ' H' σ τ :=
  ⟨r.1, fun i w e => let ⟨v, e1, q⟩ := r.2 i w e; ⟨v, e1, RelW.mono a w v q⟩⟩
theorem RelS.set {σ : Sg} {τ : L2.St} {i : Nat} {w : W} {v : V} (r : RelS Γ ρ H σ τ) (q : RelW Γ ρ H w v) : RelS Γ ρ H (σ.set i (some w)) (τ.set i (some v)) := by
  refine ⟨by simp [r.1], fun j w' e => ?_⟩
  by_cases hj : i = j
  · subst hj
    by_cases hl : i < σ.length
    · rw [List.getElem?_set_self hl] at e
      cases e
      exact ⟨v, List.getElem?_set_self (by rw [← r.1]; exact hl), q⟩
    · rw [List.getElem?_eq_none (by simpa using hl)] at e
      cases e
  · rw [List.getElem?_set_ne hj] at e
    obtain ⟨v', e', q'⟩ := r.2 j w' e
    exact ⟨v', by rw [List.getElem?_set_ne hj]; exact e', q'⟩
theorem RelWs.length : ∀ {ws : List W} {vs : List V}, RelWs Γ ρ H ws vs → ws.length = vs.length
  | [], vs, h => by unfold RelWs at h; subst h; rfl
  | x :: xs, vs, h => by
    unfold RelWs at h
    obtain ⟨y, r, e, h1, h2⟩ := h
    subst e
    simp [RelWs.length h2]
theorem RelWs.get : ∀ {ws : List W} {vs : List V} {i : Nat} {w : W}, RelWs Γ ρ H ws vs → ws[i]? = some w → ∃ v, vs[i]? = some v ∧ RelW Γ ρ H w v
  | [], vs, i, w, h, e => by simp at e
  | x :: xs, vs, 0, w, h, e => by
    unfold RelWs at h
    obtain ⟨y, r, e', h1, h2⟩ := h
    subst e'
    simp at e
    subst e
    exact ⟨y, rfl, h1⟩
  | x :: xs, vs, i + 1, w, h, e => by
    unfold RelWs at h
    obtain ⟨y, r, e', h1, h2⟩ := h
    subst e'
    simp at e
    obtain ⟨v, e1, q⟩ := RelWs.get h2 e
    exact ⟨v, by simpa using e1, q⟩
theorem RelWs.append : ∀ {ws ws' : List W} {vs vs' : List V}, RelWs Γ ρ H ws vs → RelWs Γ ρ H ws' vs' → RelWs Γ ρ H (ws ++ ws') (vs ++ vs')
  | [], ws', vs, vs', h, h' => by unfold RelWs at h; subst h; exact h'
  | x :: xs, ws', vs, vs', h, h' => by
    unfold RelWs at h
    obtain ⟨y, r, e', h1, h2⟩ := h
    subst e'
    show RelWs Γ ρ H (x :: (xs ++ ws')) _
    unfold RelWs
    exact ⟨y, r ++ vs', rfl, h1, RelWs.append h2 h'⟩
theorem RelWs.nil : RelWs Γ ρ H [] [] := by unfold RelWs; rfl
theorem RelWs.cons {w : W} {v : V} {ws : List W} {vs : List V} (a : RelW Γ ρ H w v) (b : RelWs Γ ρ H ws vs) : RelWs Γ ρ H (w :: ws) (v :: vs) := by
  unfold RelWs
  exact ⟨v, vs, rfl, a, b⟩
theorem RelWs.take : ∀ (n : Nat) {ws : List W} {vs : List V}, RelWs Γ ρ H ws vs → RelWs Γ ρ H (ws.take n) (vs.take n)
  | 0, ws, vs, h => by simpa using RelWs.nil
  | n + 1, [], vs, h => by unfold RelWs at h; subst h; exact RelWs.nil
  | n + 1, x :: xs, vs, h => by
    unfold RelWs at h
    obtain ⟨y, r, e', h1, h2⟩ := h
    subst e'
    exact RelWs.cons h1 (RelWs.take n h2)
theorem RelWs.drop : ∀ (n : Nat) {ws : List W} {vs : List V}, RelWs Γ ρ H ws vs → RelWs Γ ρ H (ws.drop n) (vs.drop n)
  | 0, ws, vs, h => by simpa using h
  | n + 1, [], vs, h => by unfold RelWs at h; subst h; exact RelWs.nil
  | n + 1, x :: xs, vs, h => by
    unfold RelWs at h
    obtain ⟨y, r, e', h1, h2⟩ := h
    subst e'
    exact RelWs.drop n h2
theorem RelWs.set : ∀ {ws : List W} {vs : List V} {w : W} {v : V} (i : Nat), RelWs Γ ρ H ws vs → RelW Γ ρ H w v → RelWs Γ ρ H (ws.set i w) (vs.set i v)
  | [], vs, w, v, i, h, q => by unfold RelWs at h; subst h; exact RelWs.nil
  | x :: xs, vs, w, v, 0, h, q => by
    unfold RelWs at h
    obtain ⟨y, r, e', h1, h2⟩ := h
    subst e'
    exact RelWs.cons q h2
  | x :: xs, vs, w, v, i + 1, h, q => by
    unfold RelWs at h
    obtain ⟨y, r, e', h1, h2⟩ := h
    subst e'
    exact RelWs.cons h1 (RelWs.set i h2 q)
theorem RelWs.rep {ws : List W} {vs : List V} (h : RelWs Γ ρ H ws vs) : ∀ k : Nat, RelWs Γ ρ H (List.replicate k ws).flatten (List.replicate k vs).flatten
  | 0 => by simpa using RelWs.nil
  | k + 1 => by
    rw [List.replicate_succ, List.replicate_succ, List.flatten_cons, List.flatten_cons]
    exact h.append (RelWs.rep h k)
theorem RelWs.reverse : ∀ {ws : List W} {vs : List V}, RelWs Γ ρ H ws vs → RelWs Γ ρ H ws.reverse vs.reverse
  | [], vs, h => by unfold RelWs at h; subst h; exact RelWs.nil
  | x :: xs, vs, h => by
    unfold RelWs at h
    obtain ⟨y, r, e', h1, h2⟩ := h
    subst e'
    rw [List.reverse_cons, List.reverse_cons]
    exact (RelWs.reverse h2).append (RelWs.cons h1 RelWs.nil)

/-- an object that nobody wrote is as it was -/
theorem RelO.mono {a : Addr} {o : O} (l : Le Γ ρ ρ' H H') (k : o.mut → ∀ u, H a = some u → H' a = some u) (r : RelO Γ ρ H a o) : RelO Γ ρ' H' a o := by
  cases o with
  | lst xs =>
    obtain ⟨ys, e, q⟩ := r
    exact ⟨ys, k trivial _ e, RelWs.mono l _ _ q⟩
  | frz xs =>
    obtain ⟨ys, e, q⟩ := r
    refine ⟨ys, ?_, RelWs.mono l _ _ q⟩
    rcases e with ⟨o, e⟩ | e
    · exact .inl ⟨o, l.frz _ _ _ e⟩
    · exact .inr e
  | ins c fs =>
    obtain ⟨dx, gs, e, q⟩ := r
    exact ⟨dx, gs, k trivial _ e, RelFs.mono l _ _ q⟩
  | dic kvs =>
    obtain ⟨gs, e, q⟩ := r
    exact ⟨gs, k trivial _ e, RelKs.mono l _ _ q⟩
theorem RelO.some {a : Addr} {o : O} (r : RelO Γ ρ H a o) (m : o.mut) : ∃ u, H a = some u := by
  cases o with
  | lst xs => obtain ⟨ys, e, q⟩ := r; exact ⟨_, e⟩
  | frz xs => exact m.elim
  | ins c fs => obtain ⟨dx, gs, e, q⟩ := r; exact ⟨_, e⟩
  | dic kvs => obtain ⟨gs, e, q⟩ := r; exact ⟨_, e⟩

/-- laid anew: something that is not of ours (a tuple, say) or is -/
theorem Le.laid {p : Addr} {o : HO} (n : H p = none) (l : List Addr) : Le Γ ρ (ρ ++ l) H (upd H p o) :=
  ⟨⟨l, rfl⟩, fun a xs h => by
    rcases h with (h | ⟨ob, h⟩) | h
    · exact .inl (.inl (by rw [upd_ne (ne_of_none h n)]; exact h))
    · exact .inl (.inr ⟨ob, by rw [upd_ne (ne_of_none h n)]; exact h⟩)
    · exact .inr h, fun a φ h => by rw [upd_ne (ne_of_none h n)]; exact h, fun a φ h => by rw [upd_ne (ne_of_none h n)]; exact h, fun a φ u h => by rw [upd_ne (ne_of_none h n)]; exact h⟩
theorem Rel.keep {h : Hm} (R : Rel Γ ρ h H) (l : Le Γ ρ ρ H H') (k : ∀ a u, H a = some u → H' a = some u) : Rel Γ ρ h H' :=
  ⟨R.len, fun i o e => let ⟨a, e1, r⟩ := R.obj i o e; ⟨a, e1, r.mono l fun _ => k a⟩, R.inj⟩
theorem Rel.other {h : Hm} {p : Addr} {o : HO} (R : Rel Γ ρ h H) (n : H p = none) : Rel Γ ρ h (upd H p o) := by
  have l := Le.laid (Γ := Γ) (ρ := ρ) (o := o) n []
  rw [List.append_nil] at l
  exact R.keep l fun a u e => by rw [upd_ne (ne_of_none e n)]; exact e
theorem Rel.alloc {h : Hm} {p : Addr} {o : HO} {o' : O} (R : Rel Γ ρ h H) (n : H p = none) (r : RelO Γ (ρ ++ [p]) (upd H p o) p o') : Rel Γ (ρ ++ [p]) (h ++ [o']) (upd H p o) := by
  have l := Le.laid (Γ := Γ) (ρ := ρ) (o := o) n [p]
  have look : ∀ i u, (h ++ [o'])[i]? = some u → (i < h.length ∧ h[i]? = some u) ∨ (i = h.length ∧ u = o') := fun i u e => by
    by_cases hi : i < h.length
    · rw [List.getElem?_append_left hi] at e
      exact .inl ⟨hi, e⟩
    · rw [List.getElem?_append_right (by omega)] at e
      have : i - h.length = 0 := by
        have := (List.getElem?_eq_some_iff.mp e).1
        simp at this
        omega
      rw [this] at e
      simp at e
      exact .inr ⟨by omega, e.symm⟩
  have last : (ρ ++ [p])[h.length]? = some p := by
    rw [← R.len]
    simp
  refine ⟨by simp [R.len], fun i u e => ?_, fun i j oi oj a e1 e2 m1 m2 r1 r2 => ?_⟩
  · rcases look i u e with ⟨_, e⟩ | ⟨rfl, rfl⟩
    · obtain ⟨a, e1, r⟩ := R.obj i u e
      exact ⟨a, l.at e1, r.mono l fun _ u e => by rw [upd_ne (ne_of_none e n)]; exact e⟩
    · exact ⟨p, last, r⟩
  · have old : ∀ {i : Nat} {oi : O} {a : Addr}, h[i]? = some oi → oi.mut → (ρ ++ [p])[i]? = some a → ρ[i]? = some a ∧ a ≠ p := fun {i oi a} e m r => by
      obtain ⟨a', e1, r1⟩ := R.obj i oi e
      have := l.at e1
      rw [r] at this
      cases this
      obtain ⟨u, q⟩ := r1.some m
      exact ⟨e1, ne_of_none q n⟩
    rcases look i oi e1 with ⟨_, f1⟩ | ⟨q1, _⟩ <;> rcases look j oj e2 with ⟨_, f2⟩ | ⟨q2, _⟩
    · exact R.inj i j oi oj a f1 f2 m1 m2 (old f1 m1 r1).1 (old f2 m2 r2).1
    · rw [q2, last] at r2
      cases r2
      exact absurd rfl (old f1 m1 r1).2
    · rw [q1, last] at r1
      cases r1
      exact absurd rfl (old f2 m2 r2).2
    · rw [q1, q2]
/-- an object of ours is written -/
def Wr (u : HO) : Prop := match u with
  | .lst _ => True
  | .ins _ _ _ => True
  | .dK _ => True
  | _ => False
theorem Le.write {a : Addr} {u o : HO} (e : H a = some u) (m : Wr u) : Le Γ ρ ρ H (upd H a o) := by
  have ne : ∀ {b : Addr} {v : HO}, H b = some v → ¬ Wr v → b ≠ a := fun {b v} q n z => by
    subst z
    rw [e] at q
    cases q
    exact n m
  exact ⟨⟨[], by simp⟩, fun b xs h => by
    rcases h with (h | ⟨ob, h⟩) | h
    · exact .inl (.inl (by rw [upd_ne (ne h fun z => z)]; exact h))
    · exact .inl (.inr ⟨ob, by rw [upd_ne (ne h fun z => z)]; exact h⟩)
    · exact .inr h, fun b φ h => by rw [upd_ne (ne h fun z => z)]; exact h, fun b φ h => by rw [upd_ne (ne h fun z => z)]; exact h, fun b φ u h => by rw [upd_ne (ne h fun z => z)]; exact h⟩
theorem Rel.write {h : Hm} {a : Addr} {i : Nat} {o o' : O} {u v : HO} (R : Rel Γ ρ h H) (hi : h[i]? = some o) (ha : ρ[i]? = some a) (m : o.mut) (m' : o'.mut) (e : H a = some v) (wv : Wr v) (r : RelO Γ ρ (upd H a u) a o') : Rel Γ ρ (h.set i o') (upd H a u) := by
  have l : Le Γ ρ ρ H (upd H a u) := Le.write e wv
  have lt := (List.getElem?_eq_some_iff.mp hi).1
  have look : ∀ (j : Nat) (v : O), (h.set i o')[j]? = some v → (j = i ∧ v = o') ∨ (j ≠ i ∧ h[j]? = some v) := fun j v e => by
    by_cases hj : i = j
    · subst hj
      rw [List.getElem?_set_self lt] at e
      cases e
      exact .inl ⟨rfl, rfl⟩
    · rw [List.getElem?_set_ne hj] at e
      exact .inr ⟨Ne.symm hj, e⟩
  refine ⟨by simp [R.len], fun j v e => ?_, fun j k oj ok b e1 e2 m1 m2 r1 r2 => ?_⟩
  · rcases look j v e with ⟨rfl, rfl⟩ | ⟨hj, e⟩
    · exact ⟨a, ha, r⟩
    · obtain ⟨b, eb, rb⟩ := R.obj j v e
      refine ⟨b, eb, rb.mono l fun mv x q => ?_⟩
      rw [upd_ne fun z => hj (R.inj j i v o b e hi mv m eb (by rw [z]; exact ha))]
      exact q
  · rcases look j oj e1 with ⟨q1, _⟩ | ⟨hj, f1⟩ <;> rcases look k ok e2 with ⟨q2, _⟩ | ⟨hk, f2⟩
    · rw [q1, q2]
    · rw [q1] at r1 ⊢
      exact R.inj _ _ _ _ b hi f2 m m2 r1 r2
    · rw [q2] at r2 ⊢
      exact R.inj _ _ _ _ b f1 hi m1 m r1 r2
    · exact R.inj _ _ _ _ b f1 f2 m1 m2 r1 r2
end
end Z

namespace Z
open PySem PySem.Spec PyProof.Rows L2

/-- an exception of ours, in the air -/
def ExnR (Γ : Gam) (H : Hp) (x : Exn) (cls : Value) (d : Option Addr) : Prop :=
  cls = .ref (Γ.cl x.c) ∧ match x.d with
    | none => d = none
    | some n => ∃ b, d = some b ∧ H b = some (.xd [("line", .int n)])
def O1 {α β : Type} (Γ : Gam) (R : List Addr → Hp → α → β → Prop) (ρ : List Addr) (H : Hp) (o : Out α) (Q : β → Hp → Prop) (E : XK) : Prop :=
  match o with
  | .ok a h' => ∀ ρ' H' b, Le Γ ρ ρ' H H' → Rel Γ ρ' h' H' → R ρ' H' a b → Q b H'
  | .err x h' => ∀ ρ' H' cls d, Le Γ ρ ρ' H H' → Rel Γ ρ' h' H' → ExnR Γ H' x cls d → E cls d H'
  | .bad => False
theorem Out.bind_assoc {α β γ : Type} (o : Out α) (f : α → Hm → Out β) (g : β → Hm → Out γ) : (o.bind f).bind g = o.bind fun x h => (f x h).bind g := by cases o <;> rfl
abbrev RB : List Addr → Hp → Bool → Bool → Prop := fun _ _ a b => a = b
section
variable {Γ : Gam} {ρ ρ' : List Addr} {H H' : Hp} {α β α' β' : Type} {R : List Addr → Hp → α → β → Prop} {R' : List Addr → Hp → α' → β' → Prop} {o : Out α} {Q Q2 : β → Hp → Prop} {Q' : β' → Hp → Prop} {E : XK}
theorem O1.mono (l : Le Γ ρ ρ' H H') (x : O1 Γ R ρ H o Q E) : O1 Γ R ρ' H' o Q E := by
  cases o with
  | ok a h => exact fun ρ2 H2 b l2 r q => x ρ2 H2 b (l.trans l2) r q
  | err a h => exact fun ρ2 H2 c d l2 r q => x ρ2 H2 c d (l.trans l2) r q
  | bad => exact x
theorem O1.imp (x : O1 Γ R ρ H o Q E) (f : ∀ b H', Q b H' → Q2 b H') : O1 Γ R ρ H o Q2 E := by
  cases o with
  | ok a h => exact fun ρ2 H2 b l2 r q => f _ _ (x ρ2 H2 b l2 r q)
  | err a h => exact x
  | bad => exact x
theorem O1.bind {f : α → Hm → Out α'} (x : O1 Γ R' ρ H (o.bind f) Q' E) :
    O1 Γ R ρ H o (fun v H1 => ∃ ρ1 h1 a, Le Γ ρ ρ1 H H1 ∧ Rel Γ ρ1 h1 H1 ∧ R ρ1 H1 a v ∧ O1 Γ R' ρ1 H1 (f a h1) Q' E) E := by
  cases o with
  | ok a h => exact fun ρ2 H2 b l2 r q => ⟨ρ2, h, a, l2, r, q, O1.mono l2 x⟩
  | err a h => exact x
  | bad => exact x
end

/-! ### contexts -/
structure Cfg where
  N : List Str
  V : List Str
  L : List Str
  G : List Str
  sc : Scope
  fa : Bool
  calm : Bool
structure CfgOk (c : Cfg) : Prop where
  nd : c.N.Nodup
  vis : ∀ x ∈ c.V, Vis c.sc x
  loc : ∀ x ∈ c.L, c.sc.names.lookup x = some .local ∨ (c.fa = true ∧ c.sc.names.lookup x = some .cell)
  gl : ∀ x ∈ c.G, c.sc.names.lookup x = some .globalImplicit
def cfgOk (c : Cfg) : Bool :=
  decide c.N.Nodup && (c.V.all fun x => match c.sc.names.lookup x with | some .local => true | some .cell => true | some .free => true | _ => false) &&
  (c.L.all fun x => match c.sc.names.lookup x with | some .local => true | some .cell => c.fa | _ => false) &&
  (c.G.all fun x => match c.sc.names.lookup x with | some .globalImplicit => true | _ => false)
theorem cfgOk_of {c : Cfg} (h : cfgOk c = true) : CfgOk c := by
  unfold cfgOk at h
  simp only [Bool.and_eq_true, List.all_eq_true, decide_eq_true_eq] at h
  obtain ⟨⟨⟨h1, h2⟩, h3⟩, h4⟩ := h
  refine ⟨h1, fun x hx => ?_, fun x hx => ?_, fun x hx => ?_⟩
  · have q := h2 x hx
    split at q
    · exact .inl (by assumption)
    · exact .inr (.inl (by assumption))
    · exact .inr (.inr (by assumption))
    · cases q
  · have q := h3 x hx
    split at q
    · exact .inl (by assumption)
    · exact .inr ⟨q, by assumption⟩
    · cases q
  · have q := h4 x hx
    split at q
    · assumption
    · cases q

structure Good (Γ : Gam) (c : Cfg) (k : Nat) (W : WX) (X : Cx) : Prop where
  prog : X.prog = Γ.P
  w : X.w = Γ.w
  K : X.K = Γ.K
  mg : X.mg = Γ.mg
  base : X.base = Γ.base
  N : X.N = c.N
  sc : X.env.scope = c.sc
  ok : CfgOk c
  fn : c.fa = true → ∀ x, X.fn x = true
  calm : X.calm = c.calm
  room : c.calm = true → Room k X.A
  takes : Takes X W
  pass : PassesOwn (model X.prog X.w) X.A X.env X.xe
  fr : c.fa = true → X.stack = X.env :: X.outer ∧ X.env.frame = some X.env.locals

def tI (Γ : Gam) (W : WX) (f : XE) : TE := fun τ H Q => ∃ ρ σ h, Rel Γ ρ h H ∧ RelS Γ ρ H σ τ ∧ O1 Γ (RelW Γ) ρ H (f σ h) Q (fun cls d H' => W cls d τ H')
def tIT (Γ : Gam) (W : WX) (f : XT) : TT := fun τ H Q => ∃ ρ σ h, Rel Γ ρ h H ∧ RelS Γ ρ H σ τ ∧ O1 Γ RB ρ H (f σ h) Q (fun cls d H' => W cls d τ H')
def tIA (Γ : Gam) (W : WX) (f : XA) : TA := fun τ H Q => ∃ ρ σ h, Rel Γ ρ h H ∧ RelS Γ ρ H σ τ ∧ O1 Γ (RelWs Γ) ρ H (f σ h) Q (fun cls d H' => W cls d τ H')
def SE (Γ : Gam) (c : Cfg) (k : Nat) (e : Expr) (f : XE) : Prop := ∀ W X, Good Γ c k W X → PE X e (tI Γ W f)
def ST (Γ : Gam) (c : Cfg) (k : Nat) (e : Expr) (f : XT) : Prop := ∀ W X, Good Γ c k W X → PT X e (tIT Γ W f)
def SA (Γ : Gam) (c : Cfg) (k : Nat) (es : List Expr) (f : XA) : Prop := ∀ W X, Good Γ c k W X → PA X es (tIA Γ W f)
/-- tests with and, or -/
def SW (Γ : Gam) (c : Cfg) (k : Nat) (e : Expr) (f : XT) : Prop := ∀ W X, Good Γ c k W X → PW X e (tIT Γ W f)

theorem PE.imp {X : Cx} {e : Expr} {t t' : TE} (h : PE X e t) (i : ∀ σ H Q, t' σ H Q → t σ H Q) : PE X e t' := ⟨fun pins s σ H Q I q => h.run pins s σ H Q I (i _ _ _ q)⟩
theorem PT.imp {X : Cx} {e : Expr} {t t' : TT} (h : PT X e t) (i : ∀ σ H Q, t' σ H Q → t σ H Q) : PT X e t' := ⟨fun pins s σ H Q I q => h.run pins s σ H Q I (i _ _ _ q)⟩
theorem PW.imp {X : Cx} {e : Expr} {t t' : TT} (h : PW X e t) (i : ∀ σ H Q, t' σ H Q → t σ H Q) : PW X e t' := ⟨fun wh pins s σ H Q I q => h.run wh pins s σ H Q I (i _ _ _ q)⟩
theorem PA.imp {X : Cx} {e : List Expr} {t t' : TA} (h : PA X e t) (i : ∀ σ H Q, t' σ H Q → t σ H Q) : PA X e t' := ⟨fun pos pins s σ H Q I q => h.run pos pins s σ H Q I (i _ _ _ q)⟩

/-! ### operations on values -/
abbrev Pr := Option (W × Hm)
def ofO : Pr → Out W
  | some (w, h) => .ok w h
  | none => .bad
def new (h : Hm) (o : O) : W × Hm := (.ref h.length, h ++ [o])
/-- what an operation asks, by our values -/
def r2 (Γ : Gam) (g : W → W → Hm → Pr) : R2 := fun x y H Q => ∃ ρ h u w u' h', Rel Γ ρ h H ∧ RelW Γ ρ H u x ∧ RelW Γ ρ H w y ∧ g u w h = some (u', h') ∧ ∀ ρ' H' v, Le Γ ρ ρ' H H' → Rel Γ ρ' h' H' → RelW Γ ρ' H' u' v → Q v H'
def r1 (Γ : Gam) (g : W → Hm → Pr) : V → Hp → VK → Prop := fun x H Q => ∃ ρ h u u' h', Rel Γ ρ h H ∧ RelW Γ ρ H u x ∧ g u h = some (u', h') ∧ ∀ ρ' H' v, Le Γ ρ ρ' H H' → Rel Γ ρ' h' H' → RelW Γ ρ' H' u' v → Q v H'
def rN (Γ : Gam) (g : List W → Hm → Pr) : List V → Hp → VK → Prop := fun xs H Q => ∃ ρ h us u' h', Rel Γ ρ h H ∧ RelWs Γ ρ H us xs ∧ g us h = some (u', h') ∧ ∀ ρ' H' v, Le Γ ρ ρ' H H' → Rel Γ ρ' h' H' → RelW Γ ρ' H' u' v → Q v H'
def OpS (Γ : Gam) (c : Cfg) (k : Nat) (f : Value → Value → Sem Value) (g : W → W → Hm → Pr) : Prop := ∀ W X, Good Γ c k W X → OpR X f (r2 Γ g)
def UnS (Γ : Gam) (c : Cfg) (k : Nat) (f : Value → Sem Value) (g : W → Hm → Pr) : Prop := ∀ W X, Good Γ c k W X → UnR X f (r1 Γ g)
def CaS (Γ : Gam) (c : Cfg) (k : Nat) (f : Value) (g : List W → Hm → Pr) : Prop := ∀ W X, Good Γ c k W X → CallR X f (rN Γ g)

/-! ### the combinators -/
def xK (w : W) : XE := fun _ h => .ok w h
def xVar (i : Nat) : XE := fun σ h => match σ[i]? with
  | some (some w) => .ok w h
  | _ => .bad
def xBin (g : W → W → Hm → Pr) (a b : XE) : XE := fun σ h => (a σ h).bind fun x h1 => (b σ h1).bind fun y h2 => ofO (g x y h2)
def xUn (g : W → Hm → Pr) (a : XE) : XE := fun σ h => (a σ h).bind fun x h1 => ofO (g x h1)
def xNil : XA := fun _ h => .ok [] h
def xCons (a : XE) (r : XA) : XA := fun σ h => (a σ h).bind fun x h1 => (r σ h1).bind fun xs h2 => .ok (x :: xs) h2
def xCall (g : List W → Hm → Pr) (a : XA) : XE := fun σ h => (a σ h).bind fun xs h1 => ofO (g xs h1)
def xTup (a : XA) : XE := fun σ h => (a σ h).bind fun xs h1 => if xs.length ≤ 16777216 then .ok (.tup xs) h1 else .bad
def xLst (a : XA) : XE := fun σ h => (a σ h).bind fun xs h1 => if xs.length ≤ 16777216 then .ok (.ref h1.length) (h1 ++ [.lst xs]) else .bad
def asB : W → Hm → Out Bool
  | .bl b, h => .ok b h
  | _, _ => .bad
def xB (a : XE) : XT := fun σ h => (a σ h).bind asB
def xAndT (a b : XT) : XT := fun σ h => (a σ h).bind fun c h1 => if c then b σ h1 else .ok false h1
def xOrT (a b : XT) : XT := fun σ h => (a σ h).bind fun c h1 => if c then .ok true h1 else b σ h1
def xNotT (a : XT) : XT := fun σ h => (a σ h).bind fun c h1 => .ok (!c) h1
def xAnd (a b : XE) : XE := fun σ h => (a σ h).bind fun x h1 => match x with
  | .bl true => b σ h1
  | .bl false => .ok (.bl false) h1
  | _ => .bad
def xOr (a b : XE) : XE := fun σ h => (a σ h).bind fun x h1 => match x with
  | .bl true => .ok (.bl true) h1
  | .bl false => b σ h1
  | _ => .bad
def xNot (a : XE) : XE := fun σ h => (a σ h).bind fun x h1 => match x with
  | .bl b => .ok (.bl !b) h1
  | _ => .bad
def xIf (t : XT) (a b : XE) : XE := fun σ h => (t σ h).bind fun c h1 => if c then a σ h1 else b σ h1
def xChain (g g' : W → W → Hm → Pr) (a b c : XE) : XE := fun σ h => (a σ h).bind fun x h1 => (b σ h1).bind fun y h2 => (ofO (g x y h2)).bind fun z h3 => match z with
  | .bl true => (c σ h3).bind fun w h4 => ofO (g' y w h4)
  | .bl false => .ok (.bl false) h3
  | _ => .bad

section
variable {Γ : Gam} {c : Cfg} {k : Nat} {a b e d : Expr} {es : List Expr} {fa fb fc : XE} {ft fu : XT} {fr : XA} {pos p : Pos}
theorem Good.nd {W : WX} {X : Cx} (g : Good Γ c k W X) : X.N.Nodup := by rw [g.N]; exact g.ok.nd
theorem Good.gl {W : WX} {X : Cx} (g : Good Γ c k W X) {x : Str} (h : x ∈ c.G) : Gl X x := by
  have := g.ok.gl x h
  unfold Gl Env.kindOf
  rw [g.sc]
  exact this
theorem relS_at {ρ : List Addr} {H : Hp} {σ : Sg} {τ : L2.St} (r : RelS Γ ρ H σ τ) {i : Nat} {w : W} (e : σ[i]? = some (some w)) : ∃ v, τ[i]? = some (some v) ∧ RelW Γ ρ H w v := r.2 i w e

theorem se_var (i j : Nat) {x : Str} (hN : c.N[i]? = some x := by rfl) (hV : c.V[j]? = some x := by rfl) (hd : (x == ("__debug__" : Str)) = false := by decide) (hcd : (x == ("__classdict__" : Str)) = false := by decide) : SE Γ c k (.Name x pos) (xVar i) := by
  intro W X g
  have hv : Vis X.env.scope x := by rw [g.sc]; exact g.ok.vis x (List.mem_of_getElem? hV)
  refine PE.imp (pe_var (i := i) (by rw [g.N]; exact hN) hv hd hcd) fun τ H Q h => ?_
  obtain ⟨ρ, σ, h, R, S, q⟩ := h
  unfold xVar at q
  split at q
  · rename_i w e
    obtain ⟨v, ev, rv⟩ := S.2 i w e
    exact ⟨v, ev, q ρ H v .refl R rv⟩
  · exact q.elim
theorem se_k {v : V} {w : W} (h : ∀ X : Cx, PE X e (tC v)) (r : ∀ ρ H, RelW Γ ρ H w v) : SE Γ c k e (xK w) := by
  intro W X g
  refine PE.imp (h X) fun τ H Q h => ?_
  obtain ⟨ρ, σ, h, R, S, q⟩ := h
  exact q ρ H v .refl R (r ρ H)
theorem se_int {i : Int} {j} : SE Γ c k (.Constant (.int i) j pos) (xK (.int i)) := se_k (fun _ => pe_int) fun _ _ => by simp [RelW]
theorem se_bl {i : Bool} {j} : SE Γ c k (.Constant (.bool i) j pos) (xK (.bl i)) := se_k (fun _ => pe_bl) fun _ _ => by simp [RelW]
theorem se_str {i : Str} {j} : SE Γ c k (.Constant (.str i) j pos) (xK (.str i)) := se_k (fun _ => pe_str) fun _ _ => by simp [RelW]
theorem se_non {j} : SE Γ c k (.Constant .none j pos) (xK .non) := se_k (fun _ => pe_non) fun _ _ => by simp [RelW]
/-- a constant of the module -/
def Kon (Γ : Gam) (x : Str) (w : W) : Prop := ∃ u v, Γ.mg x = some u ∧ RelV v u ∧ ∀ ρ H, RelW Γ ρ H w v
theorem se_glo (j : Nat) {x : Str} {w : W} (hk : Kon Γ x w) (hG : c.G[j]? = some x := by rfl) (hd : (x == ("__debug__" : Str)) = false := by decide) : SE Γ c k (.Name x pos) (xK w) := by
  intro W X g
  obtain ⟨u, v, hm, r, q⟩ := hk
  refine PE.imp (pe_glob (v := v) (g.gl (List.mem_of_getElem? hG)) (by rw [g.mg]; exact hm) r hd) fun τ H Q h => ?_
  obtain ⟨ρ, σ, h, R, S, q'⟩ := h
  exact q' ρ H v .refl R (q ρ H)

theorem O1.ofO {ρ : List Addr} {H : Hp} {p : Pr} {Q : VK} {E : XK} (x : O1 Γ (RelW Γ) ρ H (ofO p) Q E) : ∃ w h, p = some (w, h) ∧ ∀ ρ' H' v, Le Γ ρ ρ' H H' → Rel Γ ρ' h H' → RelW Γ ρ' H' w v → Q v H' := by
  cases p with
  | none => exact x.elim
  | some y => exact ⟨y.1, y.2, rfl, x⟩
theorem se_bin {op : Operator} {g : W → W → Hm → Pr} (ho : OpS Γ c k (binaryOp op) g) (ha : SE Γ c k a fa) (hb : SE Γ c k b fb) : SE Γ c k (.BinOp a op b pos) (xBin g fa fb) := by
  intro W X G
  refine PE.imp (pe_op (ho W X G) (ha W X G) (hb W X G)) fun τ H Q h => ?_
  obtain ⟨ρ, σ, h, R, S, q⟩ := h
  refine ⟨ρ, σ, h, R, S, (O1.bind (R := RelW Γ) q).imp fun x H1 ⟨ρ1, h1, u, l1, R1, r1, q1⟩ => ?_⟩
  refine ⟨ρ1, σ, h1, R1, S.mono l1, (O1.bind (R := RelW Γ) q1).imp fun y H2 ⟨ρ2, h2, w, l2, R2, r2, q2⟩ => ?_⟩
  obtain ⟨u', h', e, q3⟩ := q2.ofO
  exact ⟨ρ2, h2, u, w, u', h', R2, RelW.mono l2 _ _ r1, r2, e, q3⟩
theorem se_un {op : UnaryOp} {g : W → Hm → Pr} (ho : UnS Γ c k (unaryOp op) g) (ha : SE Γ c k a fa) : SE Γ c k (.UnaryOp op a pos) (xUn g fa) := by
  intro W X G
  refine PE.imp (pe_un (ho W X G) (ha W X G)) fun τ H Q h => ?_
  obtain ⟨ρ, σ, h, R, S, q⟩ := h
  refine ⟨ρ, σ, h, R, S, (O1.bind (R := RelW Γ) q).imp fun x H1 ⟨ρ1, h1, u, l1, R1, r1, q1⟩ => ?_⟩
  obtain ⟨u', h', e, q3⟩ := q1.ofO
  exact ⟨ρ1, h1, u, u', h', R1, r1, e, q3⟩
theorem se_cmp {op : CmpOp} {g : W → W → Hm → Pr} (ho : OpS Γ c k (compareOp op) g) (ha : SE Γ c k a fa) (hb : SE Γ c k b fb) (hm : behindInMarks op b = false := by rfl) : SE Γ c k (.Compare a [op] [b] pos) (xBin g fa fb) := by
  intro W X G
  refine PE.imp (pe_cmpR (ho W X G) (ha W X G) (hb W X G) hm) fun τ H Q h => ?_
  obtain ⟨ρ, σ, h, R, S, q⟩ := h
  refine ⟨ρ, σ, h, R, S, (O1.bind (R := RelW Γ) q).imp fun x H1 ⟨ρ1, h1, u, l1, R1, r1, q1⟩ => ?_⟩
  refine ⟨ρ1, σ, h1, R1, S.mono l1, (O1.bind (R := RelW Γ) q1).imp fun y H2 ⟨ρ2, h2, w, l2, R2, r2, q2⟩ => ?_⟩
  obtain ⟨u', h', e, q3⟩ := q2.ofO
  exact ⟨ρ2, h2, u, w, u', h', R2, RelW.mono l2 _ _ r1, r2, e, q3⟩
theorem asB_o {ρ : List Addr} {H : Hp} {u : W} {h1 : Hm} {Q : Bool → Hp → Prop} {E : XK} {v : V} (R : Rel Γ ρ h1 H) (r : RelW Γ ρ H u v) (q : O1 Γ RB ρ H (asB u h1) Q E) : ∃ b, v = .bl b ∧ u = .bl b ∧ Q b H := by
  cases u with
  | bl b =>
    unfold RelW at r
    exact ⟨b, r, rfl, q ρ H b .refl R rfl⟩
  | _ => exact q.elim
theorem st_cmp {op : CmpOp} {g : W → W → Hm → Pr} (ho : OpS Γ c k (compareOp op) g) (ha : SE Γ c k a fa) (hb : SE Γ c k b fb) (hm : behindInMarks op b = false := by rfl) : ST Γ c k (.Compare a [op] [b] pos) (xB (xBin g fa fb)) := by
  intro W X G
  refine PT.imp (pt_cmpR (ho W X G) (ha W X G) (hb W X G) hm) fun τ H Q h => ?_
  obtain ⟨ρ, σ, h, R, S, q⟩ := h
  have q : O1 Γ RB ρ H ((fa σ h).bind fun x h1 => (fb σ h1).bind fun y h2 => (ofO (g x y h2)).bind asB) Q (fun cls d H' => W cls d τ H') := by
    have e : xB (xBin g fa fb) σ h = ((fa σ h).bind fun x h1 => (fb σ h1).bind fun y h2 => (ofO (g x y h2)).bind asB) := by
      unfold xB xBin
      cases fa σ h with
      | ok x h1 =>
        show ((fb σ h1).bind _).bind _ = (fb σ h1).bind _
        cases fb σ h1 <;> rfl
      | err => rfl
      | bad => rfl
    rw [← e]
    exact q
  refine ⟨ρ, σ, h, R, S, (O1.bind (R := RelW Γ) q).imp fun x H1 ⟨ρ1, h1, u, l1, R1, r1, q1⟩ => ?_⟩
  refine ⟨ρ1, σ, h1, R1, S.mono l1, (O1.bind (R := RelW Γ) q1).imp fun y H2 ⟨ρ2, h2, w, l2, R2, r2, q2⟩ => ?_⟩
  obtain ⟨u', h', e, q3⟩ := (O1.bind (R := RelW Γ) q2).ofO
  refine ⟨ρ2, h2, u, w, u', h', R2, RelW.mono l2 _ _ r1, r2, e, fun ρ3 H3 v l3 R3 r3 => ?_⟩
  obtain ⟨ρ4, h4, z, l4, R4, r4, q4⟩ := q3 ρ3 H3 v l3 R3 r3
  obtain ⟨bb, e1, _, q5⟩ := asB_o R4 r4 q4
  exact ⟨bb, e1, q5⟩
/-- a value that is a bool, as a test -/
theorem st_val (he : SE Γ c k e fa) (hs : ∀ (env : Env) (whole : Sem Value), isTrue e env whole = (do let v ← whole; standAt e.pos; holding [v] (truthy v)) := by intros; rfl) : ST Γ c k e (xB fa) := by
  intro W X G
  refine PT.imp (pt_val (he W X G) (hs X.env)) fun τ H Q h => ?_
  obtain ⟨ρ, σ, h, R, S, q⟩ := h
  refine ⟨ρ, σ, h, R, S, (O1.bind (R := RelW Γ) q).imp fun x H1 ⟨ρ1, h1, u, l1, R1, r1, q1⟩ => ?_⟩
  obtain ⟨bb, e1, _, q5⟩ := asB_o R1 r1 q1
  exact ⟨bb, e1, q5⟩
theorem st_not (ha : ST Γ c k a ft) : ST Γ c k (.UnaryOp .Not a pos) (xNotT ft) := by
  intro W X G
  refine PT.imp (pt_not (ha W X G)) fun τ H Q h => ?_
  obtain ⟨ρ, σ, h, R, S, q⟩ := h
  refine ⟨ρ, σ, h, R, S, (O1.bind (R := RB) q).imp fun x H1 ⟨ρ1, h1, u, l1, R1, r1, q1⟩ => ?_⟩
  have r1 : u = x := r1
  subst r1
  exact q1 ρ1 H1 _ .refl R1 rfl
theorem sw_one {op : BoolOp} (ha : ST Γ c k a ft) : SW Γ c k (.BoolOp op [a] pos) ft := by
  intro W X G
  cases op with
  | And => exact pw_and1 (ha W X G)
  | Or => exact pw_or1 (ha W X G)
theorem sw_and {rest : List Expr} (ha : ST Γ c k a ft) (hb : SW Γ c k (.BoolOp .And (b :: rest) pos) fu) : SW Γ c k (.BoolOp .And (a :: b :: rest) pos) (xAndT ft fu) := by
  intro W X G
  refine PW.imp (pw_and (ha W X G) (hb W X G)) fun τ H Q h => ?_
  obtain ⟨ρ, σ, h, R, S, q⟩ := h
  refine ⟨ρ, σ, h, R, S, (O1.bind (R := RB) q).imp fun x H1 ⟨ρ1, h1, u, l1, R1, r1, q1⟩ => ?_⟩
  have r1 : u = x := r1
  subst r1
  cases u with
  | true => exact iteT ⟨ρ1, σ, h1, R1, S.mono l1, q1⟩
  | false => exact iteF (q1 ρ1 H1 _ .refl R1 rfl)
theorem sw_or {rest : List Expr} (ha : ST Γ c k a ft) (hb : SW Γ c k (.BoolOp .Or (b :: rest) pos) fu) : SW Γ c k (.BoolOp .Or (a :: b :: rest) pos) (xOrT ft fu) := by
  intro W X G
  refine PW.imp (pw_or (ha W X G) (hb W X G)) fun τ H Q h => ?_
  obtain ⟨ρ, σ, h, R, S, q⟩ := h
  refine ⟨ρ, σ, h, R, S, (O1.bind (R := RB) q).imp fun x H1 ⟨ρ1, h1, u, l1, R1, r1, q1⟩ => ?_⟩
  have r1 : u = x := r1
  subst r1
  cases u with
  | true => exact iteT (q1 ρ1 H1 _ .refl R1 rfl)
  | false => exact iteF ⟨ρ1, σ, h1, R1, S.mono l1, q1⟩
theorem st_w (h : SW Γ c k e ft) : ST Γ c k e ft := fun W X G => (h W X G).pt
theorem se_one {op : BoolOp} (ha : SE Γ c k a fa) : SE Γ c k (.BoolOp op [a] pos) fa := fun W X G => pe_one (ha W X G)
theorem relW_bl {ρ : List Addr} {H : Hp} {b : Bool} {v : V} (r : RelW Γ ρ H (.bl b) v) : v = .bl b := by unfold RelW at r; exact r
theorem se_and {rest : List Expr} (ha : SE Γ c k a fa) (hb : SE Γ c k (.BoolOp .And (b :: rest) pos) fb) : SE Γ c k (.BoolOp .And (a :: b :: rest) pos) (xAnd fa fb) := by
  intro W X G
  refine PE.imp (pe_and (ha W X G) (hb W X G)) fun τ H Q h => ?_
  obtain ⟨ρ, σ, h, R, S, q⟩ := h
  refine ⟨ρ, σ, h, R, S, (O1.bind (R := RelW Γ) q).imp fun x H1 ⟨ρ1, h1, u, l1, R1, r1, q1⟩ => ?_⟩
  split at q1
  · exact ⟨true, relW_bl r1, iteT ⟨ρ1, σ, h1, R1, S.mono l1, q1⟩⟩
  · exact ⟨false, relW_bl r1, iteF (q1 ρ1 H1 _ .refl R1 (by simp [RelW]))⟩
  · exact q1.elim
theorem se_or {rest : List Expr} (ha : SE Γ c k a fa) (hb : SE Γ c k (.BoolOp .Or (b :: rest) pos) fb) : SE Γ c k (.BoolOp .Or (a :: b :: rest) pos) (xOr fa fb) := by
  intro W X G
  refine PE.imp (pe_or (ha W X G) (hb W X G)) fun τ H Q h => ?_
  obtain ⟨ρ, σ, h, R, S, q⟩ := h
  refine ⟨ρ, σ, h, R, S, (O1.bind (R := RelW Γ) q).imp fun x H1 ⟨ρ1, h1, u, l1, R1, r1, q1⟩ => ?_⟩
  split at q1
  · exact ⟨true, relW_bl r1, iteT (q1 ρ1 H1 _ .refl R1 (by simp [RelW]))⟩
  · exact ⟨false, relW_bl r1, iteF ⟨ρ1, σ, h1, R1, S.mono l1, q1⟩⟩
  · exact q1.elim
theorem se_not (ha : SE Γ c k a fa) : SE Γ c k (.UnaryOp .Not a pos) (xNot fa) := by
  intro W X G
  refine PE.imp (pe_not (ha W X G)) fun τ H Q h => ?_
  obtain ⟨ρ, σ, h, R, S, q⟩ := h
  refine ⟨ρ, σ, h, R, S, (O1.bind (R := RelW Γ) q).imp fun x H1 ⟨ρ1, h1, u, l1, R1, r1, q1⟩ => ?_⟩
  split at q1
  · exact ⟨_, relW_bl r1, q1 ρ1 H1 _ .refl R1 (by simp [RelW])⟩
  · exact q1.elim
theorem se_if (ht : ST Γ c k d ft) (ha : SE Γ c k a fa) (hb : SE Γ c k b fb) : SE Γ c k (.IfExp d a b pos) (xIf ft fa fb) := by
  intro W X G
  refine PE.imp (pe_ifExp (ht W X G) (ha W X G) (hb W X G)) fun τ H Q h => ?_
  obtain ⟨ρ, σ, h, R, S, q⟩ := h
  refine ⟨ρ, σ, h, R, S, (O1.bind (R := RB) q).imp fun x H1 ⟨ρ1, h1, u, l1, R1, r1, q1⟩ => ?_⟩
  have r1 : u = x := r1
  subst r1
  cases u with
  | true => exact iteT ⟨ρ1, σ, h1, R1, S.mono l1, q1⟩
  | false => exact iteF ⟨ρ1, σ, h1, R1, S.mono l1, q1⟩
theorem se_chain {op op' : CmpOp} {g g' : W → W → Hm → Pr} (ho : OpS Γ c k (compareOp op) g) (ho' : OpS Γ c k (compareOp op') g') (ha : SE Γ c k a fa) (hb : SE Γ c k b fb) (hd : SE Γ c k d fc)
    (h2 : behindInMarks op' d = false := by rfl) : SE Γ c k (.Compare a [op, op'] [b, d] pos) (xChain g g' fa fb fc) := by
  intro W X G
  refine PE.imp (pe_chain (ho W X G) (ho' W X G) (ha W X G) (hb W X G) (hd W X G) (hm := h2)) fun τ H Q h => ?_
  obtain ⟨ρ, σ, h, R, S, q⟩ := h
  refine ⟨ρ, σ, h, R, S, (O1.bind (R := RelW Γ) q).imp fun x H1 ⟨ρ1, h1, u, l1, R1, r1, q1⟩ => ?_⟩
  refine ⟨ρ1, σ, h1, R1, S.mono l1, (O1.bind (R := RelW Γ) q1).imp fun y H2 ⟨ρ2, h2, w, l2, R2, r2, q2⟩ => ?_⟩
  obtain ⟨u', h', e, q3⟩ := (O1.bind (R := RelW Γ) q2).ofO
  refine ⟨ρ2, h2, u, w, u', h', R2, RelW.mono l2 _ _ r1, r2, e, fun ρ3 H3 v l3 R3 r3 => ?_⟩
  obtain ⟨ρ4, h4, z, l4, R4, r4, q4⟩ := q3 ρ3 H3 v l3 R3 r3
  split at q4
  · refine ⟨true, relW_bl r4, iteT ⟨ρ4, σ, h4, R4, ((S.mono l1).mono l2).mono l4, (O1.bind (R := RelW Γ) q4).imp fun v5 H5 ⟨ρ5, h5, w5, l5, R5, r5, q5⟩ => ?_⟩⟩
    obtain ⟨u6, h6, e6, q6⟩ := q5.ofO
    exact ⟨ρ5, h5, w, w5, u6, h6, R5, RelW.mono (l4.trans l5) _ _ r2, r5, e6, q6⟩
  · exact ⟨false, relW_bl r4, iteF (q4 ρ4 H3 _ .refl R4 (by simp [RelW]))⟩
  · exact q4.elim
theorem st_chain {op op' : CmpOp} {g g' : W → W → Hm → Pr} (ho : OpS Γ c k (compareOp op) g) (ho' : OpS Γ c k (compareOp op') g') (ha : SE Γ c k a fa) (hb : SE Γ c k b fb) (hd : SE Γ c k d fc)
    (h2 : behindInMarks op' d = false := by rfl) : ST Γ c k (.Compare a [op, op'] [b, d] pos) (xB (xChain g g' fa fb fc)) := by
  intro W X G
  refine PT.imp (pt_chain (ho W X G) (ho' W X G) (ha W X G) (hb W X G) (hd W X G) (hm := h2)) fun τ H Q h => ?_
  obtain ⟨ρ, σ, h, R, S, q⟩ := h
  have q : O1 Γ RB ρ H ((fa σ h).bind fun x h1 => (fb σ h1).bind fun y h2 => (ofO (g x y h2)).bind fun z h3 => (match (generalizing := false) z with
      | .bl true => (fc σ h3).bind fun w h4 => ofO (g' y w h4)
      | .bl false => .ok (.bl false) h3
      | _ => .bad).bind asB) Q (fun cls d H' => W cls d τ H') := by
    unfold xB xChain at q
    simp only [Out.bind_assoc] at q
    exact q
  refine ⟨ρ, σ, h, R, S, (O1.bind (R := RelW Γ) q).imp fun x H1 ⟨ρ1, h1, u, l1, R1, r1, q1⟩ => ?_⟩
  refine ⟨ρ1, σ, h1, R1, S.mono l1, (O1.bind (R := RelW Γ) q1).imp fun y H2 ⟨ρ2, h2, w, l2, R2, r2, q2⟩ => ?_⟩
  obtain ⟨u', h', e, q3⟩ := (O1.bind (R := RelW Γ) q2).ofO
  refine ⟨ρ2, h2, u, w, u', h', R2, RelW.mono l2 _ _ r1, r2, e, fun ρ3 H3 v l3 R3 r3 => ?_⟩
  obtain ⟨ρ4, h4, z, l4, R4, r4, q4⟩ := q3 ρ3 H3 v l3 R3 r3
  split at q4
  · rw [Out.bind_assoc] at q4
    refine ⟨true, relW_bl r4, iteT ⟨ρ4, σ, h4, R4, ((S.mono l1).mono l2).mono l4, (O1.bind (R := RelW Γ) q4).imp fun v5 H5 ⟨ρ5, h5, w5, l5, R5, r5, q5⟩ => ?_⟩⟩
    obtain ⟨u6, h6, e6, q6⟩ := (O1.bind (R := RelW Γ) q5).ofO
    refine ⟨ρ5, h5, w, w5, u6, h6, R5, RelW.mono (l4.trans l5) _ _ r2, r5, e6, fun ρ7 H7 v7 l7 R7 r7 => ?_⟩
    obtain ⟨ρ8, h8, z8, l8, R8, r8, q8⟩ := q6 ρ7 H7 v7 l7 R7 r7
    obtain ⟨bb, e1, _, q9⟩ := asB_o R8 r8 q8
    exact ⟨bb, e1, q9⟩
  · exact ⟨false, relW_bl r4, iteF ⟨false, rfl, q4 ρ4 H3 _ .refl R4 rfl⟩⟩
  · exact q4.elim
theorem sa_nil : SA Γ c k [] xNil := by
  intro W X G
  refine PA.imp pa_nil fun τ H Q h => ?_
  obtain ⟨ρ, σ, h, R, S, q⟩ := h
  exact q ρ H _ .refl R (by simp [RelWs])
theorem sa_cons (ha : SE Γ c k e fa) (hr : SA Γ c k es fr) (hs : ∀ env, starEach (e :: es) env = (false, eval e env) :: starEach es env := by intros; rfl) : SA Γ c k (e :: es) (xCons fa fr) := by
  intro W X G
  refine PA.imp (pa_cons (ha W X G) (hr W X G) (hs X.env)) fun τ H Q h => ?_
  obtain ⟨ρ, σ, h, R, S, q⟩ := h
  refine ⟨ρ, σ, h, R, S, (O1.bind (R := RelW Γ) q).imp fun x H1 ⟨ρ1, h1, u, l1, R1, r1, q1⟩ => ?_⟩
  refine ⟨ρ1, σ, h1, R1, S.mono l1, (O1.bind (R := RelWs Γ) q1).imp fun y H2 ⟨ρ2, h2, w, l2, R2, r2, q2⟩ => ?_⟩
  exact q2 ρ2 H2 _ .refl R2 (RelWs.cons (RelW.mono l2 _ _ r1) r2)
theorem se_tup {x1} (ha : SA Γ c k es fr) : SE Γ c k (.Tuple es x1 pos) (xTup fr) := by
  intro W X G
  refine PE.imp (pe_tup (ha W X G)) fun τ H Q h => ?_
  obtain ⟨ρ, σ, h, R, S, q⟩ := h
  refine ⟨ρ, σ, h, R, S, (O1.bind (R := RelWs Γ) q).imp fun x H1 ⟨ρ1, h1, u, l1, R1, r1, q1⟩ => ?_⟩
  split at q1
  · rename_i hl
    refine ⟨by rw [sizeLine_eq, ← r1.length]; exact hl, fun p hp => ?_⟩
    have l := Le.laid (Γ := Γ) (ρ := ρ1) (o := .tup x) hp []
    rw [List.append_nil] at l
    refine q1 ρ1 _ _ l (R1.other hp) ?_
    unfold RelW
    exact ⟨p, x, rfl, SqT.of upd_same, RelWs.mono l _ _ r1⟩
  · exact q1.elim
theorem se_lst (ha : SA Γ c k es fr) : SE Γ c k (.List es pos) (xLst fr) := by
  intro W X G
  refine PE.imp (pe_lst (ha W X G)) fun τ H Q h => ?_
  obtain ⟨ρ, σ, h, R, S, q⟩ := h
  refine ⟨ρ, σ, h, R, S, (O1.bind (R := RelWs Γ) q).imp fun x H1 ⟨ρ1, h1, u, l1, R1, r1, q1⟩ => ?_⟩
  split at q1
  · rename_i hl
    refine ⟨by rw [sizeLine_eq, ← r1.length]; exact hl, fun p hp => ?_⟩
    have l := Le.laid (Γ := Γ) (ρ := ρ1) (o := .lst x) hp [p]
    refine q1 _ _ _ l (R1.alloc hp ⟨x, upd_same, RelWs.mono l _ _ r1⟩) ?_
    unfold RelW
    exact ⟨p, by rw [← R1.len]; simp, rfl⟩
  · exact q1.elim
end
end Z

namespace Z
open PySem PySem.Spec PyProof.Rows L2

def S1 (Γ : Gam) (ρ : List Addr) (H : Hp) (o : SOut) (D : Ends) (W : WX) : Prop :=
  match o with
  | .nx σ' h' => ∀ ρ' H' τ', Le Γ ρ ρ' H H' → Rel Γ ρ' h' H' → RelS Γ ρ' H' σ' τ' → D.nx τ' H'
  | .ct σ' h' => ∀ ρ' H' τ', Le Γ ρ ρ' H H' → Rel Γ ρ' h' H' → RelS Γ ρ' H' σ' τ' → D.ct τ' H'
  | .bk σ' h' => ∀ ρ' H' τ', Le Γ ρ ρ' H H' → Rel Γ ρ' h' H' → RelS Γ ρ' H' σ' τ' → D.bk τ' H'
  | .rt w h' => ∀ ρ' H' v, Le Γ ρ ρ' H H' → Rel Γ ρ' h' H' → RelW Γ ρ' H' w v → D.rt v H'
  | .err x σ' h' => ∀ ρ' H' τ' cls d, Le Γ ρ ρ' H H' → Rel Γ ρ' h' H' → RelS Γ ρ' H' σ' τ' → ExnR Γ H' x cls d → W cls d τ' H'
  | .bad => False
def sI (Γ : Gam) (W : WX) (f : XS) : TS := fun D τ H => ∃ ρ σ h, Rel Γ ρ h H ∧ RelS Γ ρ H σ τ ∧ S1 Γ ρ H (f σ h) D W
def SS (Γ : Gam) (c : Cfg) (k : Nat) (st : Stmt) (f : XS) : Prop := ∀ W X, Good Γ c k W X → PS X st (sI Γ W f)
def SL (Γ : Gam) (c : Cfg) (k : Nat) (sts : List Stmt) (f : XS) : Prop := ∀ W X, Good Γ c k W X → PSs X sts (sI Γ W f)
theorem PS.imp {X : Cx} {st : Stmt} {t t' : TS} (h : PS X st t) (i : ∀ D σ H, t' D σ H → t D σ H) : PS X st t' := ⟨fun pins s σ H D I q => h.run pins s σ H D I (i _ _ _ q)⟩
theorem PSs.imp {X : Cx} {st : List Stmt} {t t' : TS} (h : PSs X st t) (i : ∀ D σ H, t' D σ H → t D σ H) : PSs X st t' := ⟨fun pins s σ H D I q => h.run pins s σ H D I (i _ _ _ q)⟩

def fuel : Nat := 1000000000
def sOf {α : Type} (o : Out α) (σ : Sg) (f : α → Hm → SOut) : SOut :=
  match o with
  | .ok a h => f a h
  | .err x h => .err x σ h
  | .bad => .bad
def sSkip : XS := fun σ h => .nx σ h
def sSeq (a b : XS) : XS := fun σ h => match a σ h with
  | .nx σ' h' => b σ' h'
  | o => o
def sSet (i : Nat) (e : XE) : XS := fun σ h => sOf (e σ h) σ fun w h1 => .nx (σ.set i (some w)) h1
def sRet (e : XE) : XS := fun σ h => sOf (e σ h) σ fun w h1 => .rt w h1
def sRetN : XS := fun _ h => .rt .non h
def sIf (t : XT) (a b : XS) : XS := fun σ h => sOf (t σ h) σ fun c h1 => if c then a σ h1 else b σ h1
def sExpr (e : XE) : XS := fun σ h => sOf (e σ h) σ fun _ h1 => .nx σ h1
def sBreak : XS := fun σ h => .bk σ h
def sCont : XS := fun σ h => .ct σ h
def sNever : XS := fun _ _ => .bad
def sOp (p : Pr) (f : W → Hm → SOut) : SOut := match p with
  | some (w, h) => f w h
  | none => .bad
def sAug (i : Nat) (g : W → W → Hm → Pr) (e : XE) : XS := fun σ h => match σ[i]? with
  | some (some x) => sOf (e σ h) σ fun y h1 => sOp (g x y h1) fun z h2 => .nx (σ.set i (some z)) h2
  | _ => .bad
/-- o[i] = e : the value first -/
def sSub (o i e : XE) (g : W → W → W → Hm → Option Hm) : XS := fun σ h => sOf (e σ h) σ fun v h1 => sOf (o σ h1) σ fun x h2 => sOf (i σ h2) σ fun y h3 => match g x y v h3 with
  | some h4 => .nx σ h4
  | none => .bad
/-- targets that touch slots alone -/
abbrev XG := W → Sg → Hm → Option Sg
abbrev XGs := List W → Sg → Hm → Option Sg
def gN (i : Nat) : XG := fun w σ _ => some (σ.set i (some w))
def gT (g : XGs) : XG := fun w σ h => match w with
  | .tup xs => g xs σ h
  | .ref r => match h[r]? with
    | some (.lst xs) => g xs σ h
    | _ => none
  | _ => none
def gsNil : XGs := fun ws σ _ => match ws with
  | [] => some σ
  | _ => none
def gsCons (g : XG) (r : XGs) : XGs := fun ws σ h => match ws with
  | w :: ws => match g w σ h with
    | some σ' => r ws σ' h
    | none => none
  | [] => none
def sAsg (g : XG) (e : XE) : XS := fun σ h => sOf (e σ h) σ fun w h1 => match g w σ h1 with
  | some σ' => .nx σ' h1
  | none => .bad
def sTurn (o : SOut) (next : Sg → Hm → SOut) : SOut := match o with
  | .nx σ h => next σ h
  | .ct σ h => next σ h
  | .bk σ h => .nx σ h
  | o => o
def sWhile (t : XT) (b : XS) : Nat → XS
  | 0 => fun _ _ => .bad
  | n + 1 => fun σ h => sOf (t σ h) σ fun c h1 => if c then sTurn (b σ h1) (sWhile t b n) else .nx σ h1
abbrev Itr := Nat → Hm → Option (Option W)
abbrev XI := Sg → Hm → Out Itr
def sForL (it : Itr) (g : XG) (b : XS) : Nat → Nat → XS
  | 0, _ => fun _ _ => .bad
  | n + 1, i => fun σ h => match it i h with
    | none => .bad
    | some none => .nx σ h
    | some (some w) => match g w σ h with
      | none => .bad
      | some σ1 => sTurn (b σ1 h) (sForL it g b n (i + 1))
def sFor (fi : XI) (g : XG) (b : XS) : XS := fun σ h => sOf (fi σ h) σ fun it h1 => sForL it g b fuel 0 σ h1

section
variable {Γ : Gam} {ρ ρ' : List Addr} {H H' : Hp} {α β : Type} {R : List Addr → Hp → α → β → Prop}
theorem S1.mono {o : SOut} {D : Ends} {W : WX} (l : Le Γ ρ ρ' H H') (x : S1 Γ ρ H o D W) : S1 Γ ρ' H' o D W := by
  cases o with
  | nx σ h => exact fun ρ2 H2 b l2 r q => x ρ2 H2 b (l.trans l2) r q
  | ct σ h => exact fun ρ2 H2 b l2 r q => x ρ2 H2 b (l.trans l2) r q
  | bk σ h => exact fun ρ2 H2 b l2 r q => x ρ2 H2 b (l.trans l2) r q
  | rt σ h => exact fun ρ2 H2 b l2 r q => x ρ2 H2 b (l.trans l2) r q
  | err a σ h => exact fun ρ2 H2 t c d l2 r s q => x ρ2 H2 t c d (l.trans l2) r s q
  | bad => exact x
theorem S1.of {o : Out α} {f : α → Hm → SOut} {σ : Sg} {τ : L2.St} {D : Ends} {W : WX} (S : RelS Γ ρ H σ τ) (x : S1 Γ ρ H (sOf o σ f) D W) :
    O1 Γ R ρ H o (fun v H1 => ∃ ρ1 h1 a, Le Γ ρ ρ1 H H1 ∧ Rel Γ ρ1 h1 H1 ∧ R ρ1 H1 a v ∧ S1 Γ ρ1 H1 (f a h1) D W) (fun cls d H' => W cls d τ H') := by
  cases o with
  | ok a h => exact fun ρ2 H2 b l2 r q => ⟨ρ2, h, a, l2, r, q, S1.mono l2 x⟩
  | err a h => exact fun ρ2 H2 c d l2 r q => x ρ2 H2 τ c d l2 r (S.mono l2) q
  | bad => exact x
theorem S1.op {p : Pr} {f : W → Hm → SOut} {D : Ends} {W : WX} (x : S1 Γ ρ H (sOp p f) D W) : ∃ w h, p = some (w, h) ∧ S1 Γ ρ H (f w h) D W := by
  cases p with
  | none => exact x.elim
  | some y => exact ⟨y.1, y.2, rfl, x⟩
end

section
variable {Γ : Gam} {c : Cfg} {k : Nat} {a b e d o i : Expr} {es : List Expr} {fa fb fc : XE} {ft fu : XT} {st : Stmt} {sts body : List Stmt} {f g : XS} {pos p : Pos}
theorem sl_nil : SL Γ c k [] sSkip := by
  intro W X G
  refine PSs.imp pss_nil fun D τ H h => ?_
  obtain ⟨ρ, σ, h, R, S, q⟩ := h
  exact q ρ H τ .refl R S
theorem sl_cons (h1 : SS Γ c k st f) (h2 : SL Γ c k sts g) : SL Γ c k (st :: sts) (sSeq f g) := by
  intro W X G
  refine PSs.imp (pss_cons (h1 W X G) (h2 W X G)) fun D τ H h => ?_
  obtain ⟨ρ, σ, h, R, S, q⟩ := h
  refine ⟨ρ, σ, h, R, S, ?_⟩
  unfold sSeq at q
  cases e : f σ h with
  | nx σ' h' =>
    rw [e] at q
    exact fun ρ' H' τ' l R' S' => ⟨ρ', σ', h', R', S', S1.mono l q⟩
  | _ => rw [e] at q; exact q
theorem sl_one (h1 : SS Γ c k st f) : SL Γ c k [st] f := fun W X G => pss_one (h1 W X G)
theorem ss_pass : SS Γ c k (.Pass pos) sSkip := by
  intro W X G
  refine PS.imp ps_pass fun D τ H h => ?_
  obtain ⟨ρ, σ, h, R, S, q⟩ := h
  exact q ρ H τ .refl R S
theorem ss_break : SS Γ c k (.Break pos) sBreak := by
  intro W X G
  refine PS.imp ps_break fun D τ H h => ?_
  obtain ⟨ρ, σ, h, R, S, q⟩ := h
  exact q ρ H τ .refl R S
theorem ss_cont : SS Γ c k (.Continue pos) sCont := by
  intro W X G
  refine PS.imp ps_continue fun D τ H h => ?_
  obtain ⟨ρ, σ, h, R, S, q⟩ := h
  exact q ρ H τ .refl R S
theorem ss_never : SS Γ c k st sNever := by
  intro W X G
  refine PS.imp ps_never fun D τ H h => ?_
  obtain ⟨ρ, σ, h, R, S, q⟩ := h
  exact q
theorem ss_expr (he : SE Γ c k e fa) (hs : ∀ env, swapsWith e none pos.line env = pure false := by intros; rfl) : SS Γ c k (.Expr e pos) (sExpr fa) := by
  intro W X G
  refine PS.imp (ps_expr (he W X G) (hs X.env)) fun D τ H h => ?_
  obtain ⟨ρ, σ, h, R, S, q⟩ := h
  refine ⟨ρ, σ, h, R, S, (S1.of (R := RelW Γ) S q).imp fun x H1 ⟨ρ1, h1, u, l1, R1, r1, q1⟩ => ?_⟩
  exact q1 ρ1 H1 τ .refl R1 (S.mono l1)
theorem ss_ret (he : SE Γ c k e fa) : SS Γ c k (.Return (some e) pos) (sRet fa) := by
  intro W X G
  refine PS.imp (ps_ret (he W X G)) fun D τ H h => ?_
  obtain ⟨ρ, σ, h, R, S, q⟩ := h
  refine ⟨ρ, σ, h, R, S, (S1.of (R := RelW Γ) S q).imp fun x H1 ⟨ρ1, h1, u, l1, R1, r1, q1⟩ => ?_⟩
  exact q1 ρ1 H1 x .refl R1 r1
theorem ss_retN : SS Γ c k (.Return none pos) sRetN := by
  intro W X G
  refine PS.imp ps_retN fun D τ H h => ?_
  obtain ⟨ρ, σ, h, R, S, q⟩ := h
  exact q ρ H .non .refl R (by simp [RelW])
theorem ss_if (hc : ST Γ c k e ft) (ha : SL Γ c k sts f) (hb : SL Γ c k body g) : SS Γ c k (.If e sts body pos) (sIf ft f g) := by
  intro W X G
  refine PS.imp (ps_if (hc W X G) (ha W X G) (hb W X G)) fun D τ H h => ?_
  obtain ⟨ρ, σ, h, R, S, q⟩ := h
  refine ⟨ρ, σ, h, R, S, (S1.of (R := RB) S q).imp fun x H1 ⟨ρ1, h1, u, l1, R1, r1, q1⟩ => ?_⟩
  have r1 : u = x := r1
  subst r1
  cases u with
  | true => exact iteT ⟨ρ1, σ, h1, R1, S.mono l1, q1⟩
  | false => exact iteF ⟨ρ1, σ, h1, R1, S.mono l1, q1⟩
theorem Good.loc {W : WX} {X : Cx} (G : Good Γ c k W X) {x : Str} (h : x ∈ c.L) : Loc X.env.scope x ∧ (X.fn x = true ∨ X.env.scope.names.lookup x = some .local) := by
  rw [G.sc]
  rcases G.ok.loc x h with e | ⟨e, q⟩
  · exact ⟨.inl e, .inr e⟩
  · exact ⟨.inr q, .inl (G.fn e x)⟩
theorem ss_set (i j : Nat) {x : Str} {pos' : Pos} (he : SE Γ c k e fa) (hN : c.N[i]? = some x := by rfl) (hL : c.L[j]? = some x := by rfl) (hs : ∀ env, swapsWith e (some (.Name x pos')) pos.line env = pure false := by intros; rfl) :
    SS Γ c k (.Assign [.Name x pos'] e pos) (sSet i fa) := by
  intro W X G
  obtain ⟨h1, h2⟩ := G.loc (List.mem_of_getElem? hL)
  refine PS.imp (ps_set (i := i) G.nd (by rw [G.N]; exact hN) h1 (he W X G) (hs X.env) h2) fun D τ H h => ?_
  obtain ⟨ρ, σ, h, R, S, q⟩ := h
  refine ⟨ρ, σ, h, R, S, (S1.of (R := RelW Γ) S q).imp fun x H1 ⟨ρ1, h1, u, l1, R1, r1, q1⟩ => ?_⟩
  exact q1 ρ1 H1 _ .refl R1 ((S.mono l1).set r1)
/-- a op= b on values -/
def IpS (Γ : Gam) (c : Cfg) (k : Nat) (op : Operator) (g : W → W → Hm → Pr) : Prop := ∀ W X, Good Γ c k W X → PIp X op (r2 Γ g)
theorem ss_aug (i j : Nat) {x : Str} {op : Operator} {g : W → W → Hm → Pr} {pos' : Pos} (ho : IpS Γ c k op g) (he : SE Γ c k e fa) (hN : c.N[i]? = some x := by rfl) (hL : c.L[j]? = some x := by rfl) :
    SS Γ c k (.AugAssign (.Name x pos') op e pos) (sAug i g fa) := by
  intro W X G
  obtain ⟨h1, h2⟩ := G.loc (List.mem_of_getElem? hL)
  refine PS.imp (ps_aug (i := i) G.nd (by rw [G.N]; exact hN) h1 (he W X G) (ho W X G) h2) fun D τ H h => ?_
  obtain ⟨ρ, σ, h, R, S, q⟩ := h
  unfold sAug at q
  split at q
  · rename_i w ew
    obtain ⟨v, ev, rv⟩ := S.2 i w ew
    refine ⟨v, ev, ρ, σ, h, R, S, (S1.of (R := RelW Γ) S q).imp fun y H1 ⟨ρ1, h1, u, l1, R1, r1, q1⟩ => ?_⟩
    obtain ⟨z, h2, e2, q2⟩ := q1.op
    refine ⟨ρ1, h1, w, u, z, h2, R1, RelW.mono l1 _ _ rv, r1, e2, fun ρ3 H3 v3 l3 R3 r3 => ?_⟩
    exact q2 ρ3 H3 _ l3 R3 (((S.mono l1).mono l3).set r3)
  · exact q.elim
/-- o[i] = v on values -/
def rS (Γ : Gam) (g : W → W → W → Hm → Option Hm) : TSet := fun x y v H Q => ∃ ρ h u w z h', Rel Γ ρ h H ∧ RelW Γ ρ H u x ∧ RelW Γ ρ H w y ∧ RelW Γ ρ H z v ∧ g u w z h = some h' ∧ ∀ ρ' H', Le Γ ρ ρ' H H' → Rel Γ ρ' h' H' → Q H'
def StS (Γ : Gam) (c : Cfg) (k : Nat) (g : W → W → W → Hm → Option Hm) : Prop := ∀ W X, Good Γ c k W X → PSet X (rS Γ g)
theorem ss_sub {g : W → W → W → Hm → Option Hm} {pos' : Pos} (hg : StS Γ c k g) (ho : SE Γ c k o fa) (hi : SE Γ c k i fb) (he : SE Γ c k e fc)
    (ha : ∀ env v, assign (.Subscript o i pos') env v = (do
      let ov ← holding [v] (eval o env)
      let iv ← holding [v, ov] (eval i env)
      standAt pos'
      holding [v, ov, iv] (setItem ov iv v)
      release [v, ov, iv] []) := by intros; rfl)
    (hs : ∀ env, swapsWithSole [.Subscript o i pos'] e pos.line env = pure false := by intros; rfl) (hw : ∀ env, swappedStores [.Subscript o i pos'] e env = pure none := by intros; rfl) :
    SS Γ c k (.Assign [.Subscript o i pos'] e pos) (sSub fa fb fc g) := by
  intro W X G
  refine PS.imp (ps_asg (he W X G) (pg_sub (ho W X G) (hi W X G) (hg W X G) (ha X.env)) (hs X.env) (hw X.env)) fun D τ H h => ?_
  obtain ⟨ρ, σ, h, R, S, q⟩ := h
  refine ⟨ρ, σ, h, R, S, (S1.of (R := RelW Γ) S q).imp fun v H1 ⟨ρ1, h1, u, l1, R1, r1, q1⟩ => ?_⟩
  refine ⟨ρ1, σ, h1, R1, S.mono l1, (S1.of (R := RelW Γ) (S.mono l1) q1).imp fun x H2 ⟨ρ2, h2, u2, l2, R2, r2, q2⟩ => ?_⟩
  refine ⟨ρ2, σ, h2, R2, (S.mono l1).mono l2, (S1.of (R := RelW Γ) ((S.mono l1).mono l2) q2).imp fun y H3 ⟨ρ3, h3, u3, l3, R3, r3, q3⟩ => ?_⟩
  split at q3
  · rename_i h4 e4
    refine ⟨ρ3, h3, u2, u3, u, h4, R3, RelW.mono l3 _ _ r2, r3, RelW.mono (l2.trans l3) _ _ r1, e4, fun ρ4 H4 l4 R4 => ?_⟩
    exact q3 ρ4 H4 τ l4 R4 (((S.mono l1).mono l2).mono (l3.trans l4))
  · exact q3.elim

/-! ### targets -/
def gI (Γ : Gam) (g : XG) : TG := fun v τ H Q => ∃ ρ σ h w σ', Rel Γ ρ h H ∧ RelS Γ ρ H σ τ ∧ RelW Γ ρ H w v ∧ g w σ h = some σ' ∧ ∀ τ', RelS Γ ρ H σ' τ' → Q τ' H
def gIs (Γ : Gam) (g : XGs) : TGs := fun v τ H Q => ∃ ρ σ h w σ', Rel Γ ρ h H ∧ RelS Γ ρ H σ τ ∧ RelWs Γ ρ H w v ∧ g w σ h = some σ' ∧ ∀ τ', RelS Γ ρ H σ' τ' → Q τ' H
def SG (Γ : Gam) (c : Cfg) (k : Nat) (e : Expr) (g : XG) : Prop := ∀ W X, Good Γ c k W X → PG X e (gI Γ g)
def SGs (Γ : Gam) (c : Cfg) (k : Nat) (es : List Expr) (g : XGs) : Prop := ∀ W X, Good Γ c k W X → PGs X es (gIs Γ g)
theorem sg_name (i j : Nat) {x : Str} (hN : c.N[i]? = some x := by rfl) (hL : c.L[j]? = some x := by rfl) : SG Γ c k (.Name x pos) (gN i) := by
  intro W X G
  obtain ⟨h1, h2⟩ := G.loc (List.mem_of_getElem? hL)
  refine ⟨fun pins s τ H v u Q I r h => (pg_name (i := i) G.nd (by rw [G.N]; exact hN) h1 h2).run pins s τ H v u Q I r ?_⟩
  obtain ⟨ρ, σ, h, w, σ', R, S, rw', e, q⟩ := h
  cases e
  exact q _ (S.set rw')
theorem sgs_nil : SGs Γ c k [] gsNil := by
  intro W X G
  refine ⟨fun pins s τ H v u Q I r h => pgs_nil.run pins s τ H v u Q I r ?_⟩
  obtain ⟨ρ, σ, h, w, σ', R, S, rw', e, q⟩ := h
  cases w with
  | nil =>
    cases e
    unfold RelWs at rw'
    exact ⟨rw', q _ S⟩
  | cons _ _ => cases e
theorem sgs_cons {g : XG} {r : XGs} (h1 : SG Γ c k e g) (h2 : SGs Γ c k es r) (hs : ∀ env, (assignEach (e :: es) env).map (·.2) = assign e env :: (assignEach es env).map (·.2) := by intros; rfl) : SGs Γ c k (e :: es) (gsCons g r) := by
  intro W X G
  refine ⟨fun pins s τ H v u Q I r h => (pgs_cons (h1 W X G) (h2 W X G) (hs X.env)).run pins s τ H v u Q I r ?_⟩
  obtain ⟨ρ, σ, h, w, σ', R, S, rw', e, q⟩ := h
  cases w with
  | nil => cases e
  | cons w ws =>
    unfold RelWs at rw'
    obtain ⟨y, r', e', q1, q2⟩ := rw'
    unfold gsCons at e
    dsimp only at e
    split at e
    · rename_i σ1 e1
      exact ⟨y, r', e', ρ, σ, h, w, σ1, R, S, q1, e1, fun τ1 S1 => ⟨ρ, σ1, h, ws, σ', R, S1, q2, e, q⟩⟩
    · cases e
theorem gsLen {g : XGs} : True := trivial
theorem sg_tup {n : Nat} {kk : Nat} {g : XGs} (h : SGs Γ c k es g) (hg : ∀ ws σ h, (g ws σ h).isSome = true → ws.length = n) (hc : c.calm = true := by rfl)
    (hn : ∀ env, (assignEach es env).length = n := by intros; rfl) (hst : ∀ env, (assignEach es env).findIdx? (·.1) = none := by intros; rfl) : SG Γ c k (.Tuple es kk pos) (gT g) := by
  intro W X G
  have hC : X.calm = true := G.calm.trans hc
  refine ⟨fun pins s τ H v u Q I r hh => ?_⟩
  obtain ⟨ρ, σ, hm, w, σ', R, S, rw', e, q⟩ := hh
  cases w with
  | tup xs =>
    unfold RelW at rw'
    obtain ⟨a, ys, ev, ht, rr⟩ := rw'
    have e : g xs σ hm = some σ' := e
    refine (pg_tup (n := n) hC (h W X G) (hn X.env) (hst X.env)).run pins s τ H v u Q I r ⟨a, ys, ev, by rw [G.K]; exact ht, ?_, ρ, σ, hm, xs, σ', R, S, rr, e, q⟩
    rw [← rr.length]
    exact hg xs σ hm (by rw [e]; rfl)
  | ref r0 =>
    unfold RelW at rw'
    obtain ⟨a, ea, ev⟩ := rw'
    unfold gT at e
    dsimp only at e
    split at e
    · rename_i xs ex
      obtain ⟨a', ea', ys, hy, rr⟩ := R.obj r0 _ ex
      rw [ea] at ea'
      cases ea'
      refine (pg_lst (n := n) hC (h W X G) (hn X.env) (hst X.env)).run pins s τ H v u Q I r ⟨a, ys, ev, SqL.of hy, ?_, ρ, σ, hm, xs, σ', R, S, rr, e, q⟩
      rw [← rr.length]
      exact hg xs σ hm (by rw [e]; rfl)
    · cases e
  | _ => cases e
theorem gs_len0 : ∀ ws σ h, (gsNil ws σ h).isSome = true → ws.length = 0 := fun ws σ h e => by
  cases ws with
  | nil => rfl
  | cons _ _ => cases e
theorem gs_lenS {g : XG} {r : XGs} {n : Nat} (h : ∀ ws σ h, (r ws σ h).isSome = true → ws.length = n) : ∀ ws σ h, (gsCons g r ws σ h).isSome = true → ws.length = n + 1 := fun ws σ hm e => by
  cases ws with
  | nil => cases e
  | cons w ws =>
    unfold gsCons at e
    dsimp only at e
    split at e
    · rw [List.length_cons, h _ _ _ e]
    · cases e
theorem ss_asg {t : Expr} {g : XG} (he : SE Γ c k e fa) (hg : SG Γ c k t g) (hs : ∀ env, swapsWithSole [t] e pos.line env = pure false := by intros; rfl) (hw : ∀ env, swappedStores [t] e env = pure none := by intros; rfl)
    (h1 : ∀ env, (assignEach [t] env).map (·.2) = [assign t env] := by intros; rfl) : SS Γ c k (.Assign [t] e pos) (sAsg g fa) := by
  intro W X G
  refine PS.imp (ps_asg (he W X G) (hg W X G) (hs X.env) (hw X.env) (h1 X.env)) fun D τ H h => ?_
  obtain ⟨ρ, σ, h, R, S, q⟩ := h
  refine ⟨ρ, σ, h, R, S, (S1.of (R := RelW Γ) S q).imp fun v H1 ⟨ρ1, h1, u, l1, R1, r1, q1⟩ => ?_⟩
  split at q1
  · rename_i σ2 e2
    exact ⟨ρ1, σ, h1, u, σ2, R1, S.mono l1, r1, e2, fun τ' S' => q1 ρ1 H1 τ' .refl R1 S'⟩
  · exact q1.elim

/-! ### loops -/
theorem S1.turn {ρ : List Addr} {H : Hp} {o : SOut} {next : Sg → Hm → SOut} {D : Ends} {W : WX} {N : L2.St → Hp → Prop} (x : S1 Γ ρ H (sTurn o next) D W)
    (hN : ∀ ρ' H' τ' σ' h', Rel Γ ρ' h' H' → RelS Γ ρ' H' σ' τ' → S1 Γ ρ' H' (next σ' h') D W → N τ' H') : S1 Γ ρ H o { D with nx := N, ct := N, bk := D.nx } W := by
  cases o with
  | nx σ h => exact fun ρ' H' τ' l R S => hN ρ' H' τ' σ h R S (S1.mono l x)
  | ct σ h => exact fun ρ' H' τ' l R S => hN ρ' H' τ' σ h R S (S1.mono l x)
  | _ => exact x
theorem ss_while {n : Nat} (hc : ST Γ c k e ft) (hb : SL Γ c k body f) : SS Γ c k (.While e body [] pos) (sWhile ft f n) := by
  intro W X G
  refine PS.imp (ps_while G.pass (hc W X G) (hb W X G)) fun D τ H h => ?_
  obtain ⟨ρ, σ, h, R, S, q⟩ := h
  refine ⟨fun m τ H => ∃ ρ σ h, Rel Γ ρ h H ∧ RelS Γ ρ H σ τ ∧ S1 Γ ρ H (sWhile ft f m σ h) D W, ⟨n, ρ, σ, h, R, S, q⟩, ?_⟩
  rintro m τ H ⟨ρ, σ, h, R, S, q⟩
  cases m with
  | zero => exact q.elim
  | succ m =>
    refine ⟨ρ, σ, h, R, S, (S1.of (R := RB) S q).imp fun x H1 ⟨ρ1, h1, u, l1, R1, r1, q1⟩ => ?_⟩
    have r1 : u = x := r1
    subst r1
    cases u with
    | true =>
      refine iteT ⟨fun τ H => ∃ ρ σ h, Rel Γ ρ h H ∧ RelS Γ ρ H σ τ ∧ S1 Γ ρ H (sWhile ft f m σ h) D W, fun τ' H' hh => ⟨m, Nat.lt_succ_self _, hh⟩, ρ1, σ, h1, R1, S.mono l1, ?_⟩
      exact S1.turn q1 fun ρ' H' τ' σ' h' R' S' x => ⟨ρ', σ', h', R', S', x⟩
    | false => exact iteF (q1 ρ1 H1 τ .refl R1 (S.mono l1))
/-- an iterator of ours and one of the layer -/
def ItR (Γ : Gam) (ρ0 : List Addr) (H0 : Hp) (it : Itr) (J : It) : Prop :=
  ∀ (i : Nat) (ρ : List Addr) (h : Hm) (H : Hp), Le Γ ρ0 ρ H0 H → Rel Γ ρ h H →
    (it i h = some none → J.stop i H) ∧ ∀ w, it i h = some (some w) → J.go i H ∧ ∀ x H', J.yld i H x H' → Le Γ ρ ρ H H' ∧ Rel Γ ρ h H' ∧ RelW Γ ρ H' w x
def iI (Γ : Gam) (W : WX) (f : XI) : TI := fun τ H Q => ∃ ρ σ h, Rel Γ ρ h H ∧ RelS Γ ρ H σ τ ∧ O1 Γ (ItR Γ) ρ H (f σ h) Q (fun cls d H' => W cls d τ H')
def SI (Γ : Gam) (c : Cfg) (k : Nat) (tg e : Expr) (f : XI) : Prop := ∀ W X, Good Γ c k W X → PI X tg e (iI Γ W f)
theorem PI.imp {X : Cx} {tg e : Expr} {t t' : TI} (h : PI X tg e t) (i : ∀ σ H Q, t' σ H Q → t σ H Q) : PI X tg e t' := ⟨fun pins s σ H Q I q => h.run pins s σ H Q I (i _ _ _ q)⟩
theorem ss_for {t : Expr} {fi : XI} {gg : XG} (hi : SI Γ c k t e fi) (hg : SG Γ c k t gg) (hb : SL Γ c k body f) (hs : ∀ env x, foldedSetIterable e env x = pure x := by intros; rfl) (hc : c.calm = true := by rfl) :
    SS Γ c k (.For t e body [] pos) (sFor fi gg f) := by
  intro W X G
  refine PS.imp (ps_for G.pass (G.calm.trans hc) (hi W X G) (hg W X G) (hb W X G) (hs X.env)) fun D τ H h => ?_
  obtain ⟨ρ, σ, h, R, S, q⟩ := h
  refine ⟨ρ, σ, h, R, S, (S1.of (R := ItR Γ) S q).imp fun J H1 ⟨ρ1, h1, it, l1, R1, r1, q1⟩ => ?_⟩
  refine ⟨fun i m τ H => ∃ ρ σ h, Le Γ ρ1 ρ H1 H ∧ Rel Γ ρ h H ∧ RelS Γ ρ H σ τ ∧ S1 Γ ρ H (sForL it gg f m i σ h) D W, ⟨fuel, ρ1, σ, h1, .refl, R1, S.mono l1, q1⟩, ?_⟩
  rintro i m τ H ⟨ρ, σ, h, l, R, S, q⟩
  cases m with
  | zero => exact q.elim
  | succ m =>
    obtain ⟨s1, s2⟩ := r1 i ρ h H l R
    unfold sForL at q
    split at q
    · exact q.elim
    · rename_i e1
      exact .inl ⟨s1 e1, q ρ H τ .refl R S⟩
    · rename_i w e1
      obtain ⟨go, yl⟩ := s2 w e1
      split at q
      · exact q.elim
      · rename_i σ1 e2
        refine .inr ⟨go, fun τ H => ∃ ρ σ h, Le Γ ρ1 ρ H1 H ∧ Rel Γ ρ h H ∧ RelS Γ ρ H σ τ ∧ S1 Γ ρ H (sForL it gg f m (i + 1) σ h) D W, fun τ' H' hh => ⟨m, Nat.lt_succ_self _, hh⟩, fun x H' y => ?_⟩
        obtain ⟨l2, R2, rw'⟩ := yl x H' y
        refine ⟨ρ, σ, h, w, σ1, R2, S.mono l2, rw', e2, fun τ' S' => ?_⟩
        refine ⟨ρ, σ1, h, R2, S', ?_⟩
        have q := S1.mono l2 q
        -- the turn, with the iterator's base kept
        have key : S1 Γ ρ H' (f σ1 h) { D with nx := fun τ H => ∃ ρ σ h, Le Γ ρ1 ρ H1 H ∧ Rel Γ ρ h H ∧ RelS Γ ρ H σ τ ∧ S1 Γ ρ H (sForL it gg f m (i + 1) σ h) D W, ct := fun τ H => ∃ ρ σ h, Le Γ ρ1 ρ H1 H ∧ Rel Γ ρ h H ∧ RelS Γ ρ H σ τ ∧ S1 Γ ρ H (sForL it gg f m (i + 1) σ h) D W, bk := D.nx } W := by
          cases e3 : f σ1 h with
          | nx σ' h' =>
            rw [e3] at q
            exact fun ρ' H2 τ' l3 R3 S3 => ⟨ρ', σ', h', (l.trans l2).trans l3, R3, S3, S1.mono l3 q⟩
          | ct σ' h' =>
            rw [e3] at q
            exact fun ρ' H2 τ' l3 R3 S3 => ⟨ρ', σ', h', (l.trans l2).trans l3, R3, S3, S1.mono l3 q⟩
          | _ => rw [e3] at q; exact q
        exact key
end
end Z

namespace Z
open PySem PySem.Spec PyProof.Rows L2

/-! ### what values are as data -/
def den (h : Hm) : Nat → W → Option PyData
  | _, .non => some .none
  | _, .bl b => some (.bool b)
  | _, .int i => some (.int i)
  | _, .str x => some (.str x)
  | n + 1, .tup xs => (xs.mapM (den h n)).map .tuple
  | n + 1, .ref r => match h[r]? with
    | some (.lst xs) => (xs.mapM (den h n)).map .list
    | some (.frz xs) => (xs.mapM (den h n)).map .list
    | _ => none
  | _, _ => none
def scalW : W → W → Bool
  | .non, .non => true | .non, .int _ => true | .int _, .non => true | .non, .bl _ => true | .bl _, .non => true | .non, .str _ => true | .str _, .non => true
  | .int _, .int _ => true | .bl _, .bl _ => true | .str _, .str _ => true
  | .int _, .str _ => true | .str _, .int _ => true | .bl _, .str _ => true | .str _, .bl _ => true
  | _, _ => false
def scalEq : W → W → Bool
  | .non, .non => true
  | .int i, .int j => decide (i = j)
  | .bl i, .bl j => decide (i = j)
  | .str i, .str j => decide (i = j)
  | _, _ => false
def eqB (a b : W) (h : Hm) : Option Bool :=
  if scalW a b then some (scalEq a b) else
    match den h 12 a, den h 12 b with
    | some d, some e => if SeqAt.shaped d && SeqAt.shaped e then some (PyData.eqv d e) else none
    | _, _ => none
def eqW (a b : W) (h : Hm) : Pr := (eqB a b h).map fun b => (.bl b, h)
def neW (a b : W) (h : Hm) : Pr := (eqB a b h).map fun b => (.bl !b, h)
def mulOk (i j : Int) : Bool := decide (-(2 ^ 64) < i ∧ i < 2 ^ 64) || decide (-(2 ^ 64) < j ∧ j < 2 ^ 64) || decide ((Builtin.Int.intBits i : Int) + (Builtin.Int.intBits j : Int) ≤ 134217728)
def addW : W → W → Hm → Pr
  | .int i, .int j, h => some (.int (i + j), h)
  | .str x, .str y, h => if x.length + y.length ≤ 16777216 then some (.str (x ++ y), h) else none
  | .ref a, .ref b, h => match h[a]?, h[b]? with
    | some (.lst xs), some (.lst ys) => if xs.length + ys.length ≤ 16777216 then some (.ref h.length, h ++ [.lst (xs ++ ys)]) else none
    | _, _ => none
  | .tup xs, .tup ys, h => if xs.length + ys.length ≤ 16777216 then some (.tup (xs ++ ys), h) else none
  | _, _, _ => none
def subW : W → W → Hm → Pr
  | .int i, .int j, h => some (.int (i - j), h)
  | _, _, _ => none
def mulW : W → W → Hm → Pr
  | .int i, .int j, h => if mulOk i j then some (.int (i * j), h) else none
  | .ref a, .int k, h => match h[a]? with
    | some (.lst xs) => if -(2 ^ 63) ≤ k ∧ k < 2 ^ 63 ∧ xs.length * k.toNat ≤ 16777216 then some (.ref h.length, h ++ [.lst (List.replicate k.toNat xs).flatten]) else none
    | _ => none
  | .str x, .int k, h => if -(2 ^ 63) ≤ k ∧ k ≤ 16777216 ∧ x.length * k.toNat ≤ 16777216 then some (.str (Txt.mul x k), h) else none
  | _, _, _ => none
def fdivW : W → W → Hm → Pr
  | .int i, .int j, h => if 0 < j ∧ j.natAbs.log2 < 9000 then some (.int (i / j), h) else none
  | _, _, _ => none
def modW : W → W → Hm → Pr
  | .int i, .int j, h => if 0 < j then some (.int (i % j), h) else none
  | _, _, _ => none
def powW : W → W → Hm → Pr
  | .int i, .int j, h => if 0 ≤ j ∧ j ≤ 1000000 ∧ i.natAbs < 2 ^ 64 then some (.int (i ^ j.toNat), h) else none
  | _, _, _ => none
def shlW : W → W → Hm → Pr
  | .int i, .int j, h => if 0 ≤ j ∧ (Builtin.Int.intBits i : Int) + j ≤ 2 ^ 27 then some (.int (i * 2 ^ j.toNat), h) else none
  | _, _, _ => none
def shrW : W → W → Hm → Pr
  | .int i, .int j, h => if 0 ≤ j then some (.int (i / 2 ^ j.toNat), h) else none
  | _, _, _ => none
def andW : W → W → Hm → Pr
  | .int i, .int j, h => some (.int (Builtin.bitAnd i j), h)
  | _, _, _ => none
def orW : W → W → Hm → Pr
  | .int i, .int j, h => some (.int (Builtin.bitOr i j), h)
  | _, _, _ => none
def xorW : W → W → Hm → Pr
  | .int i, .int j, h => some (.int (Builtin.bitXor i j), h)
  | _, _, _ => none
def negW : W → Hm → Pr
  | .int i, h => some (.int (-i), h)
  | _, _ => none
def ltW : W → W → Hm → Pr
  | .int i, .int j, h => some (.bl (decide (i < j)), h)
  | .str x, .str y, h => some (.bl (decide (x.cps.toList < y.cps.toList)), h)
  | _, _, _ => none
def leW : W → W → Hm → Pr
  | .int i, .int j, h => some (.bl (decide (i ≤ j)), h)
  | .str x, .str y, h => some (.bl (!decide (y.cps.toList < x.cps.toList)), h)
  | _, _, _ => none
def gtW : W → W → Hm → Pr
  | .int i, .int j, h => some (.bl (decide (j < i)), h)
  | .str x, .str y, h => some (.bl (decide (y.cps.toList < x.cps.toList)), h)
  | _, _, _ => none
def geW : W → W → Hm → Pr
  | .int i, .int j, h => some (.bl (decide (j ≤ i)), h)
  | .str x, .str y, h => some (.bl (!decide (x.cps.toList < y.cps.toList)), h)
  | _, _, _ => none
def isNonW : W → Bool
  | .non => true
  | _ => false
def isW : W → W → Hm → Pr
  | x, .non, h => some (.bl (isNonW x), h)
  | .bl a, .bl b, h => some (.bl (decide (a = b)), h)
  | _, _, _ => none
def isnW : W → W → Hm → Pr
  | x, .non, h => some (.bl (!isNonW x), h)
  | .bl a, .bl b, h => some (.bl (!decide (a = b)), h)
  | _, _, _ => none
def flatW : W → Bool
  | .non => true
  | .bl _ => true
  | .int _ => true
  | .str _ => true
  | _ => false
def toV : W → V
  | .non => .non
  | .bl b => .bl b
  | .int i => .int i
  | .str x => .str x
  | _ => .non
def inB (x : W) (xs : List W) : Option Bool := if flatW x && xs.all flatW then some (inV (toV x) (xs.map toV)) else none
/-- in: a list or tuple of flat items, a text in a text -/
def inC (x y : W) (h : Hm) : Option Bool := match y with
  | .tup xs => inB x xs
  | .ref r => match h[r]? with
    | some (.lst xs) => inB x xs
    | some (.frz xs) => inB x xs
    | _ => none
  | .str z => match x with
    | .str i => some (!(Builtin.Str.occurrences z i 0 z.length 1).isEmpty)
    | _ => none
  | _ => none
def inW (x y : W) (h : Hm) : Pr := (inC x y h).map fun b => (.bl b, h)
def ninW (x y : W) (h : Hm) : Pr := (inC x y h).map fun b => (.bl !b, h)

section
variable {Γ : Gam} {c : Cfg} {k : Nat} {ρ : List Addr} {H : Hp}
theorem rwI {i : Int} {v : V} (r : RelW Γ ρ H (.int i) v) : v = .int i := by unfold RelW at r; exact r
theorem rwS {i : Str} {v : V} (r : RelW Γ ρ H (.str i) v) : v = .str i := by unfold RelW at r; exact r
theorem rwB {i : Bool} {v : V} (r : RelW Γ ρ H (.bl i) v) : v = .bl i := by unfold RelW at r; exact r
theorem rwN {v : V} (r : RelW Γ ρ H .non v) : v = .non := by unfold RelW at r; exact r
theorem rwR {i : Nat} {v : V} (r : RelW Γ ρ H (.ref i) v) : ∃ a, ρ[i]? = some a ∧ v = .ref a := by unfold RelW at r; exact r
theorem rwT {xs : List W} {v : V} (r : RelW Γ ρ H (.tup xs) v) : ∃ a ys, v = .ref a ∧ SqT Γ.K H a ys ∧ RelWs Γ ρ H xs ys := by unfold RelW at r; exact r
theorem iI' {i : Int} : RelW Γ ρ H (.int i) (.int i) := by unfold RelW; rfl
theorem iS {i : Str} : RelW Γ ρ H (.str i) (.str i) := by unfold RelW; rfl
theorem iB {i : Bool} : RelW Γ ρ H (.bl i) (.bl i) := by unfold RelW; rfl
theorem iN : RelW Γ ρ H .non .non := by unfold RelW; rfl
theorem iR {i : Nat} {a : Addr} (e : ρ[i]? = some a) : RelW Γ ρ H (.ref i) (.ref a) := by unfold RelW; exact ⟨a, e, rfl⟩
theorem iT {xs : List W} {a : Addr} {ys : List V} (h : SqT Γ.K H a ys) (r : RelWs Γ ρ H xs ys) : RelW Γ ρ H (.tup xs) (.ref a) := by unfold RelW; exact ⟨a, ys, rfl, h, r⟩
/-- a list of ours behind a value -/
theorem Rel.lst {h : Hm} {r : Nat} {xs : List W} {v : V} (R : Rel Γ ρ h H) (e : h[r]? = some (.lst xs)) (q : RelW Γ ρ H (.ref r) v) : ∃ a ys, v = .ref a ∧ ρ[r]? = some a ∧ H a = some (.lst ys) ∧ RelWs Γ ρ H xs ys := by
  obtain ⟨a, ea, rfl⟩ := rwR q
  obtain ⟨a', ea', ys, hy, rr⟩ := R.obj r _ e
  rw [ea] at ea'
  cases ea'
  exact ⟨a, ys, rfl, ea, hy, rr⟩
theorem Rel.frz {h : Hm} {r : Nat} {xs : List W} {v : V} (R : Rel Γ ρ h H) (e : h[r]? = some (.frz xs)) (q : RelW Γ ρ H (.ref r) v) : ∃ a ys, v = .ref a ∧ SqL Γ.K H a ys ∧ RelWs Γ ρ H xs ys := by
  obtain ⟨a, ea, rfl⟩ := rwR q
  obtain ⟨a', ea', ys, hy, rr⟩ := R.obj r _ e
  rw [ea] at ea'
  cases ea'
  exact ⟨a, ys, rfl, hy.sq, rr⟩
/-- a new list of ours -/
theorem Rel.newL {h : Hm} {p : Addr} {xs : List W} {ys : List V} (R : Rel Γ ρ h H) (n : H p = none) (r : RelWs Γ ρ H xs ys) :
    Le Γ ρ (ρ ++ [p]) H (upd H p (.lst ys)) ∧ Rel Γ (ρ ++ [p]) (h ++ [.lst xs]) (upd H p (.lst ys)) ∧ RelW Γ (ρ ++ [p]) (upd H p (.lst ys)) (.ref h.length) (.ref p) := by
  have l := Le.laid (Γ := Γ) (ρ := ρ) (o := .lst ys) n [p]
  exact ⟨l, R.alloc n ⟨ys, upd_same, RelWs.mono l _ _ r⟩, iR (by rw [← R.len]; simp)⟩
/-- a new tuple -/
theorem Rel.newT {h : Hm} {p : Addr} {xs : List W} {ys : List V} (R : Rel Γ ρ h H) (n : H p = none) (r : RelWs Γ ρ H xs ys) :
    Le Γ ρ ρ H (upd H p (.tup ys)) ∧ Rel Γ ρ h (upd H p (.tup ys)) ∧ RelW Γ ρ (upd H p (.tup ys)) (.tup xs) (.ref p) := by
  have l := Le.laid (Γ := Γ) (ρ := ρ) (o := .tup ys) n []
  rw [List.append_nil] at l
  exact ⟨l, R.other n, iT (SqT.of upd_same) (RelWs.mono l _ _ r)⟩
/-- a list of ours is rewritten -/
theorem Rel.setL {h : Hm} {r : Nat} {a : Addr} {xs xs' : List W} {ys ys' : List V} (R : Rel Γ ρ h H) (e : h[r]? = some (.lst xs)) (ea : ρ[r]? = some a) (hy : H a = some (.lst ys)) (rr : RelWs Γ ρ H xs' ys') :
    Le Γ ρ ρ H (upd H a (.lst ys')) ∧ Rel Γ ρ (h.set r (.lst xs')) (upd H a (.lst ys')) := by
  have l : Le Γ ρ ρ H (upd H a (.lst ys')) := Le.write hy trivial
  exact ⟨l, R.write e ea trivial trivial hy trivial ⟨ys', upd_same, RelWs.mono l _ _ rr⟩⟩

mutual
theorem den_dp {h : Hm} (R : Rel Γ ρ h H) : ∀ (n : Nat) (w : W) (d : PyData) (v : V), den h n w = some d → RelW Γ ρ H w v → Dp Γ.K H v d
  | n, .non, d, v, e, r => by rw [den] at e; cases e; rw [rwN r]; exact .non
  | n, .bl b, d, v, e, r => by rw [den] at e; cases e; rw [rwB r]; exact .bl b
  | n, .int b, d, v, e, r => by rw [den] at e; cases e; rw [rwI r]; exact .int b
  | n, .str b, d, v, e, r => by rw [den] at e; cases e; rw [rwS r]; exact .str b
  | 0, .tup xs, d, v, e, r => by simp [den] at e
  | n + 1, .tup xs, d, v, e, r => by
    rw [den] at e
    obtain ⟨a, ys, rfl, ht, rr⟩ := rwT r
    obtain ⟨ds, e1, rfl⟩ := Option.map_eq_some_iff.mp e
    exact .tup ht (den_dps R n xs ds ys e1 rr)
  | 0, .ref xs, d, v, e, r => by simp [den] at e
  | n + 1, .ref i, d, v, e, r => by
    rw [den] at e
    split at e
    · rename_i xs ex
      obtain ⟨a, ys, rfl, _, hy, rr⟩ := R.lst ex r
      obtain ⟨ds, e1, rfl⟩ := Option.map_eq_some_iff.mp e
      exact .lst (SqL.of hy) (den_dps R n xs ds ys e1 rr)
    · rename_i xs ex
      obtain ⟨a, ys, rfl, hy, rr⟩ := R.frz ex r
      obtain ⟨ds, e1, rfl⟩ := Option.map_eq_some_iff.mp e
      exact .lst hy (den_dps R n xs ds ys e1 rr)
    · cases e
  | n, .exn _ _, d, v, e, r => by cases n <;> simp [den] at e
theorem den_dps {h : Hm} (R : Rel Γ ρ h H) : ∀ (n : Nat) (ws : List W) (ds : List PyData) (vs : List V), ws.mapM (den h n) = some ds → RelWs Γ ρ H ws vs → DpAll Γ.K H vs ds
  | n, [], ds, vs, e, r => by
    unfold RelWs at r
    subst r
    simp at e
    subst e
    exact .nil
  | n, w :: ws, ds, vs, e, r => by
    unfold RelWs at r
    obtain ⟨y, r', rfl, r1, r2⟩ := r
    rw [List.mapM_cons] at e
    cases e1 : den h n w with
    | none => rw [e1] at e; cases e
    | some d =>
      rw [e1] at e
      cases e2 : ws.mapM (den h n) with
      | none => rw [e2] at e; cases e
      | some ds' =>
        rw [e2] at e
        cases e
        exact .cons (den_dp R n w d y e1 r1) (den_dps R n ws ds' r' e2 r2)
end
theorem scal_of {a b : W} {x y : V} (e : scalW a b = true) (ra : RelW Γ ρ H a x) (rb : RelW Γ ρ H b y) : scal x y = true ∧ decide (x = y) = scalEq a b := by
  cases a <;> cases b <;> first
    | (exfalso; revert e; decide)
    | (cases e; done)
    | (first | have q1 := rwI ra | have q1 := rwS ra | have q1 := rwB ra | have q1 := rwN ra
       first | have q2 := rwI rb | have q2 := rwS rb | have q2 := rwB rb | have q2 := rwN rb
       subst q1 q2
       refine ⟨rfl, ?_⟩
       first
         | simp [scalEq]
         | rfl)

section
variable {x y : V} {Q : VK}
theorem os_eq (hc : c.calm = true := by rfl) : OpS Γ c k (compareOp .Eq) eqW := by
  intro W X G pins s σ H x y v u Q I rx ry h
  obtain ⟨ρ, hm, a, b, u', h', R, ra, rb, e, q⟩ := h
  obtain ⟨bb, e1, e2⟩ := Option.map_eq_some_iff.mp e
  cases e2
  unfold eqB at e1
  split at e1
  · rename_i hs
    cases e1
    obtain ⟨s1, s2⟩ := scal_of hs ra rb
    exact op_eq pins s σ H x y v u Q I rx ry ⟨s1, q ρ H _ .refl R (by rw [s2]; exact iB)⟩
  · split at e1
    · rename_i d1 d2 f1 f2
      split at e1
      · rename_i hsh
        cases e1
        rw [Bool.and_eq_true] at hsh
        exact op_eqD (G.room hc).units pins s σ H x y v u Q I rx ry ⟨d1, d2, by rw [G.K]; exact den_dp R _ _ _ _ f1 ra, by rw [G.K]; exact den_dp R _ _ _ _ f2 rb, hsh.1, hsh.2, q ρ H _ .refl R iB⟩
      · cases e1
    · cases e1
theorem os_ne (hc : c.calm = true := by rfl) : OpS Γ c k (compareOp .NotEq) neW := by
  intro W X G pins s σ H x y v u Q I rx ry h
  obtain ⟨ρ, hm, a, b, u', h', R, ra, rb, e, q⟩ := h
  obtain ⟨bb, e1, e2⟩ := Option.map_eq_some_iff.mp e
  cases e2
  unfold eqB at e1
  split at e1
  · rename_i hs
    cases e1
    obtain ⟨s1, s2⟩ := scal_of hs ra rb
    exact op_ne pins s σ H x y v u Q I rx ry ⟨s1, q ρ H _ .refl R (by rw [s2]; exact iB)⟩
  · split at e1
    · rename_i d1 d2 f1 f2
      split at e1
      · rename_i hsh
        cases e1
        rw [Bool.and_eq_true] at hsh
        exact op_neD (G.room hc).units pins s σ H x y v u Q I rx ry ⟨d1, d2, by rw [G.K]; exact den_dp R _ _ _ _ f1 ra, by rw [G.K]; exact den_dp R _ _ _ _ f2 rb, hsh.1, hsh.2, q ρ H _ .refl R iB⟩
      · cases e1
    · cases e1
theorem os_add : OpS Γ c k (binaryOp .Add) addW := by
  intro W X G pins s σ H x y v u Q I rx ry h
  obtain ⟨ρ, hm, a, b, u', h', R, ra, rb, e, q⟩ := h
  unfold addW at e
  split at e
  · cases e
    exact op_add pins s σ H x y v u Q I rx ry ⟨_, _, rwI ra, rwI rb, q ρ H _ .refl R iI'⟩
  · split at e
    · rename_i hl
      cases e
      exact op_add_str pins s σ H x y v u Q I rx ry ⟨_, _, rwS ra, rwS rb, by rw [sizeLine_eq]; exact hl, q ρ H _ .refl R iS⟩
    · cases e
  · split at e
    · rename_i xs ys e1 e2
      split at e
      · rename_i hl
        cases e
        obtain ⟨l, xs', rfl, _, hx, r1⟩ := R.lst e1 ra
        obtain ⟨l2, ys', rfl, _, hy, r2⟩ := R.lst e2 rb
        refine op_cat pins s σ H _ _ v u Q I rx ry ⟨l, l2, xs', ys', rfl, rfl, hx, hy, by rw [sizeLine_eq, ← r1.length, ← r2.length]; exact hl, fun p hp => ?_⟩
        obtain ⟨q1, q2, q3⟩ := R.newL hp (r1.append r2)
        exact q _ _ _ q1 q2 q3
      · cases e
    · cases e
  · split at e
    · rename_i _ xs ys hl
      cases e
      obtain ⟨l, xs', rfl, hx, r1⟩ := rwT ra
      obtain ⟨l2, ys', rfl, hy, r2⟩ := rwT rb
      refine op_catA pins s σ H _ _ v u Q I rx ry ⟨l, l2, xs', ys', rfl, rfl, by rw [G.K]; exact hx, by rw [G.K]; exact hy, by rw [sizeLine_eq, ← r1.length, ← r2.length]; exact hl, fun e => ?_, fun _ e => ?_, fun _ _ p hp => ?_⟩
      · refine q ρ H _ .refl R (iT hy ?_)
        have : xs = [] := List.eq_nil_of_length_eq_zero (by rw [r1.length, e]; rfl)
        rw [this]
        exact r2
      · refine q ρ H _ .refl R (iT hx ?_)
        have : ys = [] := List.eq_nil_of_length_eq_zero (by rw [r2.length, e]; rfl)
        rw [this, List.append_nil]
        exact r1
      · obtain ⟨q1, q2, q3⟩ := R.newT hp (r1.append r2)
        exact q _ _ _ q1 q2 q3
    · cases e
  · cases e
theorem os_sub : OpS Γ c k (binaryOp .Sub) subW := by
  intro W X G pins s σ H x y v u Q I rx ry h
  obtain ⟨ρ, hm, a, b, u', h', R, ra, rb, e, q⟩ := h
  unfold subW at e
  split at e
  · cases e
    exact op_sub pins s σ H x y v u Q I rx ry ⟨_, _, rwI ra, rwI rb, q ρ H _ .refl R iI'⟩
  · cases e
theorem mulOk_of' {x : Str} {n : Int} (hlo : -(2 ^ 63 : Int) ≤ n) (hn : n ≤ 16777216) (hp : x.length * n.toNat ≤ 16777216) : MulOk x n := by
  refine ⟨?_, fun h1 _ => ?_, fun h1 _ => short24 hp⟩
  · have a1 : ¬ n < -(2 ^ 63 : Int) := by omega
    have a2 : ¬ n ≥ (2 ^ 63 : Int) := by omega
    rw [decide_eq_false a1, decide_eq_false a2]
    rfl
  · have hpos : 0 < n := by omega
    have e : ((x.length * n.toNat : Nat) : Int) = (x.length : Int) * n := by
      rw [Int.natCast_mul, Int.toNat_of_nonneg (by omega)]
    have h3 : (x.length : Int) * n ≤ 2 ^ 63 - 1 := by rw [← e]; omega
    have h4 : (x.length : Int) ≤ (2 ^ 63 - 1) / n := (Int.le_ediv_iff_mul_le hpos).mpr h3
    omega
theorem os_mul : OpS Γ c k (binaryOp .Mult) mulW := by
  intro W X G pins s σ H x y v u Q I rx ry h
  obtain ⟨ρ, hm, a, b, u', h', R, ra, rb, e, q⟩ := h
  unfold mulW at e
  split at e
  · split at e
    · rename_i hl
      cases e
      unfold mulOk at hl
      rw [Bool.or_eq_true, Bool.or_eq_true, decide_eq_true_eq, decide_eq_true_eq, decide_eq_true_eq] at hl
      rcases hl with hl | hl
      · exact op_mul pins s σ H x y v u Q I rx ry ⟨_, _, rwI ra, rwI rb, hl, q ρ H _ .refl R iI'⟩
      · exact op_mulX pins s σ H x y v u Q I rx ry ⟨_, _, rwI ra, rwI rb, hl, q ρ H _ .refl R iI'⟩
    · cases e
  · split at e
    · rename_i xs e1
      split at e
      · rename_i hl
        cases e
        obtain ⟨l, xs', rfl, _, hx, r1⟩ := R.lst e1 ra
        refine op_rep pins s σ H _ _ v u Q I rx ry ⟨l, _, xs', rfl, rwI rb, hx, hl.1, hl.2.1, by rw [sizeLine_eq, ← r1.length]; exact hl.2.2, fun p hp => ?_⟩
        obtain ⟨q1, q2, q3⟩ := R.newL hp (r1.rep _)
        exact q _ _ _ q1 q2 q3
      · cases e
    · cases e
  · split at e
    · rename_i hl
      cases e
      have ea := rwS ra
      have eb := rwI rb
      subst ea eb
      obtain ⟨t, rfl⟩ := rx
      obtain ⟨t', rfl⟩ := ry
      refine SB.mul (mulOk_of' hl.1 hl.2.1 hl.2.2) fun t1 tk => ?_
      exact ⟨.str _, H, I.tok _, ⟨t1, rfl⟩, q ρ H _ .refl R iS⟩
    · cases e
  · cases e
theorem os_fdiv : OpS Γ c k (binaryOp .FloorDiv) fdivW := by
  intro W X G pins s σ H x y v u Q I rx ry h
  obtain ⟨ρ, hm, a, b, u', h', R, ra, rb, e, q⟩ := h
  unfold fdivW at e
  split at e
  · split at e
    · rename_i hl
      cases e
      exact op_fdivW pins s σ H x y v u Q I rx ry ⟨_, _, rwI ra, rwI rb, hl, q ρ H _ .refl R iI'⟩
    · cases e
  · cases e
theorem os_mod : OpS Γ c k (binaryOp .Mod) modW := by
  intro W X G pins s σ H x y v u Q I rx ry h
  obtain ⟨ρ, hm, a, b, u', h', R, ra, rb, e, q⟩ := h
  unfold modW at e
  split at e
  · split at e
    · rename_i hl
      cases e
      exact op_mod pins s σ H x y v u Q I rx ry ⟨_, _, rwI ra, rwI rb, hl, q ρ H _ .refl R iI'⟩
    · cases e
  · cases e
theorem os_pow : OpS Γ c k (binaryOp .Pow) powW := by
  intro W X G pins s σ H x y v u Q I rx ry h
  obtain ⟨ρ, hm, a, b, u', h', R, ra, rb, e, q⟩ := h
  unfold powW at e
  split at e
  · split at e
    · rename_i hl
      cases e
      exact op_pow pins s σ H x y v u Q I rx ry ⟨_, _, rwI ra, rwI rb, hl, q ρ H _ .refl R iI'⟩
    · cases e
  · cases e
theorem os_shl : OpS Γ c k (binaryOp .LShift) shlW := by
  intro W X G pins s σ H x y v u Q I rx ry h
  obtain ⟨ρ, hm, a, b, u', h', R, ra, rb, e, q⟩ := h
  unfold shlW at e
  split at e
  · split at e
    · rename_i hl
      cases e
      exact op_shlW pins s σ H x y v u Q I rx ry ⟨_, _, rwI ra, rwI rb, hl, q ρ H _ .refl R iI'⟩
    · cases e
  · cases e
theorem os_shr : OpS Γ c k (binaryOp .RShift) shrW := by
  intro W X G pins s σ H x y v u Q I rx ry h
  obtain ⟨ρ, hm, a, b, u', h', R, ra, rb, e, q⟩ := h
  unfold shrW at e
  split at e
  · split at e
    · rename_i hl
      cases e
      exact op_shr pins s σ H x y v u Q I rx ry ⟨_, _, rwI ra, rwI rb, hl, q ρ H _ .refl R iI'⟩
    · cases e
  · cases e
theorem os_and : OpS Γ c k (binaryOp .BitAnd) andW := by
  intro W X G pins s σ H x y v u Q I rx ry h
  obtain ⟨ρ, hm, a, b, u', h', R, ra, rb, e, q⟩ := h
  unfold andW at e
  split at e
  · cases e
    exact op_and pins s σ H x y v u Q I rx ry ⟨_, _, rwI ra, rwI rb, q ρ H _ .refl R iI'⟩
  · cases e
theorem os_or : OpS Γ c k (binaryOp .BitOr) orW := by
  intro W X G pins s σ H x y v u Q I rx ry h
  obtain ⟨ρ, hm, a, b, u', h', R, ra, rb, e, q⟩ := h
  unfold orW at e
  split at e
  · cases e
    exact op_or pins s σ H x y v u Q I rx ry ⟨_, _, rwI ra, rwI rb, q ρ H _ .refl R iI'⟩
  · cases e
theorem os_xor : OpS Γ c k (binaryOp .BitXor) xorW := by
  intro W X G pins s σ H x y v u Q I rx ry h
  obtain ⟨ρ, hm, a, b, u', h', R, ra, rb, e, q⟩ := h
  unfold xorW at e
  split at e
  · cases e
    exact op_xor pins s σ H x y v u Q I rx ry ⟨_, _, rwI ra, rwI rb, q ρ H _ .refl R iI'⟩
  · cases e
theorem us_neg : UnS Γ c k (unaryOp .USub) negW := by
  intro W X G pins s σ H x v Q I rx h
  obtain ⟨ρ, hm, a, u', h', R, ra, e, q⟩ := h
  unfold negW at e
  split at e
  · cases e
    exact un_neg pins s σ H x v Q I rx ⟨_, rwI ra, q ρ H _ .refl R iI'⟩
  · cases e
theorem os_lt : OpS Γ c k (compareOp .Lt) ltW := by
  intro W X G pins s σ H x y v u Q I rx ry h
  obtain ⟨ρ, hm, a, b, u', h', R, ra, rb, e, q⟩ := h
  unfold ltW at e
  split at e
  · cases e
    exact op_lt pins s σ H x y v u Q I rx ry ⟨_, _, rwI ra, rwI rb, q ρ H _ .refl R iB⟩
  · cases e
    exact op_lt_str pins s σ H x y v u Q I rx ry ⟨_, _, rwS ra, rwS rb, q ρ H _ .refl R iB⟩
  · cases e
theorem os_le : OpS Γ c k (compareOp .LtE) leW := by
  intro W X G pins s σ H x y v u Q I rx ry h
  obtain ⟨ρ, hm, a, b, u', h', R, ra, rb, e, q⟩ := h
  unfold leW at e
  split at e
  · cases e
    exact op_le pins s σ H x y v u Q I rx ry ⟨_, _, rwI ra, rwI rb, q ρ H _ .refl R iB⟩
  · cases e
    exact op_le_str pins s σ H x y v u Q I rx ry ⟨_, _, rwS ra, rwS rb, q ρ H _ .refl R iB⟩
  · cases e
theorem os_gt : OpS Γ c k (compareOp .Gt) gtW := by
  intro W X G pins s σ H x y v u Q I rx ry h
  obtain ⟨ρ, hm, a, b, u', h', R, ra, rb, e, q⟩ := h
  unfold gtW at e
  split at e
  · cases e
    exact op_gt pins s σ H x y v u Q I rx ry ⟨_, _, rwI ra, rwI rb, q ρ H _ .refl R iB⟩
  · cases e
    exact op_gt_str pins s σ H x y v u Q I rx ry ⟨_, _, rwS ra, rwS rb, q ρ H _ .refl R iB⟩
  · cases e
theorem os_ge : OpS Γ c k (compareOp .GtE) geW := by
  intro W X G pins s σ H x y v u Q I rx ry h
  obtain ⟨ρ, hm, a, b, u', h', R, ra, rb, e, q⟩ := h
  unfold geW at e
  split at e
  · cases e
    exact op_ge pins s σ H x y v u Q I rx ry ⟨_, _, rwI ra, rwI rb, q ρ H _ .refl R iB⟩
  · cases e
    exact op_ge_str pins s σ H x y v u Q I rx ry ⟨_, _, rwS ra, rwS rb, q ρ H _ .refl R iB⟩
  · cases e
theorem isNon_of {a : W} {x : V} (r : RelW Γ ρ H a x) : decide (x = .non) = isNonW a := by
  cases a with
  | non => rw [rwN r]; rfl
  | bl b => rw [rwB r]; rfl
  | int b => rw [rwI r]; rfl
  | str b => rw [rwS r]; rfl
  | tup b => obtain ⟨a, ys, rfl, _⟩ := rwT r; rfl
  | ref b => obtain ⟨a, _, rfl⟩ := rwR r; rfl
  | exn b d => unfold RelW at r; obtain ⟨a, _, rfl, _⟩ := r; rfl
theorem os_is : OpS Γ c k (compareOp .Is) isW := by
  intro W X G pins s σ H x y v u Q I rx ry h
  obtain ⟨ρ, hm, a, b, u', h', R, ra, rb, e, q⟩ := h
  unfold isW at e
  split at e
  · cases e
    exact op_isN pins s σ H x y v u Q I rx ry ⟨rwN rb, q ρ H _ .refl R (by rw [isNon_of ra]; exact iB)⟩
  · cases e
    exact op_isBl pins s σ H x y v u Q I rx ry ⟨_, _, rwB ra, rwB rb, q ρ H _ .refl R iB⟩
  · cases e
theorem os_isn : OpS Γ c k (compareOp .IsNot) isnW := by
  intro W X G pins s σ H x y v u Q I rx ry h
  obtain ⟨ρ, hm, a, b, u', h', R, ra, rb, e, q⟩ := h
  unfold isnW at e
  split at e
  · cases e
    exact op_notN pins s σ H x y v u Q I rx ry ⟨rwN rb, q ρ H _ .refl R (by rw [isNon_of ra]; exact iB)⟩
  · cases e
    exact op_notBl pins s σ H x y v u Q I rx ry ⟨_, _, rwB ra, rwB rb, q ρ H _ .refl R iB⟩
  · cases e
theorem flat_of {a : W} {x : V} (f : flatW a = true) (r : RelW Γ ρ H a x) : x = toV a ∧ flatV x = true := by
  cases a with
  | non => rw [rwN r]; exact ⟨rfl, rfl⟩
  | bl b => rw [rwB r]; exact ⟨rfl, rfl⟩
  | int b => rw [rwI r]; exact ⟨rfl, rfl⟩
  | str b => rw [rwS r]; exact ⟨rfl, rfl⟩
  | _ => cases f
theorem flats_of : ∀ {xs : List W} {ys : List V}, xs.all flatW = true → RelWs Γ ρ H xs ys → ys = xs.map toV ∧ ys.all flatV = true
  | [], ys, f, r => by unfold RelWs at r; subst r; exact ⟨rfl, rfl⟩
  | x :: xs, ys, f, r => by
    unfold RelWs at r
    obtain ⟨y, r', rfl, r1, r2⟩ := r
    rw [List.all_cons, Bool.and_eq_true] at f
    obtain ⟨e1, e2⟩ := flat_of f.1 r1
    obtain ⟨e3, e4⟩ := flats_of f.2 r2
    exact ⟨by rw [e1, e3]; rfl, by rw [List.all_cons, e2, e4]; rfl⟩
theorem inC_of {a b : W} {hm : Hm} {x y : V} {bb : Bool} (R : Rel Γ ρ hm H) (ra : RelW Γ ρ H a x) (rb : RelW Γ ρ H b y) (e : inC a b hm = some bb) :
    (∃ p xs, y = .ref p ∧ (SqL Γ.K H p xs ∨ SqT Γ.K H p xs) ∧ flatV x = true ∧ xs.all flatV = true ∧ inV x xs = bb) ∨ (∃ i j, x = .str i ∧ y = .str j ∧ (!(Builtin.Str.occurrences j i 0 j.length 1).isEmpty) = bb) := by
  have go : ∀ {xs : List W} {ys : List V}, inB a xs = some bb → RelWs Γ ρ H xs ys → flatV x = true ∧ ys.all flatV = true ∧ inV x ys = bb := fun {xs ys} e r => by
    unfold inB at e
    split at e
    · rename_i f
      cases e
      rw [Bool.and_eq_true] at f
      obtain ⟨e1, e2⟩ := flat_of f.1 ra
      obtain ⟨e3, e4⟩ := flats_of f.2 r
      exact ⟨e2, e4, by rw [e1, e3]⟩
    · cases e
  unfold inC at e
  split at e
  · obtain ⟨p, ys, rfl, ht, rr⟩ := rwT rb
    exact .inl ⟨p, ys, rfl, .inr ht, go e rr⟩
  · split at e
    · rename_i xs ex
      obtain ⟨p, ys, rfl, _, hy, rr⟩ := R.lst ex rb
      exact .inl ⟨p, ys, rfl, .inl (SqL.of hy), go e rr⟩
    · rename_i xs ex
      obtain ⟨p, ys, rfl, hy, rr⟩ := R.frz ex rb
      exact .inl ⟨p, ys, rfl, .inl hy, go e rr⟩
    · cases e
  · split at e
    · cases e
      exact .inr ⟨_, _, rwS ra, rwS rb, rfl⟩
    · cases e
  · cases e
theorem os_in : OpS Γ c k (compareOp .In) inW := by
  intro W X G pins s σ H x y v u Q I rx ry h
  obtain ⟨ρ, hm, a, b, u', h', R, ra, rb, e, q⟩ := h
  obtain ⟨bb, e1, e2⟩ := Option.map_eq_some_iff.mp e
  cases e2
  rcases inC_of R ra rb e1 with ⟨p, xs, ey, hs, f1, f2, e3⟩ | ⟨i, j, ex, ey, e3⟩
  · exact op_in_seq pins s σ H x y v u Q I rx ry ⟨p, xs, ey, by rw [G.K]; exact hs, f1, f2, by rw [if_neg Bool.false_ne_true, e3]; exact q ρ H _ .refl R iB⟩
  · exact op_in_str pins s σ H x y v u Q I rx ry ⟨i, j, ex, ey, by rw [e3]; exact q ρ H _ .refl R iB⟩
theorem os_nin : OpS Γ c k (compareOp .NotIn) ninW := by
  intro W X G pins s σ H x y v u Q I rx ry h
  obtain ⟨ρ, hm, a, b, u', h', R, ra, rb, e, q⟩ := h
  obtain ⟨bb, e1, e2⟩ := Option.map_eq_some_iff.mp e
  cases e2
  rcases inC_of R ra rb e1 with ⟨p, xs, ey, hs, f1, f2, e3⟩ | ⟨i, j, ex, ey, e3⟩
  · exact op_notIn_seq pins s σ H x y v u Q I rx ry ⟨p, xs, ey, by rw [G.K]; exact hs, f1, f2, by rw [if_pos rfl, e3]; exact q ρ H _ .refl R iB⟩
  · exact L2.op_notIn_str pins s σ H x y v u Q I rx ry ⟨i, j, ex, ey, by rw [e3]; exact q ρ H _ .refl R iB⟩
end
end
end Z

namespace Z
open PySem PySem.Spec PyProof.Rows L2

/-- the built-in names are not hidden by the module -/
structure Bs (Γ : Gam) : Prop where
  len : Γ.mg "len" = none
  range : Γ.mg "range" = none
  abs : Γ.mg "abs" = none
  min : Γ.mg "min" = none
  max : Γ.mg "max" = none
  int : Γ.mg "int" = none
  bool : Γ.mg "bool" = none
  str : Γ.mg "str" = none
  list : Γ.mg "list" = none
  tuple : Γ.mg "tuple" = none
  ord : Γ.mg "ord" = none
  sum : Γ.mg "sum" = none
  all : Γ.mg "all" = none
  sorted : Γ.mg "sorted" = none
  zip : Γ.mg "zip" = none
  enumerate : Γ.mg "enumerate" = none
  reversed : Γ.mg "reversed" = none
  isinstance : Γ.mg "isinstance" = none

/-! ### subscripts -/
def ixW (x y : W) (h : Hm) : Pr := match x, y with
  | .tup xs, .int i => (atI xs i).map fun w => (w, h)
  | .ref r, .int i => match h[r]? with
    | some (.lst xs) => (atI xs i).map fun w => (w, h)
    | some (.frz xs) => (atI xs i).map fun w => (w, h)
    | _ => none
  | .str z, .int i => if z.length ≤ 16777216 then (atI z.cps.toList i).map fun c => (.str ⟨#[c]⟩, h) else none
  | _, _ => none
def cutW (xs : List W) (lo hi : Option Int) : List W := (xs.drop (HT.sIx xs.length 0 lo)).take (HT.sIx xs.length xs.length hi - HT.sIx xs.length 0 lo)
def slW (x : W) (lo hi : Option Int) (h : Hm) : Pr := match x with
  | .tup xs => some (.tup (cutW xs lo hi), h)
  | .ref r => match h[r]? with
    | some (.lst xs) => some (.ref h.length, h ++ [.lst (cutW xs lo hi)])
    | some (.frz xs) => some (.ref h.length, h ++ [.lst (cutW xs lo hi)])
    | _ => none
  | .str z => if z.length ≤ 16777216 then some (.str (cutS z lo hi), h) else none
  | _ => none
abbrev XO := Sg → Hm → Out (Option Int)
def xoNone : XO := fun _ h => .ok none h
def xoSome (a : XE) : XO := fun σ h => (a σ h).bind fun x h1 => match x with
  | .int i => .ok (some i) h1
  | _ => .bad
def xSl (a : XE) (lo hi : XO) : XE := fun σ h => (a σ h).bind fun x h1 => (lo σ h1).bind fun l h2 => (hi σ h2).bind fun u h3 => ofO (slW x l u h3)
def setW (x y v : W) (h : Hm) : Option Hm := match x, y with
  | .ref r, .int i => match h[r]? with
    | some (.lst xs) => (ixN xs.length i).map fun j => h.set r (.lst (xs.set j v))
    | _ => none
  | _, _ => none
section
variable {Γ : Gam} {c : Cfg} {k : Nat} {a b e d o i : Expr} {es : List Expr} {fa fb fc : XE} {ft fu : XT} {fr : XA} {pos p : Pos} {ρ : List Addr} {H : Hp}
theorem RelWs.at {xs : List W} {ys : List V} {i : Int} {w : W} (r : RelWs Γ ρ H xs ys) (e : atI xs i = some w) : ∃ v, atI ys i = some v ∧ RelW Γ ρ H w v := by
  unfold atI at e ⊢
  rw [← r.length]
  cases e1 : ixN xs.length i with
  | none => rw [e1] at e; cases e
  | some j =>
    rw [e1] at e
    exact r.get e
theorem RelWs.cut {xs : List W} {ys : List V} {lo hi : Option Int} (r : RelWs Γ ρ H xs ys) : RelWs Γ ρ H (cutW xs lo hi) (cutV ys lo hi) := by
  unfold cutW cutV
  rw [← r.length]
  exact (r.drop _).take _
/-- IxR of ours -/
theorem ix_any {W : WX} {X : Cx} (G : Good Γ c k W X) : IxR X (r2 Γ ixW) := by
  intro value slice pins s σ H x y v u Q I rx ry h hs
  obtain ⟨ρ, hm, a, b, u', h', R, ra, rb, e, q⟩ := h
  unfold ixW at e
  split at e
  · obtain ⟨w, e1, e2⟩ := Option.map_eq_some_iff.mp e
    cases e2
    obtain ⟨l, ys, rfl, hy, r1⟩ := rwT ra
    obtain ⟨v', e3, r3⟩ := r1.at e1
    exact ix_tup value slice pins s σ H _ y v u Q I rx ry ⟨l, ys, _, v', rfl, rwI rb, by rw [G.K]; exact hy, e3, q ρ H _ .refl R r3⟩ hs
  · split at e
    · rename_i ex
      obtain ⟨w, e1, e2⟩ := Option.map_eq_some_iff.mp e
      cases e2
      obtain ⟨l, ys, rfl, _, hy, r1⟩ := R.lst ex ra
      obtain ⟨v', e3, r3⟩ := r1.at e1
      exact ix_list value slice pins s σ H _ y v u Q I rx ry ⟨l, ys, _, v', rfl, rwI rb, SqL.of hy, e3, q ρ H _ .refl R r3⟩ hs
    · rename_i ex
      obtain ⟨w, e1, e2⟩ := Option.map_eq_some_iff.mp e
      cases e2
      obtain ⟨l, ys, rfl, hy, r1⟩ := R.frz ex ra
      obtain ⟨v', e3, r3⟩ := r1.at e1
      exact ix_list value slice pins s σ H _ y v u Q I rx ry ⟨l, ys, _, v', rfl, rwI rb, by rw [G.K]; exact hy, e3, q ρ H _ .refl R r3⟩ hs
    · cases e
  · split at e
    · rename_i hl
      obtain ⟨w, e1, e2⟩ := Option.map_eq_some_iff.mp e
      cases e2
      exact ix_str value slice pins s σ H _ y v u Q I rx ry ⟨_, _, w, rwS ra, rwI rb, by rw [sizeLine_eq]; exact hl, e1, q ρ H _ .refl R iS⟩ hs
    · cases e
  · cases e
theorem se_ix (ha : SE Γ c k a fa) (hb : SE Γ c k b fb) (hs : PlainIx b := by exact fun _ _ => rfl) : SE Γ c k (.Subscript a b pos) (xBin ixW fa fb) := by
  intro W X G
  refine PE.imp (pe_ix (ix_any G) (ha W X G) (hb W X G) hs) fun τ H Q h => ?_
  obtain ⟨ρ, σ, h, R, S, q⟩ := h
  refine ⟨ρ, σ, h, R, S, (O1.bind (R := RelW Γ) q).imp fun x H1 ⟨ρ1, h1, u, l1, R1, r1, q1⟩ => ?_⟩
  refine ⟨ρ1, σ, h1, R1, S.mono l1, (O1.bind (R := RelW Γ) q1).imp fun y H2 ⟨ρ2, h2, w, l2, R2, r2, q2⟩ => ?_⟩
  obtain ⟨u', h', e, q3⟩ := q2.ofO
  exact ⟨ρ2, h2, u, w, u', h', R2, RelW.mono l2 _ _ r1, r2, e, q3⟩
/-! slices -/
def tIO (Γ : Gam) (W : WX) (f : XO) : TO := fun τ H Q => ∃ ρ σ h, Rel Γ ρ h H ∧ RelS Γ ρ H σ τ ∧ O1 Γ (fun _ _ (a b : Option Int) => a = b) ρ H (f σ h) Q (fun cls d H' => W cls d τ H')
def SO (Γ : Gam) (c : Cfg) (k : Nat) (e : Option Expr) (f : XO) : Prop := ∀ W X, Good Γ c k W X → PO X e (tIO Γ W f)
theorem PO.imp {X : Cx} {e : Option Expr} {t t' : TO} (h : PO X e t) (i : ∀ σ H Q, t' σ H Q → t σ H Q) : PO X e t' := ⟨fun pins s σ H Q I q => h.run pins s σ H Q I (i _ _ _ q)⟩
theorem so_none : SO Γ c k none xoNone := by
  intro W X G
  refine PO.imp po_none fun τ H Q h => ?_
  obtain ⟨ρ, σ, h, R, S, q⟩ := h
  exact q ρ H _ .refl R rfl
theorem so_some (ha : SE Γ c k a fa) : SO Γ c k (some a) (xoSome fa) := by
  intro W X G
  refine PO.imp (po_some (ha W X G)) fun τ H Q h => ?_
  obtain ⟨ρ, σ, h, R, S, q⟩ := h
  refine ⟨ρ, σ, h, R, S, (O1.bind (R := RelW Γ) q).imp fun x H1 ⟨ρ1, h1, u, l1, R1, r1, q1⟩ => ?_⟩
  split at q1
  · exact ⟨_, rwI r1, q1 ρ1 H1 _ .refl R1 rfl⟩
  · exact q1.elim
def rSl (Γ : Gam) : V → Option Int → Option Int → Hp → VK → Prop := fun x lo hi H Q => ∃ ρ h u u' h', Rel Γ ρ h H ∧ RelW Γ ρ H u x ∧ slW u lo hi h = some (u', h') ∧ ∀ ρ' H' v, Le Γ ρ ρ' H H' → Rel Γ ρ' h' H' → RelW Γ ρ' H' u' v → Q v H'
theorem sl_any {W : WX} {X : Cx} (G : Good Γ c k W X) : SlR X (rSl Γ) := by
  intro pins s σ H x v vl vu lo hi sl Q I rx hs pl pu h
  obtain ⟨ρ, hm, a, u', h', R, ra, e, q⟩ := h
  unfold slW at e
  split at e
  · cases e
    obtain ⟨l, ys, rfl, hy, r1⟩ := rwT ra
    refine sl_tupA pins s σ H _ v vl vu lo hi sl Q I rx hs pl pu ⟨l, ys, rfl, by rw [G.K]; exact hy, fun hw => ?_, fun _ p hp => ?_⟩
    · refine q ρ H _ .refl R (iT hy ?_)
      rename_i xs
      have e : cutW xs lo hi = xs := by
        unfold cutW
        rw [r1.length, hw.1, hw.2, ← r1.length]
        simp
      rw [e]
      exact r1
    · obtain ⟨q1, q2, q3⟩ := R.newT hp (r1.cut (lo := lo) (hi := hi))
      exact q _ _ _ q1 q2 q3
  · split at e
    · rename_i ex
      cases e
      obtain ⟨l, ys, rfl, _, hy, r1⟩ := R.lst ex ra
      refine sl_list pins s σ H _ v vl vu lo hi sl Q I rx hs pl pu ⟨l, ys, rfl, SqL.of hy, fun p hp => ?_⟩
      obtain ⟨q1, q2, q3⟩ := R.newL hp (r1.cut (lo := lo) (hi := hi))
      exact q _ _ _ q1 q2 q3
    · rename_i ex
      cases e
      obtain ⟨l, ys, rfl, hy, r1⟩ := R.frz ex ra
      refine sl_list pins s σ H _ v vl vu lo hi sl Q I rx hs pl pu ⟨l, ys, rfl, by rw [G.K]; exact hy, fun p hp => ?_⟩
      obtain ⟨q1, q2, q3⟩ := R.newL hp (r1.cut (lo := lo) (hi := hi))
      exact q _ _ _ q1 q2 q3
    · cases e
  · split at e
    · rename_i hl
      cases e
      exact sl_str pins s σ H _ v vl vu lo hi sl Q I rx hs pl pu ⟨_, rwS ra, by rw [sizeLine_eq]; exact hl, q ρ H _ .refl R iS⟩
    · cases e
  · cases e
theorem se_sl {lo hi : Option Expr} {fl fh : XO} {p2 : Pos} (ha : SE Γ c k a fa) (hl : SO Γ c k lo fl) (hh : SO Γ c k hi fh) : SE Γ c k (.Subscript a (.Slice lo hi none p2) pos) (xSl fa fl fh) := by
  intro W X G
  refine PE.imp (pe_slice (sl_any G) (ha W X G) (hl W X G) (hh W X G)) fun τ H Q h => ?_
  obtain ⟨ρ, σ, h, R, S, q⟩ := h
  refine ⟨ρ, σ, h, R, S, (O1.bind (R := RelW Γ) q).imp fun x H1 ⟨ρ1, h1, u, l1, R1, r1, q1⟩ => ?_⟩
  refine ⟨ρ1, σ, h1, R1, S.mono l1, (O1.bind (R := fun _ _ (a b : Option Int) => a = b) q1).imp fun y H2 ⟨ρ2, h2, w, l2, R2, r2, q2⟩ => ?_⟩
  refine ⟨ρ2, σ, h2, R2, (S.mono l1).mono l2, (O1.bind (R := fun _ _ (a b : Option Int) => a = b) q2).imp fun z H3 ⟨ρ3, h3, w3, l3, R3, r3, q3⟩ => ?_⟩
  have r2 : w = y := r2
  have r3 : w3 = z := r3
  subst r2 r3
  obtain ⟨u', h', e, q4⟩ := q3.ofO
  exact ⟨ρ3, h3, u, u', h', R3, RelW.mono (l2.trans l3) _ _ r1, e, q4⟩
theorem ss_setW : StS Γ c k setW := by
  intro W X G pins s σ H o i v ov iv u Q I ro ri rv h
  obtain ⟨ρ, hm, x, y, z, h', R, rx, ry, rz, e, q⟩ := h
  unfold setW at e
  split at e
  · split at e
    · rename_i ex
      obtain ⟨j, e1, rfl⟩ := Option.map_eq_some_iff.mp e
      obtain ⟨l, ys, rfl, ea, hy, r1⟩ := R.lst ex rx
      refine set_list pins s σ H _ i v ov iv u Q I ro ri rv ⟨l, ys, _, j, rfl, rwI ry, hy, by rw [← r1.length]; exact e1, ?_⟩
      obtain ⟨q1, q2⟩ := R.setL ex ea hy (r1.set j rz)
      exact q _ _ q1 q2
    · cases e
  · cases e

/-! ### calls of built-in functions and types -/
theorem se_callB {x : Str} {id : String} {g : List W → Hm → Pr} (hc : CaS Γ c k (.builtin id) g) (j : Nat) (hm : Γ.mg x = none) (hv : bootBuiltins x = some (.builtin id)) (ha : SA Γ c k (e :: es) fr) (hG : c.G[j]? = some x := by rfl)
    (hn : x ≠ "__name__" := by decide) (hd : (x == ("__debug__" : Str)) = false := by decide) (he : ∀ env, starEach (e :: es) env = (false, eval e env) :: starEach es env := by intros; rfl) (hpl : ∀ env, (backTo pos (starEach es env)).any (·.1) = false := by intros; rfl) :
    SE Γ c k (.Call (.Name x p) (e :: es) [] pos) (xCall g fr) := by
  intro W X G
  refine PE.imp (pe_callB (hc W X G) (G.gl (List.mem_of_getElem? hG)) (by rw [G.mg]; exact hm) hv (ha W X G) hn hd (he X.env) (hpl X.env)) fun τ H Q h => ?_
  obtain ⟨ρ, σ, h, R, S, q⟩ := h
  refine ⟨ρ, σ, h, R, S, (O1.bind (R := RelWs Γ) q).imp fun x H1 ⟨ρ1, h1, u, l1, R1, r1, q1⟩ => ?_⟩
  obtain ⟨u', h', e, q3⟩ := q1.ofO
  exact ⟨ρ1, h1, u, u', h', R1, r1, e, q3⟩
theorem se_callT {x : Str} {T : String} {g : List W → Hm → Pr} (hc : CaS Γ c k (.type T) g) (j : Nat) (hm : Γ.mg x = none) (hv : bootBuiltins x = some (.type T)) (ha : SA Γ c k (e :: es) fr) (hG : c.G[j]? = some x := by rfl)
    (hn : x ≠ "__name__" := by decide) (hd : (x == ("__debug__" : Str)) = false := by decide) (he : ∀ env, starEach (e :: es) env = (false, eval e env) :: starEach es env := by intros; rfl) (hpl : ∀ env, (backTo pos (starEach es env)).any (·.1) = false := by intros; rfl) :
    SE Γ c k (.Call (.Name x p) (e :: es) [] pos) (xCall g fr) := by
  intro W X G
  refine PE.imp (pe_callTy (hc W X G) (G.gl (List.mem_of_getElem? hG)) (by rw [G.mg]; exact hm) hv (ha W X G) hn hd (he X.env) (hpl X.env)) fun τ H Q h => ?_
  obtain ⟨ρ, σ, h, R, S, q⟩ := h
  refine ⟨ρ, σ, h, R, S, (O1.bind (R := RelWs Γ) q).imp fun x H1 ⟨ρ1, h1, u, l1, R1, r1, q1⟩ => ?_⟩
  obtain ⟨u', h', e, q3⟩ := q1.ofO
  exact ⟨ρ1, h1, u, u', h', R1, r1, e, q3⟩
def lenC (x : W) (h : Hm) : Option Int := match x with
  | .str z => if z.length ≤ 16777216 then some z.length else none
  | .tup xs => some xs.length
  | .ref r => match h[r]? with
    | some (.lst xs) => some xs.length
    | some (.frz xs) => some xs.length
    | _ => none
  | _ => none
def lenW (xs : List W) (h : Hm) : Pr := match xs with
  | [x] => (lenC x h).map fun n => (.int n, h)
  | _ => none
def absW (xs : List W) (h : Hm) : Pr := match xs with
  | [.int i] => some (.int (if i < 0 then -i else i), h)
  | _ => none
def minW (xs : List W) (h : Hm) : Pr := match xs with
  | [.int i, .int j] => some (.int (if j < i then j else i), h)
  | _ => none
def maxW (xs : List W) (h : Hm) : Pr := match xs with
  | [.int i, .int j] => some (.int (if j > i then j else i), h)
  | _ => none
def intW (xs : List W) (h : Hm) : Pr := match xs with
  | [.int i] => some (.int i, h)
  | [.bl b] => some (.int (if b then 1 else 0), h)
  | _ => none
def ordW (xs : List W) (h : Hm) : Pr := match xs with
  | [.str x] => if x.length = 1 then some (.int (x.cps.getD 0 0 : Nat), h) else none
  | _ => none
def strW (xs : List W) (h : Hm) : Pr := match xs with
  | [.int i] => if i.natAbs.log2 < 1920 then some (.str (toString i), h) else none
  | _ => none
def seqC (x : W) (h : Hm) : Option (List W) := match x with
  | .tup xs => some xs
  | .ref r => match h[r]? with
    | some (.lst xs) => some xs
    | some (.frz xs) => some xs
    | _ => none
  | _ => none
def listW (xs : List W) (h : Hm) : Pr := match xs with
  | [x] => (seqC x h).map fun ys => (.ref h.length, h ++ [.lst ys])
  | _ => none
def tupleW (xs : List W) (h : Hm) : Pr := match xs with
  | [x] => (seqC x h).map fun ys => (.tup ys, h)
  | _ => none
theorem rws1 {w : W} {vs : List V} (r : RelWs Γ ρ H [w] vs) : ∃ v, vs = [v] ∧ RelW Γ ρ H w v := by
  unfold RelWs at r
  obtain ⟨y, r', rfl, h1, h2⟩ := r
  unfold RelWs at h2
  subst h2
  exact ⟨y, rfl, h1⟩
theorem rws2 {w w' : W} {vs : List V} (r : RelWs Γ ρ H [w, w'] vs) : ∃ v v', vs = [v, v'] ∧ RelW Γ ρ H w v ∧ RelW Γ ρ H w' v' := by
  unfold RelWs at r
  obtain ⟨y, r', rfl, h1, h2⟩ := r
  obtain ⟨v', rfl, h3⟩ := rws1 h2
  exact ⟨y, v', rfl, h1, h3⟩
/-- the items of a list or tuple that is read -/
theorem seq_of {h : Hm} {x : W} {xs : List W} {v : V} (R : Rel Γ ρ h H) (e : seqC x h = some xs) (r : RelW Γ ρ H x v) : ∃ a ys, v = .ref a ∧ (SqL Γ.K H a ys ∨ SqT Γ.K H a ys) ∧ RelWs Γ ρ H xs ys := by
  unfold seqC at e
  split at e
  · cases e
    obtain ⟨a, ys, rfl, hy, rr⟩ := rwT r
    exact ⟨a, ys, rfl, .inr hy, rr⟩
  · split at e
    · rename_i ex
      cases e
      obtain ⟨a, ys, rfl, _, hy, rr⟩ := R.lst ex r
      exact ⟨a, ys, rfl, .inl (SqL.of hy), rr⟩
    · rename_i ex
      cases e
      obtain ⟨a, ys, rfl, hy, rr⟩ := R.frz ex r
      exact ⟨a, ys, rfl, .inl hy, rr⟩
    · cases e
  · cases e
theorem cs_len : CaS Γ c k (.builtin "len") lenW := by
  intro W X G pins s σ H xs us Q I rx h
  obtain ⟨ρ, hm, ws, u', h', R, rr, e, q⟩ := h
  unfold lenW at e
  split at e
  · obtain ⟨n, e1, e2⟩ := Option.map_eq_some_iff.mp e
    cases e2
    obtain ⟨v, rfl, r1⟩ := rws1 rr
    unfold lenC at e1
    split at e1
    · split at e1
      · rename_i hl
        cases e1
        exact call_len_str pins s σ H _ us Q I rx ⟨_, by rw [rwS r1], by rw [sizeLine_eq]; exact hl, q ρ H _ .refl R iI'⟩
      · cases e1
    · cases e1
      obtain ⟨a, ys, rfl, hy, r2⟩ := rwT r1
      exact call_len_seq pins s σ H _ us Q I rx ⟨a, ys, rfl, by rw [G.K]; exact .inr hy, by rw [← r2.length]; exact q ρ H _ .refl R iI'⟩
    · split at e1
      · rename_i ex
        cases e1
        obtain ⟨a, ys, rfl, _, hy, r2⟩ := R.lst ex r1
        exact call_len_seq pins s σ H _ us Q I rx ⟨a, ys, rfl, .inl (SqL.of hy), by rw [← r2.length]; exact q ρ H _ .refl R iI'⟩
      · rename_i ex
        cases e1
        obtain ⟨a, ys, rfl, hy, r2⟩ := R.frz ex r1
        exact call_len_seq pins s σ H _ us Q I rx ⟨a, ys, rfl, by rw [G.K]; exact .inl hy, by rw [← r2.length]; exact q ρ H _ .refl R iI'⟩
      · cases e1
    · cases e1
  · cases e
theorem cs_abs : CaS Γ c k (.builtin "abs") absW := by
  intro W X G pins s σ H xs us Q I rx h
  obtain ⟨ρ, hm, ws, u', h', R, rr, e, q⟩ := h
  unfold absW at e
  split at e
  · cases e
    obtain ⟨v, rfl, r1⟩ := rws1 rr
    exact call_abs pins s σ H _ us Q I rx ⟨_, by rw [rwI r1], q ρ H _ .refl R iI'⟩
  · cases e
theorem cs_min (hc : c.calm = true := by rfl) : CaS Γ c k (.builtin "min") minW := by
  intro W X G pins s σ H xs us Q I rx h
  obtain ⟨ρ, hm, ws, u', h', R, rr, e, q⟩ := h
  unfold minW at e
  split at e
  · cases e
    obtain ⟨v, v', rfl, r1, r2⟩ := rws2 rr
    exact call_min2 (G.calm.trans hc) pins s σ H _ us Q I rx ⟨_, _, by rw [rwI r1, rwI r2], q ρ H _ .refl R iI'⟩
  · cases e
theorem cs_max (hc : c.calm = true := by rfl) : CaS Γ c k (.builtin "max") maxW := by
  intro W X G pins s σ H xs us Q I rx h
  obtain ⟨ρ, hm, ws, u', h', R, rr, e, q⟩ := h
  unfold maxW at e
  split at e
  · cases e
    obtain ⟨v, v', rfl, r1, r2⟩ := rws2 rr
    exact call_max2 (G.calm.trans hc) pins s σ H _ us Q I rx ⟨_, _, by rw [rwI r1, rwI r2], q ρ H _ .refl R iI'⟩
  · cases e
theorem cs_int : CaS Γ c k (.type "int") intW := by
  intro W X G pins s σ H xs us Q I rx h
  obtain ⟨ρ, hm, ws, u', h', R, rr, e, q⟩ := h
  unfold intW at e
  split at e
  · cases e
    obtain ⟨v, rfl, r1⟩ := rws1 rr
    exact call_int1 pins s σ H _ us Q I rx (.inl ⟨_, by rw [rwI r1], q ρ H _ .refl R iI'⟩)
  · cases e
    obtain ⟨v, rfl, r1⟩ := rws1 rr
    exact call_int1 pins s σ H _ us Q I rx (.inr ⟨_, by rw [rwB r1], q ρ H _ .refl R iI'⟩)
  · cases e
theorem cs_ord : CaS Γ c k (.builtin "ord") ordW := by
  intro W X G pins s σ H xs us Q I rx h
  obtain ⟨ρ, hm, ws, u', h', R, rr, e, q⟩ := h
  unfold ordW at e
  split at e
  · split at e
    · rename_i hl
      cases e
      obtain ⟨v, rfl, r1⟩ := rws1 rr
      exact call_ord pins s σ H _ us Q I rx ⟨_, by rw [rwS r1], hl, q ρ H _ .refl R iI'⟩
    · cases e
  · cases e
theorem cs_str : CaS Γ c k (.type "str") strW := by
  intro W X G pins s σ H xs us Q I rx h
  obtain ⟨ρ, hm, ws, u', h', R, rr, e, q⟩ := h
  unfold strW at e
  split at e
  · split at e
    · rename_i hl
      cases e
      obtain ⟨v, rfl, r1⟩ := rws1 rr
      exact call_str_int pins s σ H _ us Q I rx ⟨_, by rw [rwI r1], hl, q ρ H _ .refl R iS⟩
    · cases e
  · cases e
theorem cs_list : CaS Γ c k (.type "list") listW := by
  intro W X G pins s σ H xs us Q I rx h
  obtain ⟨ρ, hm, ws, u', h', R, rr, e, q⟩ := h
  unfold listW at e
  split at e
  · obtain ⟨ys, e1, e2⟩ := Option.map_eq_some_iff.mp e
    cases e2
    obtain ⟨v, rfl, r1⟩ := rws1 rr
    obtain ⟨a, zs, rfl, hs, r2⟩ := seq_of R e1 r1
    refine call_list_of pins s σ H _ us Q I rx ⟨a, zs, rfl, by rw [G.K]; exact hs, fun p hp => ?_⟩
    obtain ⟨q1, q2, q3⟩ := R.newL hp r2
    exact q _ _ _ q1 q2 q3
  · cases e
theorem cs_tuple : CaS Γ c k (.type "tuple") tupleW := by
  intro W X G pins s σ H xs us Q I rx h
  obtain ⟨ρ, hm, ws, u', h', R, rr, e, q⟩ := h
  unfold tupleW at e
  split at e
  · obtain ⟨ys, e1, e2⟩ := Option.map_eq_some_iff.mp e
    cases e2
    obtain ⟨v, rfl, r1⟩ := rws1 rr
    obtain ⟨a, zs, rfl, hs, r2⟩ := seq_of R e1 r1
    refine call_tuple_of pins s σ H _ us Q I rx ⟨a, zs, rfl, ?_⟩
    rcases hs with hs | hs
    · refine .inl ⟨by rw [G.K]; exact hs, fun p hp => ?_⟩
      obtain ⟨q1, q2, q3⟩ := R.newT hp r2
      exact q _ _ _ q1 q2 q3
    · exact .inr ⟨by rw [G.K]; exact hs, q ρ H _ .refl R (iT hs r2)⟩
  · cases e

/-! ### isinstance of built-in types -/
def tyC (x : W) (h : Hm) : Option String := match x with
  | .non => some "NoneType"
  | .bl _ => some "bool"
  | .int _ => some "int"
  | .str _ => some "str"
  | .tup _ => some "tuple"
  | .ref r => match h[r]? with
    | some (.lst _) => some "list"
    | some (.frz _) => some "list"
    | some (.dic _) => some "dict"
    | _ => none
  | _ => none
/-- the answers, for the types that occur -/
def kitT : List (String × List String) := [("int", ["int", "bool"]), ("bool", ["bool"]), ("str", ["str"]), ("list", ["list"]), ("tuple", ["tuple"])]
def isiC (T : String) (x : W) (h : Hm) : Option Bool := (tyC x h).bind fun t => (kitT.lookup T).map fun ts => ts.contains t
def xIsi (T : String) (a : XE) : XE := fun σ h => (a σ h).bind fun x h1 => ofO ((isiC T x h1).map fun b => (.bl b, h1))
theorem lookup_mem {α β : Type} [BEq α] [LawfulBEq α] {x : α} {y : β} : ∀ {l : List (α × β)}, l.lookup x = some y → (x, y) ∈ l
  | [], h => by simp at h
  | (a, b) :: r, h => by
    rw [List.lookup_cons] at h
    cases hb : x == a with
    | true =>
      rw [hb] at h
      cases h
      rw [eq_of_beq hb]
      exact List.mem_cons_self
    | false =>
      rw [hb] at h
      exact List.mem_cons_of_mem _ (lookup_mem h)
theorem kitT_ok : ∀ t ∈ ["NoneType", "bool", "int", "str", "tuple", "list", "dict"], ∀ T ∈ kitT, kitB t T.1 = some (T.2.contains t) := by decide +kernel
theorem tyC_of {h : Hm} {x : W} {t : String} {v : V} (R : Rel Γ ρ h H) (e : tyC x h = some t) (r : RelW Γ ρ H x v) : TyX Γ.K H v (.type t) ∧ t ∈ ["NoneType", "bool", "int", "str", "tuple", "list", "dict"] := by
  unfold tyC at e
  split at e
  · cases e; rw [rwN r]; exact ⟨.base .non, by decide⟩
  · cases e; rw [rwB r]; exact ⟨.base (.bl _), by decide⟩
  · cases e; rw [rwI r]; exact ⟨.base (.int _), by decide⟩
  · cases e; rw [rwS r]; exact ⟨.base (.str _), by decide⟩
  · cases e
    obtain ⟨a, ys, rfl, hy, rr⟩ := rwT r
    rcases hy with (hy | ⟨o, hy⟩) | ⟨o, its, n, hk, hc, _⟩
    · exact ⟨.base (.tup hy), by decide⟩
    · exact ⟨.fTuple hy, by decide⟩
    · exact ⟨.kTuple hk hc, by decide⟩
  · split at e
    · rename_i ex
      cases e
      obtain ⟨a, ys, rfl, _, hy, rr⟩ := R.lst ex r
      exact ⟨.base (.lst hy), by decide⟩
    · rename_i ex
      cases e
      obtain ⟨a, ea, rfl⟩ := rwR r
      obtain ⟨a', ea', ys, hy, rr⟩ := R.obj _ _ ex
      rw [ea] at ea'
      cases ea'
      rcases hy with ⟨o, hy⟩ | ⟨o, its, n, hk, hc, _⟩
      · exact ⟨.base (.frz hy), by decide⟩
      · exact ⟨.kList hk hc, by decide⟩
    · rename_i ex
      cases e
      obtain ⟨a, ea, rfl⟩ := rwR r
      obtain ⟨a', ea', gs, hy, rr⟩ := R.obj _ _ ex
      rw [ea] at ea'
      cases ea'
      exact ⟨.base (.dK hy), by decide⟩
    · cases e
  · cases e
theorem se_isi (T : String) (j j' : Nat) (B : Bs Γ) {x : Str} {p1 p2 : Pos} (hx : bootBuiltins x = some (.type T)) (hm : Γ.mg x = none) (hT : (kitT.lookup T).isSome = true) (ha : SE Γ c k a fa) (hG : c.G[j]? = some ("isinstance" : Str) := by rfl) (hG' : c.G[j']? = some x := by rfl) (hn : x ≠ "__name__" := by decide) (hd : (x == ("__debug__" : Str)) = false := by decide)
    (he : ∀ env, starEach [a, .Name x p2] env = (false, eval a env) :: starEach [.Name x p2] env := by intros; rfl) (hpl : ∀ env, (backTo pos (starEach [.Name x p2] env)).any (·.1) = false := by intros; rfl) (hs : ∀ env, starEach [.Name x p2] env = (false, eval (.Name x p2) env) :: starEach [] env := by intros; rfl) :
    SE Γ c k (.Call (.Name "isinstance" p1) [a, .Name x p2] [] pos) (xIsi T fa) := by
  intro W X G
  have ht : PE X (.Name x p2) (tC (.ty T)) := pe_bltn (G.gl (List.mem_of_getElem? hG')) (by rw [G.mg]; exact hm) hx rfl hn hd
  refine PE.imp (pe_callB call_isi (G.gl (List.mem_of_getElem? hG)) (by rw [G.mg]; exact B.isinstance) boot_isinstance (pa_cons (ha W X G) (pa_cons ht pa_nil (hs X.env)) (he X.env)) (by decide) (by decide) (he X.env) (hpl X.env)) fun τ H Q h => ?_
  obtain ⟨ρ, σ, h, R, S, q⟩ := h
  refine ⟨ρ, σ, h, R, S, (O1.bind (R := RelW Γ) q).imp fun v H1 ⟨ρ1, h1, u, l1, R1, r1, q1⟩ => ?_⟩
  obtain ⟨u', h', e, q3⟩ := q1.ofO
  obtain ⟨b, e1, e2⟩ := Option.map_eq_some_iff.mp e
  cases e2
  unfold isiC at e1
  cases e3 : tyC u h1 with
  | none => rw [e3] at e1; cases e1
  | some t =>
    rw [e3] at e1
    obtain ⟨ts, e4, rfl⟩ := Option.map_eq_some_iff.mp e1
    obtain ⟨h3, h4⟩ := tyC_of R1 e3 r1
    refine ⟨v, .ty T, .type t, .type T, ts.contains t, rfl, .ty T, by rw [G.K]; exact h3, ?_, q3 ρ1 H1 _ .refl R1 iB⟩
    exact kit_ty (kitT_ok t h4 (T, ts) (lookup_mem e4))
end
end Z

namespace Z
open PySem PySem.Spec PyProof.Rows L2

/-! ### what loops walk -/
def itSeq (x : W) : Itr := fun i h => (seqC x h).map fun xs => xs[i]?
def itStr (z : Str) : Itr := fun i _ => some (z.cps[i]?.map fun c => .str ⟨#[c]⟩)
def itRng (lo st : Int) (n : Nat) : Itr := fun i _ => some (if i < n then some (.int (lo + (i : Nat) * st)) else none)
def itRev (x : W) (n : Nat) : Itr := fun i h => if i < n then (seqC x h).bind fun xs => (xs[n - 1 - i]?).map fun w => some w else some none
def itZip (x y : W) : Itr := fun i h => (seqC x h).bind fun xs => (seqC y h).map fun ys => match xs[i]?, ys[i]? with
  | some a, some b => some (.tup [a, b])
  | _, _ => none
def itEnum (x : W) : Itr := fun i h => (seqC x h).map fun xs => xs[i]?.map fun w => .tup [.int i, w]
def isL (x : W) (h : Hm) : Bool := match x with
  | .ref r => match h[r]? with
    | some (.lst _) => true
    | some (.frz _) => true
    | _ => false
  | _ => false
def iAny (a : XE) : XI := fun σ h => (a σ h).bind fun x h1 => match x with
  | .str z => .ok (itStr z) h1
  | x => if (seqC x h1).isSome then .ok (itSeq x) h1 else .bad
def smallI (i : Int) : Bool := decide (-(2 ^ 62) ≤ i ∧ i < 2 ^ 62)
def iRng1 (a : XA) : XI := fun σ h => (a σ h).bind fun xs h1 => match xs with
  | [.int j] => if smallI j then .ok (itRng 0 1 j.toNat) h1 else .bad
  | _ => .bad
def iRng2 (a : XA) : XI := fun σ h => (a σ h).bind fun xs h1 => match xs with
  | [.int i, .int j] => if smallI i && smallI j then .ok (itRng i 1 (j - i).toNat) h1 else .bad
  | _ => .bad
def iRng3 (a : XA) : XI := fun σ h => (a σ h).bind fun xs h1 => match xs with
  | [.int i, .int j, .int st] => if st ≠ 0 ∧ st.natAbs < 1073741824 ∧ Builtin.Range.small i j st = true ∧ 0 ≤ Builtin.Range.rangeSize i j st then .ok (itRng i st (Builtin.Range.rangeSize i j st).toNat) h1 else .bad
  | _ => .bad
def iRev (a : XE) : XI := fun σ h => (a σ h).bind fun x h1 => match seqC x h1 with
  | some xs => .ok (itRev x xs.length) h1
  | none => .bad
def iZip (a : XA) : XI := fun σ h => (a σ h).bind fun xs h1 => match xs with
  | [x, y] => if isL x h1 && isL y h1 then .ok (itZip x y) h1 else .bad
  | _ => .bad
def iEnum (a : XA) : XI := fun σ h => (a σ h).bind fun xs h1 => match xs with
  | [x] => if isL x h1 then .ok (itEnum x) h1 else .bad
  | _ => .bad

section
variable {Γ : Gam} {c : Cfg} {k : Nat} {a b e d o i tg : Expr} {es : List Expr} {fa fb fc : XE} {ft fu : XT} {fr : XA} {pos p : Pos} {ρ : List Addr} {H : Hp}
/-- which lists stand behind a value that is walked -/
theorem seqC_later {h h' : Hm} {x : W} {v : V} {ρ' : List Addr} {H' : Hp} {xs : List W} (l : Le Γ ρ ρ' H H') (R' : Rel Γ ρ' h' H') (r : RelW Γ ρ H x v) (e : seqC x h' = some xs) :
    ∃ a ys, v = .ref a ∧ (SqL Γ.K H' a ys ∨ SqT Γ.K H' a ys) ∧ RelWs Γ ρ' H' xs ys := seq_of R' e (RelW.mono l _ _ r)
theorem isL_at {h : Hm} {x : W} {v : V} (R : Rel Γ ρ h H) (e : isL x h = true) (r : RelW Γ ρ H x v) : ∃ r0 a xs ys, x = .ref r0 ∧ v = .ref a ∧ ρ[r0]? = some a ∧ seqC x h = some xs ∧ SqL Γ.K H a ys ∧ RelWs Γ ρ H xs ys := by
  unfold isL at e
  split at e
  · rename_i r0
    obtain ⟨a, ea, rfl⟩ := rwR r
    split at e
    · rename_i xs ex
      obtain ⟨a', ys, e1, _, hy, rr⟩ := R.lst ex r
      cases e1
      exact ⟨r0, a, xs, ys, rfl, rfl, ea, by unfold seqC; simp only [ex], SqL.of hy, rr⟩
    · rename_i xs ex
      obtain ⟨a', ys, e1, hy, rr⟩ := R.frz ex r
      cases e1
      exact ⟨r0, a, xs, ys, rfl, rfl, ea, by unfold seqC; simp only [ex], hy, rr⟩
    · cases e
  · cases e
/-- a list's address stays a list's -/
theorem seqL_later {h : Hm} {r0 : Nat} {xs : List W} {ad : Addr} (R : Rel Γ ρ h H) (ea : ρ[r0]? = some ad) (e : seqC (.ref r0) h = some xs) : ∃ ys, SqL Γ.K H ad ys ∧ RelWs Γ ρ H xs ys := by
  unfold seqC at e
  dsimp only at e
  split at e
  · rename_i ex
    cases e
    obtain ⟨a', ys, e1, _, hy, rr⟩ := R.lst ex (iR ea)
    cases e1
    exact ⟨ys, SqL.of hy, rr⟩
  · rename_i ex
    cases e
    obtain ⟨a', ys, e1, hy, rr⟩ := R.frz ex (iR ea)
    cases e1
    exact ⟨ys, hy, rr⟩
  · cases e
theorem it_list {h : Hm} {r0 : Nat} {ad : Addr} (ea : ρ[r0]? = some ad) : ItR Γ ρ H (itSeq (.ref r0)) (Itl Γ.K ad) := by
  intro i ρ' h' H' l R'
  refine ⟨fun e => ?_, fun w e => ?_⟩
  · obtain ⟨xs, e1, e2⟩ := Option.map_eq_some_iff.mp e
    obtain ⟨ys, hy, rr⟩ := seqL_later R' (l.at ea) e1
    exact ⟨ys, hy, by rw [← rr.length]; exact List.getElem?_eq_none_iff.mp e2⟩
  · obtain ⟨xs, e1, e2⟩ := Option.map_eq_some_iff.mp e
    obtain ⟨ys, hy, rr⟩ := seqL_later R' (l.at ea) e1
    obtain ⟨v, e3, r3⟩ := rr.get e2
    refine ⟨⟨ys, v, hy, e3⟩, fun x H2 y => ?_⟩
    obtain ⟨rfl, y⟩ := y
    have := y ys hy
    rw [e3] at this
    cases this
    exact ⟨.refl, R', r3⟩
theorem it_tup {ys : List V} {xs : List W} {ad : Addr} (hy : SqT Γ.K H ad ys) (rr : RelWs Γ ρ H xs ys) : ItR Γ ρ H (itSeq (.tup xs)) (Itt Γ.K ad) := by
  intro i ρ' h' H' l R'
  have hy' := l.tup _ _ hy
  have rr' := RelWs.mono l _ _ rr
  refine ⟨fun e => ?_, fun w e => ?_⟩
  · obtain ⟨xs', e1, e2⟩ := Option.map_eq_some_iff.mp e
    cases e1
    exact ⟨ys, hy', by rw [← rr.length]; exact List.getElem?_eq_none_iff.mp e2⟩
  · obtain ⟨xs', e1, e2⟩ := Option.map_eq_some_iff.mp e
    cases e1
    obtain ⟨v, e3, r3⟩ := rr'.get e2
    refine ⟨⟨ys, v, hy', e3⟩, fun x H2 y => ?_⟩
    obtain ⟨rfl, y⟩ := y
    have := y ys hy'
    rw [e3] at this
    cases this
    exact ⟨.refl, R', r3⟩
theorem it_str {z : Str} : ItR Γ ρ H (itStr z) (Its z) := by
  intro i ρ' h' H' l R'
  refine ⟨fun e => ?_, fun w e => ?_⟩
  · have e : z.cps[i]?.map (fun c => W.str ⟨#[c]⟩) = none := Option.some.inj e
    have e : z.cps[i]? = none := by simpa using e
    exact Array.getElem?_eq_none_iff.mp e
  · have e : z.cps[i]?.map (fun c => W.str ⟨#[c]⟩) = some w := Option.some.inj e
    obtain ⟨cp, e1, rfl⟩ := Option.map_eq_some_iff.mp e
    refine ⟨(Array.getElem?_eq_some_iff.mp e1).1, fun x H2 y => ?_⟩
    obtain ⟨rfl, cp', e2, rfl⟩ := y
    rw [e1] at e2
    cases e2
    exact ⟨.refl, R', iS⟩
theorem it_rng {lo : Int} {n : Nat} : ItR Γ ρ H (itRng lo 1 n) (L2.Itr lo n) := by
  intro i ρ' h' H' l R'
  refine ⟨fun e => ?_, fun w e => ?_⟩
  · have e : (if i < n then some (W.int (lo + (i : Nat) * 1)) else none) = none := Option.some.inj e
    split at e
    · cases e
    · show n ≤ i
      omega
  · have e : (if i < n then some (W.int (lo + (i : Nat) * 1)) else none) = some w := Option.some.inj e
    split at e
    · rename_i hi
      cases e
      refine ⟨hi, fun x H2 y => ?_⟩
      obtain ⟨rfl, rfl⟩ := y
      rw [Int.mul_one]
      exact ⟨.refl, R', iI'⟩
    · cases e
theorem it_rngC {lo st : Int} {n : Nat} : ItR Γ ρ H (itRng lo st n) (Itc lo st n) := by
  intro i ρ' h' H' l R'
  refine ⟨fun e => ?_, fun w e => ?_⟩
  · have e : (if i < n then some (W.int (lo + (i : Nat) * st)) else none) = none := Option.some.inj e
    split at e
    · cases e
    · show n ≤ i
      omega
  · have e : (if i < n then some (W.int (lo + (i : Nat) * st)) else none) = some w := Option.some.inj e
    split at e
    · rename_i hi
      cases e
      refine ⟨hi, fun x H2 y => ?_⟩
      obtain ⟨rfl, rfl⟩ := y
      exact ⟨.refl, R', iI'⟩
    · cases e
theorem it_rev {r0 : Nat} {ad : Addr} {n : Nat} (ea : ρ[r0]? = some ad) : ItR Γ ρ H (itRev (.ref r0) n) (Itv Γ.K ad n) := by
  intro i ρ' h' H' l R'
  unfold itRev
  refine ⟨fun e => ?_, fun w e => ?_⟩
  · split at e
    · obtain ⟨xs, e1, e2⟩ := Option.bind_eq_some_iff.mp e
      obtain ⟨w, e3, e4⟩ := Option.map_eq_some_iff.mp e2
      cases e4
    · show n ≤ i
      omega
  · split at e
    · rename_i hi
      obtain ⟨xs, e1, e2⟩ := Option.bind_eq_some_iff.mp e
      obtain ⟨w', e3, e4⟩ := Option.map_eq_some_iff.mp e2
      cases e4
      obtain ⟨ys, hy, rr⟩ := seqL_later R' (l.at ea) e1
      obtain ⟨v, e5, r5⟩ := rr.get e3
      refine ⟨⟨hi, ys, v, hy, e5⟩, fun x H2 y => ?_⟩
      obtain ⟨rfl, y⟩ := y
      have := y ys hy
      rw [e5] at this
      cases this
      exact ⟨.refl, R', r5⟩
    · cases e
theorem it_zip {r0 r1 : Nat} {a0 a1 : Addr} (e0 : ρ[r0]? = some a0) (e1 : ρ[r1]? = some a1) : ItR Γ ρ H (itZip (.ref r0) (.ref r1)) (Itz Γ.K a0 a1) := by
  intro i ρ' h' H' l R'
  unfold itZip
  refine ⟨fun e => ?_, fun w e => ?_⟩
  · obtain ⟨xs, f1, f2⟩ := Option.bind_eq_some_iff.mp e
    obtain ⟨ys, f3, f4⟩ := Option.map_eq_some_iff.mp f2
    obtain ⟨vs, hx, rx⟩ := seqL_later R' (l.at e0) f1
    obtain ⟨us, hy, ry⟩ := seqL_later R' (l.at e1) f3
    refine ⟨vs, us, hx, hy, ?_⟩
    rw [← rx.length, ← ry.length]
    split at f4
    · cases f4
    · rename_i hne
      cases g1 : xs[i]? with
      | none => exact .inl (List.getElem?_eq_none_iff.mp g1)
      | some a =>
        cases g2 : ys[i]? with
        | none => exact .inr (List.getElem?_eq_none_iff.mp g2)
        | some b => exact (hne a b g1 g2).elim
  · obtain ⟨xs, f1, f2⟩ := Option.bind_eq_some_iff.mp e
    obtain ⟨ys, f3, f4⟩ := Option.map_eq_some_iff.mp f2
    obtain ⟨vs, hx, rx⟩ := seqL_later R' (l.at e0) f1
    obtain ⟨us, hy, ry⟩ := seqL_later R' (l.at e1) f3
    split at f4
    · rename_i a b g1 g2
      cases f4
      obtain ⟨v, h1, q1⟩ := rx.get g1
      obtain ⟨u, h2, q2⟩ := ry.get g2
      refine ⟨⟨vs, us, v, u, hx, hy, h1, h2⟩, fun x H2 y => ?_⟩
      obtain ⟨T, x1, y1, rfl, hT, rfl, y3, y4⟩ := y
      have z1 := y3 vs hx
      have z2 := y4 us hy
      rw [h1] at z1
      rw [h2] at z2
      cases z1
      cases z2
      exact R'.newT hT (RelWs.cons q1 (RelWs.cons q2 RelWs.nil))
    · cases f4
theorem it_enum {r0 : Nat} {a0 : Addr} (e0 : ρ[r0]? = some a0) : ItR Γ ρ H (itEnum (.ref r0)) (Ite Γ.K a0) := by
  intro i ρ' h' H' l R'
  unfold itEnum
  refine ⟨fun e => ?_, fun w e => ?_⟩
  · obtain ⟨xs, f1, f2⟩ := Option.map_eq_some_iff.mp e
    obtain ⟨vs, hx, rx⟩ := seqL_later R' (l.at e0) f1
    refine ⟨vs, hx, ?_⟩
    rw [← rx.length]
    have : xs[i]? = none := by simpa using f2
    exact List.getElem?_eq_none_iff.mp this
  · obtain ⟨xs, f1, f2⟩ := Option.map_eq_some_iff.mp e
    obtain ⟨vs, hx, rx⟩ := seqL_later R' (l.at e0) f1
    obtain ⟨a, g1, rfl⟩ := Option.map_eq_some_iff.mp f2
    obtain ⟨v, h1, q1⟩ := rx.get g1
    refine ⟨⟨vs, v, hx, h1⟩, fun x H2 y => ?_⟩
    obtain ⟨T, x1, rfl, hT, rfl, y3⟩ := y
    have z1 := y3 vs hx
    rw [h1] at z1
    cases z1
    exact R'.newT hT (RelWs.cons iI' (RelWs.cons q1 RelWs.nil))

/-- an expression that gives a list, a tuple or a text -/
theorem si_any (ha : SE Γ c k a fa) : SI Γ c k tg a (iAny fa) := by
  intro W X G
  refine ⟨fun pins s τ H R' I h => ?_⟩
  obtain ⟨ρ, σ, h, R, S, q⟩ := h
  refine thn ((ha W X G).run pins s τ H (fun v H1 => ∃ ρ1 h1 x, Rel Γ ρ1 h1 H1 ∧ RelW Γ ρ1 H1 x v ∧ O1 Γ (ItR Γ) ρ1 H1 (match x with
      | .str z => .ok (itStr z) h1
      | x => if (seqC x h1).isSome then .ok (itSeq x) h1 else .bad) R' (fun cls d H' => W cls d τ H')) I ⟨ρ, σ, h, R, S, (O1.bind (R := RelW Γ) q).imp fun x H1 ⟨ρ1, h1, u, l1, R1, r1, q1⟩ => ⟨ρ1, h1, u, R1, r1, q1⟩⟩) fun v s1 ⟨x, H1, I1, r1, ρ1, h1, u, R1, ru, q1⟩ => ?_
  split at q1
  · rename_i z
    have e := rwS ru
    subst e
    obtain ⟨t, rfl⟩ := r1
    have q2 := q1 ρ1 H1 (Its z) .refl R1 it_str
    cases ha : z.cps.all (· < 128)
    · exact wpAny_pyIter_wide ha (pi_one (tk := s1.toks) I1 _ (turn_str _ z t "str_iterator" (.inr rfl)) ⟨_, Heap.get?_push_size _ rfl, rfl, rfl⟩ q2)
    · exact wpAny_pyIter_ascii ha (pi_one (tk := s1.toks) I1 _ (turn_str _ z t "str_ascii_iterator" (.inl rfl)) ⟨_, Heap.get?_push_size _ rfl, rfl, rfl⟩ q2)
  · split at q1
    · rename_i hs
      have list : ∀ {r0 : Nat} {ad : Addr} {ys : List V}, u = .ref r0 → ρ1[r0]? = some ad → x = .ref ad → SqL Γ.K H1 ad ys → wpAny (model X.prog X.w) X.A (pyIter v) (PIE X pins τ tg R') X.xe s1 := fun {r0 ad ys} e1 e2 e3 hq => by
        subst e1 e3
        cases (show v = Value.ref ad from r1)
        have q2 := q1 ρ1 H1 (Itl Γ.K ad) .refl R1 (it_list (h := h1) e2)
        rw [← G.K] at hq q2
        obtain ⟨its, rv, p, hz⟩ := I1.list hq
        refine wpAny_pyIter_list p.isList ?_
        refine ⟨s1.heap.objs.size, [s1.heap.objs.size], _, _, H1, rfl, I1.kept (t' := s1.toks) fun b o e => Heap.get?_push_of_some _ e, turn_list ad _, ⟨_, Heap.get?_push_size _ rfl, rfl, rfl⟩, fun b hb => ?_, q2⟩
        have e : b = s1.heap.objs.size := by simpa using hb
        subst e
        exact I1.fpOk (Nat.le_refl _) (I1.hok.fresh (Nat.le_refl _))
      cases u with
      | tup xs =>
        obtain ⟨ad, ys, e3, hq, rr⟩ := rwT ru
        subst e3
        cases (show v = Value.ref ad from r1)
        have q2 := q1 ρ1 H1 (Itt Γ.K ad) .refl R1 (it_tup hq rr)
        rw [← G.K] at hq q2
        obtain ⟨its, rv, p, hz⟩ := I1.tuple hq
        refine wpAny_pyIter_tuple (show s1.heap.IsTuple ad its.toArray from p) ?_
        refine ⟨s1.heap.objs.size, [s1.heap.objs.size], _, _, H1, rfl, I1.kept (t' := s1.toks) fun b o e => Heap.get?_push_of_some _ e, turn_tuple ad _, ⟨_, Heap.get?_push_size _ rfl, rfl, rfl⟩, fun b hb => ?_, q2⟩
        have e : b = s1.heap.objs.size := by simpa using hb
        subst e
        exact I1.fpOk (Nat.le_refl _) (I1.hok.fresh (Nat.le_refl _))
      | ref r0 =>
        obtain ⟨ad, ea, e3⟩ := rwR ru
        cases e4 : seqC (.ref r0) h1 with
        | none => rw [e4] at hs; cases hs
        | some xs =>
          obtain ⟨ys, hq, _⟩ := seqL_later R1 ea e4
          exact list rfl ea e3 hq
      | _ => cases hs
    · exact q1.elim
theorem smallI_of {i : Int} (h : smallI i = true) : -(2 ^ 62) ≤ i ∧ i < 2 ^ 62 := of_decide_eq_true h
theorem si_rng1 (j : Nat) (B : Bs Γ) (ha : SA Γ c k [a] fr) (hG : c.G[j]? = some ("range" : Str) := by rfl) (hs : ∀ env, starEach [a] env = [(false, eval a env)] := by intros; rfl) : SI Γ c k tg (.Call (.Name "range" p) [a] [] pos) (iRng1 fr) := by
  intro W X G
  refine PI.imp (pi_range1 (G.gl (List.mem_of_getElem? hG)) (by rw [G.mg]; exact B.range) (ha W X G) (hs X.env)) fun τ H Q h => ?_
  obtain ⟨ρ, σ, h, R, S, q⟩ := h
  refine ⟨ρ, σ, h, R, S, (O1.bind (R := RelWs Γ) q).imp fun x H1 ⟨ρ1, h1, u, l1, R1, r1, q1⟩ => ?_⟩
  split at q1
  · split at q1
    · rename_i hl
      obtain ⟨v, rfl, r2⟩ := rws1 r1
      obtain ⟨b1, b2⟩ := smallI_of hl
      exact ⟨_, by rw [rwI r2], b1, b2, q1 ρ1 H1 _ .refl R1 it_rng⟩
    · exact q1.elim
  · exact q1.elim
theorem si_rng2 (j : Nat) (B : Bs Γ) (ha : SA Γ c k [a, b] fr) (hG : c.G[j]? = some ("range" : Str) := by rfl) (hs : ∀ env, starEach [a, b] env = [(false, eval a env), (false, eval b env)] := by intros; rfl) (hs2 : ∀ env, starEach [b] env = [(false, eval b env)] := by intros; rfl) : SI Γ c k tg (.Call (.Name "range" p) [a, b] [] pos) (iRng2 fr) := by
  intro W X G
  refine PI.imp (pi_range2 (G.gl (List.mem_of_getElem? hG)) (by rw [G.mg]; exact B.range) (ha W X G) (hs X.env) (hs2 X.env)) fun τ H Q h => ?_
  obtain ⟨ρ, σ, h, R, S, q⟩ := h
  refine ⟨ρ, σ, h, R, S, (O1.bind (R := RelWs Γ) q).imp fun x H1 ⟨ρ1, h1, u, l1, R1, r1, q1⟩ => ?_⟩
  split at q1
  · split at q1
    · rename_i hl
      obtain ⟨v, v', rfl, r2, r3⟩ := rws2 r1
      rw [Bool.and_eq_true] at hl
      obtain ⟨b1, b2⟩ := smallI_of hl.1
      obtain ⟨b3, b4⟩ := smallI_of hl.2
      exact ⟨_, _, by rw [rwI r2, rwI r3], ⟨b1, b2, b3, b4⟩, q1 ρ1 H1 _ .refl R1 it_rng⟩
    · exact q1.elim
  · exact q1.elim
theorem rws3 {w w' w'' : W} {vs : List V} (r : RelWs Γ ρ H [w, w', w''] vs) : ∃ v v' v'', vs = [v, v', v''] ∧ RelW Γ ρ H w v ∧ RelW Γ ρ H w' v' ∧ RelW Γ ρ H w'' v'' := by
  unfold RelWs at r
  obtain ⟨y, r', rfl, h1, h2⟩ := r
  obtain ⟨v', v'', rfl, h3, h4⟩ := rws2 h2
  exact ⟨y, v', v'', rfl, h1, h3, h4⟩
theorem si_rng3 (j : Nat) (B : Bs Γ) (ha : SA Γ c k [a, b, d] fr) (hG : c.G[j]? = some ("range" : Str) := by rfl) (h0 : ∀ env, starEach [a, b, d] env = (false, eval a env) :: starEach [b, d] env := by intros; rfl) (h1 : ∀ env, (backTo pos (starEach [b, d] env)).any (·.1) = false := by intros; rfl) : SI Γ c k tg (.Call (.Name "range" p) [a, b, d] [] pos) (iRng3 fr) := by
  intro W X G
  refine PI.imp (pi_range3 (G.gl (List.mem_of_getElem? hG)) (by rw [G.mg]; exact B.range) (ha W X G) (h0 X.env) (h1 X.env)) fun τ H Q h => ?_
  obtain ⟨ρ, σ, h, R, S, q⟩ := h
  refine ⟨ρ, σ, h, R, S, (O1.bind (R := RelWs Γ) q).imp fun x H1 ⟨ρ1, h1, u, l1, R1, r1, q1⟩ => ?_⟩
  split at q1
  · split at q1
    · rename_i hl
      obtain ⟨v, v', v'', rfl, r2, r3, r4⟩ := rws3 r1
      exact ⟨_, _, _, _, by rw [rwI r2, rwI r3, rwI r4], ⟨hl.1, hl.2.1, hl.2.2.1, (Int.toNat_of_nonneg hl.2.2.2).symm⟩, q1 ρ1 H1 _ .refl R1 it_rngC⟩
    · exact q1.elim
  · exact q1.elim
theorem si_rev (j : Nat) (B : Bs Γ) (ha : SE Γ c k a fa) (hG : c.G[j]? = some ("reversed" : Str) := by rfl) (hs : ∀ env, starEach [a] env = (false, eval a env) :: starEach [] env := by intros; rfl) : SI Γ c k tg (.Call (.Name "reversed" p) [a] [] pos) (iRev fa) := by
  intro W X G
  refine PI.imp (RT.pi_revA (G.gl (List.mem_of_getElem? hG)) (by rw [G.mg]; exact B.reversed) (ha W X G) (hs X.env)) fun τ H Q h => ?_
  obtain ⟨ρ, σ, h, R, S, q⟩ := h
  refine ⟨ρ, σ, h, R, S, (O1.bind (R := RelW Γ) q).imp fun x H1 ⟨ρ1, h1, u, l1, R1, r1, q1⟩ => ?_⟩
  rw [G.K]
  split at q1
  · rename_i xs e1
    cases u with
    | ref r0 =>
      obtain ⟨ad, ea, rfl⟩ := rwR r1
      obtain ⟨ys, hy, rr⟩ := seqL_later R1 ea e1
      exact ⟨ad, ys, rfl, .inl ⟨hy, by rw [← rr.length]; exact q1 ρ1 H1 _ .refl R1 (it_rev ea)⟩⟩
    | tup zs =>
      cases e1
      obtain ⟨ad, ys, rfl, hy, rr⟩ := rwT r1
      refine ⟨ad, ys, rfl, .inr ⟨hy, q1 ρ1 H1 _ .refl R1 ?_⟩⟩
      intro i ρ' h' H' l R'
      have hy' := l.tup _ _ hy
      have rr' := RelWs.mono l _ _ rr
      unfold itRev
      refine ⟨fun e => ?_, fun w e => ?_⟩
      · split at e
        · obtain ⟨xs, e1, e2⟩ := Option.bind_eq_some_iff.mp e
          obtain ⟨w, e3, e4⟩ := Option.map_eq_some_iff.mp e2
          cases e4
        · show ys.length ≤ i
          rw [← rr.length]
          omega
      · split at e
        · rename_i hi
          obtain ⟨xs, e1, e2⟩ := Option.bind_eq_some_iff.mp e
          obtain ⟨w', e3, e4⟩ := Option.map_eq_some_iff.mp e2
          cases e4
          cases e1
          obtain ⟨v, e5, r5⟩ := rr'.get e3
          rw [rr.length] at e5
          refine ⟨⟨by rw [← rr.length]; exact hi, ys, v, hy', e5⟩, fun x H2 y => ?_⟩
          obtain ⟨rfl, y⟩ := y
          have := y ys hy'
          rw [e5] at this
          cases this
          exact ⟨.refl, R', r5⟩
        · cases e
    | _ => cases e1
  · exact q1.elim
theorem si_zip (j : Nat) (B : Bs Γ) {elts : List Expr} {kk : Nat} {tpos : Pos} (ha : SA Γ c k [a, b] fr) (hG : c.G[j]? = some ("zip" : Str) := by rfl) (hs : ∀ env, starEach [a, b] env = (false, eval a env) :: starEach [b] env := by intros; rfl) (hpl : ∀ env, (backTo pos (starEach [b] env)).any (·.1) = false := by intros; rfl) :
    SI Γ c k (.Tuple elts kk tpos) (.Call (.Name "zip" p) [a, b] [] pos) (iZip fr) := by
  intro W X G
  refine PI.imp (pi_zip (G.gl (List.mem_of_getElem? hG)) (by rw [G.mg]; exact B.zip) (ha W X G) (hs X.env) (hpl X.env)) fun τ H Q h => ?_
  obtain ⟨ρ, σ, h, R, S, q⟩ := h
  refine ⟨ρ, σ, h, R, S, (O1.bind (R := RelWs Γ) q).imp fun x H1 ⟨ρ1, h1, u, l1, R1, r1, q1⟩ => ?_⟩
  rw [G.K]
  split at q1
  · split at q1
    · rename_i hl
      rw [Bool.and_eq_true] at hl
      obtain ⟨v, v', rfl, r2, r3⟩ := rws2 r1
      obtain ⟨i0, a0, xs, ys, rfl, rfl, e0, _, hq0, _⟩ := isL_at R1 hl.1 r2
      obtain ⟨i1, a1, xs1, ys1, rfl, rfl, e1, _, hq1, _⟩ := isL_at R1 hl.2 r3
      exact ⟨a0, a1, ys, ys1, rfl, hq0, hq1, q1 ρ1 H1 _ .refl R1 (it_zip e0 e1)⟩
    · exact q1.elim
  · exact q1.elim
theorem si_enum (j : Nat) (B : Bs Γ) {elts : List Expr} {kk : Nat} {tpos : Pos} (ha : SA Γ c k [a] fr) (hG : c.G[j]? = some ("enumerate" : Str) := by rfl) (hs : ∀ env, starEach [a] env = [(false, eval a env)] := by intros; rfl) :
    SI Γ c k (.Tuple elts kk tpos) (.Call (.Name "enumerate" p) [a] [] pos) (iEnum fr) := by
  intro W X G
  refine PI.imp (pi_enum (G.gl (List.mem_of_getElem? hG)) (by rw [G.mg]; exact B.enumerate) (ha W X G) (hs X.env)) fun τ H Q h => ?_
  obtain ⟨ρ, σ, h, R, S, q⟩ := h
  refine ⟨ρ, σ, h, R, S, (O1.bind (R := RelWs Γ) q).imp fun x H1 ⟨ρ1, h1, u, l1, R1, r1, q1⟩ => ?_⟩
  rw [G.K]
  split at q1
  · split at q1
    · rename_i hl
      obtain ⟨v, rfl, r2⟩ := rws1 r1
      obtain ⟨i0, a0, xs, ys, rfl, rfl, e0, _, hq0, _⟩ := isL_at R1 hl r2
      exact ⟨a0, ys, rfl, hq0, q1 ρ1 H1 _ .refl R1 (it_enum e0)⟩
    · exact q1.elim
  · exact q1.elim
end
end Z

namespace Z
open PySem PySem.Spec PyProof.Rows L2

/-! ### methods of built-in types -/
def rM (Γ : Gam) (g : W → List W → Hm → Pr) : V → List V → Hp → VK → Prop := fun x xs H Q => ∃ ρ h u us u' h', Rel Γ ρ h H ∧ RelW Γ ρ H u x ∧ RelWs Γ ρ H us xs ∧ g u us h = some (u', h') ∧ ∀ ρ' H' v, Le Γ ρ ρ' H H' → Rel Γ ρ' h' H' → RelW Γ ρ' H' u' v → Q v H'
def MtS (Γ : Gam) (c : Cfg) (k : Nat) (id : String) (g : W → List W → Hm → Pr) : Prop := ∀ W X, Good Γ c k W X → MtR X id (rM Γ g)
def isS (x : W) (_ : Hm) : Bool := match x with
  | .str _ => true
  | _ => false
def xMeth (t : W → Hm → Bool) (g : W → List W → Hm → Pr) (o : XE) (a : XA) : XE := fun σ h => (o σ h).bind fun x h1 => if t x h1 then (a σ h1).bind fun xs h2 => ofO (g x xs h2) else .bad
def appW (x : W) (xs : List W) (h : Hm) : Pr := match x, xs with
  | .ref r, [y] => match h[r]? with
    | some (.lst zs) => if zs.length < 16777216 then some (.non, h.set r (.lst (zs ++ [y]))) else none
    | _ => none
  | _, _ => none
def extW (x : W) (xs : List W) (h : Hm) : Pr := match x, xs with
  | .ref r, [.ref s] => match h[r]?, h[s]? with
    | some (.lst zs), some (.lst ys) => if zs.length + ys.length ≤ 16777216 then some (.non, h.set r (.lst (zs ++ ys))) else none
    | _, _ => none
  | _, _ => none
def strs? : List W → Option (List Str)
  | [] => some []
  | .str x :: r => (strs? r).map fun l => x :: l
  | _ :: _ => none
def joinW (x : W) (xs : List W) (h : Hm) : Pr := match x, xs with
  | .str a, [y] => (seqC y h).bind fun ys => (strs? ys).bind fun zs => if (zs.map (·.length)).sum + zs.length * a.length ≤ 16777216 then some (.str (Txt.join a zs), h) else none
  | _, _ => none
section
variable {Γ : Gam} {c : Cfg} {k : Nat} {a b e d o i tg : Expr} {es : List Expr} {fa fb fc : XE} {ft fu : XT} {fr : XA} {pos p : Pos} {ρ : List Addr} {H : Hp}
theorem ms_append : MtS Γ c k "list.append" appW := by
  intro W X G pins s σ H x xs v us Q I rx rxs h
  obtain ⟨ρ, hm, u, ws, u', h', R, ru, rws, e, q⟩ := h
  unfold appW at e
  split at e
  · split at e
    · rename_i ex
      split at e
      · rename_i hl
        cases e
        obtain ⟨y, rfl, ry⟩ := rws1 rws
        obtain ⟨l, ys, rfl, ea, hy, r1⟩ := R.lst ex ru
        refine mt_append pins s σ H _ _ v us Q I rx rxs ⟨l, ys, y, rfl, rfl, hy, by rw [sizeLine_eq, ← r1.length]; exact hl, ?_⟩
        obtain ⟨q1, q2⟩ := R.setL ex ea hy (r1.append (RelWs.cons ry RelWs.nil))
        exact q _ _ _ q1 q2 iN
      · cases e
    · cases e
  · cases e
theorem ms_extend : MtS Γ c k "list.extend" extW := by
  intro W X G pins s σ H x xs v us Q I rx rxs h
  obtain ⟨ρ, hm, u, ws, u', h', R, ru, rws, e, q⟩ := h
  unfold extW at e
  split at e
  · split at e
    · rename_i ex ey
      split at e
      · rename_i hl
        cases e
        obtain ⟨y, rfl, ry⟩ := rws1 rws
        obtain ⟨l, ys, rfl, ea, hy, r1⟩ := R.lst ex ru
        obtain ⟨l2, zs, rfl, _, hz, r2⟩ := R.lst ey ry
        refine mt_extend pins s σ H _ _ v us Q I rx rxs ⟨l, l2, ys, zs, rfl, rfl, hy, hz, by rw [sizeLine_eq, ← r1.length, ← r2.length]; exact hl, ?_⟩
        obtain ⟨q1, q2⟩ := R.setL ex ea hy (r1.append r2)
        exact q _ _ _ q1 q2 iN
      · cases e
    · cases e
  · cases e
theorem strs_of : ∀ {ws : List W} {zs : List Str} {vs : List V}, strs? ws = some zs → RelWs Γ ρ H ws vs → vs = zs.map V.str
  | [], zs, vs, e, r => by
    unfold RelWs at r
    subst r
    cases e
    rfl
  | w :: ws, zs, vs, e, r => by
    unfold RelWs at r
    obtain ⟨y, r', rfl, r1, r2⟩ := r
    cases w with
    | str x =>
      unfold strs? at e
      obtain ⟨l, e1, rfl⟩ := Option.map_eq_some_iff.mp e
      rw [rwS r1, strs_of e1 r2]
      rfl
    | _ => cases e
theorem ms_join : MtS Γ c k "str.join" joinW := by
  intro W X G pins s σ H x xs v us Q I rx rxs h
  obtain ⟨ρ, hm, u, ws, u', h', R, ru, rws, e, q⟩ := h
  unfold joinW at e
  split at e
  · obtain ⟨ys, e1, e2⟩ := Option.bind_eq_some_iff.mp e
    obtain ⟨zs, e3, e4⟩ := Option.bind_eq_some_iff.mp e2
    split at e4
    · rename_i hl
      cases e4
      obtain ⟨y, rfl, ry⟩ := rws1 rws
      obtain ⟨p, vs, rfl, hs, rr⟩ := seq_of R e1 ry
      have e5 := strs_of e3 rr
      subst e5
      exact mt_join pins s σ H _ _ v us Q I rx rxs ⟨_, p, zs, rwS ru, rfl, by rw [G.K]; exact hs, hl, q ρ H _ .refl R iS⟩
    · cases e4
  · cases e
theorem isL_ty {h : Hm} {x : W} {v : V} (R : Rel Γ ρ h H) (e : isL x h = true) (r : RelW Γ ρ H x v) : tyV Γ.K "list" v H := by
  obtain ⟨r0, a, xs, ys, rfl, rfl, _, _, hq, _⟩ := isL_at R e r
  exact .inl ⟨rfl, ys, hq⟩
theorem isS_ty {h : Hm} {x : W} {v : V} (R : Rel Γ ρ h H) (e : isS x h = true) (r : RelW Γ ρ H x v) : tyV Γ.K "str" v H := by
  cases x with
  | str z => rw [rwS r]; rfl
  | _ => cases e
theorem se_bm {name : Str} {apos cpos : Pos} {T id : String} {t : W → Hm → Bool} {g : W → List W → Hm → Pr} (pa : PlainAttrs T) (slot : Slot T name id) (hty : typeOf (.builtin id) = pure (.type "method_descriptor")) (hm : MtS Γ c k id g)
    (ht : ∀ {ρ : List Addr} {H : Hp} {h : Hm} {x : W} {v : V}, Rel Γ ρ h H → t x h = true → RelW Γ ρ H x v → tyV Γ.K T v H) (ho : SE Γ c k o fa) (ha : SA Γ c k (e :: es) fr)
    (hbase : ∀ env, attributeBase o name env (eval o env) = eval o env := by intros; rfl)
    (hfew : ∀ env, ((backTo cpos (starEach (e :: es) env)).all (fun x => !x.1) && (backToKw cpos (keywordEach [] env)).all (fun x => x.1.isSome)
      && decide ((e :: es).length + ([] : List Keyword).length + (if ([] : List Keyword).isEmpty then 0 else 1) < 30)) = true := by intros; rfl)
    (hline : (apos.endLine == cpos.line) = true := by rfl) (hs : ∀ env, starEach (e :: es) env = (false, eval e env) :: starEach es env := by intros; rfl) (hplain : ∀ env, (backTo cpos (starEach es env)).any (·.1) = false := by intros; rfl) :
    SE Γ c k (.Call (.Attribute o name apos) (e :: es) [] cpos) (xMeth t g fa fr) := by
  intro W X G
  refine PE.imp (pe_bm pa slot hty (hm W X G) (ho W X G) (ha W X G) (hbase X.env) (hfew X.env) hline (hs X.env) (hplain X.env)) fun τ H Q h => ?_
  obtain ⟨ρ, σ, h, R, S, q⟩ := h
  refine ⟨ρ, σ, h, R, S, (O1.bind (R := RelW Γ) q).imp fun v H1 ⟨ρ1, h1, u, l1, R1, r1, q1⟩ => ?_⟩
  split at q1
  · rename_i et
    refine ⟨by rw [G.K]; exact ht R1 et r1, ρ1, σ, h1, R1, S.mono l1, (O1.bind (R := RelWs Γ) q1).imp fun vs H2 ⟨ρ2, h2, us, l2, R2, r2, q2⟩ => ?_⟩
    obtain ⟨u', h', e, q3⟩ := q2.ofO
    exact ⟨ρ2, h2, u, us, u', h', R2, RelW.mono l2 _ _ r1, r2, e, q3⟩
  · exact q1.elim
/-- o.bit_length() -/
def bitsW (x : W) (h : Hm) : Pr := match x with
  | .int i => some (.int (Builtin.Int.intBits i : Nat), h)
  | _ => none
theorem se_bits {apos : Pos} (ho : SE Γ c k o fa) (hbase : ∀ env, attributeBase o "bit_length" env (eval o env) = eval o env := by intros; rfl) (hline : (apos.endLine == pos.line) = true := by rfl) : SE Γ c k (.Call (.Attribute o "bit_length" apos) [] [] pos) (xUn bitsW fa) := by
  intro W X G
  refine PE.imp (pe_bits (ho W X G) (hbase X.env) hline) fun τ H Q h => ?_
  obtain ⟨ρ, σ, h, R, S, q⟩ := h
  refine ⟨ρ, σ, h, R, S, (O1.bind (R := RelW Γ) q).imp fun v H1 ⟨ρ1, h1, u, l1, R1, r1, q1⟩ => ?_⟩
  obtain ⟨u', h', e, q3⟩ := q1.ofO
  unfold bitsW at e
  split at e
  · cases e
    exact ⟨_, rwI r1, q3 ρ1 H1 _ .refl R1 iI'⟩
  · cases e
end

/-! ### list comprehensions -/
def wipeS (σ : Sg) : List Nat → Sg
  | [] => σ
  | v :: vs => (wipeS σ vs).set v none
def compL (it : Z.Itr) (g : XG) (t : XT) (e : XE) (d : Nat) (σ0 : Sg) : Nat → Nat → Hm → Out W
  | 0, _, _ => .bad
  | n + 1, i, h => match it i h with
    | none => .bad
    | some none => .ok (.ref d) h
    | some (some w) => match g w σ0 h with
      | none => .bad
      | some σ1 => match t σ1 h with
        | .ok true h1 => match e σ1 h1 with
          | .ok y h2 => match h2[d]? with
            | some (.lst acc) => if acc.length < 16777216 then compL it g t e d σ0 n (i + 1) (h2.set d (.lst (acc ++ [y]))) else .bad
            | _ => .bad
          | _ => .bad
        | .ok false h1 => compL it g t e d σ0 n (i + 1) h1
        | _ => .bad
def xComp (fi : XI) (g : XG) (t : XT) (e : XE) (own : List Nat) : XE := fun σ h => (fi σ h).bind fun it h1 => compL it g t e h1.length (wipeS σ own) fuel 0 (h1 ++ [.lst []])
def xTrue : XT := fun _ h => .ok true h
section
variable {Γ : Gam} {c c' : Cfg} {k : Nat} {a b e d o i tg iter : Expr} {es ifs : List Expr} {fa fb fc : XE} {ft fu : XT} {fr : XA} {pos p : Pos} {ρ : List Addr} {H : Hp}
theorem wipe_get (τ : L2.St) (j : Nat) : ∀ vs : List Nat, (wipe τ vs)[j]? = if j ∈ vs ∧ j < τ.length then some none else τ[j]?
  | [] => by simp [wipe]
  | v :: vs => by
    unfold wipe
    rw [List.getElem?_set, wipe_get τ j vs, wipe_length]
    by_cases hv : v = j
    · subst hv
      by_cases hl : v < τ.length <;> simp [hl]
    · simp [hv, Ne.symm hv]
theorem wipeS_get (τ : Sg) (j : Nat) : ∀ vs : List Nat, (wipeS τ vs)[j]? = if j ∈ vs ∧ j < τ.length then some none else τ[j]?
  | [] => by simp [wipeS]
  | v :: vs => by
    unfold wipeS
    have hl : (wipeS τ vs).length = τ.length := by
      clear wipeS_get
      induction vs with
      | nil => rfl
      | cons x xs ih => unfold wipeS; rw [List.length_set, ih]
    rw [List.getElem?_set, wipeS_get τ j vs, hl]
    by_cases hv : v = j
    · subst hv
      by_cases hl : v < τ.length <;> simp [hl]
    · simp [hv, Ne.symm hv]
theorem wipe_set {τ : L2.St} {vs : List Nat} {i : Nat} {x : Option V} (h : i ∈ vs) : wipe (τ.set i x) vs = wipe τ vs := by
  apply List.ext_getElem?
  intro j
  rw [wipe_get, wipe_get, List.length_set, List.getElem?_set]
  by_cases hj : j ∈ vs ∧ j < τ.length
  · rw [if_pos hj, if_pos hj]
  · rw [if_neg hj, if_neg hj]
    by_cases hi : i = j
    · subst hi
      have : ¬ i < τ.length := fun z => hj ⟨h, z⟩
      simp [this]
    · simp [hi]
theorem wipe_wipe (τ : L2.St) (vs : List Nat) : wipe (wipe τ vs) vs = wipe τ vs := by
  apply List.ext_getElem?
  intro j
  rw [wipe_get, wipe_get, wipe_length]
  by_cases hj : j ∈ vs ∧ j < τ.length
  · rw [if_pos hj, if_pos hj]
  · rw [if_neg hj, if_neg hj]
theorem RelS.wipe {σ : Sg} {τ : L2.St} (S : RelS Γ ρ H σ τ) (vs : List Nat) : RelS Γ ρ H (wipeS σ vs) (L2.wipe τ vs) := by
  have hl : ∀ vs : List Nat, (wipeS σ vs).length = σ.length := fun vs => by
    induction vs with
    | nil => rfl
    | cons x xs ih => unfold wipeS; rw [List.length_set, ih]
  refine ⟨by rw [hl, wipe_length]; exact S.1, fun j w e => ?_⟩
  rw [wipeS_get] at e
  split at e
  · cases e
  · rename_i hn
    obtain ⟨v, e1, r1⟩ := S.2 j w e
    refine ⟨v, ?_, r1⟩
    rw [wipe_get, if_neg (by rw [← S.1]; exact hn)]
    exact e1
/-- targets of a comprehension: names of its own -/
def gIo (Γ : Gam) (own : List Nat) (g : XG) : TG := fun v τ H Q => ∃ ρ σ h w σ', Rel Γ ρ h H ∧ RelS Γ ρ H σ τ ∧ RelW Γ ρ H w v ∧ g w σ h = some σ' ∧ ∀ τ', RelS Γ ρ H σ' τ' → wipe τ' own = wipe τ own → Q τ' H
def gIso (Γ : Gam) (own : List Nat) (g : XGs) : TGs := fun v τ H Q => ∃ ρ σ h w σ', Rel Γ ρ h H ∧ RelS Γ ρ H σ τ ∧ RelWs Γ ρ H w v ∧ g w σ h = some σ' ∧ ∀ τ', RelS Γ ρ H σ' τ' → wipe τ' own = wipe τ own → Q τ' H
def SGo (Γ : Gam) (c : Cfg) (k : Nat) (own : List Nat) (e : Expr) (g : XG) : Prop := ∀ W X, Good Γ c k W X → PG X e (gIo Γ own g)
def SGso (Γ : Gam) (c : Cfg) (k : Nat) (own : List Nat) (es : List Expr) (g : XGs) : Prop := ∀ W X, Good Γ c k W X → PGs X es (gIso Γ own g)
theorem so_name (i j : Nat) {own : List Nat} {x : Str} (hN : c.N[i]? = some x := by rfl) (hL : c.L[j]? = some x := by rfl) (ho : i ∈ own := by decide) : SGo Γ c k own (.Name x pos) (gN i) := by
  intro W X G
  obtain ⟨h1, h2⟩ := G.loc (List.mem_of_getElem? hL)
  refine ⟨fun pins s τ H v u Q I r h => (pg_name (i := i) G.nd (by rw [G.N]; exact hN) h1 h2).run pins s τ H v u Q I r ?_⟩
  obtain ⟨ρ, σ, h, w, σ', R, S, rw', e, q⟩ := h
  cases e
  exact q _ (S.set rw') (wipe_set ho)
theorem sos_nil {own : List Nat} : SGso Γ c k own [] gsNil := by
  intro W X G
  refine ⟨fun pins s τ H v u Q I r h => pgs_nil.run pins s τ H v u Q I r ?_⟩
  obtain ⟨ρ, σ, h, w, σ', R, S, rw', e, q⟩ := h
  cases w with
  | nil =>
    cases e
    unfold RelWs at rw'
    exact ⟨rw', q _ S rfl⟩
  | cons _ _ => cases e
theorem sos_cons {own : List Nat} {g : XG} {r : XGs} (h1 : SGo Γ c k own e g) (h2 : SGso Γ c k own es r) (hs : ∀ env, (assignEach (e :: es) env).map (·.2) = assign e env :: (assignEach es env).map (·.2) := by intros; rfl) : SGso Γ c k own (e :: es) (gsCons g r) := by
  intro W X G
  refine ⟨fun pins s τ H v u Q I r h => (pgs_cons (h1 W X G) (h2 W X G) (hs X.env)).run pins s τ H v u Q I r ?_⟩
  obtain ⟨ρ, σ, h, w, σ', R, S, rw', e, q⟩ := h
  cases w with
  | nil => cases e
  | cons w ws =>
    unfold RelWs at rw'
    obtain ⟨y, r', e', q1, q2⟩ := rw'
    unfold gsCons at e
    dsimp only at e
    split at e
    · rename_i σ1 e1
      exact ⟨y, r', e', ρ, σ, h, w, σ1, R, S, q1, e1, fun τ1 S1 z1 => ⟨ρ, σ1, h, ws, σ', R, S1, q2, e, fun τ' S' z' => q τ' S' (z'.trans z1)⟩⟩
    · cases e
theorem so_tup {own : List Nat} {n : Nat} {kk : Nat} {g : XGs} (h : SGso Γ c k own es g) (hg : ∀ ws σ h, (g ws σ h).isSome = true → ws.length = n) (hc : c.calm = true := by rfl)
    (hn : ∀ env, (assignEach es env).length = n := by intros; rfl) (hst : ∀ env, (assignEach es env).findIdx? (·.1) = none := by intros; rfl) : SGo Γ c k own (.Tuple es kk pos) (gT g) := by
  intro W X G
  have hC : X.calm = true := G.calm.trans hc
  refine ⟨fun pins s τ H v u Q I r hh => ?_⟩
  obtain ⟨ρ, σ, hm, w, σ', R, S, rw', e, q⟩ := hh
  cases w with
  | tup xs =>
    unfold RelW at rw'
    obtain ⟨a, ys, ev, ht, rr⟩ := rw'
    have e : g xs σ hm = some σ' := e
    refine (pg_tup (n := n) hC (h W X G) (hn X.env) (hst X.env)).run pins s τ H v u Q I r ⟨a, ys, ev, by rw [G.K]; exact ht, ?_, ρ, σ, hm, xs, σ', R, S, rr, e, q⟩
    rw [← rr.length]
    exact hg xs σ hm (by rw [e]; rfl)
  | ref r0 =>
    unfold RelW at rw'
    obtain ⟨a, ea, ev⟩ := rw'
    unfold gT at e
    dsimp only at e
    split at e
    · rename_i xs ex
      obtain ⟨a', ea', ys, hy, rr⟩ := R.obj r0 _ ex
      rw [ea] at ea'
      cases ea'
      refine (pg_lst (n := n) hC (h W X G) (hn X.env) (hst X.env)).run pins s τ H v u Q I r ⟨a, ys, ev, SqL.of hy, ?_, ρ, σ, hm, xs, σ', R, S, rr, e, q⟩
      rw [← rr.length]
      exact hg xs σ hm (by rw [e]; rfl)
    · cases e
  | _ => cases e
/-- a clause's tests -/
def STs (Γ : Gam) (c : Cfg) (k : Nat) (ifs : List Expr) (f : XT) : Prop := ∀ W X, Good Γ c k W X → PTs X ifs (tIT Γ W f)
theorem sts_nil : STs Γ c k [] xTrue := by
  intro W X G
  refine ⟨fun pins s τ H Q I h => pts_nil.run pins s τ H Q I ?_⟩
  obtain ⟨ρ, σ, h, R, S, q⟩ := h
  exact q ρ H true .refl R rfl
theorem sts_one (h : ST Γ c k e ft) : STs Γ c k [e] ft := fun W X G => pts_one (h W X G)
theorem Good.blk {W : WX} {X : Cx} {scope : Scope} {own : List (Str × Nat)} (G : Good Γ c k W X) (hN : c'.N = c.N) (hs : c'.sc = relS scope c.sc) (hf : c'.fa = false) (hk : c'.calm = c.calm) (ok : CfgOk c') (s : Shared) (H : Hp) (C : Addr) (cl : List (Str × Addr)) (fp : List Addr) :
    Good Γ c' k (fun _ _ _ _ => False) (X.blk s H scope (compEnvC scope cl C X.env) fp) :=
  ⟨G.prog, G.w, G.K, G.mg, G.base, by rw [hN]; exact G.N, (by show relS scope X.env.scope = _; rw [G.sc, hs]), ok, (fun z => by rw [hf] at z; cases z), (by show X.calm = _; rw [hk]; exact G.calm), fun z => G.room (by rw [← hk]; exact z), takes0, PassesOwn.never, (fun z => by rw [hf] at z; cases z)⟩
theorem lc_read {W : WX} {own : List Nat} {fi : XI} {g : XG} {t : XT} {el : XE} {τ : L2.St} {H : Hp} {Q : VK} (h : tI Γ W (xComp fi g t el own) τ H Q) :
    tLc (iI Γ W fi) (gIo Γ own g) (tIT Γ (fun _ _ _ _ => False) t) (tI Γ (fun _ _ _ _ => False) el) own τ H Q := by
  obtain ⟨ρ, σ, h, R, S, q⟩ := h
  refine ⟨ρ, σ, h, R, S, (O1.bind (R := ItR Γ) q).imp fun J H1 ⟨ρ1, h1, it, l1, R1, r1, q1⟩ => ?_⟩
  intro D hD
  obtain ⟨q2, q3, q4⟩ := R1.newL hD (RelWs.nil (Γ := Γ) (ρ := ρ1) (H := H1))
  refine ⟨fun i m H => ∃ ρ h, Le Γ ρ1 ρ H1 H ∧ Rel Γ ρ h H ∧ ρ[h1.length]? = some D ∧ O1 Γ (RelW Γ) ρ H (compL it g t el h1.length (wipeS σ own) m i h) Q (fun cls d H' => W cls d τ H'), ⟨fuel, _, _, q2, q3, ?_, O1.mono q2 q1⟩, ?_⟩
  · rw [← R1.len]; simp
  rintro i m H ⟨ρ2, h2, l2, R2, eD, qq⟩
  cases m with
  | zero => exact qq.elim
  | succ m =>
    obtain ⟨s1, s2⟩ := r1 i ρ2 h2 H l2 R2
    unfold compL at qq
    split at qq
    · exact qq.elim
    · rename_i e1
      exact .inl ⟨s1 e1, qq ρ2 H _ .refl R2 (iR eD)⟩
    · rename_i w e1
      obtain ⟨go, yl⟩ := s2 w e1
      split at qq
      · exact qq.elim
      · rename_i σ1 e2
        refine .inr ⟨go, fun H => ∃ ρ h, Le Γ ρ1 ρ H1 H ∧ Rel Γ ρ h H ∧ ρ[h1.length]? = some D ∧ O1 Γ (RelW Γ) ρ H (compL it g t el h1.length (wipeS σ own) m (i + 1) h) Q (fun cls d H' => W cls d τ H'), fun H' hh => ⟨m, Nat.lt_succ_self _, hh⟩, fun x H' y => ?_⟩
        obtain ⟨l3, R3, rw'⟩ := yl x H' y
        have S3 : RelS Γ ρ2 H' (wipeS σ own) (wipe τ own) := ((S.mono l1).mono (l2.trans l3)).wipe own
        refine ⟨ρ2, wipeS σ own, h2, w, σ1, R3, S3, rw', e2, fun τ' S' z => ⟨by rw [z, wipe_wipe], ?_⟩⟩
        have qq := O1.mono l3 qq
        refine ⟨ρ2, σ1, h2, R3, S', ?_⟩
        cases e3 : t σ1 h2 with
        | bad => rw [e3] at qq; exact qq.elim
        | err x h3 => rw [e3] at qq; exact qq.elim
        | ok b h3 =>
          rw [e3] at qq
          intro ρ4 H4 b' l4 R4 eb
          have eb : b = b' := eb
          subst eb
          cases b with
          | false => exact iteF ⟨ρ4, h3, (l2.trans l3).trans l4, R4, l4.at eD, O1.mono l4 qq⟩
          | true =>
            refine iteT ⟨ρ4, σ1, h3, R4, S'.mono l4, ?_⟩
            have qq := O1.mono l4 qq
            dsimp only at qq
            cases e4 : el σ1 h3 with
            | bad => rw [e4] at qq; exact qq.elim
            | err x h3 => rw [e4] at qq; exact qq.elim
            | ok yw h5 =>
              rw [e4] at qq
              intro ρ5 H5 v5 l5 R5 r5
              dsimp only at qq
              split at qq
              · rename_i acc ea
                split at qq
                · rename_i hl
                  obtain ⟨aD, ys, ev, ea', hy, rr⟩ := R5.lst ea (iR (l5.at (l4.at eD)))
                  cases ev
                  obtain ⟨z1, z2⟩ := R5.setL ea ea' hy (rr.append (RelWs.cons r5 RelWs.nil))
                  exact ⟨ys, hy, by rw [sizeLine_eq, ← rr.length]; exact hl, ρ5, _, (((l2.trans l3).trans l4).trans l5).trans z1, z2, ea', O1.mono (l5.trans z1) qq⟩
                · exact qq.elim
              · exact qq.elim
/-- the wish that nothing is raised, where the names are those of the block -/
theorem se_comp {own : List (Str × Nat)} {scope : Scope} {fi : XI} {g : XG} {t : XT} {el : XE} (c' : Cfg) (hi : SI Γ c k tg iter fi) (hg : SGo Γ c' k (own.map (·.2)) tg g) (ht : STs Γ c' k ifs t) (he : SE Γ c' k e el)
    (ok : cfgOk c' = true) (hb : blkC c.N c.sc scope own = true) (hN : c'.N = c.N := by rfl) (hs : c'.sc = relS scope c.sc := by rfl) (hf : c'.fa = false := by rfl) (hk : c'.calm = c.calm := by rfl) (hc : c.calm = true := by rfl) (hset : ∀ env x, foldedSetIterable iter env x = pure x := by intros; rfl) :
    SE Γ c k (.ListComp e [⟨tg, iter, ifs, 0⟩] scope pos) (xComp fi g t el (own.map (·.2))) := by
  intro W X G
  have kk := cfgOk_of ok
  refine PE.imp (pe_lc (own := own) (G.calm.trans hc) G.nd (hi W X G) (by rw [G.N, G.sc]; exact blkOk_by hb) (fun s H C cl fp => hg _ _ (G.blk (own := own) hN hs hf hk kk s H C cl fp)) (fun s H C cl fp => ht _ _ (G.blk (own := own) hN hs hf hk kk s H C cl fp)) (fun s H C cl fp => he _ _ (G.blk (own := own) hN hs hf hk kk s H C cl fp)) (hset X.env)) fun τ H Q h => lc_read h
/-- name = [..] on one line -/
theorem ss_setLc (i j : Nat) {x : Str} {px spos : Pos} {own : List (Str × Nat)} {scope : Scope} {fi : XI} {g : XG} {t : XT} {el : XE} (c' : Cfg) (hi : SI Γ c k tg iter fi) (hg : SGo Γ c' k (own.map (·.2)) tg g) (ht : STs Γ c' k ifs t) (he : SE Γ c' k e el)
    (ok : cfgOk c' = true) (hb : blkC c.N c.sc scope own = true) (hl : c.sc.names.lookup x = some .local) (hln : (px.line == pos.line) = true := by rfl) (ha : (scope.names.any fun (n, k) => n == x && (k == .local || k == .cell)) = false)
    (hNx : c.N[i]? = some x := by rfl) (hN : c'.N = c.N := by rfl) (hs : c'.sc = relS scope c.sc := by rfl) (hf : c'.fa = false := by rfl) (hk : c'.calm = c.calm := by rfl) (hc : c.calm = true := by rfl) (hset : ∀ env x, foldedSetIterable iter env x = pure x := by intros; rfl) (hfk : c.sc.kind = .function := by rfl) :
    SS Γ c k (.Assign [.Name x px] (.ListComp e [⟨tg, iter, ifs, 0⟩] scope pos) spos) (sSet i (xComp fi g t el (own.map (·.2)))) := by
  intro W X G
  have kk := cfgOk_of ok
  have hl' : X.env.scope.names.lookup x = some .local := by rw [G.sc]; exact hl
  refine PS.imp (ps_setLc (i := i) (own := own) (G.calm.trans hc) G.nd (by rw [G.N]; exact hNx) hl' (sw_true (by rw [G.sc]; exact hfk) hl' hln ha) (hi W X G) (by rw [G.N, G.sc]; exact blkOk_by hb) (fun s H C cl fp => hg _ _ (G.blk (own := own) hN hs hf hk kk s H C cl fp)) (fun s H C cl fp => ht _ _ (G.blk (own := own) hN hs hf hk kk s H C cl fp)) (fun s H C cl fp => he _ _ (G.blk (own := own) hN hs hf hk kk s H C cl fp)) (hset X.env)) fun D τ H h => ?_
  obtain ⟨ρ, σ, h, R, S, q⟩ := h
  refine lc_read ⟨ρ, σ, h, R, S, (S1.of (R := RelW Γ) S q).imp fun v H1 ⟨ρ1, h1, u, l1, R1, r1, q1⟩ => ?_⟩
  exact q1 ρ1 H1 _ .refl R1 ((S.mono l1).set r1)
end

/-! ### functions -/
def spI (Γ : Gam) (n : Nat) (F : List W → Hm → Out W) : Sp := fun vs H Q E => vs.length = n ∧ ∃ ρ ws h, Rel Γ ρ h H ∧ RelWs Γ ρ H ws vs ∧ O1 Γ (RelW Γ) ρ H (F ws h) Q E
def FnS (Γ : Gam) (k : Nat) (f : Addr) (fd : FuncData) (ps : List Str) (F : List W → Hm → Out W) : Prop := FnOk Γ.P Γ.w Γ.K Γ.mg Γ.base (L2.CX Γ.P Γ.w) k f fd ps (spI Γ ps.length F)
def fin (o : SOut) : Out W := match o with
  | .nx _ h => .ok .non h
  | .rt w h => .ok w h
  | .err x _ h => .err x h
  | _ => .bad
def mkF (n : Nat) (b : XS) : List W → Hm → Out W := fun ws h => fin (b (ws.map some ++ List.replicate (n - ws.length) none) h)
def xFn (F : List W → Hm → Out W) (a : XA) : XE := fun σ h => (a σ h).bind fun xs h1 => F xs h1
section
variable {Γ : Gam} {c : Cfg} {k j : Nat} {a b e d o i tg : Expr} {es : List Expr} {fr : XA} {pos p : Pos} {ρ : List Addr} {H : Hp} {f : Addr} {fd : FuncData} {ps : List Str} {F : List W → Hm → Out W}
theorem FnS.mono (h : FnS Γ j f fd ps F) (l : j ≤ k) : FnS Γ k f fd ps F := FnOk.mono h l
theorem start_rel : ∀ {ws : List W} {vs : List V}, RelWs Γ ρ H ws vs → ∀ n, RelS Γ ρ H (ws.map some ++ List.replicate n none) (vs.map some ++ List.replicate n none) := fun {ws vs} r n => by
  refine ⟨by simp [r.length], fun i w e => ?_⟩
  by_cases hi : i < ws.length
  · rw [List.getElem?_append_left (by simpa using hi), List.getElem?_map] at e
    cases e1 : ws[i]? with
    | none => rw [e1] at e; cases e
    | some u =>
      rw [e1] at e
      cases e
      obtain ⟨v, e2, r2⟩ := r.get e1
      refine ⟨v, ?_, r2⟩
      rw [List.getElem?_append_left (by rw [List.length_map, ← r.length]; exact hi), List.getElem?_map, e2]
      rfl
  · rw [List.getElem?_append_right (by simpa using hi), List.getElem?_replicate] at e
    split at e <;> cases e
theorem fn_mk {x qual : Str} {st : Stmt} {b : XS} (Fu : Fun Γ.K x qual st f fd) (S : FnScope c.N ps (defScope st)) (ok : CfgOk c) (hb : SL Γ c k (defBody st) b) (hs : c.sc = defScope st := by rfl) (hf : c.fa = true := by rfl) (hc : c.calm = true := by rfl) :
    FnS Γ (k + 1) f fd ps (mkF c.N.length b) := by
  refine Fu.okX S (fun vs H Q E h => h.1) (fun cdv A outer s H vs Q E hr h => ?_)
  obtain ⟨hl, ρ, ws, h, R, rr, q⟩ := h
  refine ⟨_, hb (fun cls d _ H => E cls d H) _ ⟨rfl, rfl, rfl, rfl, rfl, rfl, hs.symm, ok, fun _ _ => rfl, hc.symm, fun _ => hr, takes_of rfl rfl rfl rfl, passes_of rfl, fun _ => ⟨rfl, rfl⟩⟩, ρ, ws.map some ++ List.replicate (c.N.length - ws.length) none, h, R, ?_, ?_⟩
  · have := start_rel rr (c.N.length - ws.length)
    rw [rr.length] at this ⊢
    exact this
  · unfold mkF at q
    cases e : b (ws.map some ++ List.replicate (c.N.length - ws.length) none) h with
    | nx σ' h' => rw [e] at q; exact fun ρ' H' τ' l R' S' => q ρ' H' .non l R' iN
    | rt w h' => rw [e] at q; exact q
    | err x σ' h' => rw [e] at q; exact fun ρ' H' τ' cls d l R' S' x => q ρ' H' cls d l R' x
    | bk σ' h' => rw [e] at q; exact q.elim
    | ct σ' h' => rw [e] at q; exact q.elim
    | bad => rw [e] at q; exact q.elim
theorem Good.fnOk {W : WX} {X : Cx} (G : Good Γ c k W X) {sp : Sp} (h : FnOk Γ.P Γ.w Γ.K Γ.mg Γ.base (L2.CX Γ.P Γ.w) j f fd ps sp) (l : j ≤ k) : FnOk X.prog X.w X.K X.mg X.base (L2.CX X.prog X.w) k f fd ps sp := by
  rw [G.prog, G.w, G.K, G.mg, G.base]
  exact h.mono l
theorem se_call (jG : Nat) {x : Str} (hF : FnS Γ j f fd ps F) (kp : PySem.W.keepIn Γ.K (.ref f) = true) (hb : Binds Γ.K fd ps []) (hm : Γ.mg x = some (.ref f)) (ha : SA Γ c k (e :: es) fr) (hn : ∀ σ h ws h', fr σ h = .ok ws h' → ws.length = ps.length) (hl : j ≤ k := by decide) (hG : c.G[jG]? = some x := by rfl) (hc : c.calm = true := by rfl)
    (hdb : (x == ("__debug__" : Str)) = false := by decide) (he : ∀ env, starEach (e :: es) env = (false, eval e env) :: starEach es env := by intros; rfl) (hpl : ∀ env, (backTo pos (starEach es env)).any (·.1) = false := by intros; rfl) :
    SE Γ c k (.Call (.Name x p) (e :: es) [] pos) (xFn F fr) := by
  intro W X G
  refine PE.imp (pe_callS (E := WE W) (G.fnOk hF hl) (G.room hc) (G.gl (List.mem_of_getElem? hG)) (by rw [G.mg]; exact hm) (by rw [G.K]; exact kp) (by rw [G.K]; exact hb) (fun σ => passAt G.takes σ) (ha W X G) hdb (he X.env) (hpl X.env)) fun τ H Q h => ?_
  obtain ⟨ρ, σ, h, R, S, q⟩ := h
  refine ⟨ρ, σ, h, R, S, ?_⟩
  unfold xFn at q
  cases e1 : fr σ h with
  | bad => rw [e1] at q; exact q.elim
  | err x h1 => rw [e1] at q; exact q
  | ok ws h1 =>
    rw [e1] at q
    exact fun ρ' H' vs l R' r' => ⟨by rw [← r'.length]; exact hn σ h ws h1 e1, ρ', ws, h1, R', r', O1.mono l q⟩
theorem se_call0 (jG : Nat) {x : Str} (hF : FnS Γ j f fd [] F) (kp : PySem.W.keepIn Γ.K (.ref f) = true) (hb : Binds Γ.K fd [] []) (hm : Γ.mg x = some (.ref f)) (hl : j ≤ k := by decide) (hG : c.G[jG]? = some x := by rfl) (hc : c.calm = true := by rfl)
    (hdb : (x == ("__debug__" : Str)) = false := by decide) : SE Γ c k (.Call (.Name x p) [] [] pos) (xFn F xNil) := by
  intro W X G
  refine ⟨fun pins s τ H Q I h => ?_⟩
  obtain ⟨ρ, σ, h, R, S, q⟩ := h
  refine wpAny_Call_Name_kw (ld_glob I (G.gl (List.mem_of_getElem? hG)) (by rw [G.mg]; exact hm) ?_ hdb)
  refine PySem.W.callWith_K0 I.kIn (by rw [G.K]; exact kp) (run_fnS (us := []) (E := WE W) (G.fnOk hF hl) (G.room hc) (by rw [G.K]; exact hb) (passAt G.takes τ) I .nil ?_)
  exact ⟨rfl, ρ, [], h, R, RelWs.nil, q⟩
theorem len_nil : ∀ σ h ws h', xNil σ h = .ok ws h' → ws.length = 0 := fun σ h ws h' e => by
  cases e
  rfl
theorem len_cons {fa : XE} {n : Nat} (h : ∀ σ h ws h', fr σ h = .ok ws h' → ws.length = n) : ∀ σ h ws h', xCons fa fr σ h = .ok ws h' → ws.length = n + 1 := fun σ hm ws h' e => by
  unfold xCons at e
  cases e1 : fa σ hm with
  | bad => rw [e1] at e; cases e
  | err x h1 => rw [e1] at e; cases e
  | ok w h1 =>
    rw [e1] at e
    have e : (fr σ h1).bind (fun xs h2 => Out.ok (w :: xs) h2) = .ok ws h' := e
    cases e2 : fr σ h1 with
    | bad => rw [e2] at e; cases e
    | err x h2 => rw [e2] at e; cases e
    | ok ws' h2 =>
      rw [e2] at e
      cases e
      rw [List.length_cons, h _ _ _ _ e2]
end
end Z

/-! Z7: list(reversed(l)), text times number, {} -/
namespace RT
open PySem PySem.Spec PyProof.Rows
section
variable {prog : Program} {w : World} {A : Around} {E : Value → Shared → Prop} {s : Shared}
theorem zz_list_init_rev {R : Result → Shared → Prop} {it l : Addr} {items : Array Value} (hh : A.handled = none) (hit : s.heap.IsRevIter it l ((items.size : Int) - 1)) (hl : s.heap.IsList l items) (hne : l ≠ it) (hn : items.size ≤ sizeLine)
    (S : Addr) (hSi : S ≠ it) (hSl : S ≠ l) (hS : s.heap.get? S = some { cls := .type "list", data := .seq #[] })
    (hR : ∀ h' tk acc' c', (∀ b o, b ≠ S → b ≠ it → s.heap.get? b = some o → h'.get? b = some o) → h'.get? S = some { cls := .type "list", dict := none, data := .seq acc' c', slots := #[] } →
      ItemsOf (fun i v => items[items.size - 1 - i]? = some v) acc' items.size → R (.ok (.ret .none)) { s with heap := h', toks := tk }) :
    wpAny (model prog w) A.in1 (Builtin.«list.__init__» ⟨[.ref S, .ref it], []⟩)
      (fun fin s' => match fin with | .done f => R (.ok f) s' | .again c' => c'.quiet = true ∧ codeAny (model prog w) A c' R s') (fun e s' => R (.error e) s') s := by
  show wpAny _ _ (do let old ← Builtin.List.listItems (.ref S); Builtin.List.listUpdate (.ref S) (fun _ => #[]); letGo old.toList.reverse; Builtin.List.listExtendWith (.ref S) (.ref it) .none) _ _ s
  refine wpAny_bind ?_
  unfold Builtin.List.listItems
  refine wpAny_bind (wpAny_seqItems hS rfl (wpAny_pure ?_))
  show wpAny _ _ (updateSeq S (fun _ => #[]) >>= fun _ => letGo (#[] : Array Value).toList.reverse >>= fun _ => Builtin.List.listExtendWith (.ref S) (.ref it) .none) _ _ s
  refine wpAny_bind (wpAny_updateSeq hS rfl ?_)
  have hS₂ := Heap.get?_update_self (Obj.mapSeq (fun _ => (#[] : Array Value))) hS rfl
  have oth : ∀ b o, b ≠ S → s.heap.get? b = some o → (s.heap.update S (Obj.mapSeq (fun _ => (#[] : Array Value)))).get? b = some o :=
    fun b o hb e => (Heap.get?_update_other _ _ (Ne.symm hb)).trans e
  refine wpAny_bind (wpAny_letGo ?_)
  have W := (Walks.listRev (prog := prog) (w := w) (A := A.in1) hh it l hne items).toS
  have hSf : S ∉ [it, l] := by simp only [List.mem_cons, List.not_mem_nil, or_false, not_or]; exact ⟨hSi, hSl⟩
  have hit1 : (s.heap.update S (Obj.mapSeq (fun _ => (#[] : Array Value)))).IsRevIter it l ((items.size : Int) - 1) := hit.at fun o e => oth it o (Ne.symm hSi) e
  have hl1 : (s.heap.update S (Obj.mapSeq (fun _ => (#[] : Array Value)))).IsList l items := by
    obtain ⟨o, ho, r⟩ := hl
    exact ⟨o, oth l o (Ne.symm hSl) ho, r⟩
  have hT : ({ s with heap := s.heap.update S (Obj.mapSeq (fun _ => (#[] : Array Value))) } : Shared).TypeIs (.ref it) "list_reverseiterator" := Heap.IsRevIter.typeIs (s := { s with heap := s.heap.update S (Obj.mapSeq (fun _ => (#[] : Array Value))) }) hit1
  have h1 : Builtin.List.listSameRef (.ref S) (.ref it) = false := by simp [Builtin.List.listSameRef, hSi]
  unfold Builtin.List.listExtendWith
  refine wpAny_bind (wpAny_typeOf hT ?_)
  rw [if_neg (by rw [h1]; decide)]
  refine wpAny_bind (wpAny_pyIter_revIter (s := { s with heap := s.heap.update S (Obj.mapSeq (fun _ => (#[] : Array Value))) }) hit1 ?_)
  refine wpAny_bind (wpAny_holding ?_)
  unfold Builtin.List.listLengthHint
  refine wpAny_bind (wpAny_specialOf hT nolen_lri ?_)
  show wpAny _ A.in1 (specialOf (Value.ref it) (Str.ofString "__length_hint__") >>= _) _ _ _
  refine wpAny_bind (wpAny_specialOf hT hint_lri ?_)
  generalize hid : ("list_reverseiterator.__length_hint__" : String) = id0
  wp_delta
  rw [show splitId id0 = some ("list_reverseiterator", "__length_hint__") from by subst hid; decide +kernel]
  subst hid
  refine wpAny_bind (wpAny_isInstance (b := true) hT (by rw [isSubtype_type]; kernel_rfl) ?_)
  refine wpAny_pure ?_
  rw [if_neg (by decide)]
  have e0 : ((items.size : Nat) : Int) - 1 - ((0 : Nat) : Int) = (items.size : Int) - 1 := by omega
  refine wpAny_pure ⟨plainId_quiet F.plain_extend_loop _, codeAny_extend_loopS W hn _ hSf _ items.size 0 _ _ _ rfl (Nat.zero_le _) ⟨Nat.zero_le _, by rw [e0]; exact hit1, hl1⟩ hS₂ (ItemsOf.nil _) fun s' acc' c' hm hS' hacc => ?_⟩
  rw [Moved.eq_with hm]
  refine hR s'.heap s'.toks acc' c' (fun b o hb hi e => hm.heap b o (fun hmem => ?_) (oth b o hb e)) hS' hacc
  rcases List.mem_cons.mp hmem with e' | hmem
  · exact hb e'
  · exact hi (List.mem_singleton.mp hmem)
theorem zz_call_list_rev {it l : Addr} {items : Array Value} {Q : Value → Shared → Prop} (hh : A.handled = none) (hit : s.heap.IsRevIter it l ((items.size : Int) - 1)) (hl : s.heap.IsList l items) (hne : l ≠ it) (hn : items.size ≤ sizeLine)
    (hQ : ∀ h' tk acc' c', (∀ b o, b ≠ it → s.heap.get? b = some o → h'.get? b = some o) →
      h'.get? s.heap.objs.size = some { cls := .type "list", dict := none, data := .seq acc' c', slots := #[] } → ItemsOf (fun i v => items[items.size - 1 - i]? = some v) acc' items.size → Q (.ref s.heap.objs.size) { s with heap := h', toks := tk }) :
    wpAny (model prog w) A (call (.type "list") [.ref it]) Q E s := by
  refine callType_codes (Q₁ := fun obj s₁ => obj = .ref s.heap.objs.size ∧ s₁ = { s with heap := s.heap.push { cls := .type "list", data := .seq #[] } }) F.called_list (F.typeCall_list_1 _) F.entry_list_init
    (code_list_new _ ⟨rfl, rfl⟩) fun obj s₁ h₁ => ?_
  obtain ⟨rfl, rfl⟩ := h₁
  have hS : (s.heap.push { cls := .type "list", data := .seq #[] }).get? s.heap.objs.size = some { cls := .type "list", data := .seq #[] } := Heap.get?_push_size _ rfl
  obtain ⟨oi, hoi, _⟩ := id hit
  obtain ⟨ol, hol, _⟩ := id hl
  refine ⟨⟨_, hS, rfl⟩, F.args_list_init_2 _ _, zz_list_init_rev (A := A.in1) hh (hit.at fun o e => Heap.get?_push_of_some _ e) (hl.push _) hne hn _ (Nat.ne_of_gt (Heap.lt_size hoi)) (Nat.ne_of_gt (Heap.lt_size hol)) hS fun h' tk acc' c' hk hS' hacc => ?_⟩
  exact ⟨rfl, hQ h' tk acc' c' (fun b o hi e => hk b o (Nat.ne_of_lt (Heap.lt_size e)) hi (Heap.get?_push_of_some _ e)) hS' hacc⟩
end
end RT
namespace Z
open PySem PySem.Spec PyProof.Rows L2 RT
/-- list(reversed(x)), x a list: a new list -/
def tLstRev (K : PySem.W.Frag) (te : TE) : TE := fun σ H Q => te σ H fun v H1 => ∃ (a : Addr) (xs : List V), v = .ref a ∧ SqL K H1 a xs ∧ ∀ q, H1 q = none → Q (.ref q) (upd H1 q (.lst xs.reverse))
section
variable {X : Cx}
theorem pe_lstRev {e : Expr} {te : TE} {p p2 pos pos2 : Pos} (hc : X.calm = true) (hg : Gl X "list") (hm : X.mg "list" = none) (hg2 : Gl X "reversed") (hm2 : X.mg "reversed" = none) (he : PE X e te)
    (hs : starEach [e] X.env = (false, eval e X.env) :: starEach [] X.env := by rfl)
    (hs2 : starEach [.Call (.Name "reversed" p2) [e] [] pos2] X.env = (false, eval (.Call (.Name "reversed" p2) [e] [] pos2) X.env) :: starEach [] X.env := by rfl) :
    PE X (.Call (.Name "list" p) [.Call (.Name "reversed" p2) [e] [] pos2] [] pos) (tLstRev X.K te) := by
  refine ⟨fun pins s σ H Q I h => ?_⟩
  refine Call_ (ld_blt I hg hm boot_list (PyProof.Rows.callWith_type1 (args_cons (Call_ (ld_blt I hg2 hm2 PyProof.Rows.boot_reversed (PyProof.Rows.callWith_type1 (args_cons (thn (he.run pins s σ H _ I h) fun u s1 ⟨v, H1, I1, r1, q1⟩ => args_nil ?_) hs) hs rfl))) hs2) hs2 rfl))
  obtain ⟨a, xs, ev, hq, q⟩ := q1
  subst ev
  obtain rfl : u = Value.ref a := r1
  obtain ⟨its, rv, p', hz⟩ := I1.list hq
  refine call_reversed_list p'.isList (args_nil ?_)
  have k0 : ∀ b o, s1.heap.get? b = some o → (s1.heap.push (revObj a ((its.toArray.size : Int) - 1))).get? b = some o := fun b o e => Heap.get?_push_of_some _ e
  have I2 : Inv X pins σ H1 { s1 with heap := s1.heap.push (revObj a ((its.toArray.size : Int) - 1)) } := I1.kept (t' := s1.toks) k0
  obtain ⟨f0, f1, f2, f3, f4, f5⟩ := I1.fpOk (H' := H1) (b := s1.heap.objs.size) (Nat.le_refl _) (I1.hok.fresh (Nat.le_refl _))
  have hl := p'.isList
  obtain ⟨ol, hol, _⟩ := id hl
  have hne : a ≠ s1.heap.objs.size := Nat.ne_of_lt (Heap.lt_size hol)
  have hn : its.toArray.size ≤ sizeLine := by rw [List.size_toArray, ← rv.length]; exact hz
  refine zz_call_list_rev (s := { s1 with heap := s1.heap.push (revObj a ((its.toArray.size : Int) - 1)) }) (I1.ok.hd hc) ⟨_, Heap.get?_push_size _ rfl, rfl, rfl⟩ (hl.push _) hne hn fun h' tk acc c' hk hS hi => ?_
  have hSz : (s1.heap.push (revObj a ((its.toArray.size : Int) - 1))).objs.size ≠ s1.heap.objs.size := by
    have := Heap.lt_size (Heap.get?_push_size s1.heap (o := revObj a ((its.toArray.size : Int) - 1)) rfl)
    exact Nat.ne_of_gt this
  generalize hSS : (s1.heap.push (revObj a ((its.toArray.size : Int) - 1))).objs.size = S at *
  have hS' : h'.get? S = some { cls := .type "list", data := .seq acc c' } := hS
  have g2 : ((s1.heap.push (revObj a ((its.toArray.size : Int) - 1))).push { cls := .type "list", data := .seq acc c' }).get? S = some { cls := .type "list", data := .seq acc c' } := by
    rw [← hSS]
    exact Heap.get?_push_size _ rfl
  have lr : acc.size ≤ sizeLine := by rw [hi.1]; exact hn
  have fr : H1 S = none := by rw [← hSS]; exact I2.hok.fresh (Nat.le_refl _)
  have I3 : Inv X pins σ (upd H1 S (.lst xs.reverse)) { s1 with heap := (s1.heap.push (revObj a ((its.toArray.size : Int) - 1))).push { cls := .type "list", data := .seq acc c' }, toks := s1.toks } :=
    I2.laid (t' := s1.toks) (fun c o e => Heap.get?_push_of_some _ e) (Nat.le_of_eq hSS) (show ObjOk X.prog X.w _ _ _ (.lst xs.reverse) from ⟨by rw [List.length_reverse]; exact hz, acc.toList, c', vals_rev rv hi, by rw [Array.toArray_toList]; exact g2⟩)
  have I4 : Inv X pins σ (upd H1 S (.lst xs.reverse)) { s1 with heap := h', toks := tk } := Inv.turned (s := { s1 with heap := (s1.heap.push (revObj a ((its.toArray.size : Int) - 1))).push { cls := .type "list", data := .seq acc c' }, toks := s1.toks }) (it := s1.heap.objs.size) (t' := tk) I3 (fun b o hb e => by
      by_cases hbS : b = S
      · subst hbS
        have e : ((s1.heap.push (revObj a ((its.toArray.size : Int) - 1))).push { cls := .type "list", data := .seq acc c' }).get? b = some o := e
        rw [g2] at e
        rw [hS', e]
      · have e : ((s1.heap.push (revObj a ((its.toArray.size : Int) - 1))).push { cls := .type "list", data := .seq acc c' }).get? b = some o := e
        exact hk b o hb (by
          rcases Heap.get?_push_cases e with ⟨e1, _⟩ | e2
          · exact absurd (e1.trans hSS) hbS
          · exact e2)) (by rw [upd_ne (Ne.symm hSz)]; exact f0) f1 f3 f4 f5
  exact ⟨.ref S, _, I4, rfl, q _ fr⟩
end
def revW (xs : List W) (h : Hm) : Pr := match xs with
  | [.ref r] => match h[r]? with
    | some (.lst ys) => some (.ref h.length, h ++ [.lst ys.reverse])
    | some (.frz ys) => some (.ref h.length, h ++ [.lst ys.reverse])
    | _ => none
  | _ => none
section
variable {Γ : Gam} {c : Cfg} {k : Nat} {a b e d o i : Expr} {es : List Expr} {fa fb fc : XE} {ft fu : XT} {fr : XA} {pos p p2 pos2 : Pos} {ρ : List Addr} {H : Hp}
theorem se_lrev (j j' : Nat) (B : Bs Γ) (ha : SE Γ c k a fa) (hG : c.G[j]? = some ("list" : Str) := by rfl) (hG' : c.G[j']? = some ("reversed" : Str) := by rfl) (hc : c.calm = true := by rfl)
    (hs : ∀ env, starEach [a] env = (false, eval a env) :: starEach [] env := by intros; rfl)
    (hs2 : ∀ env, starEach [.Call (.Name "reversed" p2) [a] [] pos2] env = (false, eval (.Call (.Name "reversed" p2) [a] [] pos2) env) :: starEach [] env := by intros; rfl) :
    SE Γ c k (.Call (.Name "list" p) [.Call (.Name "reversed" p2) [a] [] pos2] [] pos) (xCall revW (xCons fa xNil)) := by
  intro W X G
  refine PE.imp (pe_lstRev (G.calm.trans hc) (G.gl (List.mem_of_getElem? hG)) (by rw [G.mg]; exact B.list) (G.gl (List.mem_of_getElem? hG')) (by rw [G.mg]; exact B.reversed) (ha W X G) (hs X.env) (hs2 X.env)) fun τ H Q h => ?_
  obtain ⟨ρ, σ, h, R, S, q⟩ := h
  unfold xCall xCons xNil at q
  rw [Out.bind_assoc] at q
  refine ⟨ρ, σ, h, R, S, (O1.bind (R := RelW Γ) q).imp fun v H1 ⟨ρ1, h1, u, l1, R1, r1, q1⟩ => ?_⟩
  obtain ⟨u', h', e, q3⟩ := O1.ofO (p := revW [u] h1) q1
  unfold revW at e
  split at e
  · rename_i eh
    split at e
    · rename_i ex
      cases eh
      cases e
      obtain ⟨l, ys, rfl, _, hy, r1⟩ := R1.lst ex r1
      refine ⟨l, ys, rfl, SqL.of hy, fun p hp => ?_⟩
      obtain ⟨q1, q2, q3'⟩ := R1.newL hp r1.reverse
      exact q3 _ _ _ q1 q2 q3'
    · rename_i ex
      cases eh
      cases e
      obtain ⟨l, ys, rfl, hy, r1⟩ := R1.frz ex r1
      refine ⟨l, ys, rfl, by rw [G.K]; exact hy, fun p hp => ?_⟩
      obtain ⟨q1, q2, q3'⟩ := R1.newL hp r1.reverse
      exact q3 _ _ _ q1 q2 q3'
    · cases e
  · cases e
/-- {} -/
def xDic : XE := fun _ h => .ok (.ref h.length) (h ++ [.dic []])
theorem se_dic : SE Γ c k (.Dict [] [] pos) xDic := by
  intro W X G
  refine PE.imp pe_dnewK fun τ H Q h => ?_
  obtain ⟨ρ, σ, h, R, S, q⟩ := h
  intro p hp
  have l := Le.laid (Γ := Γ) (ρ := ρ) (o := .dK []) hp [p]
  exact q _ _ _ l (R.alloc hp (o' := .dic []) ⟨[], upd_same, rfl⟩) (iR (by rw [← R.len]; simp))
def idxB (x : W) : List W → Option Nat
  | [] => none
  | y :: ys => if eqV (toV y) (toV x) then some 0 else (idxB x ys).map (· + 1)
def idxW (x : W) (xs : List W) (h : Hm) : Pr := match x, xs with
  | .ref r, [y] => match h[r]? with
    | some (.lst zs) => if flatW y && zs.all flatW then (idxB y zs).map fun n => (.int (n : Nat), h) else none
    | _ => none
  | _, _ => none
theorem idxB_of {y : W} : ∀ {zs : List W} {n : Nat}, idxB y zs = some n → (∃ z, (zs.map toV)[n]? = some z ∧ eqV z (toV y) = true) ∧ ∀ m z', m < n → (zs.map toV)[m]? = some z' → eqV z' (toV y) = false
  | [], n, e => by cases e
  | x :: xs, n, e => by
    unfold idxB at e
    split at e
    · rename_i hx
      cases e
      exact ⟨⟨_, rfl, hx⟩, fun m z' hm _ => by omega⟩
    · rename_i hx
      obtain ⟨m, e1, rfl⟩ := Option.map_eq_some_iff.mp e
      obtain ⟨⟨z, e2, e3⟩, e4⟩ := idxB_of e1
      refine ⟨⟨z, by simpa using e2, e3⟩, fun j z' hj ej => ?_⟩
      cases j with
      | zero =>
        have ej : some (toV x) = some z' := by simpa using ej
        cases ej
        exact Bool.eq_false_iff.mpr hx
      | succ j => exact e4 j z' (by omega) (by simpa using ej)
theorem ms_index : MtS Γ c k "list.index" idxW := by
  intro W X G pins s σ H x xs v us Q I rx rxs h
  obtain ⟨ρ, hm, u, ws, u', h', R, ru, rws, e, q⟩ := h
  unfold idxW at e
  split at e
  · split at e
    · rename_i ex
      split at e
      · rename_i hf
        obtain ⟨n, e1, e2⟩ := Option.map_eq_some_iff.mp e
        cases e2
        rw [Bool.and_eq_true] at hf
        obtain ⟨y, rfl, ry⟩ := rws1 rws
        obtain ⟨l, ys, rfl, ea, hy, r1⟩ := R.lst ex ru
        obtain ⟨f1, f2⟩ := flats_of hf.2 r1
        obtain ⟨f3, f4⟩ := flat_of hf.1 ry
        subst f1 f3
        obtain ⟨⟨z, e2, e3⟩, e4⟩ := idxB_of e1
        exact mt_index pins s σ H _ _ v us Q I rx rxs ⟨l, _, _, n, z, rfl, rfl, SqL.of hy, f4, f2, e2, e3, e4, q ρ H _ .refl R iI'⟩
      · cases e
    · cases e
  · cases e
/-- a += b, numbers or texts -/
def addI : W → W → Hm → Pr
  | .int i, .int j, h => some (.int (i + j), h)
  | .str x, .str y, h => if x.length + y.length ≤ 16777216 then some (.str (x ++ y), h) else none
  | _, _, _ => none
theorem ip_add : IpS Γ c k .Add addI := by
  intro W X G pins s σ H x y v u Q I rx ry h
  obtain ⟨ρ, hm, a, b, u', h', R, ra, rb, e, q⟩ := h
  unfold addI at e
  split at e
  · cases e
    exact iop_add pins s σ H x y v u Q I rx ry ⟨_, _, rwI ra, rwI rb, q ρ H _ .refl R iI'⟩
  · split at e
    · rename_i hl
      cases e
      exact iop_add_str pins s σ H x y v u Q I rx ry ⟨_, _, rwS ra, rwS rb, by rw [sizeLine_eq]; exact hl, q ρ H _ .refl R iS⟩
    · cases e
  · cases e
end
end Z

/-! Z8: defs by name, the head's facts, the law's end -/
namespace Z
open PySem PySem.Spec PyProof.Rows L2

/-! ### facts behind the top: any look at the written part -/
abbrev FaZ := PySem.W.Frag → Bool
def obsZ (fa : List FaZ) (fn : List He.DefD) (K : PySem.W.Frag) : He.AlD := ((fa.all fun f => f K) && fn.all fun d => d.ok K, fn.map fun d => He.fnW K d.at_)
def SaysZ (fa : List FaZ) (fn : List He.DefD) (K : PySem.W.Frag) : Prop := obsZ fa fn K = He.valD fn
def obsZG (n : Nat) (fa : List FaZ) (fn : List He.DefD) (g : Addr → Option Obj) : He.AlD := obsZ fa fn (He.frG g (He.asD g n))
def hookZ (n : Nat) (fa : List FaZ) (fn : List He.DefD) : PySem.W.Hook where
  α := He.AlD
  obs := fun s => obsZG n fa fn s.heap.get?
  val := fun _ => He.valD fn
  says := fun _ h => ∃ K : PySem.W.Frag, K.In h ∧ SaysZ fa fn K
  of := fun _ _ e => ⟨_, He.frG_in, e⟩
  keeps := fun _ _ _ ⟨K, hK, c⟩ k => ⟨K, PySem.W.Frag.In.keeps hK k, c⟩
theorem obsZG_eq {n : Nat} {fa : List FaZ} {fn : List He.DefD} {g : Addr → Option Obj} {s : Shared} (h : ∀ a, g a = s.heap.get? a) : obsZG n fa fn g = (hookZ n fa fn).obs s := by
  have e : g = s.heap.get? := funext h
  rw [e] <;> rfl
section
variable {fa : List FaZ} {fn : List He.DefD} {K : PySem.W.Frag}
theorem SaysZ.fact (c : SaysZ fa fn K) (i : Nat) {f : FaZ} (h : fa[i]? = some f := by rfl) : f K = true := by
  have c1 := (He.ba (show ((fa.all fun f => f K) && fn.all fun d => d.ok K) = true from congrArg (fun z : He.AlD => z.1) c)).1
  exact List.all_eq_true.mp c1 f (List.mem_of_getElem? h)
theorem SaysZ.def_ (c : SaysZ fa fn K) (i : Nat) {d : He.DefD} (h : fn[i]? = some d := by rfl) : ∃ fd, FunD K d.name d.qual d.params d.body d.scope (d.dvs K) (d.kws K) (He.fAd K d.at_) fd := by
  have c2 := (He.ba (show ((fa.all fun f => f K) && fn.all fun d => d.ok K) = true from congrArg (fun z : He.AlD => z.1) c)).2
  have e : fn.map (fun d => He.fnW K d.at_) = fn.map He.DefD.val := congrArg (fun z : He.AlD => z.2) c
  have e2 : (fn.map fun d => He.fnW K d.at_)[i]? = (fn.map He.DefD.val)[i]? := by rw [e]
  rw [List.getElem?_map, List.getElem?_map, h] at e2
  exact He.DefD.funD (Option.some.inj e2) (List.all_eq_true.mp c2 d (List.mem_of_getElem? h))
end

/-! ### defs -/
/-- a def (or method) of the text behind the top, no defaults -/
def Def (Γ : Gam) (a : Str × Option Str) (x qual : Str) (st : Stmt) : Prop := ∃ fd, FunD Γ.K x qual (defArgs st) (defBody st) (defScope st) [] [] (He.fAd Γ.K a) fd
/-- what a def computes, a call of it -/
structure CalD (Γ : Gam) (j : Nat) (f : Addr) (ps : List Str) (F : List W → Hm → Out W) : Prop where
  ok : ∃ fd, FnS Γ j f fd ps F ∧ Binds Γ.K fd ps [] ∧ ∃ oc od osl, Γ.K.lookup f = some ⟨oc, od, .func fd, osl⟩
  kp : PySem.W.keepIn Γ.K (.ref f) = true
def Cal (Γ : Gam) (j : Nat) (x : Str) (ps : List Str) (F : List W → Hm → Out W) : Prop := ∃ g, CalD Γ j g ps F ∧ Γ.mg x = some (.ref g)
def BindsN (st : Stmt) (x qual : Str) (ps : List Str) : Prop := ∀ (kV doc pm : Value) (an : Option Addr) (cdv ct : Value) (us : List Value), us.length = ps.length → bindArgs (PySem.W.fnOf x qual (defArgs st) (defBody st) (defScope st) .none kV doc pm an cdv ct) ⟨us, []⟩ = pure (ps.zip us)
section
variable {Γ : Gam} {c : Cfg} {k j : Nat} {a b e d o i tg : Expr} {es : List Expr} {fr : XA} {pos p : Pos} {ρ : List Addr} {H : Hp} {f : Addr} {fd : FuncData} {ps : List Str} {F : List W → Hm → Out W}
theorem fnD_mk {x qual : Str} {st : Stmt} {b : XS} (Fu : FunD Γ.K x qual (defArgs st) (defBody st) (defScope st) [] [] f fd) (S : FnScope c.N ps (defScope st)) (ok : CfgOk c) (hb : SL Γ c k (defBody st) b) (hs : c.sc = defScope st) (hf : c.fa = true) (hc : c.calm = true) :
    FnS Γ (k + 1) f fd ps (mkF c.N.length b) := by
  refine Fu.ok S (fun vs H Q E h => h.1) (fun cdv A outer s H vs Q E hr h => ?_)
  obtain ⟨hl, ρ, ws, h, R, rr, q⟩ := h
  refine ⟨_, hb (fun cls d _ H => E cls d H) _ ⟨rfl, rfl, rfl, rfl, rfl, rfl, hs.symm, ok, fun _ _ => rfl, hc.symm, fun _ => hr, takes_of rfl rfl rfl rfl, passes_of rfl, fun _ => ⟨rfl, rfl⟩⟩, ρ, ws.map some ++ List.replicate (c.N.length - ws.length) none, h, R, ?_, ?_⟩
  · have := start_rel rr (c.N.length - ws.length)
    rw [rr.length] at this ⊢
    exact this
  · unfold mkF at q
    cases e : b (ws.map some ++ List.replicate (c.N.length - ws.length) none) h with
    | nx σ' h' => rw [e] at q; exact fun ρ' H' τ' l R' S' => q ρ' H' .non l R' iN
    | rt w h' => rw [e] at q; exact q
    | err x σ' h' => rw [e] at q; exact fun ρ' H' τ' cls d l R' S' x => q ρ' H' cls d l R' x
    | bk σ' h' => rw [e] at q; exact q.elim
    | ct σ' h' => rw [e] at q; exact q.elim
    | bad => rw [e] at q; exact q.elim
theorem cal_mk {x qual : Str} {st : Stmt} {b : XS} {at_ : Str × Option Str} (D : Def Γ at_ x qual st) (B : BindsN st x qual ps) (S : FnScope c.N ps (defScope st)) (ok : cfgOk c = true) (hb : SL Γ c k (defBody st) b) (hs : c.sc = defScope st := by rfl) (hf : c.fa = true := by rfl) (hc : c.calm = true := by rfl) :
    CalD Γ (k + 1) (He.fAd Γ.K at_) ps (mkF c.N.length b) := by
  obtain ⟨fd, Fu⟩ := D
  obtain ⟨oc, od, dV, kV, doc, pm, an, cdv, ct, osl, e, lk, _⟩ := Fu.ex
  exact ⟨⟨fd, fnD_mk Fu S (cfgOk_of ok) hb hs hf hc, Fu.bindsN B, oc, od, osl, lk⟩, Fu.kp⟩
/-- the promise of the very function object -/
theorem CalD.at {x qual : Str} {params : Arguments} {body : List Stmt} {scope : Scope} {dvs : List V} {kws : List (Str × V)} (C : CalD Γ j f ps F) (Fu : FunD Γ.K x qual params body scope dvs kws f fd) : FnS Γ j f fd ps F := by
  obtain ⟨⟨fd2, h, _, oc, od, osl, e⟩, _⟩ := C
  obtain ⟨oc', od', dV, kV, doc, pm, an, cdv, ct, osl', _, lk, _⟩ := Fu.ex
  rw [e] at lk
  cases lk
  exact h
theorem se_cal (jG : Nat) {x : Str} (C : Cal Γ j x ps F) (ha : SA Γ c k (e :: es) fr) (hn : ∀ σ h ws h', fr σ h = .ok ws h' → ws.length = ps.length) (hl : j ≤ k := by decide) (hG : c.G[jG]? = some x := by rfl) (hc : c.calm = true := by rfl)
    (hdb : (x == ("__debug__" : Str)) = false := by decide) (he : ∀ env, starEach (e :: es) env = (false, eval e env) :: starEach es env := by intros; rfl) (hpl : ∀ env, (backTo pos (starEach es env)).any (·.1) = false := by intros; rfl) :
    SE Γ c k (.Call (.Name x p) (e :: es) [] pos) (xFn F fr) := by
  obtain ⟨_, ⟨⟨fd, h1, h2, _⟩, h3⟩, h4⟩ := C
  exact se_call jG h1 h3 h2 h4 ha hn hl hG hc hdb he hpl
theorem se_cal0 (jG : Nat) {x : Str} (C : Cal Γ j x [] F) (hl : j ≤ k := by decide) (hG : c.G[jG]? = some x := by rfl) (hc : c.calm = true := by rfl)
    (hdb : (x == ("__debug__" : Str)) = false := by decide) : SE Γ c k (.Call (.Name x p) [] [] pos) (xFn F xNil) := by
  obtain ⟨_, ⟨⟨fd, h1, h2, _⟩, h3⟩, h4⟩ := C
  exact se_call0 jG h1 h3 h2 h4 hl hG hc hdb
/-- a constant of the module, by a look -/
def konOf (x : Str) (v : V) : FaZ := fun K => match PySem.W.nsIn K mainGlobals x with
  | some (some u) => He.relB v u
  | _ => false
def freeZ (x : Str) : FaZ := fun K => (He.Fa.free x).ok K
def gloZ (x : Str) : FaZ := fun K => (He.Fa.glo x).ok K
theorem kon_of {h : Heap} {x : Str} {v : V} {w : W} (X : Γ.K.In h) (G : h.Ns mainGlobals Γ.mg) (c : konOf x v Γ.K = true) (r : ∀ ρ H, RelW Γ ρ H w v) : Kon Γ x w := by
  unfold konOf at c
  split at c
  · rename_i u e
    exact ⟨u, v, PySem.W.mg_of X G e, He.relB_ok c, r⟩
  · cases c
def kI (x : Str) (i : Int) : FaZ := konOf x (.int i)
def kS (x z : Str) : FaZ := konOf x (.str z)
theorem kon_int {h : Heap} {x : Str} {i : Int} (X : Γ.K.In h) (G : h.Ns mainGlobals Γ.mg) (c : kI x i Γ.K = true) : Kon Γ x (.int i) := kon_of X G c fun _ _ => iI'
theorem kon_str {h : Heap} {x : Str} {i : Str} (X : Γ.K.In h) (G : h.Ns mainGlobals Γ.mg) (c : kS x i Γ.K = true) : Kon Γ x (.str i) := kon_of X G c fun _ _ => iS
/-! constants that are tuples, of tuples -/
inductive Cn where
  | non | bl (b : Bool) | int (i : Int) | str (x : Str) | tup (xs : List Cn)
mutual
def Cn.w : Cn → W
  | .non => .non
  | .bl b => .bl b
  | .int i => .int i
  | .str x => .str x
  | .tup xs => .tup (Cn.ws xs)
def Cn.ws : List Cn → List W
  | [] => []
  | x :: xs => x.w :: Cn.ws xs
end
mutual
def Cn.look (K : PySem.W.Frag) : Cn → Value → Bool
  | .non, .none => true
  | .bl b, .bool c => b == c
  | .int i, .int j _ => decide (i = j)
  | .str x, .str y _ => decide (x = y)
  | .tup xs, .ref a => match K.lookup a with
    | some ⟨.type c, _, .seq its _, _⟩ => decide (c = "tuple") && (decide (its.size ≤ sizeLine) && Cn.looks K xs its.toList)
    | _ => false
  | _, _ => false
def Cn.looks (K : PySem.W.Frag) : List Cn → List Value → Bool
  | [], [] => true
  | x :: xs, u :: us => x.look K u && Cn.looks K xs us
  | _, _ => false
end
mutual
theorem Cn.look_ok : ∀ (x : Cn) (u : Value), x.look Γ.K u = true → ∃ v, RelV v u ∧ ∀ ρ H, RelW Γ ρ H x.w v
  | .non, u, h => by
    cases u with
    | none => exact ⟨.non, rfl, fun _ _ => iN⟩
    | _ => simp [Cn.look] at h
  | .bl b, u, h => by
    cases u with
    | bool c' =>
      have : b = c' := by simpa [Cn.look] using h
      subst this
      exact ⟨.bl b, rfl, fun _ _ => iB⟩
    | _ => simp [Cn.look] at h
  | .int b, u, h => by
    cases u with
    | int c' t =>
      have : b = c' := by simpa [Cn.look] using h
      subst this
      exact ⟨.int b, ⟨t, rfl⟩, fun _ _ => iI'⟩
    | _ => simp [Cn.look] at h
  | .str b, u, h => by
    cases u with
    | str c' t =>
      have : b = c' := by simpa [Cn.look] using h
      subst this
      exact ⟨.str b, ⟨t, rfl⟩, fun _ _ => iS⟩
    | _ => simp [Cn.look] at h
  | .tup xs, u, h => by
    cases u with
    | ref a =>
      unfold Cn.look at h
      split at h
      · rename_i e
        rw [Bool.and_eq_true, Bool.and_eq_true] at h
        obtain ⟨h1, h2, h3⟩ := h
        obtain ⟨vs, q1, q2⟩ := Cn.looks_ok xs _ h3
        refine ⟨.ref a, rfl, fun ρ H => ?_⟩
        unfold Cn.w
        exact iT (.inr ⟨_, _, _, e, congrArg Value.type (of_decide_eq_true h1), rfl, of_decide_eq_true h2, q1⟩) (q2 ρ H)
      · cases h
    | _ => simp [Cn.look] at h
theorem Cn.looks_ok : ∀ (xs : List Cn) (us : List Value), Cn.looks Γ.K xs us = true → ∃ vs, Vals vs us ∧ ∀ ρ H, RelWs Γ ρ H (Cn.ws xs) vs
  | [], [], _ => ⟨[], .nil, fun ρ H => by unfold Cn.ws; exact RelWs.nil⟩
  | [], _ :: _, h => by simp [Cn.looks] at h
  | _ :: _, [], h => by simp [Cn.looks] at h
  | x :: xs, u :: us, h => by
    unfold Cn.looks at h
    rw [Bool.and_eq_true] at h
    obtain ⟨v, q1, q2⟩ := Cn.look_ok x u h.1
    obtain ⟨vs, q3, q4⟩ := Cn.looks_ok xs us h.2
    exact ⟨v :: vs, .cons q1 q3, fun ρ H => by unfold Cn.ws; exact RelWs.cons (q2 ρ H) (q4 ρ H)⟩
end
def kC (x : Str) (z : Cn) : FaZ := fun K => match PySem.W.nsIn K mainGlobals x with
  | some (some u) => z.look K u
  | _ => false
theorem kon_cn {h : Heap} {x : Str} {z : Cn} (X : Γ.K.In h) (G : h.Ns mainGlobals Γ.mg) (cc : kC x z Γ.K = true) : Kon Γ x z.w := by
  unfold kC at cc
  split at cc
  · rename_i u e
    obtain ⟨v, q1, q2⟩ := Cn.look_ok z u cc
    exact ⟨u, v, PySem.W.mg_of X G e, q1, q2⟩
  · cases cc
end

/-! ### the law's end -/
theorem walk_z {l : PySem.W.OpenLaw} {n k : Nat} {q : Program} {loose : List Str} {XP : (Str → Option Value) → Heap → Prop} {YP : World → Heap → Prop} {d : DefRec} {x : Str} {F : List W → Hm → Out W} (cl : PySem.W.Frag → Nat → Addr)
    (hn : l.most = some n) (hn2 : n ≤ sizeLine) (hdf : d.params.defaults = []) (hr : Room k callerA)
    (hF : ∀ (w : World) (mg : Str → Option Value) (fa : Addr) (h : Heap), YP w h → h.Ns mainGlobals mg → mg d.name = some (.ref fa) →
      ∃ (K : PySem.W.Frag), K.In h ∧ fa = He.ga K d.name ∧ ∃ fd, (∀ (s : Shared) (u : Value), BindsTo s fd ⟨[u], []⟩ [(x, u)]) ∧
        ∀ base : Heap, K.In base → base.Ns mainGlobals mg → FnS ⟨l.prog, w, K, mg, base, cl K⟩ k fa fd [x] F)
    (hlaw : ∀ ns : List Int, ns.length ≤ n → (∀ z ∈ ns, Builtin.Int.intBits z ≤ 1048576) → ∃ h', F [.ref 0] [.frz (ns.map .int)] = .ok (.bl true) h') :
    PySem.W.WalkO q loose XP YP l.row.toRowW d [] (fun f vs => PySem.call f vs) := by
  refine Att.attach_callB hn hdf fun w s₀ s₁ mg mb fa o pm cd doc a vs ns G Y ho hd hcd hmg hobj hints hlen hbits hg => ?_
  obtain ⟨K, KX, _, fd, hb, hf⟩ := hF w mg fa _ Y G.T.g hmg
  obtain ⟨h', e'⟩ := hlaw ns hlen hbits
  refine law_call (CX := L2.CX l.prog w) (sp := fun vs H Q E => ∃ (a : Addr) (ns : List Int), vs = [.ref a] ∧ FzL K H a (ns.map V.int) ∧ ns.length ≤ n ∧ (∀ z ∈ ns, Builtin.Int.intBits z ≤ 1048576) ∧ ∀ H', Q (.bl true) H') KX G.T.g G.T.b G.T.builtins G.T.nolimit hg hobj hints (Nat.le_trans hlen hn2) hr (fun base b1 b2 => ?_) hb (fun H hO hS => ?_) fun H e s' => ?_
  · refine FnOk.imp (hf base b1 b2) fun vs H Q E ⟨a, ns, ev, hz, h1, h2, q⟩ => ?_
    subst ev
    obtain ⟨h', e'⟩ := hlaw ns h1 h2
    refine ⟨rfl, [a], [.ref 0], [.frz (ns.map .int)], ⟨rfl, fun i o e => ?_, fun i j oi oj b ei ej m1 m2 => ?_⟩, ?_, ?_⟩
    · cases i with
      | zero =>
        cases e
        refine ⟨a, rfl, ns.map V.int, hz, ?_⟩
        clear e' hz h1 h2
        induction ns with
        | nil => exact RelWs.nil
        | cons z r ih => exact RelWs.cons iI' ih
      | succ i => cases e
    · cases i with
      | zero =>
        cases ei
        exact m1.elim
      | succ i => cases ei
    · exact RelWs.cons (iR rfl) RelWs.nil
    · rw [e']
      intro ρ' H' v l r rv
      rw [rwB rv]
      exact q H'
  · refine ⟨a, ns, rfl, ?_, hlen, hbits, fun _ => rfl⟩
    rcases hS with (h | ⟨o, h⟩) | h
    · rcases hO a with z | ⟨o, xs, z⟩
      · rw [z] at h; cases h
      · rw [z] at h; cases h
    · exact .inl ⟨o, h⟩
    · exact .inr h
  · rintro ⟨_, _, _, _, _, _, _, _, _, _, _, _, z⟩
    exact z
end Z

/-! Z9: short words for the calls of built-ins -/
namespace Z
open PySem PySem.Spec PyProof.Rows L2
section
variable {Γ : Gam} {c : Cfg} {k j : Nat} {a b e d o i tg : Expr} {es : List Expr} {fa : XE} {fr : XA} {pos p p2 : Pos} {ρ : List Addr} {H : Hp}
theorem e_len (j : Nat) (B : Bs Γ) (ha : SA Γ c k (e :: es) fr) (hG : c.G[j]? = some ("len" : Str) := by rfl) (he : ∀ env, starEach (e :: es) env = (false, eval e env) :: starEach es env := by intros; rfl) (hpl : ∀ env, (backTo pos (starEach es env)).any (·.1) = false := by intros; rfl) :
    SE Γ c k (.Call (.Name "len" p) (e :: es) [] pos) (xCall lenW fr) := se_callB (cs_len) j B.len (by decide +kernel) ha hG (by decide) (by decide) he hpl
theorem e_abs (j : Nat) (B : Bs Γ) (ha : SA Γ c k (e :: es) fr) (hG : c.G[j]? = some ("abs" : Str) := by rfl) (he : ∀ env, starEach (e :: es) env = (false, eval e env) :: starEach es env := by intros; rfl) (hpl : ∀ env, (backTo pos (starEach es env)).any (·.1) = false := by intros; rfl) :
    SE Γ c k (.Call (.Name "abs" p) (e :: es) [] pos) (xCall absW fr) := se_callB (cs_abs) j B.abs (by decide +kernel) ha hG (by decide) (by decide) he hpl
theorem e_min (j : Nat) (B : Bs Γ) (ha : SA Γ c k (e :: es) fr) (hG : c.G[j]? = some ("min" : Str) := by rfl) (hc : c.calm = true := by rfl) (he : ∀ env, starEach (e :: es) env = (false, eval e env) :: starEach es env := by intros; rfl) (hpl : ∀ env, (backTo pos (starEach es env)).any (·.1) = false := by intros; rfl) :
    SE Γ c k (.Call (.Name "min" p) (e :: es) [] pos) (xCall minW fr) := se_callB (cs_min hc) j B.min (by decide +kernel) ha hG (by decide) (by decide) he hpl
theorem e_max (j : Nat) (B : Bs Γ) (ha : SA Γ c k (e :: es) fr) (hG : c.G[j]? = some ("max" : Str) := by rfl) (hc : c.calm = true := by rfl) (he : ∀ env, starEach (e :: es) env = (false, eval e env) :: starEach es env := by intros; rfl) (hpl : ∀ env, (backTo pos (starEach es env)).any (·.1) = false := by intros; rfl) :
    SE Γ c k (.Call (.Name "max" p) (e :: es) [] pos) (xCall maxW fr) := se_callB (cs_max hc) j B.max (by decide +kernel) ha hG (by decide) (by decide) he hpl
theorem e_ord (j : Nat) (B : Bs Γ) (ha : SA Γ c k (e :: es) fr) (hG : c.G[j]? = some ("ord" : Str) := by rfl) (he : ∀ env, starEach (e :: es) env = (false, eval e env) :: starEach es env := by intros; rfl) (hpl : ∀ env, (backTo pos (starEach es env)).any (·.1) = false := by intros; rfl) :
    SE Γ c k (.Call (.Name "ord" p) (e :: es) [] pos) (xCall ordW fr) := se_callB (cs_ord) j B.ord (by decide +kernel) ha hG (by decide) (by decide) he hpl
theorem e_int (j : Nat) (B : Bs Γ) (ha : SA Γ c k (e :: es) fr) (hG : c.G[j]? = some ("int" : Str) := by rfl) (he : ∀ env, starEach (e :: es) env = (false, eval e env) :: starEach es env := by intros; rfl) (hpl : ∀ env, (backTo pos (starEach es env)).any (·.1) = false := by intros; rfl) :
    SE Γ c k (.Call (.Name "int" p) (e :: es) [] pos) (xCall intW fr) := se_callT cs_int j B.int (by decide +kernel) ha hG (by decide) (by decide) he hpl
theorem e_str (j : Nat) (B : Bs Γ) (ha : SA Γ c k (e :: es) fr) (hG : c.G[j]? = some ("str" : Str) := by rfl) (he : ∀ env, starEach (e :: es) env = (false, eval e env) :: starEach es env := by intros; rfl) (hpl : ∀ env, (backTo pos (starEach es env)).any (·.1) = false := by intros; rfl) :
    SE Γ c k (.Call (.Name "str" p) (e :: es) [] pos) (xCall strW fr) := se_callT cs_str j B.str (by decide +kernel) ha hG (by decide) (by decide) he hpl
theorem e_list (j : Nat) (B : Bs Γ) (ha : SA Γ c k (e :: es) fr) (hG : c.G[j]? = some ("list" : Str) := by rfl) (he : ∀ env, starEach (e :: es) env = (false, eval e env) :: starEach es env := by intros; rfl) (hpl : ∀ env, (backTo pos (starEach es env)).any (·.1) = false := by intros; rfl) :
    SE Γ c k (.Call (.Name "list" p) (e :: es) [] pos) (xCall listW fr) := se_callT cs_list j B.list (by decide +kernel) ha hG (by decide) (by decide) he hpl
theorem e_tuple (j : Nat) (B : Bs Γ) (ha : SA Γ c k (e :: es) fr) (hG : c.G[j]? = some ("tuple" : Str) := by rfl) (he : ∀ env, starEach (e :: es) env = (false, eval e env) :: starEach es env := by intros; rfl) (hpl : ∀ env, (backTo pos (starEach es env)).any (·.1) = false := by intros; rfl) :
    SE Γ c k (.Call (.Name "tuple" p) (e :: es) [] pos) (xCall tupleW fr) := se_callT cs_tuple j B.tuple (by decide +kernel) ha hG (by decide) (by decide) he hpl
theorem e_is_int (j j' : Nat) (B : Bs Γ) (ha : SE Γ c k a fa) (hG : c.G[j]? = some ("isinstance" : Str) := by rfl) (hG' : c.G[j']? = some ("int" : Str) := by rfl) (he : ∀ env, starEach [a, .Name "int" p2] env = (false, eval a env) :: starEach [.Name "int" p2] env := by intros; rfl) :
    SE Γ c k (.Call (.Name "isinstance" p) [a, .Name "int" p2] [] pos) (xIsi "int" fa) := se_isi "int" j j' B (by decide +kernel) B.int (by decide) ha hG hG' (by decide) (by decide) he (by intros; rfl) (by intros; rfl)
theorem e_is_bool (j j' : Nat) (B : Bs Γ) (ha : SE Γ c k a fa) (hG : c.G[j]? = some ("isinstance" : Str) := by rfl) (hG' : c.G[j']? = some ("bool" : Str) := by rfl) (he : ∀ env, starEach [a, .Name "bool" p2] env = (false, eval a env) :: starEach [.Name "bool" p2] env := by intros; rfl) :
    SE Γ c k (.Call (.Name "isinstance" p) [a, .Name "bool" p2] [] pos) (xIsi "bool" fa) := se_isi "bool" j j' B (by decide +kernel) B.bool (by decide) ha hG hG' (by decide) (by decide) he (by intros; rfl) (by intros; rfl)
theorem e_is_str (j j' : Nat) (B : Bs Γ) (ha : SE Γ c k a fa) (hG : c.G[j]? = some ("isinstance" : Str) := by rfl) (hG' : c.G[j']? = some ("str" : Str) := by rfl) (he : ∀ env, starEach [a, .Name "str" p2] env = (false, eval a env) :: starEach [.Name "str" p2] env := by intros; rfl) :
    SE Γ c k (.Call (.Name "isinstance" p) [a, .Name "str" p2] [] pos) (xIsi "str" fa) := se_isi "str" j j' B (by decide +kernel) B.str (by decide) ha hG hG' (by decide) (by decide) he (by intros; rfl) (by intros; rfl)
theorem e_is_list (j j' : Nat) (B : Bs Γ) (ha : SE Γ c k a fa) (hG : c.G[j]? = some ("isinstance" : Str) := by rfl) (hG' : c.G[j']? = some ("list" : Str) := by rfl) (he : ∀ env, starEach [a, .Name "list" p2] env = (false, eval a env) :: starEach [.Name "list" p2] env := by intros; rfl) :
    SE Γ c k (.Call (.Name "isinstance" p) [a, .Name "list" p2] [] pos) (xIsi "list" fa) := se_isi "list" j j' B (by decide +kernel) B.list (by decide) ha hG hG' (by decide) (by decide) he (by intros; rfl) (by intros; rfl)
theorem e_is_tuple (j j' : Nat) (B : Bs Γ) (ha : SE Γ c k a fa) (hG : c.G[j]? = some ("isinstance" : Str) := by rfl) (hG' : c.G[j']? = some ("tuple" : Str) := by rfl) (he : ∀ env, starEach [a, .Name "tuple" p2] env = (false, eval a env) :: starEach [.Name "tuple" p2] env := by intros; rfl) :
    SE Γ c k (.Call (.Name "isinstance" p) [a, .Name "tuple" p2] [] pos) (xIsi "tuple" fa) := se_isi "tuple" j j' B (by decide +kernel) B.tuple (by decide) ha hG hG' (by decide) (by decide) he (by intros; rfl) (by intros; rfl)
theorem e_append (ho : SE Γ c k o fa) (ha : SA Γ c k (e :: es) fr) (hbase : ∀ env, attributeBase o "append" env (eval o env) = eval o env := by intros; rfl) (hfew : ∀ env, ((backTo pos (starEach (e :: es) env)).all (fun x => !x.1) && (backToKw pos (keywordEach [] env)).all (fun x => x.1.isSome) && decide ((e :: es).length + ([] : List Keyword).length + (if ([] : List Keyword).isEmpty then 0 else 1) < 30)) = true := by intros; rfl) (hline : (p.endLine == pos.line) = true := by rfl) (hs : ∀ env, starEach (e :: es) env = (false, eval e env) :: starEach es env := by intros; rfl) (hplain : ∀ env, (backTo pos (starEach es env)).any (·.1) = false := by intros; rfl) :
    SE Γ c k (.Call (.Attribute o "append" p) (e :: es) [] pos) (xMeth isL appW fa fr) := se_bm PySem.F.plainAttrs_list PySem.F.slot_list_append PySem.F.type_list_append ms_append isL_ty ho ha hbase hfew hline hs hplain
theorem e_extend (ho : SE Γ c k o fa) (ha : SA Γ c k (e :: es) fr) (hbase : ∀ env, attributeBase o "extend" env (eval o env) = eval o env := by intros; rfl) (hfew : ∀ env, ((backTo pos (starEach (e :: es) env)).all (fun x => !x.1) && (backToKw pos (keywordEach [] env)).all (fun x => x.1.isSome) && decide ((e :: es).length + ([] : List Keyword).length + (if ([] : List Keyword).isEmpty then 0 else 1) < 30)) = true := by intros; rfl) (hline : (p.endLine == pos.line) = true := by rfl) (hs : ∀ env, starEach (e :: es) env = (false, eval e env) :: starEach es env := by intros; rfl) (hplain : ∀ env, (backTo pos (starEach es env)).any (·.1) = false := by intros; rfl) :
    SE Γ c k (.Call (.Attribute o "extend" p) (e :: es) [] pos) (xMeth isL extW fa fr) := se_bm PySem.F.plainAttrs_list PySem.F.slot_list_extend PySem.F.type_list_extend ms_extend isL_ty ho ha hbase hfew hline hs hplain
theorem e_index (ho : SE Γ c k o fa) (ha : SA Γ c k (e :: es) fr) (hbase : ∀ env, attributeBase o "index" env (eval o env) = eval o env := by intros; rfl) (hfew : ∀ env, ((backTo pos (starEach (e :: es) env)).all (fun x => !x.1) && (backToKw pos (keywordEach [] env)).all (fun x => x.1.isSome) && decide ((e :: es).length + ([] : List Keyword).length + (if ([] : List Keyword).isEmpty then 0 else 1) < 30)) = true := by intros; rfl) (hline : (p.endLine == pos.line) = true := by rfl) (hs : ∀ env, starEach (e :: es) env = (false, eval e env) :: starEach es env := by intros; rfl) (hplain : ∀ env, (backTo pos (starEach es env)).any (·.1) = false := by intros; rfl) :
    SE Γ c k (.Call (.Attribute o "index" p) (e :: es) [] pos) (xMeth isL idxW fa fr) := se_bm PySem.F.plainAttrs_list PySem.F.slot_list_index PySem.F.type_list_index ms_index isL_ty ho ha hbase hfew hline hs hplain
theorem e_join (ho : SE Γ c k o fa) (ha : SA Γ c k (e :: es) fr) (hbase : ∀ env, attributeBase o "join" env (eval o env) = eval o env := by intros; rfl) (hfew : ∀ env, ((backTo pos (starEach (e :: es) env)).all (fun x => !x.1) && (backToKw pos (keywordEach [] env)).all (fun x => x.1.isSome) && decide ((e :: es).length + ([] : List Keyword).length + (if ([] : List Keyword).isEmpty then 0 else 1) < 30)) = true := by intros; rfl) (hline : (p.endLine == pos.line) = true := by rfl) (hs : ∀ env, starEach (e :: es) env = (false, eval e env) :: starEach es env := by intros; rfl) (hplain : ∀ env, (backTo pos (starEach es env)).any (·.1) = false := by intros; rfl) :
    SE Γ c k (.Call (.Attribute o "join" p) (e :: es) [] pos) (xMeth isS joinW fa fr) := se_bm PySem.F.plainAttrs_str PySem.F.slot_str_join PySem.F.type_str_join ms_join isS_ty ho ha hbase hfew hline hs hplain
end

def blkCfg (c : Cfg) (scope : Scope) (V L G : List Str) : Cfg := ⟨c.N, V, L, G, relS scope c.sc, false, c.calm⟩
section
variable {Γ : Gam} {c : Cfg} {k : Nat} {e tg iter : Expr} {ifs : List Expr} {fa fb fc : XE} {ft fu : XT} {pos p : Pos}
theorem se_lc {scope : Scope} {fi : XI} {g : XG} {t : XT} {el : XE} (own : List (Str × Nat)) (V L G : List Str) (hi : SI Γ c k tg iter fi) (hg : SGo Γ (blkCfg c scope V L G) k (own.map (·.2)) tg g) (ht : STs Γ (blkCfg c scope V L G) k ifs t) (he : SE Γ (blkCfg c scope V L G) k e el)
    (ok : cfgOk (blkCfg c scope V L G) = true) (hb : blkC c.N c.sc scope own = true) (hc : c.calm = true := by rfl) (hset : ∀ env x, foldedSetIterable iter env x = pure x := by intros; rfl) :
    SE Γ c k (.ListComp e [⟨tg, iter, ifs, 0⟩] scope pos) (xComp fi g t el (own.map (·.2))) := se_comp _ hi hg ht he ok hb rfl rfl rfl rfl hc hset
theorem ss_lc (i j : Nat) {x : Str} {px spos : Pos} {scope : Scope} {fi : XI} {g : XG} {t : XT} {el : XE} (own : List (Str × Nat)) (V L G : List Str) (hi : SI Γ c k tg iter fi) (hg : SGo Γ (blkCfg c scope V L G) k (own.map (·.2)) tg g) (ht : STs Γ (blkCfg c scope V L G) k ifs t) (he : SE Γ (blkCfg c scope V L G) k e el)
    (ok : cfgOk (blkCfg c scope V L G) = true) (hb : blkC c.N c.sc scope own = true) (hl : c.sc.names.lookup x = some .local) (ha : (scope.names.any fun (n, k) => n == x && (k == .local || k == .cell)) = false) (hln : (px.line == pos.line) = true := by rfl)
    (hNx : c.N[i]? = some x := by rfl) (hc : c.calm = true := by rfl) (hset : ∀ env x, foldedSetIterable iter env x = pure x := by intros; rfl) (hfk : c.sc.kind = .function := by rfl) :
    SS Γ c k (.Assign [.Name x px] (.ListComp e [⟨tg, iter, ifs, 0⟩] scope pos) spos) (sSet i (xComp fi g t el (own.map (·.2)))) := ss_setLc i j _ hi hg ht he ok hb hl hln ha hNx rfl rfl rfl rfl hc hset hfk
end
end Z

/-! Z10: objects of own classes: fields, methods, making -/
namespace Z
open PySem PySem.Spec PyProof.Rows L2
def putW (f : Str) (v : W) : List (Str × W) → List (Str × W)
  | [] => [(f, v)]
  | (g, x) :: r => if g = f then (g, v) :: r else (g, x) :: putW f v r
def insW (x : W) (h : Hm) : Option (Nat × List (Str × W)) := match x with
  | .ref r => match h[r]? with
    | some (.ins c fs) => some (c, fs)
    | _ => none
  | _ => none
def fldW (T : List Nat) (f : Str) (x : W) (h : Hm) : Option W := (insW x h).bind fun p => if T.contains p.1 then p.2.lookup f else none
def setF (T : List Nat) (f : Str) (x v : W) (h : Hm) : Option Hm := match x with
  | .ref r => match h[r]? with
    | some (.ins c fs) => if T.contains c && decide (fs.length < 1000) then some (h.set r (.ins c (putW f v fs))) else none
    | _ => none
  | _ => none
abbrev FnT := List W → Hm → Out W
def metW (MT : List (Nat × FnT)) (m : Str) (x : W) (h : Hm) : Option FnT := (insW x h).bind fun p => if (p.2.lookup m).isNone then MT.lookup p.1 else none
def xFld (T : List Nat) (f : Str) (a : XE) : XE := fun σ h => (a σ h).bind fun x h1 => match fldW T f x h1 with
  | some w => .ok w h1
  | none => .bad
def xMet (MT : List (Nat × FnT)) (m : Str) (o : XE) (a : XA) : XE := fun σ h => (o σ h).bind fun x h1 => match metW MT m x h1 with
  | some F => (a σ h1).bind fun xs h2 => F (x :: xs) h2
  | none => .bad
def xMake (c : Nat) (F : FnT) (a : XA) : XE := fun σ h => (a σ h).bind fun xs h1 => (F (.ref h1.length :: xs) (h1 ++ [.ins c []])).bind fun w h2 => match w with
  | .non => .ok (.ref h1.length) h2
  | _ => .bad
def sFldSet (T : List Nat) (f : Str) (o e : XE) : XS := fun σ h => sOf (e σ h) σ fun v h1 => sOf (o σ h1) σ fun x h2 => match setF T f x v h2 with
  | some h3 => .nx σ h3
  | none => .bad
def clsW (x : W) (h : Hm) : Nat := ((insW x h).map (·.1)).getD 0
def sFldAug (T : List Nat) (f : Str) (g : W → W → Hm → Pr) (o e : XE) : XS := fun σ h => sOf (o σ h) σ fun x h1 => match fldW T f x h1 with
  | some v => sOf (e σ h1) σ fun y h2 => sOp (g v y h2) fun z h3 => match setF [clsW x h1] f x z h3 with
    | some h4 => .nx σ h4
    | none => .bad
  | none => .bad
/-- facts of a field -/
def FldOk (Γ : Gam) (T : List Nat) (f : Str) : Prop := ∀ c ∈ T, Cls Γ.K (Γ.cl c) ∧ NoAttr Γ.K (Γ.cl c) f
/-- facts of a method -/
def MetOk (Γ : Gam) (j n : Nat) (MT : List (Nat × FnT)) (m : Str) : Prop := ∀ p ∈ MT, Cls Γ.K (Γ.cl p.1) ∧ ∃ f ps, Meth Γ.K (Γ.cl p.1) m f ∧ CalD Γ j f ps p.2 ∧ ps.length = n + 1
/-- facts of a class that is called -/
structure MakeOk (Γ : Gam) (j n : Nat) (c : Nat) (x : Str) (F : FnT) : Prop where
  mkr : ∃ f ps, Mk Γ.K (Γ.cl c) f ∧ CalD Γ j f ps F ∧ ps.length = n + 1
  mg : Γ.mg x = some (.ref (Γ.cl c))
section
variable {Γ : Gam} {c : Cfg} {k j n : Nat} {a b e d o i tg value : Expr} {es : List Expr} {fa fb fc : XE} {fr : XA} {pos p apos tpos : Pos} {ρ : List Addr} {H : Hp} {f : Str} {T : List Nat} {MT : List (Nat × FnT)} {F : FnT}
theorem RelFs.look : ∀ {fs : List (Str × W)} {gs : List (Str × V)} (f : Str), RelFs Γ ρ H fs gs → (∀ w, fs.lookup f = some w → ∃ v, gs.lookup f = some v ∧ RelW Γ ρ H w v) ∧ (fs.lookup f = none → gs.lookup f = none)
  | [], gs, f, r => by
    unfold RelFs at r
    subst r
    exact ⟨fun w e => (by simp at e), fun _ => rfl⟩
  | (g, x) :: fs, gs, f, r => by
    unfold RelFs at r
    obtain ⟨y, r', rfl, h1, h2⟩ := r
    obtain ⟨q1, q2⟩ := RelFs.look f h2
    rw [List.lookup_cons, List.lookup_cons]
    cases hb : f == g with
    | true => exact ⟨fun w e => by cases e; exact ⟨y, rfl, h1⟩, fun e => by cases e⟩
    | false => exact ⟨q1, q2⟩
theorem RelFs.put : ∀ {fs : List (Str × W)} {gs : List (Str × V)} {w : W} {v : V} (f : Str), RelFs Γ ρ H fs gs → RelW Γ ρ H w v → RelFs Γ ρ H (putW f w fs) (putF f v gs)
  | [], gs, w, v, f, r, q => by
    unfold RelFs at r
    subst r
    unfold putW putF RelFs
    exact ⟨v, [], rfl, q, rfl⟩
  | (g, x) :: fs, gs, w, v, f, r, q => by
    unfold RelFs at r
    obtain ⟨y, r', rfl, h1, h2⟩ := r
    unfold putW putF
    by_cases hg : g = f
    · rw [if_pos hg, if_pos hg]
      unfold RelFs
      exact ⟨v, r', rfl, q, h2⟩
    · rw [if_neg hg, if_neg hg]
      unfold RelFs
      exact ⟨y, _, rfl, h1, RelFs.put f h2 q⟩
theorem RelFs.length : ∀ {fs : List (Str × W)} {gs : List (Str × V)}, RelFs Γ ρ H fs gs → fs.length = gs.length
  | [], gs, r => by
    unfold RelFs at r
    subst r
    rfl
  | _ :: fs, gs, r => by
    unfold RelFs at r
    obtain ⟨y, r', rfl, _, h2⟩ := r
    rw [List.length_cons, List.length_cons, RelFs.length h2]
theorem Rel.ins {h : Hm} {x : W} {v : V} {cc : Nat} {fs : List (Str × W)} (R : Rel Γ ρ h H) (e : insW x h = some (cc, fs)) (r : RelW Γ ρ H x v) : ∃ r0 a dx gs, x = .ref r0 ∧ h[r0]? = some (.ins cc fs) ∧ v = .ref a ∧ ρ[r0]? = some a ∧ H a = some (.ins (Γ.cl cc) dx gs) ∧ RelFs Γ ρ H fs gs := by
  unfold insW at e
  split at e
  · rename_i r0
    split at e
    · rename_i ex
      cases e
      obtain ⟨a, ea, rfl⟩ := rwR r
      obtain ⟨a', ea', dx, gs, hy, rr⟩ := R.obj _ _ ex
      rw [ea] at ea'
      cases ea'
      exact ⟨r0, a, dx, gs, rfl, ex, rfl, ea, hy, rr⟩
    · cases e
  · cases e
theorem fld_at {h : Hm} {x w : W} {v : V} (ok : FldOk Γ T f) (R : Rel Γ ρ h H) (e : fldW T f x h = some w) (r : RelW Γ ρ H x v) : ∃ r0 a cc dx fs gs u, x = .ref r0 ∧ h[r0]? = some (.ins cc fs) ∧ T.contains cc = true ∧ v = .ref a ∧ ρ[r0]? = some a ∧ H a = some (.ins (Γ.cl cc) dx gs) ∧ RelFs Γ ρ H fs gs ∧ Cls Γ.K (Γ.cl cc) ∧ NoAttr Γ.K (Γ.cl cc) f ∧ gs.lookup f = some u ∧ RelW Γ ρ H w u := by
  unfold fldW at e
  obtain ⟨⟨cc, fs⟩, e1, e2⟩ := Option.bind_eq_some_iff.mp e
  dsimp only at e2
  split at e2
  · rename_i hT
    obtain ⟨r0, a, dx, gs, rfl, ex, rfl, ea, hy, rr⟩ := R.ins e1 r
    obtain ⟨u, l, q⟩ := (rr.look f).1 w e2
    obtain ⟨o1, o2⟩ := ok cc (by simpa using hT)
    exact ⟨r0, a, cc, dx, fs, gs, u, rfl, ex, hT, rfl, ea, hy, rr, o1, o2, l, q⟩
  · cases e2
theorem se_fld (ok : FldOk Γ T f) (ha : SE Γ c k a fa) (hb : ∀ env, attributeBase a f env (eval a env) = eval a env := by intros; rfl) : SE Γ c k (.Attribute a f pos) (xFld T f fa) := by
  intro W X G
  refine PE.imp (pe_fld (ha W X G) (hb X.env)) fun τ H Q h => ?_
  obtain ⟨ρ, σ, h, R, S, q⟩ := h
  refine ⟨ρ, σ, h, R, S, (O1.bind (R := RelW Γ) q).imp fun v H1 ⟨ρ1, h1, u, l1, R1, r1, q1⟩ => ?_⟩
  split at q1
  · rename_i w e
    obtain ⟨r0, a, cc, dx, fs, gs, z, rfl, ex, hT, rfl, ea, hy, rr, o1, o2, l, qz⟩ := fld_at ok R1 e r1
    exact ⟨a, _, dx, gs, z, rfl, hy, by rw [G.K]; exact o1, by rw [G.K]; exact o2, l, q1 ρ1 H1 z .refl R1 qz⟩
  · exact q1.elim
theorem set_at {h h' : Hm} {x v : W} {ov u : V} (ok : FldOk Γ T f) (R : Rel Γ ρ h H) (e : setF T f x v h = some h') (r : RelW Γ ρ H x ov) (rv : RelW Γ ρ H v u) :
    ∃ a cc dx gs, cc ∈ T ∧ ov = .ref a ∧ H a = some (.ins (Γ.cl cc) dx gs) ∧ Cls Γ.K (Γ.cl cc) ∧ NoAttr Γ.K (Γ.cl cc) f ∧ gs.length < 1000 ∧ Le Γ ρ ρ H (upd H a (.ins (Γ.cl cc) dx (putF f u gs))) ∧ Rel Γ ρ h' (upd H a (.ins (Γ.cl cc) dx (putF f u gs))) := by
  unfold setF at e
  split at e
  · rename_i r0
    split at e
    · rename_i cc fs ex
      split at e
      · rename_i hT
        cases e
        rw [Bool.and_eq_true, decide_eq_true_eq] at hT
        obtain ⟨r0', a, dx, gs, e1, ex', rfl, ea, hy, rr⟩ := R.ins (cc := cc) (fs := fs) (by unfold insW; simp only [ex]) r
        cases e1
        obtain ⟨o1, o2⟩ := ok cc (by simpa using hT.1)
        have l : Le Γ ρ ρ H (upd H a (.ins (Γ.cl cc) dx (putF f u gs))) := Le.write hy trivial
        refine ⟨a, cc, dx, gs, by simpa using hT.1, rfl, hy, o1, o2, by rw [← rr.length]; exact hT.2, l, ?_⟩
        exact R.write ex ea trivial trivial hy trivial ⟨dx, _, upd_same, (RelFs.mono l _ _ (rr.put f rv))⟩
      · cases e
    · cases e
  · cases e
theorem ss_fld (ok : FldOk Γ T f) (ho : SE Γ c k o fa) (hv : SE Γ c k value fb) (hs : ∀ env, swapsWith value (some (.Attribute o f p)) pos.line env = pure false := by intros; rfl) : SS Γ c k (.Assign [.Attribute o f p] value pos) (sFldSet T f fa fb) := by
  intro W X G
  refine PS.imp (ps_fld (ho W X G) (hv W X G) (hs X.env)) fun D τ H h => ?_
  obtain ⟨ρ, σ, h, R, S, q⟩ := h
  refine ⟨ρ, σ, h, R, S, (S1.of (R := RelW Γ) S q).imp fun v H1 ⟨ρ1, h1, u, l1, R1, r1, q1⟩ => ?_⟩
  refine ⟨ρ1, σ, h1, R1, S.mono l1, (S1.of (R := RelW Γ) (S.mono l1) q1).imp fun x H2 ⟨ρ2, h2, u2, l2, R2, r2, q2⟩ => ?_⟩
  split at q2
  · rename_i h3 e3
    obtain ⟨a, cc, dx, gs, _, rfl, hy, o1, o2, l, l3, R3⟩ := set_at ok R2 e3 r2 (RelW.mono l2 _ _ r1)
    exact ⟨a, _, dx, gs, rfl, hy, by rw [G.K]; exact o1, by rw [G.K]; exact o2, l, q2 ρ2 _ τ l3 R3 (((S.mono l1).mono l2).mono l3)⟩
  · exact q2.elim
theorem ss_fldaug {op : Operator} {g : W → W → Hm → Pr} (ok : FldOk Γ T f) (hop : IpS Γ c k op g) (ho : SE Γ c k o fa) (hv : SE Γ c k value fb) : SS Γ c k (.AugAssign (.Attribute o f tpos) op value pos) (sFldAug T f g fa fb) := by
  intro W X G
  refine PS.imp (ps_fldaug (ho W X G) (hv W X G) (fun pins s σ H x y u v Q I rx ry h => hop W X G pins s σ H x y u v Q I rx ry h)) fun D τ H h => ?_
  obtain ⟨ρ, σ, h, R, S, q⟩ := h
  refine ⟨ρ, σ, h, R, S, (S1.of (R := RelW Γ) S q).imp fun v H1 ⟨ρ1, h1, u, l1, R1, r1, q1⟩ => ?_⟩
  split at q1
  · rename_i w e
    obtain ⟨r0, a, cc, dx, fs, gs, z, rfl, ex, hT, rfl, ea, hy, rr, o1, o2, l, qz⟩ := fld_at ok R1 e r1
    refine ⟨a, _, dx, gs, z, rfl, hy, by rw [G.K]; exact o1, by rw [G.K]; exact o2, l, ρ1, σ, h1, R1, S.mono l1, (S1.of (R := RelW Γ) (S.mono l1) q1).imp fun y H2 ⟨ρ2, h2, u2, l2, R2, r2, q2⟩ => ?_⟩
    obtain ⟨z2, h3, e3, q3⟩ := q2.op
    refine ⟨ρ2, h2, w, u2, z2, h3, R2, RelW.mono l2 _ _ qz, r2, e3, fun ρ3 H3 v3 l3 R3 r3 => ?_⟩
    have q3 := S1.mono l3 q3
    split at q3
    · rename_i h4 e4
      have ec : clsW (.ref r0) h1 = cc := by
        unfold clsW insW
        simp only [ex]
        rfl
      have ok' : FldOk Γ [clsW (.ref r0) h1] f := fun c' m => by
        rw [List.mem_singleton.mp m, ec]
        exact ⟨o1, o2⟩
      obtain ⟨a', cc', dx', gs', m', ea', hy', o1', o2', lg, l4, R4⟩ := set_at ok' R3 e4 (RelW.mono (l2.trans l3) _ _ r1) r3
      cases ea'
      rw [List.mem_singleton.mp m', ec] at hy' l4 R4
      exact ⟨dx', gs', hy', lg, q3 ρ3 _ τ l4 R4 ((((S.mono l1).mono l2).mono l3).mono l4)⟩
    · exact q3.elim
  · exact q1.elim
/-! calls -/
theorem met_at {h : Hm} {x : W} {v : V} {m : Str} {n : Nat} {F : FnT} (ok : MetOk Γ j n MT m) (R : Rel Γ ρ h H) (e : metW MT m x h = some F) (r : RelW Γ ρ H x v) :
    ∃ a C dx gs f ps, v = .ref a ∧ H a = some (.ins C dx gs) ∧ Cls Γ.K C ∧ gs.lookup m = none ∧ Meth Γ.K C m f ∧ CalD Γ j f ps F ∧ ps.length = n + 1 := by
  unfold metW at e
  obtain ⟨⟨cc, fs⟩, e1, e2⟩ := Option.bind_eq_some_iff.mp e
  dsimp only at e2
  split at e2
  · rename_i hl
    obtain ⟨r0, a, dx, gs, rfl, ex, rfl, ea, hy, rr⟩ := R.ins e1 r
    obtain ⟨o1, f, ps, o2, o3, o4⟩ := ok (cc, F) (lookup_mem e2)
    exact ⟨a, _, dx, gs, f, ps, rfl, hy, o1, (rr.look m).2 (Option.isNone_iff_eq_none.mp hl), o2, o3, o4⟩
  · cases e2
theorem se_met {m : Str} {pl : Env → Sem Bool} (ok : MetOk Γ j (n + 1) MT m) (ho : SE Γ c k o fa) (ha : SA Γ c k (e :: es) fr) (hn : ∀ σ h ws h', fr σ h = .ok ws h' → ws.length = n + 1) (hl : j ≤ k := by decide) (hc : c.calm = true := by rfl)
    (hst : ∀ env, starEach (e :: es) env = (false, eval e env) :: starEach es env := by intros; rfl) (hpl : ∀ env, (backTo pos (starEach es env)).any (·.1) = false := by intros; rfl)
    (ht : ∀ env, eval (.Call (.Attribute o m apos) (e :: es) [] pos) env = (do
      let ov ← eval o env
      standAt apos.atName
      let (f, first) ← holding [ov] (getMethod ov m (pl env))
      callWith pos f first (backTo pos (starEach (e :: es) env)) (backToKw pos (keywordEach [] env))) := by intros; rfl) :
    SE Γ c k (.Call (.Attribute o m apos) (e :: es) [] pos) (xMet MT m fa fr) := by
  intro W X G
  refine ⟨fun pins s τ H Q I h => ?_⟩
  obtain ⟨ρ, σ, h, R, S, q⟩ := h
  refine PySem.W.methodCall_KW (pl := pl X.env) (thn ((ho W X G).run pins s τ H (fun v H1 => ∃ ρ1 h1 x, Rel Γ ρ1 h1 H1 ∧ RelS Γ ρ1 H1 σ τ ∧ RelW Γ ρ1 H1 x v ∧ O1 Γ (RelW Γ) ρ1 H1 (match metW MT m x h1 with
      | some F => (fr σ h1).bind fun xs h2 => F (x :: xs) h2
      | none => .bad) Q (fun cls d H' => W cls d τ H')) I ⟨ρ, σ, h, R, S, (O1.bind (R := RelW Γ) q).imp fun x H1 ⟨ρ1, h1, u, l1, R1, r1, q1⟩ => ⟨ρ1, h1, u, R1, S.mono l1, r1, q1⟩⟩) fun u s1 ⟨v, H1, I1, ru, ρ1, h1, x, R1, S1, r1, q1⟩ => ?_) (ht X.env)
  split at q1
  · rename_i F eF
    obtain ⟨a, C, dx, gs, f, ps, rfl, hy, o1, o2, o3, ⟨⟨fd, o4, o5, _⟩, o6⟩, o7⟩ := met_at ok R1 eF r1
    obtain rfl : u = Value.ref a := ru
    refine getmeth_ok I1 hy (by rw [G.K]; exact o1) (by rw [G.K]; exact o3) o2 ?_
    refine PySem.W.callWith_K (first := [.ref a]) (h₀ := X.base) I1.ok.mod.kin (by rw [G.K]; exact o6) (thn ((ha W X G).run pos pins s1 τ H1 (fun vs H2 => ∃ ρ2 h2 ws, Rel Γ ρ2 h2 H2 ∧ ws.length = n + 1 ∧ RelWs Γ ρ2 H2 (x :: ws) (.ref a :: vs) ∧ O1 Γ (RelW Γ) ρ2 H2 (F (x :: ws) h2) Q (fun cls d H' => W cls d τ H')) I1
      ⟨ρ1, σ, h1, R1, S1, ?_⟩) fun us s2 ⟨vs, H2, I2, r, ρ2, h2, ws, R2, lw, rr, q2⟩ => ⟨I2.kIn, ?_⟩) (hst X.env) (hpl X.env)
    · cases e1 : fr σ h1 with
      | bad => rw [e1] at q1; exact q1.elim
      | err x h2 => rw [e1] at q1; exact q1
      | ok ws h2 =>
        rw [e1] at q1
        exact fun ρ2 H2 vs l R2 r2 => ⟨ρ2, h2, ws, R2, hn _ _ _ _ e1, RelWs.cons (RelW.mono l _ _ r1) r2, O1.mono l q1⟩
    · refine run_fnS (us := .ref a :: us) (vs := .ref a :: vs) (E := WE W) (G.fnOk o4 hl) (G.room hc) (by rw [G.K]; exact o5) (passAt G.takes τ) I2 (.cons rfl r) ?_
      exact ⟨by rw [← rr.length, o7, List.length_cons, lw], ρ2, x :: ws, h2, R2, rr, q2⟩
  · exact q1.elim
theorem se_met0 {m : Str} {pl : Env → Sem Bool} (ok : MetOk Γ j 0 MT m) (ho : SE Γ c k o fa) (hl : j ≤ k := by decide) (hc : c.calm = true := by rfl)
    (ht : ∀ env, eval (.Call (.Attribute o m apos) [] [] pos) env = (do
      let ov ← eval o env
      standAt apos.atName
      let (f, first) ← holding [ov] (getMethod ov m (pl env))
      callWith pos f first (backTo pos (starEach [] env)) (backToKw pos (keywordEach [] env))) := by intros; rfl) :
    SE Γ c k (.Call (.Attribute o m apos) [] [] pos) (xMet MT m fa xNil) := by
  intro W X G
  refine ⟨fun pins s τ H Q I h => ?_⟩
  obtain ⟨ρ, σ, h, R, S, q⟩ := h
  refine PySem.W.methodCall_KW (pl := pl X.env) (thn ((ho W X G).run pins s τ H (fun v H1 => ∃ ρ1 h1 x, Rel Γ ρ1 h1 H1 ∧ RelS Γ ρ1 H1 σ τ ∧ RelW Γ ρ1 H1 x v ∧ O1 Γ (RelW Γ) ρ1 H1 (match metW MT m x h1 with
      | some F => (xNil σ h1).bind fun xs h2 => F (x :: xs) h2
      | none => .bad) Q (fun cls d H' => W cls d τ H')) I ⟨ρ, σ, h, R, S, (O1.bind (R := RelW Γ) q).imp fun x H1 ⟨ρ1, h1, u, l1, R1, r1, q1⟩ => ⟨ρ1, h1, u, R1, S.mono l1, r1, q1⟩⟩) fun u s1 ⟨v, H1, I1, ru, ρ1, h1, x, R1, S1, r1, q1⟩ => ?_) (ht X.env)
  split at q1
  · rename_i F eF
    obtain ⟨a, C, dx, gs, f, ps, rfl, hy, o1, o2, o3, ⟨⟨fd, o4, o5, _⟩, o6⟩, o7⟩ := met_at ok R1 eF r1
    obtain rfl : u = Value.ref a := ru
    refine getmeth_ok I1 hy (by rw [G.K]; exact o1) (by rw [G.K]; exact o3) o2 ?_
    refine PySem.W.callWith_K0 (first := [.ref a]) I1.kIn (by rw [G.K]; exact o6) (run_fnS (us := [.ref a]) (vs := [.ref a]) (E := WE W) (G.fnOk o4 hl) (G.room hc) (by rw [G.K]; exact o5) (passAt G.takes τ) I1 (.cons rfl .nil) ?_)
    exact ⟨by rw [o7]; rfl, ρ1, [x], h1, R1, RelWs.cons r1 RelWs.nil, q1⟩
  · exact q1.elim
theorem run_makeS {X : Cx} {k' : Nat} {CX : CXT} {C f : Addr} {fd : FuncData} {ps : List Str} {sp : Sp} {E : L2.St → XK} {pins : List (Addr × Obj)} {τ : L2.St} {s : Shared} {Q : VK} {us : List Value} {vs : List V} (M : Mk X.K C f) (F : FnOk X.prog X.w X.K X.mg X.base CX k' f fd ps sp) (hr : Room (k' + 1) X.A) (hb : Binds X.K fd ps [])
    (hx : PassesAt CX X τ (E τ)) (I : Inv X pins τ H s) (r : Vals vs us)
    (h : ∀ x dx, H x = none → H dx = none → dx ≠ x → sp (.ref x :: vs) (upd (upd H dx (.own x)) x (.ins C dx [])) (fun v H2 => v = .non ∧ Q (.ref x) H2) (E τ)) :
    wpAny (model X.prog X.w) X.A (call (.ref C) us) (EP X pins τ Q) X.xe s := by
  have hq := h (s.heap.objs.size + 1) s.heap.objs.size (I.hok.fresh (Nat.le_succ _)) (I.hok.fresh (Nat.le_refl _)) (Nat.ne_of_lt (Nat.lt_succ_self _))
  have I2 := Inv.made (C := C) I
  have r2 : Vals (V.ref (s.heap.objs.size + 1) :: vs) (Value.ref (s.heap.objs.size + 1) :: us) := .cons rfl r
  have hl : (Value.ref (s.heap.objs.size + 1) :: us ++ []).length = ps.length := by
    rw [List.append_nil, ← r2.length]
    exact F.len _ _ _ _ hq
  have hbb := hb _ (Value.ref (s.heap.objs.size + 1) :: us) I2.kIn hl
  rw [List.append_nil] at hbb
  refine wpAny_call (make_map (f := f) I.kIn M.makes M.init (beq_iff_eq.mp M.fn) (codeAny_mono (F.run _ X.stack _ _ ⟨Value.ref (s.heap.objs.size + 1) :: us, []⟩ (Value.ref (s.heap.objs.size + 1) :: us) _ _ (E τ) (hr.make C us [])
    (I2.env0.make C us []) hbb r2 hq) fun r s' hq' => ?_))
  cases r with
  | error e => exact hx pins _ _ e s' I2 hq'
  | ok fl =>
    cases fl with
    | ret u =>
      obtain ⟨v, H', I3, rv, ev, q3⟩ := I2.after hq'
      subst ev
      exact ⟨rv, ⟨V.ref (s.heap.objs.size + 1), H', I3, rfl, q3⟩⟩
    | next => exact False.elim hq'
    | brk => exact False.elim hq'
    | cont => exact False.elim hq'
/-- the new object of ours -/
theorem Rel.newI {h : Hm} {x dx : Addr} {cc : Nat} (R : Rel Γ ρ h H) (n : H x = none) (nd : H dx = none) (ne : dx ≠ x) :
    Le Γ ρ (ρ ++ [x]) H (upd (upd H dx (.own x)) x (.ins (Γ.cl cc) dx [])) ∧ Rel Γ (ρ ++ [x]) (h ++ [.ins cc []]) (upd (upd H dx (.own x)) x (.ins (Γ.cl cc) dx [])) := by
  have n2 : upd H dx (.own x) x = none := by rw [upd_ne (Ne.symm ne)]; exact n
  have l1 := Le.laid (Γ := Γ) (ρ := ρ) (o := HO.own x) nd []
  rw [List.append_nil] at l1
  have l2 := Le.laid (Γ := Γ) (ρ := ρ) (o := HO.ins (Γ.cl cc) dx []) n2 [x]
  exact ⟨l1.trans l2, (R.other nd).alloc n2 ⟨dx, [], upd_same, rfl⟩⟩
theorem make_core {Wx : WX} {X : Cx} (G : Good Γ c k Wx X) {cc : Nat} {x : Str} {F : FnT} (ok : MakeOk Γ j n cc x F) (hl : j + 1 ≤ k) (hc : c.calm = true) {pins : List (Addr × Obj)} {τ : L2.St} {s : Shared} {Q : VK} {us : List Value} {vs : List V} {ws : List Z.W} {h : Hm}
    (I : Inv X pins τ H s) (r : Vals vs us) (R : Rel Γ ρ h H) (lw : ws.length = n) (rr : RelWs Γ ρ H ws vs)
    (q : O1 Γ (RelW Γ) ρ H ((F (.ref h.length :: ws) (h ++ [.ins cc []])).bind fun w h2 => match w with
      | .non => .ok (.ref h.length) h2
      | _ => .bad) Q (fun cls d H' => Wx cls d τ H')) : wpAny (model X.prog X.w) X.A (call (.ref (Γ.cl cc)) us) (EP X pins τ Q) X.xe s := by
  obtain ⟨f, ps, M, ⟨⟨fd, o4, o5, _⟩, o6⟩, o7⟩ := ok.mkr
  refine run_makeS (E := WE Wx) (k' := j) (by rw [G.K]; exact M) (by rw [G.prog, G.w, G.K, G.mg, G.base]; exact o4) ((G.room hc).mono hl) (by rw [G.K]; exact o5) (passAt G.takes τ) I r fun x dx nx nd ne => ?_
  obtain ⟨l, R2⟩ := R.newI (cc := cc) nx nd ne
  have hx : RelW Γ (ρ ++ [x]) (upd (upd H dx (.own x)) x (.ins (Γ.cl cc) dx [])) (.ref h.length) (.ref x) := iR (by rw [← R.len]; simp)
  refine ⟨by rw [List.length_cons, ← rr.length, lw, o7], ρ ++ [x], .ref h.length :: ws, h ++ [.ins cc []], R2, RelWs.cons hx (RelWs.mono l _ _ rr), ?_⟩
  refine (O1.bind (R := RelW Γ) (O1.mono l q)).imp fun v H2 ⟨ρ2, h2, w, l2, R3, r3, q3⟩ => ?_
  split at q3
  · rw [rwN r3]
    exact ⟨rfl, q3 ρ2 H2 _ .refl R3 (RelW.mono l2 _ _ hx)⟩
  · exact q3.elim
theorem se_make (jG : Nat) {cc : Nat} {x : Str} {F : FnT} (ok : MakeOk Γ j (n + 1) cc x F) (ha : SA Γ c k (e :: es) fr) (hn : ∀ σ h ws h', fr σ h = .ok ws h' → ws.length = n + 1) (hl : j + 1 ≤ k := by decide) (hG : c.G[jG]? = some x := by rfl) (hc : c.calm = true := by rfl)
    (hdb : (x == ("__debug__" : Str)) = false := by decide) (he : ∀ env, starEach (e :: es) env = (false, eval e env) :: starEach es env := by intros; rfl) (hpl : ∀ env, (backTo pos (starEach es env)).any (·.1) = false := by intros; rfl) :
    SE Γ c k (.Call (.Name x p) (e :: es) [] pos) (xMake cc F fr) := by
  intro W X G
  refine ⟨fun pins s τ H Q I h => ?_⟩
  obtain ⟨ρ, σ, h, R, S, q⟩ := h
  obtain ⟨f, ps, M, _⟩ := ok.mkr
  refine wpAny_Call_Name_kw (ld_glob I (G.gl (List.mem_of_getElem? hG)) (by rw [G.mg]; exact ok.mg) ?_ hdb)
  refine PySem.W.callWith_K (h₀ := X.base) I.ok.mod.kin (by rw [G.K]; exact M.kp) (thn ((ha W X G).run pos pins s τ H (fun vs H2 => ∃ ρ2 h2 ws, Rel Γ ρ2 h2 H2 ∧ ws.length = n + 1 ∧ RelWs Γ ρ2 H2 ws vs ∧ O1 Γ (RelW Γ) ρ2 H2 ((F (.ref h2.length :: ws) (h2 ++ [.ins cc []])).bind fun w h2' => match w with
      | .non => .ok (.ref h2.length) h2'
      | _ => .bad) Q (fun cls d H' => W cls d τ H')) I ⟨ρ, σ, h, R, S, ?_⟩) fun us s1 ⟨vs, H1, I1, r, ρ2, h2, ws, R2, lw, rr, q2⟩ => ⟨I1.kIn, make_core G ok hl hc I1 r R2 lw rr q2⟩) (he X.env) (hpl X.env)
  unfold xMake at q
  cases e1 : fr σ h with
  | bad => rw [e1] at q; exact q.elim
  | err x h2 => rw [e1] at q; exact q
  | ok ws h2 =>
    rw [e1] at q
    exact fun ρ2 H2 vs l R2 r2 => ⟨ρ2, h2, ws, R2, hn _ _ _ _ e1, r2, O1.mono l q⟩
theorem se_make0 (jG : Nat) {cc : Nat} {x : Str} {F : FnT} (ok : MakeOk Γ j 0 cc x F) (hl : j + 1 ≤ k := by decide) (hG : c.G[jG]? = some x := by rfl) (hc : c.calm = true := by rfl)
    (hdb : (x == ("__debug__" : Str)) = false := by decide) : SE Γ c k (.Call (.Name x p) [] [] pos) (xMake cc F xNil) := by
  intro W X G
  refine ⟨fun pins s τ H Q I h => ?_⟩
  obtain ⟨ρ, σ, h, R, S, q⟩ := h
  obtain ⟨f, ps, M, _⟩ := ok.mkr
  refine wpAny_Call_Name_kw (ld_glob I (G.gl (List.mem_of_getElem? hG)) (by rw [G.mg]; exact ok.mg) ?_ hdb)
  exact PySem.W.callWith_K0 I.kIn (by rw [G.K]; exact M.kp) (make_core G ok hl hc I .nil R rfl RelWs.nil q)
end
/-- no promise at all (for a def that calls itself) -/
theorem cal_bot {Γ : Gam} {x qual : Str} {st : Stmt} {at_ : Str × Option Str} {ps : List Str} (D : Def Γ at_ x qual st) (B : BindsN st x qual ps) : CalD Γ 0 (He.fAd Γ.K at_) ps (fun _ _ => .bad) := by
  obtain ⟨fd, Fu⟩ := D
  obtain ⟨oc, od, dV, kV, doc, pm, an, cdv, ct, osl, e, lk, _⟩ := Fu.ex
  exact ⟨⟨fd, ⟨fun vs H Q E h => h.1, fun A outer s H args us vs Q E hr he hb hv hs => by
    obtain ⟨_, _, _, _, _, _, z⟩ := hs
    exact z.elim⟩, Fu.bindsN B, oc, od, osl, lk⟩, Fu.kp⟩
theorem CalD.mono {Γ : Gam} {j k : Nat} {f : Addr} {ps : List Str} {F : FnT} (C : CalD Γ j f ps F) (l : j ≤ k) : CalD Γ k f ps F := by
  obtain ⟨⟨fd, h1, h2⟩, h3⟩ := C
  exact ⟨⟨fd, h1.mono l, h2⟩, h3⟩
section
variable {Γ : Gam} {j j' n i : Nat} {f m : Str} {T : List Nat} {MT : List (Nat × FnT)} {F : FnT} {g : Addr} {ps : List Str}
theorem FldOk.nil : FldOk Γ [] f := nofun
theorem FldOk.cons (c : Cls Γ.K (Γ.cl i)) (n : NoAttr Γ.K (Γ.cl i) f) (r : FldOk Γ T f) : FldOk Γ (i :: T) f := fun z m => by
  rcases List.mem_cons.mp m with rfl | m
  · exact ⟨c, n⟩
  · exact r z m
theorem MetOk.nil : MetOk Γ j n [] m := nofun
theorem MetOk.cons (c : Cls Γ.K (Γ.cl i)) (q : Meth Γ.K (Γ.cl i) m g) (C : CalD Γ j' g ps F) (hl : ps.length = n + 1) (hj : j' ≤ j) (r : MetOk Γ j n MT m) : MetOk Γ j n ((i, F) :: MT) m := fun z h => by
  rcases List.mem_cons.mp h with rfl | h
  · exact ⟨c, g, ps, q, C.mono hj, hl⟩
  · exact r z h
theorem MakeOk.of {c : Nat} {x : Str} (M : Mk Γ.K (Γ.cl c) g) (C : CalD Γ j g ps F) (hl : ps.length = n + 1) (hm : Γ.mg x = some (.ref (Γ.cl c))) : MakeOk Γ j n c x F := ⟨⟨g, ps, M, C, hl⟩, hm⟩
end
theorem Cal.of {Γ : Gam} {j : Nat} {x : Str} {g : Addr} {ps : List Str} {F : FnT} (C : CalD Γ j g ps F) (h : Γ.mg x = some (.ref g)) : Cal Γ j x ps F := ⟨g, C, h⟩
/-- another name of a def -/
def aliasZ (x y : Str) : FaZ := fun K => He.eqO (PySem.W.nsIn K mainGlobals x) (some (some (.ref (He.ga K y))))
theorem alias_ok {K : PySem.W.Frag} {h : Heap} {mg : Str → Option Value} (X : K.In h) (G : h.Ns mainGlobals mg) {x y : Str} (c : aliasZ x y K = true) : mg x = some (.ref (He.ga K y)) := PySem.W.mg_of X G (He.eqO_ok c)
/-! sum of ints, all of bools -/
def ints? : List W → Option (List Int)
  | [] => some []
  | .int i :: r => (ints? r).map fun l => i :: l
  | _ :: _ => none
def bls? : List W → Option (List Bool)
  | [] => some []
  | .bl i :: r => (bls? r).map fun l => i :: l
  | _ :: _ => none
def sumW (xs : List W) (h : Hm) : Pr := match xs with
  | [x] => if isL x h then (seqC x h).bind fun ys => (ints? ys).map fun ns => (.int ns.sum, h) else none
  | _ => none
def allW (xs : List W) (h : Hm) : Pr := match xs with
  | [x] => if isL x h then (seqC x h).bind fun ys => (bls? ys).map fun ns => (.bl (ns.all id), h) else none
  | _ => none
section
variable {Γ : Gam} {c : Cfg} {k j : Nat} {e : Expr} {es : List Expr} {fr : XA} {pos p : Pos} {ρ : List Addr} {H : Hp}
theorem ints_of : ∀ {ws : List W} {ns : List Int} {vs : List V}, ints? ws = some ns → RelWs Γ ρ H ws vs → vs = ns.map V.int
  | [], ns, vs, e, r => by
    unfold RelWs at r
    subst r
    cases e
    rfl
  | w :: ws, ns, vs, e, r => by
    unfold RelWs at r
    obtain ⟨y, r', rfl, r1, r2⟩ := r
    cases w with
    | int x =>
      unfold ints? at e
      obtain ⟨l, e1, rfl⟩ := Option.map_eq_some_iff.mp e
      rw [rwI r1, ints_of e1 r2]
      rfl
    | _ => cases e
theorem bls_of : ∀ {ws : List W} {ns : List Bool} {vs : List V}, bls? ws = some ns → RelWs Γ ρ H ws vs → vs = ns.map V.bl
  | [], ns, vs, e, r => by
    unfold RelWs at r
    subst r
    cases e
    rfl
  | w :: ws, ns, vs, e, r => by
    unfold RelWs at r
    obtain ⟨y, r', rfl, r1, r2⟩ := r
    cases w with
    | bl x =>
      unfold bls? at e
      obtain ⟨l, e1, rfl⟩ := Option.map_eq_some_iff.mp e
      rw [rwB r1, bls_of e1 r2]
      rfl
    | _ => cases e
theorem cs_sum (hc : c.calm = true := by rfl) : CaS Γ c k (.builtin "sum") sumW := by
  intro W X G pins s σ H xs us Q I rx h
  obtain ⟨ρ, hm, ws, u', h', R, rr, e, q⟩ := h
  unfold sumW at e
  split at e
  · split at e
    · rename_i hl
      obtain ⟨ys, e1, e2⟩ := Option.bind_eq_some_iff.mp e
      obtain ⟨ns, e3, e4⟩ := Option.map_eq_some_iff.mp e2
      cases e4
      obtain ⟨v, rfl, r1⟩ := rws1 rr
      obtain ⟨r0, a, xs, zs, rfl, rfl, ea, e5, hq, r2⟩ := isL_at R hl r1
      rw [e1] at e5
      cases e5
      have := ints_of e3 r2
      subst this
      exact cr_sum (G.calm.trans hc) pins s σ H _ us Q I rx ⟨a, ns, rfl, by rw [G.K]; exact hq, q ρ H _ .refl R iI'⟩
    · cases e
  · cases e
theorem cs_all (hc : c.calm = true := by rfl) : CaS Γ c k (.builtin "all") allW := by
  intro W X G pins s σ H xs us Q I rx h
  obtain ⟨ρ, hm, ws, u', h', R, rr, e, q⟩ := h
  unfold allW at e
  split at e
  · split at e
    · rename_i hl
      obtain ⟨ys, e1, e2⟩ := Option.bind_eq_some_iff.mp e
      obtain ⟨ns, e3, e4⟩ := Option.map_eq_some_iff.mp e2
      cases e4
      obtain ⟨v, rfl, r1⟩ := rws1 rr
      obtain ⟨r0, a, xs, zs, rfl, rfl, ea, e5, hq, r2⟩ := isL_at R hl r1
      rw [e1] at e5
      cases e5
      have := bls_of e3 r2
      subst this
      exact cr_all (G.calm.trans hc) pins s σ H _ us Q I rx ⟨a, ns, rfl, by rw [G.K]; exact hq, q ρ H _ .refl R iB⟩
    · cases e
  · cases e
theorem e_sum (j : Nat) (B : Bs Γ) (ha : SA Γ c k (e :: es) fr) (hG : c.G[j]? = some ("sum" : Str) := by rfl) (hc : c.calm = true := by rfl) (he : ∀ env, starEach (e :: es) env = (false, eval e env) :: starEach es env := by intros; rfl) (hpl : ∀ env, (backTo pos (starEach es env)).any (·.1) = false := by intros; rfl) :
    SE Γ c k (.Call (.Name "sum" p) (e :: es) [] pos) (xCall sumW fr) := se_callB (cs_sum hc) j B.sum (by decide +kernel) ha hG (by decide) (by decide) he hpl
theorem e_all (j : Nat) (B : Bs Γ) (ha : SA Γ c k (e :: es) fr) (hG : c.G[j]? = some ("all" : Str) := by rfl) (hc : c.calm = true := by rfl) (he : ∀ env, starEach (e :: es) env = (false, eval e env) :: starEach es env := by intros; rfl) (hpl : ∀ env, (backTo pos (starEach es env)).any (·.1) = false := by intros; rfl) :
    SE Γ c k (.Call (.Name "all" p) (e :: es) [] pos) (xCall allW fr) := se_callB (cs_all hc) j B.all (by decide +kernel) ha hG (by decide) (by decide) he hpl
end
end Z

/-! Z11: dicts of the module that are constants; isqrt; exceptions -/
namespace Z
open PySem PySem.Spec PyProof.Rows L2
/-- a key that is written: a text, or a tuple of texts -/
inductive DK where
  | s (x : Str) | t (xs : List Str)
def dkHash (w : World) : DK → Int
  | .s x => PyData.keyHash w.params x
  | .t xs => PySem.tupleKeyHash (L2.mixKind default w) (xs.map Sum.inr)
def strsV : List Str → List Value → Bool
  | [], [] => true
  | x :: xs, .str y _ :: r => decide (x = y) && strsV xs r
  | _, _ => false
def DK.look (K : PySem.W.Frag) : DK → Value → Bool
  | .s x, .str y _ => decide (x = y)
  | .t xs, .ref a => match K.lookup a with
    | some ⟨.type c, _, .seq its _, _⟩ => decide (c = "tuple") && strsV xs its.toList
    | _ => false
  | _, _ => false
def entsB (K : PySem.W.Frag) : List (DK × Cn) → List DictEntry → Bool
  | [], [] => true
  | x :: xs, e :: r => x.1.look K e.key && (x.2.look K e.val && entsB K xs r)
  | _, _ => false
/-- the dict, but for its hashes -/
def dictZ (x : Str) (es : List (DK × Cn)) : FaZ := fun K => match PySem.W.nsIn K mainGlobals x with
  | some (some (.ref a)) => (match K.lookup a with
    | some ⟨.type c, none, .dict ents _, sl⟩ => decide (c = "dict") && (sl.toList.isEmpty && (!(a == sysModules) && entsB K es ents.toList))
    | _ => false)
  | _ => false
def hashB (x : Str) (K : PySem.W.Frag) : Option (List Int) := match PySem.W.nsIn K mainGlobals x with
  | some (some (.ref a)) => (match K.lookup a with
    | some ⟨_, _, .dict ents _, _⟩ => some (ents.toList.map (·.hash))
    | _ => none)
  | _ => none
def EntsOk (w : World) (K : PySem.W.Frag) : List (DK × Cn) → List DictEntry → Prop
  | [], [] => True
  | x :: xs, e :: r => (x.1.look K e.key = true ∧ e.hash = dkHash w x.1 ∧ x.2.look K e.val = true) ∧ EntsOk w K xs r
  | _, _ => False
theorem ents_ok {w : World} {K : PySem.W.Frag} : ∀ {xs : List (DK × Cn)} {r : List DictEntry}, entsB K xs r = true → r.map (·.hash) = xs.map (fun x => dkHash w x.1) → EntsOk w K xs r
  | [], [], _, _ => trivial
  | [], _ :: _, h, _ => by simp [entsB] at h
  | _ :: _, [], h, _ => by simp [entsB] at h
  | x :: xs, e :: r, h, k => by
    unfold entsB at h
    rw [Bool.and_eq_true, Bool.and_eq_true] at h
    rw [List.map_cons, List.map_cons] at k
    injection k with k1 k2
    exact ⟨⟨h.1, k1, h.2.1⟩, ents_ok h.2.2 k2⟩
def KonD (Γ : Gam) (x : Str) (es : List (DK × Cn)) : Prop := ∃ a ents n, Γ.mg x = some (.ref a) ∧ Γ.K.lookup a = some ⟨.type "dict", none, .dict ents n, #[]⟩ ∧ (a == sysModules) = false ∧ EntsOk Γ.w Γ.K es ents.toList
theorem konD_of {Γ : Gam} {h : Heap} {x : Str} {es : List (DK × Cn)} (X : Γ.K.In h) (G : h.Ns mainGlobals Γ.mg) (c : dictZ x es Γ.K = true) (k : hashB x Γ.K = some (es.map fun e => dkHash Γ.w e.1)) : KonD Γ x es := by
  unfold dictZ at c
  unfold hashB at k
  split at c
  · rename_i a e
    rw [e] at k
    split at c
    · rename_i cc ents n sl e2
      simp only [e2] at k
      rw [Bool.and_eq_true, Bool.and_eq_true, Bool.and_eq_true, decide_eq_true_eq] at c
      obtain ⟨rfl, c1, c2, c3⟩ := c
      have : sl = #[] := Array.toList_inj.mp (List.isEmpty_iff.mp c1)
      subst this
      exact ⟨a, ents, n, PySem.W.mg_of X G e, e2, by simpa using c2, ents_ok c3 (Option.some.inj k)⟩
    · cases c
  · cases c
/-! looking up -/
def strsW : List Str → List W → Bool
  | [], [] => true
  | x :: xs, .str y :: r => decide (x = y) && strsW xs r
  | _, _ => false
def DK.is : DK → W → Bool
  | .s x, .str y => decide (x = y)
  | .t xs, .tup us => strsW xs us
  | _, _ => false
def kGet (es : List (DK × Cn)) (u : W) : Option Cn := (es.find? fun e => e.1.is u).map (·.2)
/-- all keys texts -/
def allS (es : List (DK × Cn)) : Bool := es.all fun e => match e.1 with
  | .s _ => true
  | _ => false
/-- all keys tuples, no two alike -/
def keysT (es : List (DK × Cn)) : Option (List (List Str)) := es.mapM fun e => match e.1 with
  | .t xs => some xs
  | _ => none
def allT (es : List (DK × Cn)) : Bool := match keysT es with
  | some ks => decide ks.Nodup
  | none => false
def xKGet (es : List (DK × Cn)) (f : XE) : XE := fun σ h => (f σ h).bind fun u h1 => match kGet es u with
  | some v => .ok v.w h1
  | none => .bad
/-- x in NAME, x a text -/
def kIn (es : List (DK × Cn)) : W → Option Bool
  | .str z => some (es.any fun e => e.1.is (.str z))
  | _ => none
def xKIn (es : List (DK × Cn)) (neg : Bool) (f : XE) : XE := fun σ h => (f σ h).bind fun u h1 => match kIn es u with
  | some b => .ok (.bl (if neg then !b else b)) h1
  | none => .bad
section
variable {Γ : Gam} {c : Cfg} {k : Nat} {e : Expr} {f : XE} {pos p : Pos} {ρ : List Addr} {H : Hp}
theorem keysLit_of {w : World} {K : PySem.W.Frag} : ∀ {es : List (DK × Cn)} {l : List DictEntry}, EntsOk w K es l → allS es = true → PySem.W.KeysLit w.params l
  | [], [], _, _ => trivial
  | [], _ :: _, h, _ => h.elim
  | _ :: _, [], h, _ => h.elim
  | (.s x, v) :: es, d :: l, h, a => by
    obtain ⟨⟨h1, h2, h3⟩, h4⟩ := h
    have a2 : allS es = true := by
      unfold allS at a ⊢
      rw [List.all_cons, Bool.and_eq_true] at a
      exact a.2
    refine ⟨?_, keysLit_of h4 a2⟩
    obtain ⟨hh, key, val⟩ := d
    cases key with
    | str y t =>
      have : x = y := of_decide_eq_true h1
      subst this
      exact ⟨x, t, rfl, h2⟩
    | _ => cases h1
  | (.t x, v) :: es, d :: l, h, a => by simp [allS] at a
theorem find_text {w : World} {K : PySem.W.Frag} {z : Str} : ∀ {es : List (DK × Cn)} {l : List DictEntry}, EntsOk w K es l → allS es = true →
    (∀ v, kGet es (.str z) = some v → ∃ d, l.find? (fun d => d.key.isStr z) = some d ∧ v.look K d.val = true) ∧ ((es.any fun e => e.1.is (.str z)) = (l.find? (fun d => d.key.isStr z)).isSome)
  | [], [], _, _ => ⟨fun v h => by simp [kGet] at h, rfl⟩
  | [], _ :: _, h, _ => h.elim
  | _ :: _, [], h, _ => h.elim
  | (.t x, v) :: es, d :: l, h, a => by simp [allS] at a
  | (.s x, v) :: es, d :: l, h, a => by
    obtain ⟨⟨h1, h2, h3⟩, h4⟩ := h
    have a2 : allS es = true := by
      unfold allS at a ⊢
      rw [List.all_cons, Bool.and_eq_true] at a
      exact a.2
    obtain ⟨i1, i2⟩ := find_text (z := z) h4 a2
    obtain ⟨hh, key, val⟩ := d
    cases key with
    | str y t =>
      have : x = y := of_decide_eq_true h1
      subst this
      by_cases q : x = z
      · subst q
        refine ⟨fun u hu => ⟨_, by rw [List.find?_cons, show (Value.str x t).isStr x = true by simp [Value.isStr]], ?_⟩, ?_⟩
        · unfold kGet at hu
          rw [List.find?_cons, show (DK.s x).is (.str x) = true from decide_eq_true rfl] at hu
          cases hu
          exact h3
        · rw [List.any_cons, show (DK.s x).is (.str x) = true from decide_eq_true rfl, List.find?_cons, show (Value.str x t).isStr x = true by simp [Value.isStr]]
          rfl
      · have q1 : (DK.s x).is (.str z) = false := decide_eq_false q
        have q2 : (Value.str x t).isStr z = false := by simp [Value.isStr, q]
        refine ⟨fun u hu => ?_, ?_⟩
        · unfold kGet at hu
          rw [List.find?_cons, q1] at hu
          obtain ⟨d, e1, e2⟩ := i1 u hu
          exact ⟨d, by rw [List.find?_cons, q2]; exact e1, e2⟩
        · rw [List.any_cons, q1, List.find?_cons, q2, Bool.false_or]
          exact i2
    | _ => cases h1
theorem relV_look {v : Cn} {u : Value} (h : v.look Γ.K u = true) : ∃ x, RelV x u ∧ ∀ ρ H, RelW Γ ρ H v.w x := Cn.look_ok v u h
theorem kGet_none : ∀ {es : List (DK × Cn)}, allS es = true → ∀ {u : W}, (∀ z, u ≠ .str z) → kGet es u = none
  | [], _, u, _ => rfl
  | (.t xs, y2) :: es, a, _, _ => by simp [allS] at a
  | (.s x0, y2) :: es, a, u, hu => by
    have a2 : allS es = true := by
      unfold allS at a ⊢
      rw [List.all_cons, Bool.and_eq_true] at a
      exact a.2
    have := kGet_none a2 hu
    unfold kGet at this ⊢
    rw [List.find?_cons, show (DK.s x0).is u = false by
      cases u with
      | str z => exact absurd rfl (hu z)
      | _ => rfl]
    exact this
/-- NAME[e], text keys -/
theorem se_kget {x : Str} {es : List (DK × Cn)} {px : Pos} (j : Nat) (hk : KonD Γ x es) (he : SE Γ c k e f) (ha : allS es = true) (hG : c.G[j]? = some x := by rfl) (hd : (x == ("__debug__" : Str)) = false := by decide) (hs : PlainIx e := by exact fun _ _ => rfl) :
    SE Γ c k (.Subscript (.Name x px) e pos) (xKGet es f) := by
  intro W X G
  obtain ⟨a, ents, n, hm, hl, hz, hE⟩ := hk
  refine PE.imp (pe_ix ix_kdict (pe_glob (v := .ref a) (G.gl (List.mem_of_getElem? hG)) (by rw [G.mg]; exact hm) rfl hd) (he W X G) hs) fun τ H Q h => ?_
  obtain ⟨ρ, σ, h, R, S, q⟩ := h
  refine ⟨ρ, σ, h, R, S, (O1.bind (R := RelW Γ) q).imp fun y H1 ⟨ρ1, h1, u, l1, R1, r1, q1⟩ => ?_⟩
  cases e1 : kGet es u with
  | none => rw [e1] at q1; exact q1.elim
  | some v =>
    rw [e1] at q1
    cases u with
    | str z =>
      obtain ⟨d, f1, f2⟩ := (find_text hE ha).1 v e1
      obtain ⟨x1, g1, g2⟩ := relV_look f2
      refine ⟨a, z, x1, rfl, rwS r1, ⟨ents, n, d.val, by rw [G.K]; exact hl, by rw [G.w]; exact keysLit_of hE ha, ?_, g1⟩, q1 ρ1 H1 _ .refl R1 (g2 ρ1 H1)⟩
      unfold PySem.W.nsIn
      rw [G.K, hl]
      simp only [f1]
    | _ =>
      rw [kGet_none ha (by intro z q; cases q)] at e1
      cases e1
/-- x in NAME, x not in NAME, text keys -/
theorem se_kin {x : Str} {es : List (DK × Cn)} {px : Pos} (j : Nat) (hk : KonD Γ x es) (he : SE Γ c k e f) (ha : allS es = true) (hG : c.G[j]? = some x := by rfl) (hd : (x == ("__debug__" : Str)) = false := by decide) (hm : behindInMarks .In (.Name x px) = false := by rfl) :
    SE Γ c k (.Compare e [.In] [.Name x px] pos) (xKIn es false f) := by
  intro W X G
  obtain ⟨a, ents, n, hm2, hl, hz, hE⟩ := hk
  have D : KDict X.K X.w a ents n := ⟨by rw [G.K]; exact hl, by rw [G.w]; exact keysLit_of hE ha, hz⟩
  refine PE.imp (pe_cmpR (op_in_kd D) (he W X G) (pe_glob (v := .ref a) (G.gl (List.mem_of_getElem? hG)) (by rw [G.mg]; exact hm2) rfl hd) hm) fun τ H Q h => ?_
  obtain ⟨ρ, σ, h, R, S, q⟩ := h
  refine ⟨ρ, σ, h, R, S, (O1.bind (R := RelW Γ) q).imp fun y H1 ⟨ρ1, h1, u, l1, R1, r1, q1⟩ => ?_⟩
  cases u with
  | str z =>
    obtain ⟨f1, f2⟩ := find_text (z := z) hE ha
    have q1 : O1 Γ (RelW Γ) ρ1 H1 (.ok (.bl (es.any fun e => e.1.is (.str z))) h1) Q (fun cls d H' => W cls d τ H') := q1
    cases e3 : ents.toList.find? (fun d => d.key.isStr z) with
    | some d =>
      refine ⟨z, some d.val, rwS r1, rfl, ?_, ?_⟩
      · unfold PySem.W.nsIn
        rw [G.K, hl]
        simp only [e3]
      · have := q1 ρ1 H1 (.bl true) .refl R1 (by rw [f2, e3]; exact iB)
        exact this
    | none =>
      refine ⟨z, none, rwS r1, rfl, ?_, ?_⟩
      · unfold PySem.W.nsIn
        rw [G.K, hl]
        simp only [e3]
        have hlit := keysLit_of hE ha
        have : ents.toList.any (·.refKey) = false := by
          rw [List.any_eq_false]
          intro d hd2
          obtain ⟨y1, t1, y2, _⟩ := hlit.all d hd2
          unfold DictEntry.refKey
          rw [y2]
          exact Bool.false_ne_true
        rw [this]
        rfl
      · exact q1 ρ1 H1 (.bl false) .refl R1 (by rw [f2, e3]; exact iB)
  | _ => exact q1.elim
theorem se_knin {x : Str} {es : List (DK × Cn)} {px : Pos} (j : Nat) (hk : KonD Γ x es) (he : SE Γ c k e f) (ha : allS es = true) (hG : c.G[j]? = some x := by rfl) (hd : (x == ("__debug__" : Str)) = false := by decide) (hm : behindInMarks .NotIn (.Name x px) = false := by rfl) :
    SE Γ c k (.Compare e [.NotIn] [.Name x px] pos) (xKIn es true f) := by
  intro W X G
  obtain ⟨a, ents, n, hm2, hl, hz, hE⟩ := hk
  have D : KDict X.K X.w a ents n := ⟨by rw [G.K]; exact hl, by rw [G.w]; exact keysLit_of hE ha, hz⟩
  refine PE.imp (pe_cmpR (op_notIn_kd D) (he W X G) (pe_glob (v := .ref a) (G.gl (List.mem_of_getElem? hG)) (by rw [G.mg]; exact hm2) rfl hd) hm) fun τ H Q h => ?_
  obtain ⟨ρ, σ, h, R, S, q⟩ := h
  refine ⟨ρ, σ, h, R, S, (O1.bind (R := RelW Γ) q).imp fun y H1 ⟨ρ1, h1, u, l1, R1, r1, q1⟩ => ?_⟩
  cases u with
  | str z =>
    obtain ⟨f1, f2⟩ := find_text (z := z) hE ha
    have q1 : O1 Γ (RelW Γ) ρ1 H1 (.ok (.bl (!(es.any fun e => e.1.is (.str z)))) h1) Q (fun cls d H' => W cls d τ H') := q1
    cases e3 : ents.toList.find? (fun d => d.key.isStr z) with
    | some d =>
      refine ⟨z, some d.val, rwS r1, rfl, ?_, ?_⟩
      · unfold PySem.W.nsIn
        rw [G.K, hl]
        simp only [e3]
      · exact q1 ρ1 H1 (.bl false) .refl R1 (by rw [f2, e3]; exact iB)
    | none =>
      refine ⟨z, none, rwS r1, rfl, ?_, ?_⟩
      · unfold PySem.W.nsIn
        rw [G.K, hl]
        simp only [e3]
        have hlit := keysLit_of hE ha
        have : ents.toList.any (·.refKey) = false := by
          rw [List.any_eq_false]
          intro d hd2
          obtain ⟨y1, t1, y2, _⟩ := hlit.all d hd2
          unfold DictEntry.refKey
          rw [y2]
          exact Bool.false_ne_true
        rw [this]
        rfl
      · exact q1 ρ1 H1 (.bl true) .refl R1 (by rw [f2, e3]; exact iB)
  | _ => exact q1.elim
/-! tuple keys -/
theorem strsV_ok {P : Program} {w : World} : ∀ {xs : List Str} {us : List Value}, strsV xs us = true → ItemsAre (L2.mixKind P w) (xs.map Sum.inr) us
  | [], [], _ => .nil
  | [], _ :: _, h => by simp [strsV] at h
  | _ :: _, [], h => by simp [strsV] at h
  | x :: xs, u :: us, h => by
    cases u with
    | str y t =>
      simp only [strsV, Bool.and_eq_true, decide_eq_true_eq] at h
      obtain ⟨rfl, h⟩ := h
      exact .cons (L2.keyIs_str x t) (strsV_ok h)
    | _ => simp [strsV] at h
theorem strsW_eq : ∀ {xs : List Str} {us : List W}, strsW xs us = true → us = xs.map W.str
  | [], [], _ => rfl
  | [], _ :: _, h => by simp [strsW] at h
  | _ :: _, [], h => by simp [strsW] at h
  | x :: xs, u :: us, h => by
    cases u with
    | str y =>
      simp only [strsW, Bool.and_eq_true, decide_eq_true_eq] at h
      obtain ⟨rfl, h⟩ := h
      rw [strsW_eq h]
      rfl
    | _ => simp [strsW] at h
theorem strsW_self : ∀ x : List Str, strsW x (x.map W.str) = true
  | [] => rfl
  | y :: x => by
    rw [List.map_cons]
    unfold strsW
    rw [Bool.and_eq_true]
    exact ⟨decide_eq_true rfl, strsW_self x⟩
theorem map_strW : ∀ {x y : List Str}, x.map W.str = y.map W.str → x = y
  | [], [], _ => rfl
  | [], _ :: _, h => by cases h
  | _ :: _, [], h => by cases h
  | x :: xs, y :: ys, h => by
    rw [List.map_cons, List.map_cons] at h
    injection h with w1 w2
    injection w1 with w1
    rw [w1, map_strW w2]
theorem keysT_mem : ∀ {es : List (DK × Cn)} {ks : List (List Str)} {z : Str} {v : Cn}, keysT es = some ks → (DK.s z, v) ∈ es → False
  | [], _, _, _, _, h => by cases h
  | (.s x, u) :: es, ks, z, v, e, h => by simp [keysT] at e
  | (.t x, u) :: es, ks, z, v, e, h => by
    rcases List.mem_cons.mp h with h | h
    · cases h
    · unfold keysT at e
      rw [List.mapM_cons] at e
      cases e6 : keysT es with
      | none =>
        unfold keysT at e6
        rw [e6] at e
        cases e
      | some r => exact keysT_mem e6 h
theorem rws_strs {ρ : List Addr} {H : Hp} : ∀ {qs : List Str} {ys : List V}, RelWs Γ ρ H (qs.map Z.W.str) ys → ys = qs.map V.str
  | [], ys, h => by unfold List.map RelWs at h; exact h
  | z :: qs, ys, h => by
    rw [List.map_cons] at h
    unfold RelWs at h
    obtain ⟨y1, r, rfl, a1, a2⟩ := h
    rw [rwS a1, rws_strs a2]
    rfl
theorem map_inr {xs ys : List Str} (h : xs.map (Sum.inr : Str → L2.Key) = ys.map Sum.inr) : xs = ys := by
  induction xs generalizing ys with
  | nil => cases ys with
    | nil => rfl
    | cons => cases h
  | cons x xs ih => cases ys with
    | nil => cases h
    | cons y ys =>
      rw [List.map_cons, List.map_cons] at h
      injection h with h1 h2
      injection h1 with h1
      rw [h1, ih h2]
theorem tdict_of {P : Program} {w : World} {K : PySem.W.Frag} {h : Heap} (X : K.In h) : ∀ {es : List (DK × Cn)} {l : List DictEntry} {ks : List (List Str)}, EntsOk w K es l → keysT es = some ks →
    ∃ xs : List (List L2.Key × Addr × Value), l = xs.map (PySem.entryOfKey (PySem.tupleKind (L2.mixKind P w))) ∧ (∀ x ∈ xs, (PySem.tupleKind (L2.mixKind P w)).is h x.1 x.2.1) ∧ xs.map (·.1) = ks.map (fun q => q.map Sum.inr) ∧
      ∀ (u : List W) v, kGet es (.tup u) = some v → ∃ q : List Str, u = q.map W.str ∧ ∃ p, PySem.atKey xs (q.map Sum.inr) = some p ∧ v.look K p.2 = true
  | [], [], ks, _, hk => by
    cases hk
    exact ⟨[], rfl, (fun x hx => by cases hx), rfl, fun u v h => by simp [kGet] at h⟩
  | [], _ :: _, _, h, _ => h.elim
  | _ :: _, [], _, h, _ => h.elim
  | (.s x, v) :: es, d :: l, ks, _, hk => by simp [keysT] at hk
  | (.t x, v) :: es, d :: l, ks, hE, hk => by
    obtain ⟨⟨h1, h2, h3⟩, h4⟩ := hE
    obtain ⟨k2, hk2, rfl⟩ : ∃ k2, keysT es = some k2 ∧ ks = x :: k2 := by
      unfold keysT at hk ⊢
      rw [List.mapM_cons] at hk
      cases e : (es.mapM fun e => match e.1 with
        | .t xs => some xs
        | _ => none) with
      | none => rw [e] at hk; cases hk
      | some r => rw [e] at hk; cases hk; exact ⟨r, rfl, rfl⟩
    obtain ⟨xs, i1, i2, i3, i4⟩ := tdict_of X (P := P) h4 hk2
    obtain ⟨hh, key, val⟩ := d
    cases key with
    | ref b =>
      have h1 : (match K.lookup b with
        | some ⟨.type c, _, .seq its _, _⟩ => decide (c = "tuple") && strsV x its.toList
        | _ => false) = true := h1
      have hi : (PySem.tupleKind (L2.mixKind P w)).is h (x.map Sum.inr) b := by
        split at h1
        · rename_i cc o its m sl e
          rw [Bool.and_eq_true, decide_eq_true_eq] at h1
          obtain ⟨rfl, h1⟩ := h1
          exact ⟨_, its, m, X b _ e, rfl, rfl, strsV_ok h1⟩
        · cases h1
      refine ⟨(x.map Sum.inr, b, val) :: xs, ?_, ?_, by rw [List.map_cons, i3]; rfl, fun u v' hu => ?_⟩
      · rw [List.map_cons, ← i1]
        have : hh = dkHash w (.t x) := h2
        rw [this]
        rfl
      · intro y hy
        rcases List.mem_cons.mp hy with rfl | hy
        · exact hi
        · exact i2 y hy
      · unfold kGet at hu
        rw [List.find?_cons] at hu
        cases e : (DK.t x).is (.tup u) with
        | true =>
          rw [e] at hu
          cases hu
          have := strsW_eq (show strsW x u = true from e)
          exact ⟨x, this, (b, val), by simp [PySem.atKey], h3⟩
        | false =>
          rw [e] at hu
          obtain ⟨q, q1, p, q2, q3⟩ := i4 u v' hu
          refine ⟨q, q1, p, ?_, q3⟩
          have ne : x.map (Sum.inr : Str → L2.Key) ≠ q.map Sum.inr := fun z => by
            have z := map_inr z
            subst z
            have : (DK.t x).is (.tup u) = true := by
              rw [q1]
              exact strsW_self x
            rw [e] at this
            cases this
          unfold PySem.atKey at q2 ⊢
          rw [List.find?_cons, decide_eq_false ne]
          exact q2
    | _ => cases h1
theorem se_kgetT {x : Str} {es : List (DK × Cn)} {px : Pos} (j : Nat) (hk : KonD Γ x es) (he : SE Γ c k e f) (ha : allT es = true) (hG : c.G[j]? = some x := by rfl) (hc : c.calm = true := by rfl) (hd : (x == ("__debug__" : Str)) = false := by decide) (hs : PlainIx e := by exact fun _ _ => rfl) :
    SE Γ c k (.Subscript (.Name x px) e pos) (xKGet es f) := by
  intro W X G
  obtain ⟨a, ents, n, hm, hl, hz, hE⟩ := hk
  have hx : IxR X (fun x y H Q => x = .ref a ∧ ∃ (b : Addr) (q : List Str) (v : Cn), y = .ref b ∧ SqT X.K H b (q.map V.str) ∧ kGet es (.tup (q.map Z.W.str)) = some v ∧ ∀ v0, (∀ ρ H, RelW Γ ρ H v.w v0) → Q v0 H) := by
    intro value slice pins s σ H x y v u Q I rx ry h hs
    obtain ⟨rfl, b, q, v', rfl, sq, hg, hq⟩ := h
    obtain rfl : v = Value.ref a := rx
    obtain rfl : u = Value.ref b := ry
    obtain ⟨ks, e1, e2⟩ : ∃ ks, keysT es = some ks ∧ ks.Nodup := by
      unfold allT at ha
      cases e : keysT es with
      | none => rw [e] at ha; cases ha
      | some ks => rw [e] at ha; exact ⟨ks, rfl, of_decide_eq_true ha⟩
    have kin : Γ.K.In s.heap := by rw [← G.K]; exact I.kIn
    obtain ⟨xs, i1, i2, i3, i4⟩ := tdict_of kin (P := X.prog) hE e1
    have dd : s.heap.DictOfH (PySem.tupleKind (L2.mixKind X.prog X.w)) a xs := by
      rw [G.w]
      refine ⟨_, ents, n, kin a _ hl, ⟨rfl, rfl, rfl⟩, rfl, i1, i2, ?_⟩
      rw [i3]
      have nd : ∀ l : List (List Str), l.Nodup → (l.map fun q => q.map (Sum.inr : Str → L2.Key)).Nodup := fun l => by
        induction l with
        | nil => intro _; exact List.Pairwise.nil
        | cons y l ih =>
          intro hl2
          rw [List.nodup_cons] at hl2
          rw [List.map_cons, List.nodup_cons]
          refine ⟨fun hmm => ?_, ih hl2.2⟩
          obtain ⟨z, hz1, hz2⟩ := List.mem_map.mp hmm
          rw [map_inr hz2] at hz1
          exact hl2.1 hz1
      exact nd ks e2
    obtain ⟨q', q1, p, q2, q3⟩ := i4 _ _ hg
    have : q' = q := (map_strW q1).symm
    subst this
    obtain ⟨its, r1, ⟨o, o1, o2, m, o3⟩, _⟩ := I.tuple sq
    have key : (PySem.tupleKind (L2.mixKind X.prog X.w)).is s.heap (q'.map Sum.inr) b := by
      refine ⟨o, its.toArray, m, o1, o2, o3, ?_⟩
      have : (q'.map V.str) = (q'.map (Sum.inr : Str → L2.Key)).map L2.kV := by
        rw [List.map_map]
        rfl
      rw [this] at r1
      simpa using L2.items_are (P := X.prog) (w := X.w) r1
    obtain ⟨v0, ru, rg⟩ := relV_look q3
    exact tail_any dd.typeIs PySem.F.slot_dict_getitem.lookup (PySem.wpAny_getItem_heap (PySem.tupleKind_room_in1 (by have := (G.room hc).units; omega)) key dd q2 ⟨v0, H, I.tok _, ru, hq v0 rg⟩) hs
  refine PE.imp (pe_ix hx (pe_glob (v := .ref a) (G.gl (List.mem_of_getElem? hG)) (by rw [G.mg]; exact hm) rfl hd) (he W X G) hs) fun τ H Q h => ?_
  obtain ⟨ρ, σ, h, R, S, q⟩ := h
  refine ⟨ρ, σ, h, R, S, (O1.bind (R := RelW Γ) q).imp fun y H1 ⟨ρ1, h1, u, l1, R1, r1, q1⟩ => ?_⟩
  cases e1 : kGet es u with
  | none => rw [e1] at q1; exact q1.elim
  | some v =>
    rw [e1] at q1
    have kf : ∃ us q, u = .tup us ∧ us = List.map Z.W.str q := by
      unfold kGet at e1
      obtain ⟨d, e2, _⟩ := Option.map_eq_some_iff.mp e1
      have e3 := List.find?_some e2
      have e4 := List.mem_of_find?_eq_some e2
      obtain ⟨d1, d2⟩ := d
      cases d1 with
      | s z =>
        exfalso
        unfold allT at ha
        cases e5 : keysT es with
        | none => rw [e5] at ha; cases ha
        | some ks => exact keysT_mem e5 e4
      | t q =>
        cases u with
        | tup us => exact ⟨us, q, rfl, strsW_eq e3⟩
        | _ => cases e3
    obtain ⟨us, qs, rfl, rfl⟩ := kf
    obtain ⟨b, ys, rfl, hT, rw2⟩ := rwT r1
    have ey : ys = qs.map V.str := rws_strs rw2
    subst ey
    exact ⟨rfl, b, qs, v, rfl, by rw [G.K]; exact hT, e1, fun v0 hv0 => q1 ρ1 H1 _ .refl R1 (hv0 ρ1 H1)⟩
end
end Z

/-! Z12: isqrt; raise; try -/
namespace Z
open PySem PySem.Spec PyProof.Rows L2
def isqW (xs : List W) (h : Hm) : Pr := match xs with
  | [.int a] => if 0 ≤ a ∧ a.toNat.log2 ≤ 13000 then some (.int ((Float64.isqrt a.toNat : Nat) : Int), h) else none
  | _ => none
/-- an own exception class, that may be raised -/
structure ExcOk (Γ : Gam) (i : Nat) (x : Str) : Prop where
  q : PySem.W.excIn Γ.K (Γ.cl i) He.veBase "ValueError.__new__" = true
  k : PySem.W.keepIn Γ.K (.ref (Γ.cl i)) = true
  s : PySem.W.subIn Γ.K (.ref (Γ.cl i)) (.type "BaseException") = some true
  t : PySem.W.typeIn Γ.K (.ref (Γ.cl i)) = some (.type "type")
  m : Γ.mg x = some (.ref (Γ.cl i))
def sRaise (i : Nat) : XS := fun σ h => .err ⟨i, none⟩ σ h
/-- which classes a clause takes -/
def ExmOk (Γ : Gam) (m : List (Nat × Bool)) (y : Nat) : Prop := ∀ c b, m.lookup c = some b → PySem.W.exmOne Γ.K (.ref (Γ.cl c)) (.ref (Γ.cl y)) = some b
abbrev Hd := List (Nat × Bool) × XS
def shut (o : SOut) : SOut := match o with
  | .err _ _ _ => .bad
  | o => o
def sHand : List Hd → Exn → Sg → Hm → SOut
  | [], x, σ, h => .err x σ h
  | p :: r, x, σ, h => match p.1.lookup x.c with
    | some true => shut (p.2 σ h)
    | some false => sHand r x σ h
    | none => .bad
def sTry (b : XS) (hs : List Hd) : XS := fun σ h => match b σ h with
  | .err x σ' h' => sHand hs x σ' h'
  | o => o
def offS (i : Nat) (o : SOut) : SOut := match o with
  | .nx σ h => .nx (σ.set i none) h
  | .bk σ h => .bk (σ.set i none) h
  | .ct σ h => .ct (σ.set i none) h
  | .err _ _ _ => .bad
  | o => o
def sTryAs (b : XS) (i : Nat) (m : List (Nat × Bool)) (s : Nat → XS) : XS := fun σ h => match b σ h with
  | .err x σ' h' => match m.lookup x.c with
    | some true => match x.d with
      | none => if i < σ'.length then offS i (s x.c (σ'.set i none) h') else .bad
      | some _ => .bad
    | some false => .err x σ' h'
    | none => .bad
  | o => o
section
variable {Γ : Gam} {c : Cfg} {k : Nat} {e : Expr} {es : List Expr} {fa : XE} {fr : XA} {pos p : Pos} {ρ : List Addr} {H : Hp} {i : Nat} {b : XS} {body : List Stmt}
theorem cs_isq : CaS Γ c k (.builtin "math.isqrt") isqW := by
  intro W X G pins s σ H vs us Q I r h
  obtain ⟨ρ, hm, ws, u', h', R, rr, e, q⟩ := h
  unfold isqW at e
  split at e
  · split at e
    · rename_i a hc
      cases e
      obtain ⟨y, rfl, ry⟩ := rws1 rr
      obtain rfl := rwI ry
      cases r with
      | cons ru rn =>
        cases rn
        obtain ⟨t, rfl⟩ := ru
        exact PySem.call_function_meets PySem.W.MGF.kind_isqrt PySem.W.MGF.plain_isqrt PySem.W.MGF.entry_isqrt (PySem.W.MGF.args_isqrt _) (PySem.W.mg_run_isqrt a t (by omega) (by omega) (by omega)).meets
          ⟨.int _, H, I.tok _, ⟨_, rfl⟩, q ρ H _ .refl R iI'⟩
    · cases e
  · cases e
/-- f(e), f an imported built-in -/
theorem se_mathfn (jG : Nat) {x : Str} {id : String} {g : List W → Hm → Pr} (hc : CaS Γ c k (.builtin id) g) (hm : Γ.mg x = some (.builtin id)) (ha : SA Γ c k (e :: es) fr) (hG : c.G[jG]? = some x := by rfl) (hd : (x == ("__debug__" : Str)) = false := by decide)
    (he : ∀ env, starEach (e :: es) env = (false, eval e env) :: starEach es env := by intros; rfl) (hpl : ∀ env, (backTo pos (starEach es env)).any (·.1) = false := by intros; rfl) :
    SE Γ c k (.Call (.Name x p) (e :: es) [] pos) (xCall g fr) := by
  intro W X G
  refine PE.imp (pe_callBfun (hc W X G) (G.gl (List.mem_of_getElem? hG)) (by rw [G.mg]; exact hm) (ha W X G) hd (he X.env) (hpl X.env)) fun τ H Q h => ?_
  obtain ⟨ρ, σ, h, R, S, q⟩ := h
  refine ⟨ρ, σ, h, R, S, (O1.bind (R := RelWs Γ) q).imp fun x H1 ⟨ρ1, h1, u, l1, R1, r1, q1⟩ => ?_⟩
  obtain ⟨u', h', e, q3⟩ := q1.ofO
  exact ⟨ρ1, h1, u, u', h', R1, r1, e, q3⟩
theorem ss_raise (jG i : Nat) {x m : Str} {j : Nat} {p2 pos' : Pos} (E : ExcOk Γ i x) (hG : c.G[jG]? = some x := by rfl) (hc : c.calm = true := by rfl) (hd : (x == ("__debug__" : Str)) = false := by decide) :
    SS Γ c k (.Raise (some (.Call (.Name x p) [.Constant (.str m) j p2] [] pos)) none pos') (sRaise i) := by
  intro W X G
  refine PS.imp (ps_raise (G.calm.trans hc) G.takes (pmk_own (C := Γ.cl i) PySem.F.excBase_ValueError (by rw [G.K]; exact E.q) (by rw [G.mg]; exact E.m) (by rw [G.K]; exact E.k) (raises_own (by rw [G.K]; exact E.s) (by rw [G.K]; exact E.t)) (G.gl (List.mem_of_getElem? hG)) hd)) fun D τ H h => ?_
  obtain ⟨ρ, σ, h, R, S, q⟩ := h
  exact q ρ H τ _ none .refl R S ⟨rfl, rfl⟩

/-! try -/
abbrev noW : WX := fun _ _ _ _ => False
def hot (c : Cfg) : Cfg := ⟨c.N, c.V, c.L, c.G, c.sc, c.fa, false⟩
theorem Good.tr {W W' : WX} {X : Cx} (G : Good Γ c k W X) {pn : List (Addr × Obj)} {xe : Value → Shared → Prop} (t : Takes (X.tr pn xe) W') (p : PassesOwn (model X.prog X.w) X.A X.env xe) : Good Γ c k W' (X.tr pn xe) :=
  ⟨G.prog, G.w, G.K, G.mg, G.base, G.N, G.sc, G.ok, G.fn, G.calm, G.room, t, p, G.fr⟩
theorem CfgOk.hot (o : CfgOk c) : CfgOk (hot c) := ⟨o.nd, o.vis, o.loc, o.gl⟩
theorem Good.suite {W : WX} {X : Cx} (G : Good Γ c k W X) (a : Addr) (pn : List (Addr × Obj)) : Good Γ (hot c) k noW (X.suite a pn) :=
  ⟨G.prog, G.w, G.K, G.mg, G.base, G.N, G.sc, G.ok.hot, G.fn, rfl, fun z => absurd (show false = true from z) Bool.false_ne_true, takes_none5, PassesOwn.never, G.fr⟩
/-- the clauses -/
inductive HdZ (Γ : Gam) (c : Cfg) (k : Nat) : List ExceptHandler → List Hd → Prop
  | nil : HdZ Γ c k [] []
  | cons {x : Str} {y : Nat} {m : List (Nat × Bool)} {s : XS} {b₀ : Stmt} {suite : List Stmt} {np pos' : Pos} {hds : List ExceptHandler} {l : List Hd} (hm : Γ.mg x = some (.ref (Γ.cl y))) (hx : ExmOk Γ m y) (hG : x ∈ c.G) (hd : (x == ("__debug__" : Str)) = false)
      (hs : SL Γ (hot c) k (b₀ :: suite) s) (r : HdZ Γ c k hds l) : HdZ Γ c k (.ExceptHandler (some (.Name x np)) none (b₀ :: suite) pos' :: hds) ((m, s) :: l)
theorem S1.shut {o : SOut} {D : Ends} {W : WX} (q : S1 Γ ρ H (shut o) D W) : S1 Γ ρ H o D noW := by
  cases o with
  | err x σ h => exact q.elim
  | _ => exact q
theorem hd_take {W : WX} {X : Cx} (G : Good Γ c k W X) {hds : List ExceptHandler} {hs : List Hd} (z : HdZ Γ c k hds hs) : ∃ l, HdsOk X hds l ∧
    ∀ (D : Ends) (ρ : List Addr) (H : Hp) (x : Exn) (σ : Sg) (τ : L2.St) (h : Hm) (cls : Value) (d : Option Addr), Rel Γ ρ h H → RelS Γ ρ H σ τ → ExnR Γ H x cls d → S1 Γ ρ H (sHand hs x σ h) D W → wMany X.K W D l cls d τ H := by
  induction z with
  | nil => exact ⟨[], .nil, fun D ρ H x σ τ h cls d R S e q => q ρ H τ cls d .refl R S e⟩
  | @cons x y m s b0 suite np pos' hds l hm hx hG hd hs r ih =>
    obtain ⟨l', i1, i2⟩ := ih
    refine ⟨(.ref (Γ.cl y), fun _ _ _ => sI Γ noW s) :: l', .cons ⟨G.gl hG, hd, .inl (by rw [G.mg]; exact hm)⟩ (fun a oe cls d pn _ _ => hs _ _ (G.suite a _)) i1, fun D ρ H x σ τ h cls d R S e q => ?_⟩
    unfold sHand at q
    split at q
    · rename_i eq
      refine ⟨true, ?_, fun _ a _ => ⟨ρ, σ, h, R, S, S1.shut q⟩, fun z => by cases z⟩
      rw [G.K, e.1]
      exact hx _ _ eq
    · rename_i eq
      refine ⟨false, ?_, (fun z => by cases z), fun _ => i2 D ρ H x σ τ h cls d R S e q⟩
      rw [G.K, e.1]
      exact hx _ _ eq
    · exact q.elim
theorem ss_try {hds : List ExceptHandler} {h₀ : ExceptHandler} {hs : List Hd} (hb : SL Γ c k body b) (z : HdZ Γ c k (h₀ :: hds) hs) (hf : c.fa = true := by rfl) : SS Γ c k (.Try body (h₀ :: hds) [] [] pos) (sTry b hs) := by
  intro W X G
  obtain ⟨l, i1, i2⟩ := hd_take G z
  refine PS.imp (ps_try_many (G.fr hf).1 (G.fr hf).2 G.takes (tb := fun W' => sI Γ W' b) (fun W' pn xe t p => hb _ _ (G.tr t p)) i1) fun D τ H h => ?_
  obtain ⟨ρ, σ, h, R, S, q⟩ := h
  refine ⟨ρ, σ, h, R, S, ?_⟩
  unfold sTry at q
  cases e : b σ h with
  | err x σ' h' =>
    rw [e] at q
    exact fun ρ2 H2 τ2 cls d l2 R2 S2 e2 => i2 D ρ2 H2 x σ' τ2 h' cls d R2 S2 e2 (S1.mono l2 q)
  | _ => rw [e] at q; exact q
/-! try .. except X as n -/
theorem RelS.off {σ : Sg} {τ : L2.St} (S : RelS Γ ρ H σ τ) (i : Nat) (y : Option V) : RelS Γ ρ H (σ.set i none) (τ.set i y) := by
  refine ⟨by simp [S.1], fun j w e => ?_⟩
  by_cases hj : i = j
  · subst hj
    by_cases hl : i < σ.length
    · rw [List.getElem?_set_self hl] at e
      cases e
    · rw [List.getElem?_eq_none (by simpa using hl)] at e
      cases e
  · rw [List.getElem?_set_ne hj] at e
    obtain ⟨v, e1, q⟩ := S.2 j w e
    exact ⟨v, by rw [List.getElem?_set_ne hj]; exact e1, q⟩
theorem S1.off {o : SOut} {D : Ends} {W : WX} {i : Nat} (q : S1 Γ ρ H (offS i o) D W) :
    S1 Γ ρ H o { nx := fun σ' H' => D.nx (σ'.set i none) H', rt := D.rt, bk := fun σ' H' => D.bk (σ'.set i none) H', ct := fun σ' H' => D.ct (σ'.set i none) H' } noW := by
  cases o with
  | nx σ h => exact fun ρ2 H2 τ2 l2 R2 S2 => q ρ2 H2 _ l2 R2 (S2.off i none)
  | bk σ h => exact fun ρ2 H2 τ2 l2 R2 S2 => q ρ2 H2 _ l2 R2 (S2.off i none)
  | ct σ h => exact fun ρ2 H2 τ2 l2 R2 S2 => q ρ2 H2 _ l2 R2 (S2.off i none)
  | err x σ h => exact q.elim
  | rt w h => exact q
  | bad => exact q
/-- a suite that knows the caught exception's class; slot i is its name's -/
def SU (Γ : Gam) (c : Cfg) (k i : Nat) (sts : List Stmt) (g : Nat → XS) : Prop := ∀ (W : WX) (X : Cx) (a : Addr) (oe : Obj) (ci : Nat) (pn : List (Addr × Obj)), Good Γ c k W X → Zc (.ref (Γ.cl ci)) none oe → (∃ vs, oe.data = .fields vs) →
  PSs (X.suite a ((a, oe) :: pn)) sts (fun D τ H => τ[i]? = some (some (.ref a)) ∧ sI Γ noW (g ci) D τ H)
def UE (Γ : Gam) (c : Cfg) (k i : Nat) (e : Expr) (g : Nat → Option Bool) : Prop := ∀ (W : WX) (X : Cx) (a : Addr) (oe : Obj) (ci : Nat) (b : Bool) (pn : List (Addr × Obj)), Good Γ c k W X → Zc (.ref (Γ.cl ci)) none oe → (∃ vs, oe.data = .fields vs) → g ci = some b →
  PE (X.suite a ((a, oe) :: pn)) e (fun τ H Q => τ[i]? = some (some (.ref a)) ∧ Q (.bl b) H)
def UT (Γ : Gam) (c : Cfg) (k i : Nat) (e : Expr) (g : Nat → Option Bool) : Prop := ∀ (W : WX) (X : Cx) (a : Addr) (oe : Obj) (ci : Nat) (b : Bool) (pn : List (Addr × Obj)), Good Γ c k W X → Zc (.ref (Γ.cl ci)) none oe → (∃ vs, oe.data = .fields vs) → g ci = some b →
  PT (X.suite a ((a, oe) :: pn)) e (fun τ H Q => τ[i]? = some (some (.ref a)) ∧ Q b H)
/-- the class tests of an exception -/
structure IsiOk (Γ : Gam) (m : List (Nat × Bool)) (y : Nat) : Prop where
  c : ∀ c b, m.lookup c = some b → ExcC Γ.K (Γ.cl c)
  i : ∀ c b, m.lookup c = some b → PySem.W.kitOne Γ.K (.ref (Γ.cl c)) (.ref (Γ.cl y)) = some b
theorem ue_isi (i j jG jY : Nat) (B : Bs Γ) {n x : Str} {y : Nat} {m : List (Nat × Bool)} {p1 p2 p3 : Pos} (I : IsiOk Γ m y) (hm : Γ.mg x = some (.ref (Γ.cl y))) (hN : c.N[i]? = some n := by rfl) (hV : c.V[j]? = some n := by rfl) (hG : c.G[jG]? = some ("isinstance" : Str) := by rfl) (hY : c.G[jY]? = some x := by rfl)
    (hd : (n == ("__debug__" : Str)) = false := by decide) (hcd : (n == ("__classdict__" : Str)) = false := by decide) (hd2 : (x == ("__debug__" : Str)) = false := by decide)
    (he : ∀ env, starEach [.Name n p1, .Name x p2] env = (false, eval (.Name n p1) env) :: starEach [.Name x p2] env := by intros; rfl)
    (hs : ∀ env, starEach [.Name x p2] env = (false, eval (.Name x p2) env) :: starEach [] env := by intros; rfl) (hpl : ∀ env, (backTo pos (starEach [.Name x p2] env)).any (·.1) = false := by intros; rfl) :
    UE Γ c k i (.Call (.Name "isinstance" p3) [.Name n p1, .Name x p2] [] pos) (fun ci => m.lookup ci) := by
  intro W X a oe ci b pn G hz hf hb
  have hv : Vis X.env.scope n := by rw [G.sc]; exact G.ok.vis n (List.mem_of_getElem? hV)
  have cx : ExcC X.K (Γ.cl ci) := by rw [G.K]; exact I.c _ _ hb
  refine PE.imp (pe_callB (X := X.suite a ((a, oe) :: pn)) (call_isE (X := X) cx hz hf) (G.gl (List.mem_of_getElem? hG)) (by show X.mg _ = none; rw [G.mg]; exact B.isinstance) boot_isinstance
    (pa_cons (pe_var (X := X.suite a ((a, oe) :: pn)) (i := i) (by show X.N[i]? = _; rw [G.N]; exact hN) hv hd hcd) (pa_cons (pe_glob (X := X.suite a ((a, oe) :: pn)) (v := .ref (Γ.cl y)) (G.gl (List.mem_of_getElem? hY)) (by show X.mg _ = _; rw [G.mg]; exact hm) rfl hd2) pa_nil (hs X.env)) (he X.env)) (by decide) (by decide) (he X.env) (hpl X.env)) fun τ H Q h => ?_
  obtain ⟨h1, h2⟩ := h
  exact ⟨.ref a, h1, .ref (Γ.cl y), .ref (Γ.cl y), b, rfl, fun u hu => hu, by show PySem.W.kitOne X.K _ _ = _; rw [G.K]; exact I.i _ _ hb, h2⟩
theorem su_ret {g : Nat → Option Bool} {p' : Pos} (h : UE Γ c k i e g) : SU Γ c k i [.Return (some e) p'] (fun ci => match g ci with
    | some b => sRet (xK (.bl b))
    | none => fun _ _ => .bad) := by
  intro W X a oe ci pn G hz hf
  cases eg : g ci with
  | none =>
    refine PSs.imp (pss_one (X := X.suite a ((a, oe) :: pn)) (t := fun _ _ _ => False) ⟨fun _ _ _ _ _ _ z => z.elim⟩) fun D τ H h => ?_
    obtain ⟨h1, ρ, σ, h, R, S, q⟩ := h
    simp only [eg] at q
    exact q
  | some b =>
    refine PSs.imp (pss_one (ps_ret (h W X a oe ci b pn G hz hf eg))) fun D τ H h => ?_
    obtain ⟨h1, ρ, σ, h, R, S, q⟩ := h
    simp only [eg] at q
    exact ⟨h1, q ρ H (.bl b) .refl R iB⟩
theorem ue_not {g : Nat → Option Bool} (h : UE Γ c k i e g) : UE Γ c k i (.UnaryOp .Not e pos) (fun ci => (g ci).map (! ·)) := by
  intro W X a oe ci b pn G hz hf hb
  obtain ⟨b', e1, e2⟩ := Option.map_eq_some_iff.mp hb
  refine PE.imp (pe_not (X := X.suite a ((a, oe) :: pn)) (h W X a oe ci b' pn G hz hf e1)) fun τ H Q h => ?_
  obtain ⟨h1, h2⟩ := h
  exact ⟨h1, b', rfl, by rw [e2]; exact h2⟩
/-- a try with a named clause -/
theorem ss_tryas (jL j : Nat) {n x : Str} {y : Nat} {m : List (Nat × Bool)} {np pos' : Pos} {b₀ : Stmt} {suite : List Stmt} {s : Nat → XS} (hb : SL Γ c k body b) (hs : SU Γ c k i (b₀ :: suite) s) (hm : Γ.mg x = some (.ref (Γ.cl y))) (hx : ExmOk Γ m y)
    (hN : c.N[i]? = some n := by rfl) (hln : c.sc.names.lookup n = some .local := by decide +kernel) (hG : c.G[j]? = some x := by rfl) (hd : (x == ("__debug__" : Str)) = false := by decide) (hf : c.fa = true := by rfl) :
    SS Γ c k (.Try body [.ExceptHandler (some (.Name x np)) (some n) (b₀ :: suite) pos'] [] [] pos) (sTryAs b i m s) := by
  intro W X G
  refine PS.imp (ps_try_as (i := i) (x := x) (n := n) (c := .ref (Γ.cl y)) (Wout := W) (tb := fun W' => sI Γ W' b) (ts := fun a cls d D τ H => (∃ ci, cls = .ref (Γ.cl ci) ∧ d = none ∧ τ[i]? = some (some (.ref a)) ∧ sI Γ noW (s ci) D τ H))
    (G.fr hf).1 (G.fr hf).2 G.nd (by rw [G.N]; exact hN) (by unfold Env.kindOf; rw [G.sc]; exact hln) ⟨G.gl (List.mem_of_getElem? hG), hd, .inl (by rw [G.mg]; exact hm)⟩ G.takes (fun W' pn xe t p => hb _ _ (G.tr t p))
    (fun a oe cls d pn hz hf => ?_)) fun D τ H h => ?_
  · refine ⟨fun pins s0 τ H D I q => ?_⟩
    obtain ⟨ci, rfl, rfl, q1, q2⟩ := q
    exact (hs W X a oe ci pn G hz hf).run pins s0 τ H D I ⟨q1, q2⟩
  · obtain ⟨ρ, σ, h, R, S, q⟩ := h
    refine ⟨ρ, σ, h, R, S, ?_⟩
    unfold sTryAs at q
    cases e : b σ h with
    | err x σ' h' =>
      rw [e] at q
      intro ρ2 H2 τ2 cls d l2 R2 S2 e2
      simp only at q
      split at q
      · rename_i eq
        split at q
        · rename_i xd
          have ed : d = none := by
            have := e2.2
            rw [xd] at this
            exact this
          split at q
          case isFalse => exact q.elim
          rename_i hi
          rw [S2.1] at hi
          refine ⟨true, by rw [G.K, e2.1]; exact hx _ _ eq, fun _ a _ => ⟨x.c, e2.1, ed, by rw [List.getElem?_set_self hi], ρ2, σ'.set i none, h', R2, S2.off i _, S1.off (S1.mono l2 q)⟩, (fun z => by cases z)⟩
        · exact q.elim
      · rename_i eq
        exact ⟨false, by rw [G.K, e2.1]; exact hx _ _ eq, (fun z => by cases z), fun _ => (S1.mono l2 q) ρ2 H2 τ2 cls d .refl R2 S2 e2⟩
      · exact q.elim
    | _ => rw [e] at q; exact q
end
end Z

/-! Z13: facts on exceptions; the hook with the hashes of dicts -/
namespace Z
open PySem PySem.Spec PyProof.Rows L2
def exmZ (N : List Str) (m : List (Nat × Bool)) (y : Str) : FaZ := fun K => m.all fun p => (He.Fa.exm (N.getD p.1 "") y p.2).ok K
def excCB (K : PySem.W.Frag) (D : Addr) : Bool := decide (PySem.W.findIn K (.ref D) "__getattribute__" = some (some (.builtin "BaseException.__getattribute__"))) && (decide (PySem.W.findIn K (.ref D) "__getattr__" = some none) &&
  (decide (PySem.W.subIn K (.ref D) (.type "BaseException") = some true) && (PySem.W.hasDictIn K D && (decide (PySem.W.findIn K (.ref D) "__class__" = some (some (.builtin "object.__class__"))) &&
  (decide (PySem.W.specialIn K (.builtin "object.__class__") "__get__" = some (some (.builtin "getset_descriptor.__get__"))) && (decide (PySem.W.takesIn K (.builtin "object.__class__") = some true) && decide (PySem.W.mroIn K D (.type "object") = some true)))))))
theorem excCB_ok {K : PySem.W.Frag} {D : Addr} (h : excCB K D = true) : ExcC K D := by
  unfold excCB at h
  simp only [Bool.and_eq_true, decide_eq_true_eq] at h
  exact ⟨h.1, h.2.1, h.2.2.1, h.2.2.2.1, h.2.2.2.2.1, h.2.2.2.2.2.1, h.2.2.2.2.2.2.1, h.2.2.2.2.2.2.2⟩
def isiZ (N : List Str) (m : List (Nat × Bool)) (y : Str) : FaZ := fun K => m.all fun p => excCB K (He.ga K (N.getD p.1 "")) && decide (PySem.W.kitOne K (.ref (He.ga K (N.getD p.1 ""))) (.ref (He.ga K y)) = some p.2)
theorem mem_look {m : List (Nat × Bool)} {c : Nat} {b : Bool} (h : m.lookup c = some b) : (c, b) ∈ m := by
  induction m with
  | nil => cases h
  | cons p r ih =>
    obtain ⟨a, d⟩ := p
    rw [List.lookup_cons] at h
    split at h
    · rename_i e
      cases h
      have : c = a := by simpa using e
      rw [this]
      exact List.mem_cons_self
    · exact List.mem_cons_of_mem _ (ih h)
section
variable {Γ : Gam} {N : List Str} {m : List (Nat × Bool)} {y : Str} {i : Nat}
theorem exm_of (hcl : ∀ i, Γ.cl i = He.ga Γ.K (N.getD i "")) (h : exmZ N m y Γ.K = true) (hi : N.getD i "" = y) : ExmOk Γ m i := fun c b e => by
  rw [hcl, hcl, hi]
  exact He.exm_ok (List.all_eq_true.mp h _ (mem_look e))
theorem isi_of (hcl : ∀ i, Γ.cl i = He.ga Γ.K (N.getD i "")) (h : isiZ N m y Γ.K = true) (hi : N.getD i "" = y) : IsiOk Γ m i :=
  ⟨fun c b e => by
    have := List.all_eq_true.mp h _ (mem_look e)
    rw [Bool.and_eq_true] at this
    rw [hcl]
    exact excCB_ok this.1, fun c b e => by
    have := List.all_eq_true.mp h _ (mem_look e)
    rw [Bool.and_eq_true] at this
    rw [hcl, hcl, hi]
    exact of_decide_eq_true this.2⟩
theorem exc_of (hcl : ∀ i, Γ.cl i = He.ga Γ.K (N.getD i "")) (h : (He.Fa.exc y).ok Γ.K = true) (g : Γ.mg y = some (.ref (He.ga Γ.K y))) (hi : N.getD i "" = y) : ExcOk Γ i y := by
  obtain ⟨a, b, c, d⟩ := He.exc_ok h
  have e : Γ.cl i = He.ga Γ.K y := by rw [hcl, hi]
  exact ⟨by rw [e]; exact a, by rw [e]; exact b, by rw [e]; exact c, by rw [e]; exact d, by rw [e]; exact g⟩
end
def builtZ (x id : String) : FaZ := fun K => He.eqO (PySem.W.nsIn K mainGlobals (PySem.Str.ofString x)) (some (some (.builtin id)))
theorem built_ok {K : PySem.W.Frag} {h : Heap} {mg : Str → Option Value} (X : K.In h) (G : h.Ns mainGlobals mg) {x id : String} (c : builtZ x id K = true) : mg (PySem.Str.ofString x) = some (.builtin id) := PySem.W.mg_of X G (He.eqO_ok c)
/-! the hook -/
abbrev DsT := List (Str × List (DK × Cn))
abbrev AlZ := He.AlD × List (Option (List Int))
def hashesZ (ds : DsT) (K : PySem.W.Frag) : List (Option (List Int)) := ds.map fun x => hashB x.1 K
def hvals (ds : DsT) (w : World) : List (Option (List Int)) := ds.map fun x => some (x.2.map fun e => dkHash w e.1)
def keyRefs (o : Obj) : List Addr := match o.data with
  | .dict es _ => es.toList.flatMap fun e => He.refV e.key
  | _ => []
/-- the keys of dicts, too -/
def withKeys (g : Addr → Option Obj) (as : List Addr) : List Addr := as ++ as.flatMap fun a => match g a with
  | some o => keyRefs o
  | none => []
def asY (g : Addr → Option Obj) (n : Nat) : List Addr := withKeys g (He.asD g n)
def obsY (n : Nat) (fa : List FaZ) (fn : List He.DefD) (ds : DsT) (g : Addr → Option Obj) : AlZ := (obsZ fa fn (He.frG g (asY g n)), hashesZ ds (He.frG g (asY g n)))
def hookY (n : Nat) (fa : List FaZ) (fn : List He.DefD) (ds : DsT) : PySem.W.Hook where
  α := AlZ
  obs := fun s => obsY n fa fn ds s.heap.get?
  val := fun w => (He.valD fn, hvals ds w)
  says := fun w h => ∃ K : PySem.W.Frag, K.In h ∧ SaysZ fa fn K ∧ hashesZ ds K = hvals ds w
  of := fun _ _ e => ⟨_, He.frG_in, congrArg (fun z : AlZ => z.1) e, congrArg (fun z : AlZ => z.2) e⟩
  keeps := fun _ _ _ ⟨K, hK, c⟩ k => ⟨K, PySem.W.Frag.In.keeps hK k, c⟩
theorem obsY_eq {n : Nat} {fa : List FaZ} {fn : List He.DefD} {ds : DsT} {g : Addr → Option Obj} {s : Shared} (h : ∀ a, g a = s.heap.get? a) : obsY n fa fn ds g = (hookY n fa fn ds).obs s := by
  have e : g = s.heap.get? := funext h
  rw [e] <;> rfl
theorem hash_at {ds : DsT} {K : PySem.W.Frag} {w : World} (h : hashesZ ds K = hvals ds w) (i : Nat) {x : Str} {es : List (DK × Cn)} (e : ds[i]? = some (x, es) := by rfl) : hashB x K = some (es.map fun e => dkHash w e.1) := by
  have q : (hashesZ ds K)[i]? = (hvals ds w)[i]? := by rw [h]
  unfold hashesZ hvals at q
  rw [List.getElem?_map, List.getElem?_map, e] at q
  exact Option.some.inj q
/-! tests on dicts -/
section
variable {Γ : Gam} {c : Cfg} {k : Nat} {e : Expr} {f : XE} {pos p : Pos}
theorem kin_core {X : Cx} {W : WX} (G : Good Γ c k W X) {es : List (DK × Cn)} {a : Addr} {ents : Array DictEntry} {n : Nat} (hl : Γ.K.lookup a = some ⟨.type "dict", none, .dict ents n, #[]⟩) (hE : EntsOk Γ.w Γ.K es ents.toList) (ha : allS es = true) {ρ : List Addr} {H : Hp} {u : Z.W} {y : V} {b : Bool}
    (r : RelW Γ ρ H u y) (e : kIn es u = some b) : ∃ z r, y = .str z ∧ PySem.W.nsIn X.K a z = some r ∧ r.isSome = b := by
  cases u with
  | str z =>
    obtain ⟨f1, f2⟩ := find_text (z := z) hE ha
    have eb : (es.any fun e => e.1.is (.str z)) = b := Option.some.inj e
    cases e3 : ents.toList.find? (fun d => d.key.isStr z) with
    | some d =>
      refine ⟨z, some d.val, rwS r, ?_, by rw [← eb, f2, e3]; rfl⟩
      unfold PySem.W.nsIn
      rw [G.K, hl]
      simp only [e3]
    | none =>
      refine ⟨z, none, rwS r, ?_, by rw [← eb, f2, e3]; rfl⟩
      unfold PySem.W.nsIn
      rw [G.K, hl]
      simp only [e3]
      have hlit := keysLit_of hE ha
      have : ents.toList.any (·.refKey) = false := by
        rw [List.any_eq_false]
        intro d hd2
        obtain ⟨y1, t1, y2, _⟩ := hlit.all d hd2
        unfold DictEntry.refKey
        rw [y2]
        exact Bool.false_ne_true
      rw [this]
      rfl
  | _ => cases e
theorem xB_kin {es : List (DK × Cn)} {neg : Bool} {σ : Sg} {h : Hm} : xB (xKIn es neg f) σ h = (f σ h).bind fun u h1 => match kIn es u with
    | some b => .ok (if neg then !b else b) h1
    | none => .bad := by
  unfold xB xKIn
  cases f σ h with
  | ok u h1 =>
    show (match kIn es u with
      | some b => Out.ok (W.bl (if neg then !b else b)) h1
      | none => .bad).bind asB = (match kIn es u with
      | some b => .ok (if neg then !b else b) h1
      | none => .bad)
    cases kIn es u <;> rfl
  | _ => rfl
theorem st_kin {x : Str} {es : List (DK × Cn)} {px : Pos} (j : Nat) (hk : KonD Γ x es) (he : SE Γ c k e f) (ha : allS es = true) (hG : c.G[j]? = some x := by rfl) (hd : (x == ("__debug__" : Str)) = false := by decide) (hm : behindInMarks .In (.Name x px) = false := by rfl) :
    ST Γ c k (.Compare e [.In] [.Name x px] pos) (xB (xKIn es false f)) := by
  intro W X G
  obtain ⟨a, ents, n, hm2, hl, hz, hE⟩ := hk
  have D : KDict X.K X.w a ents n := ⟨by rw [G.K]; exact hl, by rw [G.w]; exact keysLit_of hE ha, hz⟩
  refine PT.imp (pt_cmpR (op_in_kd D) (he W X G) (pe_glob (v := .ref a) (G.gl (List.mem_of_getElem? hG)) (by rw [G.mg]; exact hm2) rfl hd) hm) fun τ H Q h => ?_
  obtain ⟨ρ, σ, h, R, S, q⟩ := h
  rw [xB_kin] at q
  refine ⟨ρ, σ, h, R, S, (O1.bind (R := RelW Γ) q).imp fun y H1 ⟨ρ1, h1, u, l1, R1, r1, q1⟩ => ?_⟩
  split at q1
  · rename_i b eb
    obtain ⟨z, r, e1, e2, e3⟩ := kin_core G hl hE ha r1 eb
    exact ⟨z, r, e1, rfl, e2, r.isSome, rfl, q1 ρ1 H1 _ .refl R1 (by rw [e3]; rfl)⟩
  · exact q1.elim
theorem st_knin {x : Str} {es : List (DK × Cn)} {px : Pos} (j : Nat) (hk : KonD Γ x es) (he : SE Γ c k e f) (ha : allS es = true) (hG : c.G[j]? = some x := by rfl) (hd : (x == ("__debug__" : Str)) = false := by decide) (hm : behindInMarks .NotIn (.Name x px) = false := by rfl) :
    ST Γ c k (.Compare e [.NotIn] [.Name x px] pos) (xB (xKIn es true f)) := by
  intro W X G
  obtain ⟨a, ents, n, hm2, hl, hz, hE⟩ := hk
  have D : KDict X.K X.w a ents n := ⟨by rw [G.K]; exact hl, by rw [G.w]; exact keysLit_of hE ha, hz⟩
  refine PT.imp (pt_cmpR (op_notIn_kd D) (he W X G) (pe_glob (v := .ref a) (G.gl (List.mem_of_getElem? hG)) (by rw [G.mg]; exact hm2) rfl hd) hm) fun τ H Q h => ?_
  obtain ⟨ρ, σ, h, R, S, q⟩ := h
  rw [xB_kin] at q
  refine ⟨ρ, σ, h, R, S, (O1.bind (R := RelW Γ) q).imp fun y H1 ⟨ρ1, h1, u, l1, R1, r1, q1⟩ => ?_⟩
  split at q1
  · rename_i b eb
    obtain ⟨z, r, e1, e2, e3⟩ := kin_core G hl hE ha r1 eb
    exact ⟨z, r, e1, rfl, e2, !r.isSome, rfl, q1 ρ1 H1 _ .refl R1 (by rw [e3]; rfl)⟩
  · exact q1.elim
end
end Z

/-! Y0: what a text needs for a wish (weakest preconditions), one rule a combinator -/
namespace Z
open PySem PySem.Spec PyProof.Rows L2
def Out.wp {α : Type} (o : Out α) (Q : α → Hm → Prop) (E : Exn → Hm → Prop) : Prop := match o with
  | .ok a h => Q a h
  | .err x h => E x h
  | .bad => False
def SOut.wp (o : SOut) (N : Sg → Hm → Prop) (R : W → Hm → Prop) (B C : Sg → Hm → Prop) (E : Exn → Sg → Hm → Prop) : Prop := match o with
  | .nx σ h => N σ h
  | .rt w h => R w h
  | .bk σ h => B σ h
  | .ct σ h => C σ h
  | .err x σ h => E x σ h
  | .bad => False
/-- no exception -/
abbrev nE : Exn → Hm → Prop := fun _ _ => False
section
variable {α β : Type} {σ : Sg} {h : Hm} {Q Q' : α → Hm → Prop} {E E' : Exn → Hm → Prop} {N N' B B' C C' : Sg → Hm → Prop} {R R' : W → Hm → Prop} {X X' : Exn → Sg → Hm → Prop} {V V' : W → Hm → Prop}
theorem Out.wp_imp {o : Out α} (w : o.wp Q E) (q : ∀ a h, Q a h → Q' a h) (e : ∀ x h, E x h → E' x h) : o.wp Q' E' := by
  cases o with
  | ok a h => exact q a h w
  | err x h => exact e x h w
  | bad => exact w
theorem SOut.wp_imp {o : SOut} (w : o.wp N R B C X) (n : ∀ s h, N s h → N' s h) (r : ∀ v h, R v h → R' v h) (b : ∀ s h, B s h → B' s h) (c : ∀ s h, C s h → C' s h) (e : ∀ x s h, X x s h → X' x s h) : o.wp N' R' B' C' X' := by
  cases o with
  | nx s h => exact n s h w
  | rt v h => exact r v h w
  | bk s h => exact b s h w
  | ct s h => exact c s h w
  | err x s h => exact e x s h w
  | bad => exact w
/-- the value itself -/
theorem Out.wp_get {o : Out α} (w : o.wp Q nE) : ∃ a h, o = .ok a h ∧ Q a h := by
  cases o with
  | ok a h => exact ⟨a, h, rfl, w⟩
  | err x h => exact w.elim
  | bad => exact w.elim
theorem w_bind {o : Out α} {f : α → Hm → Out β} {P : β → Hm → Prop} (w : o.wp (fun a h1 => (f a h1).wp P E) E) : (o.bind f).wp P E := by
  cases o with
  | ok a h => exact w
  | err x h => exact w
  | bad => exact w
theorem w_sOf {o : Out α} {f : α → Hm → SOut} (w : o.wp (fun a h1 => (f a h1).wp N R B C X) (fun x h1 => X x σ h1)) : (sOf o σ f).wp N R B C X := by
  cases o with
  | ok a h => exact w
  | err x h => exact w
  | bad => exact w
variable {a b c e : XE} {t u : XT} {r : XA} {f g : XS} {op op' : W → W → Hm → Pr}
theorem w_K {w : W} (q : V w h) : (xK w σ h).wp V E := q
theorem w_var {i : Nat} {w : W} (e : σ[i]? = some (some w)) (q : V w h) : (xVar i σ h).wp V E := by
  unfold xVar
  rw [e]
  exact q
theorem w_bin (w : (a σ h).wp (fun x h1 => (b σ h1).wp (fun y h2 => (ofO (op x y h2)).wp V E) E) E) : (xBin op a b σ h).wp V E :=
  w_bind (Out.wp_imp w (fun _ _ q => w_bind q) fun _ _ q => q)
theorem w_un {op : W → Hm → Pr} (w : (a σ h).wp (fun x h1 => (ofO (op x h1)).wp V E) E) : (xUn op a σ h).wp V E := w_bind w
theorem w_nil {P : List W → Hm → Prop} (w : P [] h) : (xNil σ h).wp P E := w
theorem w_cons {P : List W → Hm → Prop} (w : (a σ h).wp (fun x h1 => (r σ h1).wp (fun xs h2 => P (x :: xs) h2) E) E) : (xCons a r σ h).wp P E :=
  w_bind (Out.wp_imp w (fun _ _ q => w_bind (Out.wp_imp q (fun _ _ q => q) fun _ _ q => q)) fun _ _ q => q)
theorem w_call {g : List W → Hm → Pr} (w : (r σ h).wp (fun xs h1 => (ofO (g xs h1)).wp V E) E) : (xCall g r σ h).wp V E := w_bind w
theorem w_tup (w : (r σ h).wp (fun xs h1 => xs.length ≤ 16777216 ∧ V (.tup xs) h1) E) : (xTup r σ h).wp V E :=
  w_bind (Out.wp_imp w (fun xs h1 q => by rw [if_pos q.1]; exact q.2) fun _ _ q => q)
theorem w_lst (w : (r σ h).wp (fun xs h1 => xs.length ≤ 16777216 ∧ V (.ref h1.length) (h1 ++ [.lst xs])) E) : (xLst r σ h).wp V E :=
  w_bind (Out.wp_imp w (fun xs h1 q => by rw [if_pos q.1]; exact q.2) fun _ _ q => q)
theorem w_dic (q : V (.ref h.length) (h ++ [.dic []])) : (xDic σ h).wp V E := q
theorem w_B {P : Bool → Hm → Prop} (w : (a σ h).wp (fun x h1 => (asB x h1).wp P E) E) : (xB a σ h).wp P E := w_bind w
theorem w_asB {P : Bool → Hm → Prop} {v : Bool} (q : P v h) : (asB (.bl v) h).wp P E := q
theorem w_AndT {P : Bool → Hm → Prop} (w : (t σ h).wp (fun c h1 => (c = true → (u σ h1).wp P E) ∧ (c = false → P false h1)) E) : (xAndT t u σ h).wp P E :=
  w_bind (Out.wp_imp w (fun c h1 q => by cases c with
    | true => exact q.1 rfl
    | false => exact q.2 rfl) fun _ _ q => q)
theorem w_OrT {P : Bool → Hm → Prop} (w : (t σ h).wp (fun c h1 => (c = true → P true h1) ∧ (c = false → (u σ h1).wp P E)) E) : (xOrT t u σ h).wp P E :=
  w_bind (Out.wp_imp w (fun c h1 q => by cases c with
    | true => exact q.1 rfl
    | false => exact q.2 rfl) fun _ _ q => q)
theorem w_NotT {P : Bool → Hm → Prop} (w : (t σ h).wp (fun c h1 => P (!c) h1) E) : (xNotT t σ h).wp P E := w_bind w
theorem w_And (w : (a σ h).wp (fun x h1 => ∃ v, x = .bl v ∧ (v = true → (b σ h1).wp V E) ∧ (v = false → V (.bl false) h1)) E) : (xAnd a b σ h).wp V E :=
  w_bind (Out.wp_imp w (fun x h1 q => by
    obtain ⟨v, rfl, q1, q2⟩ := q
    cases v with
    | true => exact q1 rfl
    | false => exact q2 rfl) fun _ _ q => q)
theorem w_Or (w : (a σ h).wp (fun x h1 => ∃ v, x = .bl v ∧ (v = true → V (.bl true) h1) ∧ (v = false → (b σ h1).wp V E)) E) : (xOr a b σ h).wp V E :=
  w_bind (Out.wp_imp w (fun x h1 q => by
    obtain ⟨v, rfl, q1, q2⟩ := q
    cases v with
    | true => exact q1 rfl
    | false => exact q2 rfl) fun _ _ q => q)
theorem w_Not (w : (a σ h).wp (fun x h1 => ∃ v, x = .bl v ∧ V (.bl !v) h1) E) : (xNot a σ h).wp V E :=
  w_bind (Out.wp_imp w (fun x h1 q => by
    obtain ⟨v, rfl, q1⟩ := q
    exact q1) fun _ _ q => q)
theorem w_If (w : (t σ h).wp (fun c h1 => (c = true → (a σ h1).wp V E) ∧ (c = false → (b σ h1).wp V E)) E) : (xIf t a b σ h).wp V E :=
  w_bind (Out.wp_imp w (fun c h1 q => by cases c with
    | true => exact q.1 rfl
    | false => exact q.2 rfl) fun _ _ q => q)
theorem w_Chain (w : (a σ h).wp (fun x h1 => (b σ h1).wp (fun y h2 => (ofO (op x y h2)).wp (fun z h3 => ∃ v, z = .bl v ∧ (v = true → (c σ h3).wp (fun w h4 => (ofO (op' y w h4)).wp V E) E) ∧ (v = false → V (.bl false) h3)) E) E) E) : (xChain op op' a b c σ h).wp V E :=
  w_bind (Out.wp_imp w (fun x h1 q => w_bind (Out.wp_imp q (fun y h2 q => w_bind (Out.wp_imp q (fun z h3 q => by
    obtain ⟨v, rfl, q1, q2⟩ := q
    cases v with
    | true => exact w_bind (q1 rfl)
    | false => exact q2 rfl) fun _ _ q => q)) fun _ _ q => q)) fun _ _ q => q)
theorem w_Fn {F : List W → Hm → Out W} (w : (r σ h).wp (fun xs h1 => (F xs h1).wp V E) E) : (xFn F r σ h).wp V E := w_bind w
theorem w_Meth {tt : W → Hm → Bool} {g : W → List W → Hm → Pr} (w : (a σ h).wp (fun x h1 => tt x h1 = true ∧ (r σ h1).wp (fun xs h2 => (ofO (g x xs h2)).wp V E) E) E) : (xMeth tt g a r σ h).wp V E :=
  w_bind (Out.wp_imp w (fun x h1 q => by
    rw [if_pos q.1]
    exact w_bind q.2) fun _ _ q => q)
theorem w_Isi {T : String} (w : (a σ h).wp (fun x h1 => ∃ v, isiC T x h1 = some v ∧ V (.bl v) h1) E) : (xIsi T a σ h).wp V E :=
  w_bind (Out.wp_imp w (fun x h1 q => by
    obtain ⟨v, e1, q1⟩ := q
    rw [e1]
    exact q1) fun _ _ q => q)
theorem w_ofO {p : Pr} {x : W} {h1 : Hm} (e : p = some (x, h1)) (q : V x h1) : (ofO p).wp V E := by
  rw [e]
  exact q
theorem w_oNone {P : Option Int → Hm → Prop} (q : P none h) : (xoNone σ h).wp P E := q
theorem w_oSome {P : Option Int → Hm → Prop} (w : (a σ h).wp (fun x h1 => ∃ i, x = .int i ∧ P (some i) h1) E) : (xoSome a σ h).wp P E :=
  w_bind (Out.wp_imp w (fun x h1 q => by
    obtain ⟨i, rfl, q1⟩ := q
    exact q1) fun _ _ q => q)
theorem w_Sl {lo hi : XO} (w : (a σ h).wp (fun x h1 => (lo σ h1).wp (fun l h2 => (hi σ h2).wp (fun u h3 => (ofO (slW x l u h3)).wp V E) E) E) E) : (xSl a lo hi σ h).wp V E :=
  w_bind (Out.wp_imp w (fun x h1 q => w_bind (Out.wp_imp q (fun x h1 q => w_bind q) fun _ _ q => q)) fun _ _ q => q)
/-! statements -/
theorem w_skip (q : N σ h) : (sSkip σ h).wp N R B C X := q
theorem w_seq (w : (f σ h).wp (fun s h1 => (g s h1).wp N R B C X) R B C X) : (sSeq f g σ h).wp N R B C X := by
  unfold sSeq
  cases e : f σ h with
  | nx s h1 => rw [e] at w; exact w
  | rt s h1 => rw [e] at w; exact w
  | bk s h1 => rw [e] at w; exact w
  | ct s h1 => rw [e] at w; exact w
  | err x s h1 => rw [e] at w; exact w
  | bad => rw [e] at w; exact w
theorem w_set {i : Nat} (w : (e σ h).wp (fun x h1 => N (σ.set i (some x)) h1) (fun x h1 => X x σ h1)) : (sSet i e σ h).wp N R B C X := w_sOf w
theorem w_ret (w : (e σ h).wp R (fun x h1 => X x σ h1)) : (sRet e σ h).wp N R B C X := w_sOf w
theorem w_retN (w : R .non h) : (sRetN σ h).wp N R B C X := w
theorem w_if (w : (t σ h).wp (fun c h1 => (c = true → (f σ h1).wp N R B C X) ∧ (c = false → (g σ h1).wp N R B C X)) (fun x h1 => X x σ h1)) : (sIf t f g σ h).wp N R B C X :=
  w_sOf (Out.wp_imp w (fun c h1 q => by cases c with
    | true => exact q.1 rfl
    | false => exact q.2 rfl) fun _ _ q => q)
theorem w_expr (w : (e σ h).wp (fun _ h1 => N σ h1) (fun x h1 => X x σ h1)) : (sExpr e σ h).wp N R B C X := w_sOf w
theorem w_break (w : B σ h) : (sBreak σ h).wp N R B C X := w
theorem w_cont (w : C σ h) : (sCont σ h).wp N R B C X := w
theorem w_aug {i : Nat} {x : W} (ex : σ[i]? = some (some x)) (w : (e σ h).wp (fun y h1 => ∃ z h2, op x y h1 = some (z, h2) ∧ N (σ.set i (some z)) h2) (fun x h1 => X x σ h1)) : (sAug i op e σ h).wp N R B C X := by
  unfold sAug
  rw [ex]
  refine w_sOf (Out.wp_imp w (fun y h1 q => ?_) fun _ _ q => q)
  obtain ⟨z, h2, e1, q1⟩ := q
  rw [e1]
  exact q1
theorem w_sub {o i : XE} {g : W → W → W → Hm → Option Hm} (w : (e σ h).wp (fun v h1 => (o σ h1).wp (fun x h2 => (i σ h2).wp (fun y h3 => ∃ h4, g x y v h3 = some h4 ∧ N σ h4) (fun x h1 => X x σ h1)) (fun x h1 => X x σ h1)) (fun x h1 => X x σ h1)) : (sSub o i e g σ h).wp N R B C X :=
  w_sOf (Out.wp_imp w (fun v h1 q => w_sOf (Out.wp_imp q (fun x h2 q => w_sOf (Out.wp_imp q (fun y h3 q => by
    obtain ⟨h4, e1, q1⟩ := q
    rw [e1]
    exact q1) fun _ _ q => q)) fun _ _ q => q)) fun _ _ q => q)
theorem w_asg {g : XG} (w : (e σ h).wp (fun x h1 => ∃ s, g x σ h1 = some s ∧ N s h1) (fun x h1 => X x σ h1)) : (sAsg g e σ h).wp N R B C X :=
  w_sOf (Out.wp_imp w (fun x h1 q => by
    obtain ⟨s, e1, q1⟩ := q
    rw [e1]
    exact q1) fun _ _ q => q)
theorem w_turn {o : SOut} {next : Sg → Hm → SOut} (w : o.wp (fun s h1 => (next s h1).wp N R B C X) R N (fun s h1 => (next s h1).wp N R B C X) X) : (sTurn o next).wp N R B C X := by
  cases o with
  | nx s h1 => exact w
  | rt s h1 => exact w
  | bk s h1 => exact w
  | ct s h1 => exact w
  | err x s h1 => exact w
  | bad => exact w
theorem w_For {fi : XI} {g : XG} (w : (fi σ h).wp (fun it h1 => (sForL it g f fuel 0 σ h1).wp N R B C X) (fun x h1 => X x σ h1)) : (sFor fi g f σ h).wp N R B C X := w_sOf w
/-- THE LOOP: I i holds before the i-th item -/
theorem w_loop {it : Itr} {g : XG} {n m : Nat} (I : Nat → Sg → Hm → Prop) (hm : n < m) (h0 : I 0 σ h) (step : ∀ i σ h, i < n → I i σ h → ∃ w s, it i h = some (some w) ∧ g w σ h = some s ∧ (f s h).wp (I (i + 1)) R N (I (i + 1)) X)
    (fin : ∀ σ h, I n σ h → it n h = some none ∧ N σ h) : (sForL it g f m 0 σ h).wp N R B C X := by
  have go : ∀ (k i m : Nat) σ h, i + k = n → k < m → I i σ h → (sForL it g f m i σ h).wp N R B C X := by
    intro k
    induction k with
    | zero =>
      intro i m σ h e hk hI
      obtain ⟨m, rfl⟩ : ∃ q, m = q + 1 := ⟨m - 1, by omega⟩
      have e : i = n := by omega
      subst e
      obtain ⟨q1, q2⟩ := fin σ h hI
      unfold sForL
      rw [q1]
      exact q2
    | succ k ih =>
      intro i m σ h e hk hI
      obtain ⟨m, rfl⟩ : ∃ q, m = q + 1 := ⟨m - 1, by omega⟩
      obtain ⟨w, s, e1, e2, q⟩ := step i σ h (by omega) hI
      unfold sForL
      rw [e1]
      show (match g w σ h with
        | none => SOut.bad
        | some σ1 => sTurn (f σ1 h) (sForL it g f m (i + 1))).wp N R B C X
      rw [e2]
      exact w_turn (SOut.wp_imp q (fun s h1 q => ih (i + 1) m s h1 (by omega) (by omega) q) (fun _ _ q => q) (fun _ _ q => q) (fun s h1 q => ih (i + 1) m s h1 (by omega) (by omega) q) fun _ _ _ q => q)
  exact go n 0 m σ h (by omega) hm h0
/-- THE WHILE: I d holds ahead of the test, d bounds the turns left -/
theorem w_while {m : Nat} (I : Nat → Sg → Hm → Prop) (d : Nat) (hd : d < m) (h0 : I d σ h)
    (step : ∀ d σ h, I d σ h → (t σ h).wp (fun c h1 => (c = true → (f σ h1).wp (fun s h2 => ∃ d', d' < d ∧ I d' s h2) R N (fun s h2 => ∃ d', d' < d ∧ I d' s h2) X) ∧ (c = false → N σ h1)) (fun x h1 => X x σ h1)) : (sWhile t f m σ h).wp N R B C X := by
  induction m generalizing d σ h with
  | zero => omega
  | succ m ih =>
    unfold sWhile
    refine w_sOf (Out.wp_imp (step d σ h h0) (fun c h1 q => ?_) fun _ _ q => q)
    cases c with
    | false => exact q.2 rfl
    | true => exact w_turn (SOut.wp_imp (q.1 rfl) (fun s h2 ⟨d', l, q⟩ => ih d' (by omega) q) (fun _ _ q => q) (fun _ _ q => q) (fun s h2 ⟨d', l, q⟩ => ih d' (by omega) q) fun _ _ _ q => q)
/-! iterators -/
theorem w_iRng1 {P : Itr → Hm → Prop} (w : (r σ h).wp (fun xs h1 => ∃ j, xs = [.int j] ∧ smallI j = true ∧ P (itRng 0 1 j.toNat) h1) E) : (iRng1 r σ h).wp P E :=
  w_bind (Out.wp_imp w (fun xs h1 q => by
    obtain ⟨j, rfl, e1, q1⟩ := q
    dsimp only
    rw [if_pos e1]
    exact q1) fun _ _ q => q)
theorem w_iRng2 {P : Itr → Hm → Prop} (w : (r σ h).wp (fun xs h1 => ∃ i j, xs = [.int i, .int j] ∧ smallI i = true ∧ smallI j = true ∧ P (itRng i 1 (j - i).toNat) h1) E) : (iRng2 r σ h).wp P E :=
  w_bind (Out.wp_imp w (fun xs h1 q => by
    obtain ⟨i, j, rfl, e1, e2, q1⟩ := q
    dsimp only
    rw [if_pos (by rw [e1, e2]; rfl)]
    exact q1) fun _ _ q => q)
theorem w_iAny {P : Itr → Hm → Prop} (w : (a σ h).wp (fun x h1 => (∃ xs, seqC x h1 = some xs ∧ P (itSeq x) h1) ∨ ∃ z, x = .str z ∧ P (itStr z) h1) E) : (iAny a σ h).wp P E :=
  w_bind (Out.wp_imp w (fun x h1 q => by
    rcases q with ⟨xs, e1, q1⟩ | ⟨z, rfl, q1⟩
    · cases x with
      | str z => cases e1
      | tup ys =>
        dsimp only
        rw [if_pos (by rw [e1]; rfl)]
        exact q1
      | ref i =>
        dsimp only
        rw [if_pos (by rw [e1]; rfl)]
        exact q1
      | _ => cases e1
    · exact q1) fun _ _ q => q)
theorem w_iRev {P : Itr → Hm → Prop} (w : (a σ h).wp (fun x h1 => ∃ xs, seqC x h1 = some xs ∧ P (itRev x xs.length) h1) E) : (iRev a σ h).wp P E :=
  w_bind (Out.wp_imp w (fun x h1 q => by
    obtain ⟨xs, e1, q1⟩ := q
    rw [e1]
    exact q1) fun _ _ q => q)
theorem w_iZip {P : Itr → Hm → Prop} (w : (r σ h).wp (fun xs h1 => ∃ x y, xs = [x, y] ∧ isL x h1 = true ∧ isL y h1 = true ∧ P (itZip x y) h1) E) : (iZip r σ h).wp P E :=
  w_bind (Out.wp_imp w (fun xs h1 q => by
    obtain ⟨x, y, rfl, e1, e2, q1⟩ := q
    dsimp only
    rw [if_pos (by rw [e1, e2]; rfl)]
    exact q1) fun _ _ q => q)
theorem w_iEnum {P : Itr → Hm → Prop} (w : (r σ h).wp (fun xs h1 => ∃ x, xs = [x] ∧ isL x h1 = true ∧ P (itEnum x) h1) E) : (iEnum r σ h).wp P E :=
  w_bind (Out.wp_imp w (fun xs h1 q => by
    obtain ⟨x, rfl, e1, q1⟩ := q
    dsimp only
    rw [if_pos e1]
    exact q1) fun _ _ q => q)
/-- a comprehension: I i acc h before the i-th item (the new list has acc) -/
theorem w_comp {fi : XI} {g : XG} {own : List Nat} (w : (fi σ h).wp (fun it h1 => (compL it g t e h1.length (wipeS σ own) fuel 0 (h1 ++ [.lst []])).wp V E) E) : (xComp fi g t e own σ h).wp V E := w_bind w
theorem w_compL {it : Itr} {g : XG} {d n m : Nat} {σ0 : Sg} (I : Nat → List W → Hm → Prop) (hm : n < m) (hn : n ≤ 16777216) (h0 : I 0 [] h) (hI : ∀ i acc h, I i acc h → h[d]? = some (.lst acc) ∧ acc.length ≤ i)
    (step : ∀ i acc h, i < n → I i acc h → ∃ w s, it i h = some (some w) ∧ g w σ0 h = some s ∧ (t s h).wp (fun c h1 => (c = true → (e s h1).wp (fun y h2 => h2[d]? = some (.lst acc) ∧ I (i + 1) (acc ++ [y]) (h2.set d (.lst (acc ++ [y])))) nE) ∧ (c = false → I (i + 1) acc h1)) nE)
    (fin : ∀ acc h, I n acc h → it n h = some none ∧ V (.ref d) h) : (compL it g t e d σ0 m 0 h).wp V E := by
  have go : ∀ (k i m : Nat) acc h, i + k = n → k < m → I i acc h → (compL it g t e d σ0 m i h).wp V E := by
    intro k
    induction k with
    | zero =>
      intro i m acc h e hk hi
      obtain ⟨m, rfl⟩ : ∃ q, m = q + 1 := ⟨m - 1, by omega⟩
      have e : i = n := by omega
      subst e
      obtain ⟨q1, q2⟩ := fin acc h hi
      unfold compL
      rw [q1]
      exact q2
    | succ k ih =>
      intro i m acc h e' hk hi
      obtain ⟨m, rfl⟩ : ∃ q, m = q + 1 := ⟨m - 1, by omega⟩
      obtain ⟨w, s, e1, e2, q⟩ := step i acc h (by omega) hi
      obtain ⟨c, h1, e3, q1, q2⟩ := Out.wp_get q
      unfold compL
      simp only [e1, e2, e3]
      cases c with
      | false => exact ih (i + 1) m acc h1 (by omega) (by omega) (q2 rfl)
      | true =>
        obtain ⟨y, h2, e4, q3, q4⟩ := Out.wp_get (q1 rfl)
        simp only [e4, q3]
        rw [if_pos (by have := (hI i acc h hi).2; omega)]
        exact ih (i + 1) m _ _ (by omega) (by omega) q4
  exact go n 0 m [] h (by omega) hm h0
theorem w_true {P : Bool → Hm → Prop} (q : P true h) : (xTrue σ h).wp P E := q
/-- a def -/
theorem w_mk {n : Nat} {ws : List W} {f : XS} (w : (f (ws.map some ++ List.replicate (n - ws.length) none) h).wp (fun _ h1 => V .non h1) V (fun _ _ => False) (fun _ _ => False) (fun x _ h1 => E x h1)) : (mkF n f ws h).wp V E := by
  unfold mkF
  cases e : f (ws.map some ++ List.replicate (n - ws.length) none) h with
  | nx s h1 => rw [e] at w; exact w
  | rt s h1 => rw [e] at w; exact w
  | bk s h1 => rw [e] at w; exact w
  | ct s h1 => rw [e] at w; exact w
  | err x s h1 => rw [e] at w; exact w
  | bad => rw [e] at w; exact w
end
end Z

/-! Y1: rules of the operations; decisions -/
namespace Z
open PySem PySem.Spec PyProof.Rows L2
section
variable {h : Hm} {V : W → Hm → Prop} {E : Exn → Hm → Prop} {i j : Int} {x y : Str} {a b : W}
theorem o_addI (q : V (.int (i + j)) h) : (ofO (addW (.int i) (.int j) h)).wp V E := q
theorem o_subI (q : V (.int (i - j)) h) : (ofO (subW (.int i) (.int j) h)).wp V E := q
theorem o_mulI (m : mulOk i j = true) (q : V (.int (i * j)) h) : (ofO (mulW (.int i) (.int j) h)).wp V E := by
  refine w_ofO (p := mulW (.int i) (.int j) h) ?_ q
  unfold mulW
  dsimp only
  rw [if_pos m]
theorem mulOk_small (hi : -(2 ^ 64) < i ∧ i < 2 ^ 64) : mulOk i j = true := by
  unfold mulOk
  rw [decide_eq_true hi]
  rfl
theorem mulOk_smallR (hi : -(2 ^ 64) < j ∧ j < 2 ^ 64) : mulOk i j = true := by
  unfold mulOk
  rw [decide_eq_true hi, Bool.or_true]
  rfl
theorem o_mulS (hi : -(2 ^ 64) < i ∧ i < 2 ^ 64) (q : V (.int (i * j)) h) : (ofO (mulW (.int i) (.int j) h)).wp V E := o_mulI (mulOk_small hi) q
theorem o_mulSR (hi : -(2 ^ 64) < j ∧ j < 2 ^ 64) (q : V (.int (i * j)) h) : (ofO (mulW (.int i) (.int j) h)).wp V E := o_mulI (mulOk_smallR hi) q
theorem o_fdivI (m : 0 < j ∧ j.natAbs.log2 < 9000) (q : V (.int (i / j)) h) : (ofO (fdivW (.int i) (.int j) h)).wp V E := by
  refine w_ofO (p := fdivW (.int i) (.int j) h) ?_ q
  unfold fdivW
  dsimp only
  rw [if_pos m]
theorem o_modI (m : 0 < j) (q : V (.int (i % j)) h) : (ofO (modW (.int i) (.int j) h)).wp V E := by
  refine w_ofO (p := modW (.int i) (.int j) h) ?_ q
  unfold modW
  dsimp only
  rw [if_pos m]
theorem o_powI (m : 0 ≤ j ∧ j ≤ 1000000 ∧ i.natAbs < 2 ^ 64) (q : V (.int (i ^ j.toNat)) h) : (ofO (powW (.int i) (.int j) h)).wp V E := by
  refine w_ofO (p := powW (.int i) (.int j) h) ?_ q
  unfold powW
  dsimp only
  rw [if_pos m]
theorem o_shlI (m : 0 ≤ j ∧ (Builtin.Int.intBits i : Int) + j ≤ 2 ^ 27) (q : V (.int (i * 2 ^ j.toNat)) h) : (ofO (shlW (.int i) (.int j) h)).wp V E := by
  refine w_ofO (p := shlW (.int i) (.int j) h) ?_ q
  unfold shlW
  dsimp only
  rw [if_pos m]
theorem o_shrI (m : 0 ≤ j) (q : V (.int (i / 2 ^ j.toNat)) h) : (ofO (shrW (.int i) (.int j) h)).wp V E := by
  refine w_ofO (p := shrW (.int i) (.int j) h) ?_ q
  unfold shrW
  dsimp only
  rw [if_pos m]
theorem o_andI (q : V (.int (Builtin.bitAnd i j)) h) : (ofO (andW (.int i) (.int j) h)).wp V E := q
theorem o_orI (q : V (.int (Builtin.bitOr i j)) h) : (ofO (orW (.int i) (.int j) h)).wp V E := q
theorem o_xorI (q : V (.int (Builtin.bitXor i j)) h) : (ofO (xorW (.int i) (.int j) h)).wp V E := q
theorem o_negI (q : V (.int (-i)) h) : (ofO (negW (.int i) h)).wp V E := q
theorem o_ltI (q : V (.bl (decide (i < j))) h) : (ofO (ltW (.int i) (.int j) h)).wp V E := q
theorem o_leI (q : V (.bl (decide (i ≤ j))) h) : (ofO (leW (.int i) (.int j) h)).wp V E := q
theorem o_gtI (q : V (.bl (decide (j < i))) h) : (ofO (gtW (.int i) (.int j) h)).wp V E := q
theorem o_geI (q : V (.bl (decide (j ≤ i))) h) : (ofO (geW (.int i) (.int j) h)).wp V E := q
theorem o_eqI (q : V (.bl (decide (i = j))) h) : (ofO (eqW (.int i) (.int j) h)).wp V E := q
theorem o_neI (q : V (.bl (!decide (i = j))) h) : (ofO (neW (.int i) (.int j) h)).wp V E := q
theorem o_eqS (q : V (.bl (decide (x = y))) h) : (ofO (eqW (.str x) (.str y) h)).wp V E := q
theorem o_neS (q : V (.bl (!decide (x = y))) h) : (ofO (neW (.str x) (.str y) h)).wp V E := q
theorem o_eqB {v w : Bool} (q : V (.bl (decide (v = w))) h) : (ofO (eqW (.bl v) (.bl w) h)).wp V E := q
theorem o_neB {v w : Bool} (q : V (.bl (!decide (v = w))) h) : (ofO (neW (.bl v) (.bl w) h)).wp V E := q
theorem o_isB {v w : Bool} (q : V (.bl (decide (v = w))) h) : (ofO (isW (.bl v) (.bl w) h)).wp V E := q
theorem o_isnB {v w : Bool} (q : V (.bl (!decide (v = w))) h) : (ofO (isnW (.bl v) (.bl w) h)).wp V E := q
theorem o_isN (q : V (.bl (isNonW a)) h) : (ofO (isW a .non h)).wp V E := by cases a <;> exact q
theorem o_isnN (q : V (.bl (!isNonW a)) h) : (ofO (isnW a .non h)).wp V E := by cases a <;> exact q
/-! decisions -/
variable {A B : Prop}
theorem d_T (a : A) : (true = true → A) ∧ (true = false → B) := ⟨fun _ => a, nofun⟩
theorem d_F (b : B) : (false = true → A) ∧ (false = false → B) := ⟨nofun, fun _ => b⟩
theorem d_dec {p : Prop} [Decidable p] (a : p → A) (b : ¬ p → B) : (decide p = true → A) ∧ (decide p = false → B) := ⟨fun q => a (of_decide_eq_true q), fun q => b (of_decide_eq_false q)⟩
theorem d_decT {p : Prop} [Decidable p] (hp : p) (a : A) : (decide p = true → A) ∧ (decide p = false → B) := d_dec (fun _ => a) fun n => (n hp).elim
theorem d_decF {p : Prop} [Decidable p] (hp : ¬ p) (b : B) : (decide p = true → A) ∧ (decide p = false → B) := d_dec (fun n => (hp n).elim) fun _ => b
theorem d_not {c : Bool} (q : (c = true → B) ∧ (c = false → A)) : ((!c) = true → A) ∧ ((!c) = false → B) := by
  cases c with
  | true => exact ⟨nofun, fun _ => q.1 rfl⟩
  | false => exact ⟨fun _ => q.2 rfl, nofun⟩
theorem d_bl {c : Bool} {P : Bool → Prop} (q : P c) : ∃ v, W.bl c = .bl v ∧ P v := ⟨c, rfl, q⟩
theorem d_int {P : Int → Prop} (q : P i) : ∃ v, W.int i = .int v ∧ P v := ⟨i, rfl, q⟩
theorem d_c {c : Bool} (t : c = true → A) (f : c = false → B) : (c = true → A) ∧ (c = false → B) := ⟨t, f⟩
end

theorem d_len {xs : List W} {P : Prop} (e : xs.length ≤ 16777216) (p : P) : xs.length ≤ 16777216 ∧ P := ⟨e, p⟩
/-! which kind of goal -/
theorem is_S {o : SOut} {N B C : Sg → Hm → Prop} {R : W → Hm → Prop} {X : Exn → Sg → Hm → Prop} (w : o.wp N R B C X) : o.wp N R B C X := w
theorem is_O {p : Pr} {V : W → Hm → Prop} {E : Exn → Hm → Prop} (w : (ofO p).wp V E) : (ofO p).wp V E := w
theorem is_E {α : Type} {o : Out α} {V : α → Hm → Prop} {E : Exn → Hm → Prop} (w : o.wp V E) : o.wp V E := w
theorem is_D {c : Bool} {A B : Prop} (w : (c = true → A) ∧ (c = false → B)) : (c = true → A) ∧ (c = false → B) := w

/-! what stays of a heap -/
theorem pre_get {h h' : Hm} {r : Nat} {o : O} (p : h <+: h') (e : h[r]? = some o) : h'[r]? = some o := by
  obtain ⟨t, rfl⟩ := p
  rw [List.getElem?_append_left (List.getElem?_eq_some_iff.mp e).1]
  exact e
theorem lt_of_get' {h : Hm} {r : Nat} {o : O} (e : h[r]? = some o) : r < h.length := (List.getElem?_eq_some_iff.mp e).1
theorem get_new {h : Hm} {o : O} : (h ++ [o])[h.length]? = some o := by simp
theorem get_old {h : Hm} {o u : O} {r : Nat} (e : h[r]? = some o) : (h ++ [u])[r]? = some o := pre_get ⟨_, rfl⟩ e
theorem set_new {h : Hm} {o u : O} : (h ++ [o]).set h.length u = h ++ [u] := by simp
theorem pre_new {h h' : Hm} {u : O} (p : h <+: h') : h <+: h' ++ [u] := p.trans ⟨_, rfl⟩
theorem pre_set {h h' : Hm} {r : Nat} {o : O} (p : h <+: h') (e : h.length ≤ r) : h <+: h'.set r o := by
  obtain ⟨t, rfl⟩ := p
  rw [List.set_append_right _ _ e]
  exact ⟨_, rfl⟩
end Z

/-! Y2: rules of built-ins, lists, loops over ranges and sequences -/
namespace Z
open PySem PySem.Spec PyProof.Rows L2
theorem lt_fuel {n : Nat} (h : n < 1000000000) : n < fuel := h
theorem smallI_ok {i : Int} (h : -(2 ^ 62) ≤ i ∧ i < 2 ^ 62) : smallI i = true := decide_eq_true h
section
variable {h : Hm} {V : W → Hm → Prop} {E : Exn → Hm → Prop} {i j : Int} {x y z : Str} {a b w : W} {xs ys : List W} {r : Nat}
theorem o_lenS (m : z.length ≤ 16777216) (q : V (.int z.length) h) : (ofO (lenW [.str z] h)).wp V E := by
  refine w_ofO (p := lenW [.str z] h) ?_ q
  unfold lenW lenC
  dsimp only
  rw [if_pos m]
  rfl
theorem o_lenT (q : V (.int xs.length) h) : (ofO (lenW [.tup xs] h)).wp V E := q
theorem o_len (e : seqC a h = some xs) (q : V (.int xs.length) h) : (ofO (lenW [a] h)).wp V E := by
  refine w_ofO (p := lenW [a] h) ?_ q
  unfold lenW lenC
  unfold seqC at e
  dsimp only
  split at e
  · cases e
    rfl
  · split at e
    · rename_i e1
      cases e
      simp only [e1]
      rfl
    · rename_i e1
      cases e
      simp only [e1]
      rfl
    · cases e
  · cases e
theorem o_abs (q : V (.int (if i < 0 then -i else i)) h) : (ofO (absW [.int i] h)).wp V E := q
theorem o_int (q : V (.int i) h) : (ofO (intW [.int i] h)).wp V E := q
theorem o_intB {v : Bool} (q : V (.int (if v then 1 else 0)) h) : (ofO (intW [.bl v] h)).wp V E := q
theorem o_ord (m : x.length = 1) (q : V (.int (x.cps.getD 0 0 : Nat)) h) : (ofO (ordW [.str x] h)).wp V E := by
  refine w_ofO (p := ordW [.str x] h) ?_ q
  unfold ordW
  dsimp only
  rw [if_pos m]
theorem o_ord1 {c : Nat} (q : V (.int (c : Nat)) h) : (ofO (ordW [.str ⟨#[c]⟩] h)).wp V E := o_ord rfl q
theorem o_list (e : seqC a h = some ys) (q : V (.ref h.length) (h ++ [.lst ys])) : (ofO (listW [a] h)).wp V E := by
  refine w_ofO (p := listW [a] h) ?_ q
  unfold listW
  dsimp only
  rw [e]
  rfl
theorem o_tuple (e : seqC a h = some ys) (q : V (.tup ys) h) : (ofO (tupleW [a] h)).wp V E := by
  refine w_ofO (p := tupleW [a] h) ?_ q
  unfold tupleW
  dsimp only
  rw [e]
  rfl
theorem o_ix (e : seqC a h = some xs) (e2 : atI xs i = some w) (q : V w h) : (ofO (ixW a (.int i) h)).wp V E := by
  refine w_ofO (p := ixW a (.int i) h) ?_ q
  unfold ixW
  unfold seqC at e
  split at e
  · cases e
    dsimp only
    rw [e2]
    rfl
  · split at e
    · rename_i e1
      cases e
      dsimp only
      simp only [e1, e2]
      rfl
    · rename_i e1
      cases e
      dsimp only
      simp only [e1, e2]
      rfl
    · cases e
  · cases e
theorem o_ixS {c : Nat} (m : z.length ≤ 16777216) (e : atI z.cps.toList i = some c) (q : V (.str ⟨#[c]⟩) h) : (ofO (ixW (.str z) (.int i) h)).wp V E := by
  refine w_ofO (p := ixW (.str z) (.int i) h) ?_ q
  unfold ixW
  dsimp only
  rw [if_pos m, e]
  rfl
theorem atI_nat' {α : Type} {xs : List α} {j : Nat} {w : α} (e : xs[j]? = some w) : atI xs (j : Nat) = some w := atI_nat e
theorem o_app {zs : List W} (e : h[r]? = some (.lst zs)) (m : zs.length < 16777216) (q : V .non (h.set r (.lst (zs ++ [w])))) : (ofO (appW (.ref r) [w] h)).wp V E := by
  refine w_ofO (p := appW (.ref r) [w] h) ?_ q
  unfold appW
  simp only [e]
  rw [if_pos m]
theorem o_appN {zs : List W} (m : zs.length < 16777216) (q : V .non (h ++ [.lst (zs ++ [w])])) : (ofO (appW (.ref h.length) [w] (h ++ [.lst zs]))).wp V E :=
  o_app get_new m (by rw [set_new]; exact q)
theorem o_ext {zs us : List W} {s : Nat} (e : h[r]? = some (.lst zs)) (e2 : h[s]? = some (.lst us)) (m : zs.length + us.length ≤ 16777216) (q : V .non (h.set r (.lst (zs ++ us)))) : (ofO (extW (.ref r) [.ref s] h)).wp V E := by
  refine w_ofO (p := extW (.ref r) [.ref s] h) ?_ q
  unfold extW
  simp only [e, e2]
  rw [if_pos m]
theorem o_rev {zs : List W} (e : seqC (.ref r) h = some zs) (q : V (.ref h.length) (h ++ [.lst zs.reverse])) : (ofO (revW [.ref r] h)).wp V E := by
  refine w_ofO (p := revW [.ref r] h) ?_ q
  unfold revW
  unfold seqC at e
  dsimp only at e ⊢
  split at e
  · rename_i e1
    cases e
    simp only [e1]
  · rename_i e1
    cases e
    simp only [e1]
  · cases e
theorem o_addL {zs us : List W} {s : Nat} (e : h[r]? = some (.lst zs)) (e2 : h[s]? = some (.lst us)) (m : zs.length + us.length ≤ 16777216) (q : V (.ref h.length) (h ++ [.lst (zs ++ us)])) : (ofO (addW (.ref r) (.ref s) h)).wp V E := by
  refine w_ofO (p := addW (.ref r) (.ref s) h) ?_ q
  unfold addW
  simp only [e, e2]
  rw [if_pos m]
theorem o_addT {zs us : List W} (m : zs.length + us.length ≤ 16777216) (q : V (.tup (zs ++ us)) h) : (ofO (addW (.tup zs) (.tup us) h)).wp V E := by
  refine w_ofO (p := addW (.tup zs) (.tup us) h) ?_ q
  unfold addW
  dsimp only
  rw [if_pos m]
theorem o_mulStr (m : -(2 ^ 63) ≤ i ∧ i ≤ 16777216 ∧ x.length * i.toNat ≤ 16777216) (q : V (.str (Txt.mul x i)) h) : (ofO (mulW (.str x) (.int i) h)).wp V E := by
  refine w_ofO (p := mulW (.str x) (.int i) h) ?_ q
  unfold mulW
  dsimp only
  rw [if_pos m]
theorem o_in {v : Bool} (e : inC a b h = some v) (q : V (.bl v) h) : (ofO (inW a b h)).wp V E := by
  refine w_ofO (p := inW a b h) ?_ q
  unfold inW
  rw [e]
  rfl
theorem o_nin {v : Bool} (e : inC a b h = some v) (q : V (.bl (!v)) h) : (ofO (ninW a b h)).wp V E := by
  refine w_ofO (p := ninW a b h) ?_ q
  unfold ninW
  rw [e]
  rfl
theorem o_eq {v : Bool} (e : eqB a b h = some v) (q : V (.bl v) h) : (ofO (eqW a b h)).wp V E := by
  refine w_ofO (p := eqW a b h) ?_ q
  unfold eqW
  rw [e]
  rfl
theorem o_ne {v : Bool} (e : eqB a b h = some v) (q : V (.bl (!v)) h) : (ofO (neW a b h)).wp V E := by
  refine w_ofO (p := neW a b h) ?_ q
  unfold neW
  rw [e]
  rfl
theorem o_leS (q : V (.bl (!decide (y.cps.toList < x.cps.toList))) h) : (ofO (leW (.str x) (.str y) h)).wp V E := q
theorem seqC_at (e : h[r]? = some (.lst xs)) : seqC (.ref r) h = some xs := by
  unfold seqC
  simp only [e]
theorem seqC_frz (e : h[r]? = some (.frz xs)) : seqC (.ref r) h = some xs := by
  unfold seqC
  simp only [e]
theorem seqC_new : seqC (.ref h.length) (h ++ [.lst xs]) = some xs := seqC_at get_new
theorem seqC_pre {h' : Hm} (p : h <+: h') (e : seqC a h = some xs) : seqC a h' = some xs := by
  cases a with
  | tup ys => exact e
  | ref r =>
    unfold seqC at e ⊢
    dsimp only at e ⊢
    split at e
    · rename_i e1
      rw [pre_get p e1]
      exact e
    · rename_i e1
      rw [pre_get p e1]
      exact e
    · cases e
  | _ => cases e
theorem isL_at' (e : h[r]? = some (.lst xs)) : isL (.ref r) h = true := by
  unfold isL
  simp only [e]
theorem isL_new : isL (.ref h.length) (h ++ [.lst xs]) = true := isL_at' get_new
end

/-! loops -/
section
variable {σ : Sg} {h : Hm} {N B C : Sg → Hm → Prop} {R : W → Hm → Prop} {X : Exn → Sg → Hm → Prop} {f : XS} {g : XG} {n m : Nat}
theorem w_rng {lo : Int} (I : Nat → Sg → Hm → Prop) (hm : n < m) (h0 : I 0 σ h) (step : ∀ i σ h, i < n → I i σ h → ∃ s, g (.int (lo + (i : Nat))) σ h = some s ∧ (f s h).wp (I (i + 1)) R N (I (i + 1)) X)
    (fin : ∀ σ h, I n σ h → N σ h) : (sForL (itRng lo 1 n) g f m 0 σ h).wp N R B C X :=
  w_loop I hm h0 (fun i σ h hi hI => by
    obtain ⟨s, e, q⟩ := step i σ h hi hI
    refine ⟨_, s, ?_, e, q⟩
    unfold itRng
    rw [if_pos hi, Int.mul_one]) fun σ h hI => ⟨by
    unfold itRng
    rw [if_neg (Nat.lt_irrefl _)], fin σ h hI⟩
theorem w_rng0 (I : Nat → Sg → Hm → Prop) (hm : n < m) (h0 : I 0 σ h) (step : ∀ i σ h, i < n → I i σ h → ∃ s, g (.int (i : Nat)) σ h = some s ∧ (f s h).wp (I (i + 1)) R N (I (i + 1)) X)
    (fin : ∀ σ h, I n σ h → N σ h) : (sForL (itRng 0 1 n) g f m 0 σ h).wp N R B C X :=
  w_rng I hm h0 (fun i σ h hi hI => by
    rw [Int.zero_add]
    exact step i σ h hi hI) fin
/-- over the items of a list or tuple -/
theorem w_items {a : W} {xs : List W} (I : Nat → Sg → Hm → Prop) (hm : xs.length < m) (h0 : I 0 σ h) (hs : ∀ i σ h, I i σ h → seqC a h = some xs)
    (step : ∀ i σ h (w : W), xs[i]? = some w → I i σ h → ∃ s, g w σ h = some s ∧ (f s h).wp (I (i + 1)) R N (I (i + 1)) X)
    (fin : ∀ σ h, I xs.length σ h → N σ h) : (sForL (itSeq a) g f m 0 σ h).wp N R B C X :=
  w_loop I hm h0 (fun i σ h hi hI => by
    obtain ⟨s, e, q⟩ := step i σ h xs[i] (List.getElem?_eq_getElem hi) hI
    refine ⟨_, s, ?_, e, q⟩
    unfold itSeq
    rw [hs i σ h hI, Option.map_some, List.getElem?_eq_getElem hi]) fun σ h hI => ⟨by
    unfold itSeq
    rw [hs _ σ h hI, Option.map_some, List.getElem?_eq_none (Nat.le_refl _)], fin σ h hI⟩
theorem w_chars {z : Str} (I : Nat → Sg → Hm → Prop) (hm : z.length < m) (h0 : I 0 σ h)
    (step : ∀ i σ h (c : Nat), z.cps[i]? = some c → I i σ h → ∃ s, g (.str ⟨#[c]⟩) σ h = some s ∧ (f s h).wp (I (i + 1)) R N (I (i + 1)) X)
    (fin : ∀ σ h, I z.length σ h → N σ h) : (sForL (itStr z) g f m 0 σ h).wp N R B C X :=
  w_loop (n := z.length) I hm h0 (fun i σ h hi hI => by
    have e1 : z.cps[i]? = some z.cps[i] := Array.getElem?_eq_getElem hi
    obtain ⟨s, e, q⟩ := step i σ h z.cps[i] e1 hI
    refine ⟨_, s, ?_, e, q⟩
    unfold itStr
    rw [e1]
    rfl) fun σ h hI => ⟨by
    unfold itStr
    rw [show z.cps[z.length]? = none from Array.getElem?_eq_none (Nat.le_refl _)]
    rfl, fin σ h hI⟩
/-- the state between two statements, as one wishes -/
theorem w_seqM {g' : XS} (M : Sg → Hm → Prop) (w : (f σ h).wp M R B C X) (q : ∀ s h1, M s h1 → (g' s h1).wp N R B C X) : (sSeq f g' σ h).wp N R B C X :=
  w_seq (SOut.wp_imp w q (fun _ _ q => q) (fun _ _ q => q) (fun _ _ q => q) fun _ _ _ q => q)
end
end Z

/-! Y3: moderate numbers; fields, methods, making; tuples by place -/
namespace Z
open PySem PySem.Spec PyProof.Rows L2
section
variable {h : Hm} {V : W → Hm → Prop} {E : Exn → Hm → Prop}
/-- numbers of moderate size -/
def Md (i : Int) : Prop := -(2 ^ 4000) < i ∧ i < 2 ^ 4000
theorem bits_of {i : Int} (m : Md i) : Builtin.Int.intBits i ≤ 4000 := by
  unfold Builtin.Int.intBits
  split
  · exact Nat.zero_le _
  · rename_i hz
    have hn : i.natAbs < 2 ^ 4000 := by
      obtain ⟨a, b⟩ := m
      have c : ((2 ^ 4000 : Nat) : Int) = (2 : Int) ^ 4000 := by rw [Int.natCast_pow]; rfl
      omega
    have hz' : i.natAbs ≠ 0 := fun q => hz (by simpa using q)
    exact (Nat.log2_lt hz').mpr hn
theorem o_mulM {i j : Int} (mi : Md i) (mj : Md j) (q : V (.int (i * j)) h) : (ofO (mulW (.int i) (.int j) h)).wp V E := o_mulI (by
  unfold mulOk
  have a := bits_of mi
  have b := bits_of mj
  rw [decide_eq_true (p := (Builtin.Int.intBits i : Int) + (Builtin.Int.intBits j : Int) ≤ 134217728) (by omega), Bool.or_true]) q
theorem log2_of {j : Int} (m : Md j) (h0 : 0 < j) : 0 < j ∧ j.natAbs.log2 < 9000 := ⟨h0, by
  have a := bits_of m
  unfold Builtin.Int.intBits at a
  rw [if_neg (by simpa using (by omega : j ≠ 0))] at a
  omega⟩
theorem o_fdivM {i j : Int} (mj : Md j) (h0 : 0 < j) (q : V (.int (i / j)) h) : (ofO (fdivW (.int i) (.int j) h)).wp V E := o_fdivI (log2_of mj h0) q
theorem Md.small {i m : Int} (h0 : 0 ≤ i) (h1 : i ≤ m) (hm : Md m) : Md i := ⟨by have := hm.1; omega, by have := hm.2; omega⟩
theorem Md.ab {i m : Int} (h0 : -m ≤ i) (h1 : i ≤ m) (hm : Md m) : Md i := ⟨by have := hm.2; omega, by have := hm.2; omega⟩
theorem o_ixT {xs : List W} {i : Int} {w : W} (e : atI xs i = some w) (q : V w h) : (ofO (ixW (.tup xs) (.int i) h)).wp V E := o_ix rfl e q
theorem o_min {i j : Int} (q : V (.int (if j < i then j else i)) h) : (ofO (minW [.int i, .int j] h)).wp V E := q
theorem o_max {i j : Int} (q : V (.int (if j > i then j else i)) h) : (ofO (maxW [.int i, .int j] h)).wp V E := q
variable {σ : Sg} {a o e : XE} {r : XA} {T : List Nat} {f m : Str} {MT : List (Nat × FnT)} {N B C : Sg → Hm → Prop} {R : W → Hm → Prop} {X : Exn → Sg → Hm → Prop}
theorem w_Fld (w : (a σ h).wp (fun x h1 => ∃ v, fldW T f x h1 = some v ∧ V v h1) E) : (xFld T f a σ h).wp V E :=
  w_bind (Out.wp_imp w (fun x h1 q => by
    obtain ⟨v, e1, q1⟩ := q
    rw [e1]
    exact q1) fun _ _ q => q)
theorem w_Met (w : (o σ h).wp (fun x h1 => ∃ F, metW MT m x h1 = some F ∧ (r σ h1).wp (fun xs h2 => (F (x :: xs) h2).wp V E) E) E) : (xMet MT m o r σ h).wp V E :=
  w_bind (Out.wp_imp w (fun x h1 q => by
    obtain ⟨F, e1, q1⟩ := q
    rw [e1]
    exact w_bind q1) fun _ _ q => q)
theorem w_Make {c : Nat} {F : FnT} (w : (r σ h).wp (fun xs h1 => (F (.ref h1.length :: xs) (h1 ++ [.ins c []])).wp (fun v h2 => v = .non ∧ V (.ref h1.length) h2) E) E) : (xMake c F r σ h).wp V E :=
  w_bind (Out.wp_imp w (fun xs h1 q => w_bind (Out.wp_imp q (fun v h2 q => by
    obtain ⟨rfl, q1⟩ := q
    exact q1) fun _ _ q => q)) fun _ _ q => q)
theorem w_fldset (w : (e σ h).wp (fun v h1 => (o σ h1).wp (fun x h2 => ∃ h3, setF T f x v h2 = some h3 ∧ N σ h3) (fun x h1 => X x σ h1)) (fun x h1 => X x σ h1)) : (sFldSet T f o e σ h).wp N R B C X :=
  w_sOf (Out.wp_imp w (fun v h1 q => w_sOf (Out.wp_imp q (fun x h2 q => by
    obtain ⟨h3, e1, q1⟩ := q
    rw [e1]
    exact q1) fun _ _ q => q)) fun _ _ q => q)
theorem w_never (q : False) : (sNever σ h).wp N R B C X := q
/-! objects -/
theorem insW_at {r : Nat} {c : Nat} {fs : List (Str × W)} (e : h[r]? = some (.ins c fs)) : insW (.ref r) h = some (c, fs) := by
  unfold insW
  simp only [e]
theorem fldW_at {r : Nat} {c : Nat} {fs : List (Str × W)} {v : W} (e : h[r]? = some (.ins c fs)) (hT : T.contains c = true) (l : fs.lookup f = some v) : fldW T f (.ref r) h = some v := by
  unfold fldW
  rw [insW_at e]
  show (if T.contains c = true then fs.lookup f else none) = _
  rw [if_pos hT, l]
theorem metW_at {r : Nat} {c : Nat} {fs : List (Str × W)} {F : FnT} (e : h[r]? = some (.ins c fs)) (l : fs.lookup m = none) (hF : MT.lookup c = some F) : metW MT m (.ref r) h = some F := by
  unfold metW
  rw [insW_at e]
  show (if (fs.lookup m).isNone = true then MT.lookup c else none) = _
  rw [l, hF]
  rfl
theorem setF_at {r : Nat} {c : Nat} {fs : List (Str × W)} {v : W} (e : h[r]? = some (.ins c fs)) (hT : T.contains c = true) (hl : fs.length < 1000) : setF T f (.ref r) v h = some (h.set r (.ins c (putW f v fs))) := by
  unfold setF
  simp only [e]
  rw [hT, decide_eq_true hl]
  rfl
end
end Z

/-! Y4: numbers by their bits; fields read -/
namespace Z
open PySem PySem.Spec PyProof.Rows L2
def Bd (k : Nat) (i : Int) : Prop := i.natAbs < 2 ^ k
section
variable {h : Hm} {V : W → Hm → Prop} {E : Exn → Hm → Prop} {i j : Int} {k l : Nat}
theorem Bd.mono (b : Bd k i) (e : k ≤ l) : Bd l i := Nat.lt_of_lt_of_le b (Nat.pow_le_pow_right (by decide) e)
theorem Bd.mul (b : Bd k i) (c : Bd l j) : Bd (k + l) (i * j) := by
  unfold Bd at *
  rw [Int.natAbs_mul, Nat.pow_add]
  exact Nat.mul_lt_mul'' b c
theorem Bd.neg (b : Bd k i) : Bd k (-i) := by
  unfold Bd at *
  rwa [Int.natAbs_neg]
theorem Bd.add (b : Bd k i) (c : Bd l j) : Bd (k + l + 1) (i + j) := by
  have b' := b.mono (Nat.le_add_right k l)
  have c' := c.mono (Nat.le_add_left l k)
  unfold Bd at *
  have := Int.natAbs_add_le i j
  rw [Nat.pow_succ]
  omega
theorem Bd.sub (b : Bd k i) (c : Bd l j) : Bd (k + l + 1) (i - j) := by
  rw [Int.sub_eq_add_neg]
  exact b.add c.neg
theorem Bd.of_lt {x p : Int} (h0 : 0 ≤ x) (h1 : x < p) (b : Bd k p) : Bd k x := by
  unfold Bd at *
  omega
theorem Bd.mod {x p : Int} (hp : 0 < p) (b : Bd k p) : Bd k (x % p) := Bd.of_lt (Int.emod_nonneg _ (by omega)) (Int.emod_lt_of_pos _ hp) b
theorem Bd.bits (b : Bd k i) : Builtin.Int.intBits i ≤ k := by
  unfold Builtin.Int.intBits
  split
  · exact Nat.zero_le _
  · rename_i hz
    have hz' : i.natAbs ≠ 0 := fun q => hz (by simpa using q)
    exact (Nat.log2_lt hz').mpr b
theorem o_mulB (bi : Bd k i) (bj : Bd l j) (e : k + l ≤ 134217728) (q : V (.int (i * j)) h) : (ofO (mulW (.int i) (.int j) h)).wp V E := o_mulI (by
  unfold mulOk
  have a := bi.bits
  have b := bj.bits
  rw [decide_eq_true (p := (Builtin.Int.intBits i : Int) + (Builtin.Int.intBits j : Int) ≤ 134217728) (by omega), Bool.or_true]) q
theorem Bd.md (b : Bd k i) (e : k ≤ 4000) : Md i := by
  have c := b.mono e
  unfold Bd at c
  have d : ((2 ^ 4000 : Nat) : Int) = (2 : Int) ^ 4000 := by rw [Int.natCast_pow]; rfl
  exact ⟨by omega, by omega⟩
theorem bd_lit (e : i.natAbs < 2 ^ 64) : Bd 64 i := e
theorem bd_num (n : Nat) (e : n < 18446744073709551616) : Bd 64 (OfNat.ofNat n : Int) := by
  unfold Bd
  show n < 2 ^ 64
  omega
theorem ixN_ok {n : Nat} {i : Int} (h0 : 0 ≤ i) (h1 : i < n) : ixN n i = some i.toNat := by
  unfold ixN
  rw [if_pos h0, if_pos h1]
theorem setW_ok {r : Nat} {xs : List W} {i : Int} {v : W} (e : h[r]? = some (.lst xs)) (h0 : 0 ≤ i) (h1 : i < xs.length) : setW (.ref r) (.int i) v h = some (h.set r (.lst (xs.set i.toNat v))) := by
  unfold setW
  simp only [e, ixN_ok h0 h1]
  rfl
/-- a field that is read -/
theorem d_fld {T : List Nat} {f : Str} {r c : Nat} {fs : List (Str × W)} {v : W} {P : W → Prop} (e : h[r]? = some (.ins c fs)) (hT : T.contains c = true) (l : fs.lookup f = some v) (q : P v) : ∃ v, fldW T f (.ref r) h = some v ∧ P v := ⟨v, fldW_at e hT l, q⟩
theorem d_met {MT : List (Nat × FnT)} {m : Str} {r c : Nat} {fs : List (Str × W)} {F : FnT} {P : FnT → Prop} (e : h[r]? = some (.ins c fs)) (l : fs.lookup m = none) (hF : MT.lookup c = some F) (q : P F) : ∃ F, metW MT m (.ref r) h = some F ∧ P F := ⟨F, metW_at e l hF, q⟩
end
end Z

/-! Y5: raise, try, dicts of the module, isqrt, steps of three; bits -/
namespace Z
open PySem PySem.Spec PyProof.Rows L2
section
variable {σ : Sg} {h : Hm} {V : W → Hm → Prop} {E : Exn → Hm → Prop} {N B C : Sg → Hm → Prop} {R : W → Hm → Prop} {X : Exn → Sg → Hm → Prop} {a : XE} {r : XA} {f : XS}
theorem w_raise {i : Nat} (q : X ⟨i, none⟩ σ h) : (sRaise i σ h).wp N R B C X := q
theorem w_try {hs : List Hd} (w : (f σ h).wp N R B C (fun x σ1 h1 => (sHand hs x σ1 h1).wp N R B C X)) : (sTry f hs σ h).wp N R B C X := by
  unfold sTry
  cases e : f σ h with
  | err x σ1 h1 => rw [e] at w; exact w
  | nx s h1 => rw [e] at w; exact w
  | rt s h1 => rw [e] at w; exact w
  | bk s h1 => rw [e] at w; exact w
  | ct s h1 => rw [e] at w; exact w
  | bad => rw [e] at w; exact w
theorem w_hand {m : List (Nat × Bool)} {s : XS} {hs : List Hd} {x : Exn} (e : m.lookup x.c = some true) (w : (s σ h).wp N R B C (fun _ _ _ => False)) : (sHand ((m, s) :: hs) x σ h).wp N R B C X := by
  unfold sHand
  rw [e]
  show (shut (s σ h)).wp N R B C X
  cases e2 : s σ h with
  | err x s h1 => rw [e2] at w; exact w.elim
  | nx s h1 => rw [e2] at w; exact w
  | rt s h1 => rw [e2] at w; exact w
  | bk s h1 => rw [e2] at w; exact w
  | ct s h1 => rw [e2] at w; exact w
  | bad => rw [e2] at w; exact w
theorem w_handN {m : List (Nat × Bool)} {s : XS} {hs : List Hd} {x : Exn} (e : m.lookup x.c = some false) (w : (sHand hs x σ h).wp N R B C X) : (sHand ((m, s) :: hs) x σ h).wp N R B C X := by
  rw [sHand]
  rw [e]
  exact w
theorem w_hand0 {x : Exn} (w : X x σ h) : (sHand [] x σ h).wp N R B C X := w
/-- try .. except X as n -/
theorem w_tryAs {i : Nat} {m : List (Nat × Bool)} {s : Nat → XS} (w : (f σ h).wp N R B C (fun x σ1 h1 => (m.lookup x.c = some false ∧ X x σ1 h1) ∨ (m.lookup x.c = some true ∧ x.d = none ∧ i < σ1.length ∧ (s x.c (σ1.set i none) h1).wp (fun σ2 h2 => N (σ2.set i none) h2) R (fun σ2 h2 => B (σ2.set i none) h2) (fun σ2 h2 => C (σ2.set i none) h2) (fun _ _ _ => False)))) :
    (sTryAs f i m s σ h).wp N R B C X := by
  unfold sTryAs
  cases e : f σ h with
  | err x σ1 h1 =>
    rw [e] at w
    show (match m.lookup x.c with
      | some true => match x.d with
        | none => if i < σ1.length then offS i (s x.c (σ1.set i none) h1) else .bad
        | some _ => .bad
      | some false => .err x σ1 h1
      | none => SOut.bad).wp N R B C X
    rcases w with ⟨e1, w⟩ | ⟨e1, e2, e3, w⟩
    · rw [e1]
      exact w
    · rw [e1, e2]
      show (if i < σ1.length then offS i (s x.c (σ1.set i none) h1) else .bad).wp N R B C X
      rw [if_pos e3]
      cases e4 : s x.c (σ1.set i none) h1 with
      | err x s h1 => rw [e4] at w; exact w.elim
      | nx s h1 => rw [e4] at w; exact w
      | rt s h1 => rw [e4] at w; exact w
      | bk s h1 => rw [e4] at w; exact w
      | ct s h1 => rw [e4] at w; exact w
      | bad => rw [e4] at w; exact w
  | nx s h1 => rw [e] at w; exact w
  | rt s h1 => rw [e] at w; exact w
  | bk s h1 => rw [e] at w; exact w
  | ct s h1 => rw [e] at w; exact w
  | bad => rw [e] at w; exact w
theorem w_KGet {es : List (DK × Cn)} (w : (a σ h).wp (fun x h1 => ∃ v, kGet es x = some v ∧ V v.w h1) E) : (xKGet es a σ h).wp V E :=
  w_bind (Out.wp_imp w (fun x h1 q => by
    obtain ⟨v, e1, q1⟩ := q
    simp only [e1]
    exact q1) fun _ _ q => q)
theorem w_KIn {es : List (DK × Cn)} {neg : Bool} (w : (a σ h).wp (fun x h1 => ∃ b, kIn es x = some b ∧ V (.bl (if neg then !b else b)) h1) E) : (xKIn es neg a σ h).wp V E :=
  w_bind (Out.wp_imp w (fun x h1 q => by
    obtain ⟨v, e1, q1⟩ := q
    simp only [e1]
    exact q1) fun _ _ q => q)
theorem o_isq {i : Int} (m : 0 ≤ i ∧ i.toNat.log2 ≤ 13000) (q : V (.int ((Float64.isqrt i.toNat : Nat) : Int)) h) : (ofO (isqW [.int i] h)).wp V E := by
  show (ofO (if 0 ≤ i ∧ i.toNat.log2 ≤ 13000 then some (W.int ((Float64.isqrt i.toNat : Nat) : Int), h) else none)).wp V E
  rw [if_pos m]
  exact q
theorem w_iRng3 {P : Itr → Hm → Prop} (w : (r σ h).wp (fun xs h1 => ∃ i j k, xs = [.int i, .int j, .int k] ∧ (k ≠ 0 ∧ k.natAbs < 1073741824 ∧ Builtin.Range.small i j k = true ∧ 0 ≤ Builtin.Range.rangeSize i j k) ∧ P (itRng i k (Builtin.Range.rangeSize i j k).toNat) h1) E) : (iRng3 r σ h).wp P E :=
  w_bind (Out.wp_imp w (fun xs h1 q => by
    obtain ⟨i, j, k, rfl, c, q1⟩ := q
    dsimp only
    rw [if_pos c]
    exact q1) fun _ _ q => q)
end
theorem bitAnd_range {x m : Int} (hm : 0 ≤ m) : 0 ≤ Builtin.bitAnd x m ∧ Builtin.bitAnd x m ≤ m := by
  unfold Builtin.bitAnd
  rw [decide_eq_true hm]
  by_cases hx : 0 ≤ x
  · rw [decide_eq_true hx]
    have := Nat.and_le_right (n := x.toNat) (m := m.toNat)
    show 0 ≤ ((x.toNat &&& m.toNat : Nat) : Int) ∧ ((x.toNat &&& m.toNat : Nat) : Int) ≤ m
    omega
  · rw [decide_eq_false hx]
    have := Nat.and_le_left (n := m.toNat) (m := (Builtin.bitNot x).toNat)
    show 0 ≤ m - ((m.toNat &&& (Builtin.bitNot x).toNat : Nat) : Int) ∧ m - ((m.toNat &&& (Builtin.bitNot x).toNat : Nat) : Int) ≤ m
    omega
end Z

/-! Y6: lists of numbers compared; fields added to; what stays of a heap but one object -/
namespace Z
open PySem PySem.Spec PyProof.Rows L2
theorem den_int {h : Hm} {n : Nat} : ∀ {l : List Int}, (l.map W.int).mapM (den h n) = some (l.map PyData.int)
  | [] => rfl
  | x :: l => by
    rw [List.map_cons, List.mapM_cons, den_int, List.map_cons]
    have : den h n (.int x) = some (.int x) := by cases n <;> rfl
    rw [this]
    rfl
theorem eqv_ints : ∀ {l m : List Int}, PyData.eqvAll (l.map PyData.int) (m.map PyData.int) = decide (l = m)
  | [], [] => rfl
  | [], _ :: _ => rfl
  | _ :: _, [] => rfl
  | x :: l, y :: m => by
    show (x == y && PyData.eqvAll _ _) = _
    rw [eqv_ints]
    by_cases e : x = y
    · subst e
      by_cases e2 : l = m
      · subst e2; simp
      · simp [e2]
    · simp [e]
theorem den_lst {h : Hm} {r : Nat} {l : List Int} (e : h[r]? = some (.lst (l.map W.int))) (n : Nat) : den h (n + 1) (.ref r) = some (.list (l.map PyData.int)) := by
  unfold den
  simp only [e, den_int]
  rfl
theorem can_ints : ∀ {l : List Int}, PyData.canLayAll0 (l.map PyData.int) = true ∧ PyData.depthAll (l.map PyData.int) = 0
  | [] => ⟨rfl, rfl⟩
  | x :: l => by
    obtain ⟨a, b⟩ := @can_ints l
    refine ⟨?_, ?_⟩
    · show (true && PyData.canLayAll0 _) = true
      rw [a]
      rfl
    · show max 0 (PyData.depthAll _) = 0
      rw [b]
      rfl
theorem shaped_li {l : List Int} : SeqAt.shaped (.list (l.map PyData.int)) = true := by
  obtain ⟨a, b⟩ := @can_ints l
  show (PyData.canLayAll0 _ && decide (PyData.depthAll _ + 1 ≤ 64)) = true
  rw [a, b]
  rfl
theorem can_LL : ∀ {l : List (List Int)}, PyData.canLayAll0 (l.map fun l => PyData.list (l.map PyData.int)) = true ∧ PyData.depthAll (l.map fun l => PyData.list (l.map PyData.int)) ≤ 1
  | [] => ⟨rfl, Nat.zero_le _⟩
  | x :: l => by
    obtain ⟨a, b⟩ := @can_LL l
    obtain ⟨c, d⟩ := @can_ints x
    refine ⟨?_, ?_⟩
    · show (PyData.canLayAll0 _ && PyData.canLayAll0 _) = true
      rw [a, c]
      rfl
    · show max (PyData.depthAll _ + 1) (PyData.depthAll _) ≤ 1
      rw [d]
      omega
theorem shaped_LL {l : List (List Int)} : SeqAt.shaped (.list (l.map fun l => PyData.list (l.map PyData.int))) = true := by
  obtain ⟨a, b⟩ := @can_LL l
  show (PyData.canLayAll0 _ && decide (PyData.depthAll _ + 1 ≤ 64)) = true
  rw [a, decide_eq_true (by omega)]
  rfl
theorem eqB_li {h : Hm} {r s : Nat} {l m : List Int} (e1 : h[r]? = some (.lst (l.map W.int))) (e2 : h[s]? = some (.lst (m.map W.int))) : eqB (.ref r) (.ref s) h = some (decide (l = m)) := by
  unfold eqB
  rw [if_neg (show ¬ scalW (.ref r) (.ref s) = true from Bool.false_ne_true), den_lst e1 11, den_lst e2 11]
  show (if SeqAt.shaped _ && SeqAt.shaped _ then some (PyData.eqvAll _ _) else none) = _
  rw [shaped_li, shaped_li, eqv_ints]
  rfl
/-- lists of lists -/
def LL (h : Hm) : List Nat → List (List Int) → Prop
  | [], [] => True
  | r :: rs, l :: ls => h[r]? = some (.lst (l.map W.int)) ∧ LL h rs ls
  | _, _ => False
theorem LL.len {h : Hm} : ∀ {rs : List Nat} {ls : List (List Int)}, LL h rs ls → rs.length = ls.length
  | [], [], _ => rfl
  | _ :: _, _ :: _, a => by rw [List.length_cons, List.length_cons, LL.len a.2]
  | [], _ :: _, a => a.elim
  | _ :: _, [], a => a.elim
theorem LL.get {h : Hm} : ∀ {rs : List Nat} {ls : List (List Int)} {i : Nat} {l : List Int}, LL h rs ls → ls[i]? = some l → ∃ r, rs[i]? = some r ∧ h[r]? = some (.lst (l.map W.int))
  | [], [], i, l, _, e => by simp at e
  | r :: rs, x :: ls, 0, l, a, e => by
    cases e
    exact ⟨r, rfl, a.1⟩
  | r :: rs, x :: ls, i + 1, l, a, e => by
    obtain ⟨r', e1, e2⟩ := LL.get a.2 (by simpa using e : ls[i]? = some l)
    exact ⟨r', by simpa using e1, e2⟩
  | [], _ :: _, _, _, a, _ => a.elim
  | _ :: _, [], _, _, a, _ => a.elim
theorem LL.mono {h h' : Hm} (k : ∀ (i : Nat) (xs : List W), h[i]? = some (.lst xs) → h'[i]? = some (.lst xs)) : ∀ {rs : List Nat} {ls : List (List Int)}, LL h rs ls → LL h' rs ls
  | [], [], _ => trivial
  | r :: rs, x :: ls, a => ⟨k _ _ a.1, LL.mono k a.2⟩
  | [], _ :: _, a => a.elim
  | _ :: _, [], a => a.elim
theorem LL.app {h : Hm} {r : Nat} {l : List Int} (e : h[r]? = some (.lst (l.map W.int))) : ∀ {rs : List Nat} {ls : List (List Int)}, LL h rs ls → LL h (rs ++ [r]) (ls ++ [l])
  | [], [], _ => ⟨e, trivial⟩
  | _ :: _, _ :: _, a => ⟨a.1, LL.app e a.2⟩
  | [], _ :: _, a => a.elim
  | _ :: _, [], a => a.elim
theorem den_LL {h : Hm} {n : Nat} : ∀ {rs : List Nat} {ls : List (List Int)}, LL h rs ls → (rs.map W.ref).mapM (den h (n + 1)) = some (ls.map fun l => PyData.list (l.map PyData.int))
  | [], [], _ => rfl
  | r :: rs, l :: ls, a => by
    rw [List.map_cons, List.mapM_cons, den_lst a.1, den_LL a.2]
    rfl
  | [], _ :: _, a => a.elim
  | _ :: _, [], a => a.elim
theorem eqv_LL : ∀ {l m : List (List Int)}, PyData.eqvAll (l.map fun l => PyData.list (l.map PyData.int)) (m.map fun l => PyData.list (l.map PyData.int)) = decide (l = m)
  | [], [] => rfl
  | [], _ :: _ => rfl
  | _ :: _, [] => rfl
  | x :: l, y :: m => by
    show (PyData.eqvAll _ _ && PyData.eqvAll _ _) = _
    rw [eqv_LL, eqv_ints]
    by_cases e : x = y
    · subst e
      by_cases e2 : l = m
      · subst e2; simp
      · simp [e2]
    · simp [e]
theorem eqB_LL {h : Hm} {r s : Nat} {rs ss : List Nat} {l m : List (List Int)} (e1 : h[r]? = some (.lst (rs.map W.ref))) (e2 : h[s]? = some (.lst (ss.map W.ref))) (a : LL h rs l) (b : LL h ss m) : eqB (.ref r) (.ref s) h = some (decide (l = m)) := by
  unfold eqB
  have d : ∀ {r : Nat} {rs : List Nat} {l : List (List Int)}, h[r]? = some (.lst (rs.map W.ref)) → LL h rs l → den h 12 (.ref r) = some (.list (l.map fun l => PyData.list (l.map PyData.int))) := fun {r rs l} e a => by
    unfold den
    simp only [e]
    rw [den_LL a]
    rfl
  rw [if_neg (show ¬ scalW (.ref r) (.ref s) = true from Bool.false_ne_true), d e1 a, d e2 b]
  show (if SeqAt.shaped _ && SeqAt.shaped _ then some (PyData.eqvAll _ _) else none) = _
  rw [shaped_LL, shaped_LL, eqv_LL]
  rfl
/-- what stays but one object -/
structure Ext (r : Nat) (h h' : Hm) : Prop where
  len : h.length ≤ h'.length
  get : ∀ i, i < h.length → i ≠ r → h'[i]? = h[i]?
section
variable {σ : Sg} {h h' h2 : Hm} {V : W → Hm → Prop} {E : Exn → Hm → Prop} {N B C : Sg → Hm → Prop} {R : W → Hm → Prop} {X : Exn → Sg → Hm → Prop} {r : Nat}
theorem Ext.refl : Ext r h h := ⟨Nat.le_refl _, fun _ _ _ => rfl⟩
theorem Ext.trans (a : Ext r h h') (b : Ext r h' h2) : Ext r h h2 := ⟨Nat.le_trans a.len b.len, fun i hi ne => (b.get i (Nat.lt_of_lt_of_le hi a.len) ne).trans (a.get i hi ne)⟩
theorem Ext.pre (p : h <+: h') : Ext r h h' := ⟨p.length_le, fun i hi _ => by
  obtain ⟨t, rfl⟩ := p
  exact List.getElem?_append_left hi⟩
theorem Ext.set {o : O} : Ext r h (h.set r o) := ⟨by rw [List.length_set]; exact Nat.le_refl _, fun i _ ne => List.getElem?_set_ne (Ne.symm ne)⟩
theorem Ext.at {i : Nat} {o : O} (a : Ext r h h') (e : h[i]? = some o) (ne : i ≠ r) : h'[i]? = some o := (a.get i (lt_of_get' e) ne).trans e
theorem Ext.lst {i c : Nat} {xs : List W} {fs : List (Str × W)} (a : Ext r h h') (e : h[i]? = some (.lst xs)) (er : h[r]? = some (.ins c fs)) : h'[i]? = some (.lst xs) := a.at e fun z => by
  subst z
  rw [e] at er
  cases er
theorem w_fldaug {T : List Nat} {f : Str} {g : W → W → Hm → Pr} {o e : XE} (w : (o σ h).wp (fun x h1 => ∃ v, fldW T f x h1 = some v ∧ (e σ h1).wp (fun y h2 => ∃ z h3, g v y h2 = some (z, h3) ∧ ∃ h4, setF [clsW x h1] f x z h3 = some h4 ∧ N σ h4) (fun x h1 => X x σ h1)) (fun x h1 => X x σ h1)) : (sFldAug T f g o e σ h).wp N R B C X :=
  w_sOf (Out.wp_imp w (fun x h1 q => by
    obtain ⟨v, e1, q⟩ := q
    simp only [e1]
    refine w_sOf (Out.wp_imp q (fun y h2 q => ?_) fun _ _ q => q)
    obtain ⟨z, h3, e2, h4, e3, q⟩ := q
    rw [e2]
    show (match setF [clsW x h1] f x z h3 with
      | some h4 => SOut.nx σ h4
      | none => .bad).wp N R B C X
    rw [e3]
    exact q) fun _ _ q => q)
theorem o_mulL {xs : List W} {i : Int} (e : h[r]? = some (.lst xs)) (m : -(2 ^ 63) ≤ i ∧ i < 2 ^ 63 ∧ xs.length * i.toNat ≤ 16777216) (q : V (.ref h.length) (h ++ [.lst (List.replicate i.toNat xs).flatten])) : (ofO (mulW (.ref r) (.int i) h)).wp V E := by
  unfold mulW
  simp only [e]
  rw [if_pos m]
  exact q
end
end Z

/-! Q0: heads with a pause: what stays in a run -/
namespace ZH
open PySem PySem.W PyProof.Rows
theorem runs_life {M : Model} {Γ : Ctx} {p : Pos} {t : Sem Fin} {fs : List Frame} {s s' : Shared} {e : End} (h : Runs M Γ p t fs s e s') : s'.heap.life = s.heap.life := by
  induction h with
  | update a b ih => exact ih
  | alloc b ih => exact ih.trans (Heap.life_push _ _)
  | call a b ih1 ih2 => exact ih2.trans ih1
  | resumeFresh a b c d ih1 ih2 => exact ih2.trans ih1
  | resumeSuspended a b c d ih1 ih2 => exact ih2.trans ih1
  | segRet a b ih1 ih2 => exact ih2.trans ih1
  | segGen a b ih1 ih2 => exact ih2.trans ih1
  | segSuspGen a b c d ih1 ih2 => exact ih2.trans ih1
  | _ => first | rfl | assumption
open Sem in
theorem wp_life {M : Model} {Γ : Ctx} {α : Type} (l : Life) : ∀ (t : Sem α) (Q : α → Pos → Shared → Prop) (E : Value → Pos → Shared → Prop) (p : Pos) (s : Shared), s.heap.life = l → wp M Γ t Q E p s → wp M Γ t (fun a p' s' => Q a p' s' ∧ s'.heap.life = l) E p s := by
  intro t
  induction t with
  | pure a => intro Q E p s hl h; exact ⟨h, hl⟩
  | raise e => intro Q E p s hl h; exact h
  | unsupported => intro Q E p s hl h; exact h
  | finish => intro Q E p s hl h; exact h
  | rule t k ih => intro Q E p s hl h; exact ih _ Q E p s hl h
  | «at» q k ih => intro Q E p s hl h; exact ih _ Q E q s hl h
  | load a q k ih => intro Q E p s hl h; obtain ⟨o, e, h⟩ := h; exact ⟨o, e, ih _ Q E p s hl h⟩
  | update a q f k ih => intro Q E p s hl h; exact ⟨h.1, ih _ Q E p _ hl h.2⟩
  | alloc o k ih => intro Q E p s hl h; exact ih _ Q E p _ ((Heap.life_push _ _).trans hl) h
  | loadIfAlive a k ih => intro Q E p s hl h; exact ih _ Q E p s hl h
  | point l k ih => intro Q E p s hl h; exact ih _ Q E p s hl h
  | register a k => intro Q E p s hl h; exact h
  | fresh k ih => intro Q E p s hl h; exact ih _ Q E p _ hl h
  | ask k ih => intro Q E p s hl h; exact ih _ Q E p s hl h
  | choose src n k ih => intro Q E p s hl h; exact ⟨h.1, ih _ Q E p _ hl h.2⟩
  | os q l k ih => intro Q E p s hl h; exact ih _ Q E p _ hl h
  | call c h' g l k ih =>
    intro Q E p s hl h
    obtain ⟨r, s', a, b⟩ := h
    exact ⟨r, s', a, ih _ Q E p s' ((runs_life a).trans hl) b⟩
  | handled own k ih => intro Q E p s hl h; exact ih _ Q E p s hl h
  | newGen c k ih => intro Q E p s hl h; exact ih _ Q E p _ hl h
  | genState g k ih => intro Q E p s hl h; obtain ⟨st, e, h⟩ := h; exact ⟨st, e, ih _ Q E p s hl h⟩
  | resume g r l k ih =>
    intro Q E p s hl h
    obtain ⟨res, s', a, b⟩ := h
    refine ⟨res, s', a, ih _ Q E p s' ?_ b⟩
    unfold Wakes at a
    split at a
    · exact a.elim
    · split at a
      · obtain ⟨e1, s1, h1, _, _, rfl⟩ := a
        exact (runs_life h1).trans hl
      · rw [a.2]; exact hl
      · rw [a.2]; exact hl
    · obtain ⟨e1, s1, h1, _, _, rfl⟩ := a
      exact (runs_life h1).trans hl
    · rw [a.2]; exact hl
    · rw [a.2]; exact hl
  | yield => intro Q E p s hl h; exact h
  | stack k ih => intro Q E p s hl h; exact ih _ Q E p s hl h
  | fork => intro Q E p s hl h; exact h
  | thread k ih => intro Q E p s hl h; exact ih _ Q E p s hl h
  | await => intro Q E p s hl h; exact h
end ZH

/-! Q1: the machine over a tree, with the frames above a base -/
noncomputable section
namespace ZH
open PySem PySem.W PyProof.Rows HandSHeadRun
structure KS where
  s : SharedT
  cur : Sem Fin
  code : Code
  pos : Pos
  pre : List Frame
def KS.th (x : KS) (base : List Frame) : Thread := ⟨x.cur, x.code, x.pos, x.pre ++ base⟩
/-- a step that keeps the frames -/
def kRest (st : SharedT → Thread → Option (SharedT × Thread)) (base : List Frame) (s : SharedT) (cur : Sem Fin) (code : Code) (pos : Pos) (pre : List Frame) : Option KS :=
  match st s ⟨cur, code, pos, pre ++ base⟩ with
  | some (s', t') => some ⟨s', t'.cur, t'.code, t'.pos, pre⟩
  | none => none
def kStep (st : SharedT → Thread → Option (SharedT × Thread)) (den : Code → Sem Fin) (base : List Frame) : KS → Option KS
  | ⟨s, cur, code, pos, pre⟩ => match Thread.loud ⟨cur, code, pos, pre ++ base⟩ with
    | true => none
    | false => match cur with
      | .pure (.done f) => (match pre with
        | .ret k _ _ _ c p _ :: r => some ⟨s, k (.ok f), c, p, r⟩
        | _ => none)
      | .raise e => (match pre with
        | .ret k _ _ _ c p _ :: r => some ⟨s, k (.error e), c, p, r⟩
        | _ => none)
      | .pure (.again c) => some ⟨s, den c, c, pos, pre⟩
      | .call c h g l k => some ⟨s, den c, c, pos, .ret k h g l code pos [] :: pre⟩
      | .rule t k => some ⟨s, k (), code, pos, pre⟩
      | .at p k => some ⟨s, k (), code, p, pre⟩
      | .point _ k => some ⟨s, k (), code, pos, pre⟩
      | .load a q k => kRest st base s (.load a q k) code pos pre
      | .update a q f k => kRest st base s (.update a q f k) code pos pre
      | .alloc o k => kRest st base s (.alloc o k) code pos pre
      | .loadIfAlive a k => kRest st base s (.loadIfAlive a k) code pos pre
      | .fresh k => kRest st base s (.fresh k) code pos pre
      | .ask k => kRest st base s (.ask k) code pos pre
      | .handled o k => kRest st base s (.handled o k) code pos pre
      | .genState g k => kRest st base s (.genState g k) code pos pre
      | .newGen g k => kRest st base s (.newGen g k) code pos pre
      | .stack k => kRest st base s (.stack k) code pos pre
      | .thread k => kRest st base s (.thread k) code pos pre
      | _ => none
section
variable {p : Program} {w : World} {base : List Frame}
theorem kRest_ok {s : SharedT} {cur : Sem Fin} {code : Code} {pos : Pos} {pre : List Frame} {y : KS} (h : kRest (stepT (denote table) p w) base s cur code pos pre = some y)
    (hk : ∀ s' t', step (denote table) p w s.abs ⟨cur, code, pos, pre ++ base⟩ = .go s' t' → t'.stack = pre ++ base) (hK : ∀ s : Shared, ∀ st : List Frame, stepK (denote table) p w s ⟨cur, code, pos, st⟩ = step (denote table) p w s ⟨cur, code, pos, st⟩) :
    stepK (denote table) p w s.abs ⟨cur, code, pos, pre ++ base⟩ = .go y.s.abs (y.th base) := by
  unfold kRest at h
  cases e : stepT (denote table) p w s ⟨cur, code, pos, pre ++ base⟩ with
  | none => rw [e] at h; cases h
  | some r =>
    obtain ⟨s', t'⟩ := r
    rw [e] at h
    cases h
    have q := stepT_spec e
    have q2 := hk _ _ q
    rw [hK, q]
    unfold KS.th
    obtain ⟨a, b, c, d⟩ := t'
    dsimp only at q2 ⊢
    rw [← q2]
theorem kStep_ok {x y : KS} (h : kStep (stepT (denote table) p w) (denote table) base x = some y) : (model p w).step x.s.abs (x.th base) = .go y.s.abs (y.th base) := by
  obtain ⟨s, cur, code, pos, pre⟩ := x
  unfold kStep at h
  dsimp only at h
  have hl : Thread.loud ⟨cur, code, pos, pre ++ base⟩ = false := by
    cases e : Thread.loud ⟨cur, code, pos, pre ++ base⟩ with
    | true => rw [e] at h; cases h
    | false => rfl
  rw [hl] at h
  refine (Model.step_quiet (M := model p w) hl).trans ?_
  show stepK (denote table) p w s.abs ⟨cur, code, pos, pre ++ base⟩ = _
  have rest : ∀ {cu : Sem Fin}, kRest (stepT (denote table) p w) base s cu code pos pre = some y → (∀ s' t', step (denote table) p w s.abs ⟨cu, code, pos, pre ++ base⟩ = .go s' t' → t'.stack = pre ++ base) → (∀ s : Shared, ∀ st : List Frame, stepK (denote table) p w s ⟨cu, code, pos, st⟩ = step (denote table) p w s ⟨cu, code, pos, st⟩) → stepK (denote table) p w s.abs ⟨cu, code, pos, pre ++ base⟩ = .go y.s.abs (y.th base) := fun a b c => kRest_ok a b c
  cases cur with
  | pure f =>
    cases f with
    | done f =>
      cases pre with
      | nil => cases h
      | cons fr r =>
        cases fr with
        | ret k a b c d e g => cases h; rfl
        | gen => cases h
    | again c => cases h; rfl
  | raise e =>
    cases pre with
    | nil => cases h
    | cons fr r =>
      cases fr with
      | ret k a b c d e g => cases h; rfl
      | gen => cases h
  | call c hh g l k => cases h; rfl
  | rule t k => cases h; rfl
  | «at» q k => cases h; rfl
  | point l k => cases h; rfl
  | load a q k =>
    refine rest h (fun s' t' e => ?_) fun _ _ => rfl
    simp only [step] at e
    split at e <;> cases e
    rfl
  | update a q f k =>
    refine rest h (fun s' t' e => ?_) fun _ _ => rfl
    simp only [step] at e
    split at e <;> cases e
    rfl
  | alloc o k => exact rest h (fun s' t' e => by simp only [step] at e; cases e; rfl) fun _ _ => rfl
  | loadIfAlive a k => exact rest h (fun s' t' e => by simp only [step] at e; cases e; rfl) fun _ _ => rfl
  | fresh k => exact rest h (fun s' t' e => by simp only [step] at e; cases e; rfl) fun _ _ => rfl
  | ask k => exact rest h (fun s' t' e => by simp only [step] at e; cases e; rfl) fun _ _ => rfl
  | handled o k => exact rest h (fun s' t' e => by simp only [step] at e; cases e; rfl) fun _ _ => rfl
  | genState g k =>
    refine rest h (fun s' t' e => ?_) fun _ _ => rfl
    simp only [step] at e
    split at e <;> cases e
    rfl
  | newGen c k => exact rest h (fun s' t' e => by simp only [step] at e; cases e; rfl) fun _ _ => rfl
  | stack k => exact rest h (fun s' t' e => by simp only [step] at e; cases e; rfl) fun _ _ => rfl
  | thread k => exact rest h (fun s' t' e => by simp only [step] at e; cases e; rfl) fun _ _ => rfl
  | _ => cases h
/-- the tokens' number is not looked at -/
def frX (x : KS) (k : KS → α) : α := match x with
  | ⟨⟨T, n, life, gens, drawn, toks, os⟩, a, b, c, d⟩ => frNat n fun n => k ⟨⟨T, n, life, gens, drawn, toks, os⟩, a, b, c, d⟩
theorem frX_eq {α : Type} (x : KS) (k : KS → α) : frX x k = k x := by
  obtain ⟨⟨T, n, life, gens, drawn, toks, os⟩, a, b, c, d⟩ := x
  exact frNat_eq n fun n => k ⟨⟨T, n, life, gens, drawn, toks, os⟩, a, b, c, d⟩
/-- until a position's line, one frame deep -/
def atLine (L : Nat) (x : KS) : Bool := match x.cur with
  | .at q _ => Nat.beq q.line L && (match x.pre with
    | [_] => true
    | _ => false)
  | _ => false
def okU (n0 : Nat) (ann : Option Value) (x : KS) : Bool := match x.cur with
  | .update a _ _ _ => Nat.ble n0 a || (a == mainNs || (a == cStatics || ann == some (.ref a)))
  | _ => true
def kUntil (st : SharedT → Thread → Option (SharedT × Thread)) (den : Code → Sem Fin) (base : List Frame) (stop ok : KS → Bool) : Nat → KS → Option KS
  | 0, _ => none
  | n + 1, x => match stop x with
    | true => some x
    | false => match ok x with
      | true => (match kStep st den base x with
        | some y => frX y fun y => kUntil st den base stop ok n y
        | none => none)
      | false => none
def isEnd (x : KS) : Bool := match x.cur with
  | .pure (.done .next) => (match x.pre with
    | [] => true
    | _ => false)
  | _ => false
theorem kUntil_one {stop ok : KS → Bool} {st : SharedT → Thread → Option (SharedT × Thread)} {den : Code → Sem Fin} {n : Nat} {x y : KS} (h : kUntil st den base stop ok (n + 1) x = some y) : (stop x = true ∧ x = y) ∨ (ok x = true ∧ ∃ z, kStep st den base x = some z ∧ kUntil st den base stop ok n z = some y) := by
  unfold kUntil at h
  cases q : stop x with
  | true =>
    rw [q] at h
    cases h
    exact .inl ⟨rfl, rfl⟩
  | false =>
    rw [q] at h
    cases o : ok x with
    | false => rw [o] at h; cases h
    | true =>
      rw [o] at h
      cases k : kStep st den base x with
      | none => rw [k] at h; cases h
      | some z =>
        rw [k] at h
        dsimp only at h
        rw [frX_eq] at h
        exact .inr ⟨rfl, z, rfl, h⟩
theorem kUntil_ok {stop ok : KS → Bool} : ∀ {n : Nat} {x y : KS} {s' : Shared} {e : End}, kUntil (stepT (denote table) p w) (denote table) base stop ok n x = some y → Reach (model p w) base y.s.abs y.cur y.code y.pos y.pre s' e → Reach (model p w) base x.s.abs x.cur x.code x.pos x.pre s' e
  | 0, x, y, s', e, h, _ => by cases h
  | n + 1, x, y, s', e, h, r => by
    rcases kUntil_one h with ⟨_, rfl⟩ | ⟨_, z, k, h⟩
    · exact r
    · exact .step (kStep_ok k) (kUntil_ok h r)
theorem kUntil_stop {stop ok : KS → Bool} {st : SharedT → Thread → Option (SharedT × Thread)} {den : Code → Sem Fin} : ∀ {n : Nat} {x y : KS}, kUntil st den base stop ok n x = some y → stop y = true
  | 0, x, y, h => by cases h
  | n + 1, x, y, h => by
    rcases kUntil_one h with ⟨q, rfl⟩ | ⟨_, z, k, h⟩
    · exact q
    · exact kUntil_stop h
/-- what is old stays -/
def Old (n0 : Nat) (ann : Option Value) (s s' : Shared) : Prop := s'.os = s.os ∧ s'.heap.life = s.heap.life ∧ ∀ b o, b < n0 → b ≠ mainNs → b ≠ cStatics → ann ≠ some (.ref b) → s.heap.get? b = some o → s'.heap.get? b = some o
theorem Old.refl {n0 : Nat} {ann : Option Value} {s : Shared} : Old n0 ann s s := ⟨rfl, rfl, fun _ _ _ _ _ _ h => h⟩
theorem Old.trans {n0 : Nat} {ann : Option Value} {s s' s2 : Shared} (a : Old n0 ann s s') (b : Old n0 ann s' s2) : Old n0 ann s s2 := ⟨b.1.trans a.1, b.2.1.trans a.2.1, fun x o h1 h2 h3 h4 h => b.2.2 x o h1 h2 h3 h4 (a.2.2 x o h1 h2 h3 h4 h)⟩
theorem step_old {n0 : Nat} {ann : Option Value} {s s' : Shared} {t t' : Thread} (h : step (denote table) p w s t = .go s' t') (ho : (match t.cur with
  | .update a _ _ _ => Nat.ble n0 a || (a == mainNs || (a == cStatics || ann == some (.ref a)))
  | _ => true) = true) (hn : (match t.cur with
  | .os .. => false
  | _ => true) = true) : Old n0 ann s s' := by
  refine ⟨step_os_same h hn, step_life _ _ _ _ _ _ _ h, fun b o h1 h2 h3 h4 h5 => ?_⟩
  rw [step_heap (denote table) p w s s' t t' h]
  revert ho
  cases t.cur <;> intro ho <;> try exact h5
  case update a q f k =>
    refine (Heap.get?_update_ne _ _ _ _ ?_).trans h5
    rintro rfl
    simp only [Bool.or_eq_true, Nat.ble_eq, beq_iff_eq] at ho
    rcases ho with z | z | z | z
    · omega
    · exact h2 z
    · exact h3 z
    · exact h4 z
  case alloc x k => exact Heap.get?_push_of_some x h5
theorem kStep_old {n0 : Nat} {ann : Option Value} {x y : KS} (h : kStep (stepT (denote table) p w) (denote table) base x = some y) (ho : okU n0 ann x = true) : Old n0 ann x.s.abs y.s.abs := by
  obtain ⟨s, cur, code, pos, pre⟩ := x
  unfold kStep at h
  dsimp only at h
  split at h
  · cases h
  · have rest : ∀ {cu : Sem Fin}, kRest (stepT (denote table) p w) base s cu code pos pre = some y → (match cu with
      | .update a _ _ _ => Nat.ble n0 a || (a == mainNs || (a == cStatics || ann == some (.ref a)))
      | _ => true) = true → (match cu with
      | .os .. => false
      | _ => true) = true → Old n0 ann s.abs y.s.abs := fun {cu} hr a b => by
      unfold kRest at hr
      cases e : stepT (denote table) p w s ⟨cu, code, pos, pre ++ base⟩ with
      | none => rw [e] at hr; cases hr
      | some r =>
        obtain ⟨s', t'⟩ := r
        rw [e] at hr
        cases hr
        exact step_old (stepT_spec e) a b
    cases cur with
    | pure f =>
      cases f with
      | done f =>
        cases pre with
        | nil => cases h
        | cons fr r =>
          cases fr with
          | ret k a b c d e g => cases h; exact Old.refl
          | gen => cases h
      | again c => cases h; exact Old.refl
    | raise e =>
      cases pre with
      | nil => cases h
      | cons fr r =>
        cases fr with
        | ret k a b c d e g => cases h; exact Old.refl
        | gen => cases h
    | call c hh g l k => cases h; exact Old.refl
    | rule t k => cases h; exact Old.refl
    | «at» q k => cases h; exact Old.refl
    | point l k => cases h; exact Old.refl
    | update a q f k => exact rest h ho rfl
    | load a q k => exact rest h rfl rfl
    | alloc o k => exact rest h rfl rfl
    | loadIfAlive a k => exact rest h rfl rfl
    | fresh k => exact rest h rfl rfl
    | ask k => exact rest h rfl rfl
    | handled o k => exact rest h rfl rfl
    | genState g k => exact rest h rfl rfl
    | newGen c k => exact rest h rfl rfl
    | stack k => exact rest h rfl rfl
    | thread k => exact rest h rfl rfl
    | _ => cases h
theorem kUntil_old {n0 : Nat} {ann : Option Value} {stop : KS → Bool} : ∀ {n : Nat} {x y : KS}, kUntil (stepT (denote table) p w) (denote table) base stop (okU n0 ann) n x = some y → Old n0 ann x.s.abs y.s.abs
  | 0, x, y, h => by cases h
  | n + 1, x, y, h => by
    rcases kUntil_one h with ⟨_, rfl⟩ | ⟨o, z, k, h⟩
    · exact Old.refl
    · exact (kStep_old k o).trans (kUntil_old h)
theorem isEnd_exit {y : KS} (h : isEnd y = true) : Reach (model p w) base y.s.abs y.cur y.code y.pos y.pre y.s.abs (.ret (.ok .next)) := by
  obtain ⟨s, cur, code, pos, pre⟩ := y
  unfold isEnd at h
  dsimp only at h
  split at h
  · split at h
    · exact .exit ⟨rfl, rfl⟩
    · cases h
  · cases h
end
end ZH

/-! Q2: the top's run, with a piece walked by rules -/
noncomputable section
namespace ZH
open PySem PySem.W PyProof.Rows HandSHeadRun PySem.Calls
section
variable {den : Code → Sem Fin} {p : Program} {w : World}
theorem sched_of_run : ∀ (n : Nat) (s : Shared) (t : Thread) (s' : Shared) (t' : Thread), runN den p w n s t = .running s' t' → (∀ k s1 t1, runN den p w k s t = .running s1 t1 → t1.calm = true) → s.asleep → schedN den p w n (.single s t) = .running (.single s' t')
  | 0, s, t, s', t', h, _, _ => by
    cases h
    rfl
  | n + 1, s, t, s', t', h, hc, hz => by
    have h1 : (match step den p w s t with
      | .go s2 t2 => runN den p w n s2 t2
      | .halt o s2 => .halted o s2) = .running s' t' := h
    cases e : step den p w s t with
    | halt o s2 => rw [e] at h1; cases h1
    | go s2 t2 =>
      rw [e] at h1
      have q : sstep den p w (.single s t) = .go (.single s2 t2) := by
        rcases sstep_single den p w s t (hc 0 s t rfl) hz with q | q
        · rw [q, e]; rfl
        · rw [e] at q; cases q
      have r := sched_of_run n s2 t2 s' t' h1 (fun k s1 t1 hk => hc (k + 1) s1 t1 (by
        show (match step den p w s t with
          | .go s2 t2 => runN den p w k s2 t2
          | .halt o s2 => .halted o s2) = _
        rw [e]
        exact hk)) (Shared.asleep_of_life (step_life den p w s s2 t t2 e) hz)
      simp only [schedN, q]
      exact r
theorem last_of_halt : ∀ (n : Nat) (s : Shared) (t : Thread) (o : Outcome) (s' : Shared), runN den p w n s t = .halted o s' → ∃ m s2 t2, runN den p w m s t = .running s2 t2 ∧ step den p w s2 t2 = .halt o s'
  | 0, s, t, o, s', h => by cases h
  | n + 1, s, t, o, s', h => by
    have h1 : (match step den p w s t with
      | .go s2 t2 => runN den p w n s2 t2
      | .halt o s2 => .halted o s2) = .halted o s' := h
    cases e : step den p w s t with
    | halt o2 s2 =>
      rw [e] at h1
      cases h1
      exact ⟨0, s, t, rfl, e⟩
    | go s2 t2 =>
      rw [e] at h1
      obtain ⟨m, s3, t3, a, b⟩ := last_of_halt n s2 t2 o s' h1
      refine ⟨m + 1, s3, t3, ?_, b⟩
      show (match step den p w s t with
        | .go s2 t2 => runN den p w m s2 t2
        | .halt o s2 => .halted o s2) = _
      rw [e]
      exact a
theorem through_of {s s' : Shared} {t : Thread} {f : Flow} (h : step den p w s t = .halt (.done f) s') : through t = true ∧ s' = s := by
  obtain ⟨heap, gens, drawn, toks, os⟩ := s
  obtain ⟨cur, code, pos, stack⟩ := t
  cases cur with
  | pure g =>
    cases g with
    | done g =>
      cases stack with
      | nil =>
        simp only [step, finish] at h
        split at h
        · cases h
        · cases h
          exact ⟨rfl, rfl⟩
      | cons fr r => cases fr <;> (simp only [step] at h; cases h)
    | again c => simp only [step] at h; cases h
  | raise e =>
    cases stack with
    | nil =>
      simp only [step, finish] at h
      split at h <;> cases h
    | cons fr r => cases fr <;> (simp only [step] at h; cases h)
  | _ => simp only [step, finish] at h <;> (repeat' split at h) <;> cases h
end
section
variable {p : Program} {w : World}
/-- from a run of the model's to the scheduler's -/
theorem sched_of_reach {s s1 : Shared} {f : Flow} (h : Reach (model p w) [] s (topStub p).cur (topStub p).code (topStub p).pos [] s1 (.ret (.ok f))) (hg : s1.gens = #[]) (hz : s.asleep) :
    (∃ n t, schedN (denote table) p w n (.single s (topStub p)) = .running (.single s1 t) ∧ through t = true) ∧ s1.heap.life = s.heap.life := by
  have r := reach_runs h
  have hl : leftWithCleanup s1.gens = false := by rw [hg]; simp [leftWithCleanup]
  obtain ⟨n, hn⟩ := halts_iff.mpr ⟨r, hl⟩
  obtain ⟨s2, hr, hf, hc⟩ := runNI_real _ _ _ hn (show (outcomeOf (.ok f)).ends = true from rfl)
  obtain rfl : s2 = s1 := Shared.eq_of_forget_eq hf hg
  obtain ⟨m, s3, t3, a, b⟩ := last_of_halt _ _ _ _ _ hr
  obtain ⟨c1, rfl⟩ := through_of b
  exact ⟨⟨m, t3, sched_of_run _ _ _ _ _ a hc hz, c1⟩, runN_life _ _ _ hr⟩
/-- the whole top: a run to a frame's thread, a walk there, the end -/
theorem top_reach {s : Shared} {sA s1 : Shared} {X : Sem Fin} {c : Code} {pA q : Pos}
    (A : ∀ s' e, Reach (model p w) [] sA X c pA [topFrame q] s' e → Reach (model p w) [] s (topStub p).cur (topStub p).code (topStub p).pos [] s' e)
    (B : Reach (model p w) [topFrame q] sA X c pA [] s1 (.ret (.ok .next))) : Reach (model p w) [] s (topStub p).cur (topStub p).code (topStub p).pos [] s1 (.ret (.ok (.ret .none))) := by
  refine A _ _ ?_
  have r := reach_runs B
  have e : Ctx.of c [topFrame q] = (Ctx.of c []).over [topFrame q] := Ctx.of_append c [topFrame q] []
  rw [e] at r
  refine runs_reach (Γ := Ctx.of c []) ?_ [] (Ctx.fits_of c [])
  exact .segRet r (show Runs (model p w) ((Ctx.of c []).goto (.builtin "claim.caller" {})) q (.pure (.done (.ret .none))) [] s1 (.ret (.ok (.ret .none))) s1 from .done)
end
end ZH

/-! Q3: a dict display with tuple keys, walked by rules; the heap behind it -/
noncomputable section
namespace ZH
open PySem PySem.W PyProof.Rows HandSHeadRun PySem.Calls PySem.Spec
/-- what asks nobody -/
def ev (p : Program) (w : World) {α : Type} : Nat → Sem α → SharedT → Option (α × SharedT)
  | 0, _, _ => none
  | n + 1, t, s => match t with
    | .pure a => some (a, s)
    | .rule _ k => ev p w n (k ()) s
    | .at _ k => ev p w n (k ()) s
    | .point _ k => ev p w n (k ()) s
    | .ask k => ev p w n (k ⟨p, w.params⟩) s
    | .load a _ k => (match getT s a with
      | some o => ev p w n (k o) s
      | none => none)
    | .alloc o k => (match s with
      | ⟨T, m, life, gens, drawn, toks, os⟩ => (match ((T.ins m o).get m).isSome with
        | true => ev p w n (k m) ⟨T.ins m o, m + 1, life, gens, drawn, toks, os⟩
        | false => none))
    | .fresh k => (match s with
      | ⟨T, m, life, gens, drawn, toks, os⟩ => ev p w n (k toks) ⟨T, m, life, gens, drawn, toks + 1, os⟩)
    | _ => none
section
variable {p : Program} {w : World} {α : Type} {n0 : Nat} {ann : Option Value}
open Sem in
theorem ev_ok : ∀ {n : Nat} {t : Sem α} {s s' : SharedT} {a : α}, ev p w n t s = some (a, s') → (∀ (A : Around) (Q : α → Shared → Prop) (E : Value → Shared → Prop), Q a s'.abs → wpAny (model p w) A t Q E s.abs) ∧ Old n0 ann s.abs s'.abs ∧ s.n ≤ s'.n
  | 0, t, s, s', a, h => by cases h
  | n + 1, t, s, s', a, h => by
    cases t with
    | pure x =>
      cases h
      exact ⟨fun A Q E q => wpAny_pure q, Old.refl, Nat.le_refl _⟩
    | rule t k =>
      obtain ⟨b, c, d⟩ := ev_ok (t := k ()) (show ev p w n (k ()) s = some (a, s') from h)
      exact ⟨fun A Q E q => fun Γ q2 hi => b A Q E q Γ q2 hi, c, d⟩
    | «at» r k =>
      obtain ⟨b, c, d⟩ := ev_ok (t := k ()) (show ev p w n (k ()) s = some (a, s') from h)
      exact ⟨fun A Q E q => fun Γ q2 hi => b A Q E q Γ r hi, c, d⟩
    | point r k =>
      obtain ⟨b, c, d⟩ := ev_ok (t := k ()) (show ev p w n (k ()) s = some (a, s') from h)
      exact ⟨fun A Q E q => fun Γ q2 hi => b A Q E q Γ q2 hi, c, d⟩
    | ask k =>
      obtain ⟨b, c, d⟩ := ev_ok (t := k ⟨p, w.params⟩) (show ev p w n (k ⟨p, w.params⟩) s = some (a, s') from h)
      exact ⟨fun A Q E q => fun Γ q2 hi => b A Q E q Γ q2 hi, c, d⟩
    | load x r k =>
      have h1 : (match getT s x with
        | some o => ev p w n (k o) s
        | none => none) = some (a, s') := h
      cases e : getT s x with
      | none => rw [e] at h1; cases h1
      | some o =>
        rw [e] at h1
        obtain ⟨b, c, d⟩ := ev_ok (t := k o) h1
        exact ⟨fun A Q E q => fun Γ q2 hi => ⟨o, (getT_eq s x).symm.trans e, b A Q E q Γ q2 hi⟩, c, d⟩
    | alloc o k =>
      obtain ⟨T, m, life, gens, drawn, toks, os⟩ := s
      have h1 : (match ((T.ins m o).get m).isSome with
        | true => ev p w n (k m) ⟨T.ins m o, m + 1, life, gens, drawn, toks, os⟩
        | false => none) = some (a, s') := h
      cases e : ((T.ins m o).get m).isSome with
      | false => rw [e] at h1; cases h1
      | true =>
        rw [e] at h1
        obtain ⟨b, c, d⟩ := ev_ok (t := k m) h1
        have es : (SharedT.mk (T.ins m o) (m + 1) life gens drawn toks os).abs = ⟨(absHeap T m life).push o, gens, drawn, toks, os⟩ := by
          show (⟨absHeap (T.ins m o) (m + 1) life, gens, drawn, toks, os⟩ : Shared) = _
          rw [absHeap_ins e]
        rw [es] at b c
        refine ⟨fun A Q E q => fun Γ q2 hi => ?_, Old.trans ?_ c, Nat.le_of_succ_le d⟩
        · show wp _ Γ (k (absHeap T m life).objs.size) _ _ q2 _
          rw [absHeap_size]
          exact b A Q E q Γ q2 hi
        · exact ⟨rfl, Heap.life_push _ _, fun b o h1 h2 h3 h4 h5 => Heap.get?_push_of_some _ h5⟩
    | fresh k =>
      obtain ⟨T, m, life, gens, drawn, toks, os⟩ := s
      obtain ⟨b, c, d⟩ := ev_ok (t := k toks) (show ev p w n (k toks) ⟨T, m, life, gens, drawn, toks + 1, os⟩ = some (a, s') from h)
      exact ⟨fun A Q E q => fun Γ q2 hi => b A Q E q Γ q2 hi, ⟨c.1, c.2.1, c.2.2⟩, d⟩
    | _ => cases h
end
/-! ### the dict -/
/-- keys: texts in tuples -/
abbrev TK : Type := List Str × Addr × Value
def keyT (x : TK) : List L2.Key × Addr × Value := (x.1.map Sum.inr, x.2)
def thash (w : World) (ks : List Str) : Int := PySem.tupleKeyHash (L2.mixKind default w) (ks.map Sum.inr)
def entT (w : World) (x : TK) : DictEntry := ⟨thash w x.1, .ref x.2.1, x.2.2⟩
def dictO (w : World) (ps : List TK) (ep : Nat) : Obj := ⟨.type "dict", none, .dict (ps.map (entT w)).toArray ep, #[]⟩
def strsB : List Str → List Value → Bool
  | [], [] => true
  | x :: xs, .str y _ :: r => decide (x = y) && strsB xs r
  | _, _ => false
def keyB (s : SharedT) (x : TK) : Bool := match getT s x.2.1 with
  | some ⟨.type c, _, .seq its _, _⟩ => decide (c = "tuple") && strsB x.1 its.toList
  | _ => false
def newB (s : SharedT) (d : Addr) : Bool := match getT s d with
  | some ⟨.type c, none, .dict es _, sl⟩ => decide (c = "dict") && (es.toList.isEmpty && sl.toList.isEmpty)
  | _ => false
def aliveB (s : SharedT) : Nat → Bool
  | 0 => true
  | n + 1 => (getT s n).isSome && aliveB s n
def pairsB : List (Value × Value) → List TK → Bool
  | [], [] => true
  | (.ref a, v) :: r, x :: xs => decide (a = x.2.1) && (decide (v = x.2.2) && pairsB r xs)
  | _, _ => false
theorem strsB_ok {p : Program} {w : World} : ∀ {xs : List Str} {us : List Value}, strsB xs us = true → ItemsAre (L2.mixKind p w) (xs.map Sum.inr) us
  | [], [], _ => .nil
  | [], _ :: _, h => by simp [strsB] at h
  | _ :: _, [], h => by simp [strsB] at h
  | x :: xs, u :: us, h => by
    cases u with
    | str y t =>
      simp only [strsB, Bool.and_eq_true, decide_eq_true_eq] at h
      obtain ⟨rfl, h⟩ := h
      exact .cons (L2.keyIs_str x t) (strsB_ok h)
    | _ => simp [strsB] at h
theorem keyB_ok {p : Program} {w : World} {s : SharedT} {x : TK} (h : keyB s x = true) : (tupleKind (L2.mixKind p w)).is s.abs.heap (x.1.map Sum.inr) x.2.1 := by
  unfold keyB at h
  cases e : getT s x.2.1 with
  | none => rw [e] at h; cases h
  | some o =>
    rw [e] at h
    obtain ⟨oc, od, dt, sl⟩ := o
    cases oc with
    | type c =>
      cases dt with
      | seq its n =>
        have h : (decide (c = "tuple") && strsB x.1 its.toList) = true := h
        rw [Bool.and_eq_true, decide_eq_true_eq] at h
        obtain ⟨rfl, h⟩ := h
        exact ⟨_, its, n, (getT_eq s x.2.1).symm.trans e, rfl, rfl, strsB_ok h⟩
      | _ => cases h
    | _ => cases dt <;> cases h
theorem pairsB_ok {p : Program} {w : World} {s : SharedT} : ∀ {vs : List (Value × Value)} {ps : List TK}, pairsB vs ps = true → (ps.all (keyB s)) = true → CarriesH (tupleKind (L2.mixKind p w)) s.abs.heap vs (ps.map keyT)
  | [], [], _, _ => trivial
  | [], _ :: _, h, _ => by simp [pairsB] at h
  | (v, u) :: r, [], h, _ => by cases v <;> simp [pairsB] at h
  | (v, u) :: r, x :: xs, h, k => by
    cases v with
    | ref a =>
      simp only [pairsB, Bool.and_eq_true, decide_eq_true_eq] at h
      obtain ⟨rfl, rfl, h⟩ := h
      rw [List.all_cons, Bool.and_eq_true] at k
      exact ⟨rfl, rfl, keyB_ok k.1, pairsB_ok h k.2⟩
    | _ => simp [pairsB] at h
theorem newB_ok {p : Program} {w : World} {s : SharedT} {d : Addr} (h : newB s d = true) : s.abs.heap.DictOfH (tupleKind (L2.mixKind p w)) d [] := by
  unfold newB at h
  cases e : getT s d with
  | none => rw [e] at h; cases h
  | some o =>
    rw [e] at h
    obtain ⟨oc, od, dt, sl⟩ := o
    cases oc with
    | type c =>
      cases od with
      | none =>
        cases dt with
        | dict es n =>
          have h : (decide (c = "dict") && (es.toList.isEmpty && sl.toList.isEmpty)) = true := h
          rw [Bool.and_eq_true, Bool.and_eq_true, decide_eq_true_eq] at h
          obtain ⟨rfl, h1, h2⟩ := h
          have h1 : es.toList = [] := List.isEmpty_iff.mp h1
          have h2 : sl = #[] := by
            apply Array.toList_inj.mp
            exact List.isEmpty_iff.mp h2
          subst h2
          exact ⟨_, es, n, (getT_eq s d).symm.trans e, ⟨rfl, rfl, rfl⟩, rfl, h1, (fun x hx => by cases hx), List.Pairwise.nil⟩
        | _ => cases h
      | some b => cases dt <;> cases h
    | _ => cases od <;> cases dt <;> cases h
theorem aliveB_ok {s : SharedT} : ∀ {n : Nat}, aliveB s n = true → ∀ i < n, ∃ o, s.abs.heap.get? i = some o
  | 0, _, i, hi => by omega
  | n + 1, h, i, hi => by
    unfold aliveB at h
    rw [Bool.and_eq_true] at h
    by_cases e : i = n
    · subst e
      obtain ⟨o, q⟩ := Option.isSome_iff_exists.mp h.1
      exact ⟨o, (getT_eq s i).symm.trans q⟩
    · exact aliveB_ok h.2 i (by omega)
theorem get_objs {h : Heap} {a : Addr} {o : Obj} (e : h.get? a = some o) : h.objs[a]? = some o := by
  unfold Heap.get? at e
  split at e
  · cases e
  · exact e
/-- a heap is what it says, where nothing is freed -/
theorem heap_eq {h h' : Heap} {d : Addr} {o : Obj} (hl : h'.life = h.life) (hd : h'.get? d = some o) (hs : Heap.SameBut d h h') (al : ∀ i < h.objs.size, ∃ x, h.get? i = some x) (dl : d < h.objs.size) : h' = h.update d fun _ => o := by
  have sz := hs.1
  have e : h'.objs = (h.update d fun _ => o).objs := by
    apply Array.ext_getElem?
    intro i
    by_cases hi : i < h.objs.size
    · by_cases hid : i = d
      · subst hid
        rw [get_objs hd]
        obtain ⟨x, hx⟩ := al i hi
        exact (get_objs (Heap.get?_update_self (fun _ => o) hx (Heap.get?_some_iff.mp hd).2)).symm
      · obtain ⟨x, hx⟩ := al i hi
        rw [get_objs ((hs.2 i hid).trans hx)]
        exact (get_objs ((Heap.get?_update_other h (fun _ => o) (Ne.symm hid)).trans hx)).symm
    · rw [Array.getElem?_eq_none (by omega), Array.getElem?_eq_none (by rw [Heap.size_after_update]; omega)]
  obtain ⟨a, l⟩ := h'
  obtain ⟨b, m⟩ := h
  show Heap.mk a l = _
  have hl : l = m := hl
  subst hl
  exact congrArg (fun z => Heap.mk z l) e
end ZH

/-! Q4: the top with a pause: run, walk, run -/
noncomputable section
namespace ZH
open PySem PySem.W PyProof.Rows HandSHeadRun PySem.Calls PySem.Spec
/-- the statement behind the pause, and what follows it -/
def restG (post : List Stmt) (env : Env) : Flow → Sem Flow := fun f => match f with
  | .next => execs post env
  | f => pure f
def Xtr (st : Stmt) (post : List Stmt) (env : Env) : Sem Fin := ((execs (st :: post) env).onRaise (leaving env)).bind fun f => (.pure (.done f) : Sem Fin)
def Ctr (S : List (Value → Sem Unit)) (post : List Stmt) (env : Env) (v : Value) : Sem Fin := (((assignStores env v none S).bind (restG post env)).onRaise (leaving env)).bind fun f => (.pure (.done f) : Sem Fin)
abbrev newDict : Obj := { cls := .type "dict", data := .dict #[] }
def pushD (s : SharedT) : SharedT := { s with tree := s.tree.ins s.n newDict, n := s.n + 1 }
def setD (w : World) (s : SharedT) (d : Addr) (ps : List TK) (tk ep : Nat) : SharedT := { s with tree := s.tree.set d (fun _ => dictO w ps ep), toks := tk }
section
variable {p : Program} {w : World} {Γ : PySem.Ctx} {env : Env}
open Sem in
theorem wp_X {M : Model} {st : Stmt} {post : List Stmt} {D : Expr} {S : List (Value → Sem Unit)} {apos : Pos} {Q : Fin → Pos → Shared → Prop} {E : Value → Pos → Shared → Prop} {q : Pos} {s : Shared}
    (hs : exec st env = (do standAt apos; let v ← eval D env; assignStores env v none S))
    (h : wp M Γ (eval D env) (fun v p2 s2 => wp M Γ (Ctr S post env v) Q E p2 s2) (fun _ _ _ => False) apos s) : wp M Γ (Xtr st post env) Q E q s := by
  unfold Xtr
  rw [wp_bind, wp_onRaise, execs_cons]
  show wp M Γ (Sem.bind (exec st env) (restG post env)) _ _ q s
  rw [wp_bind, hs]
  show wp M Γ (Sem.bind (eval D env) fun v => assignStores env v none S) _ _ apos s
  rw [wp_bind]
  refine wp_mono M Γ _ (fun v p2 s2 h => ?_) (fun _ _ _ h => h.elim) _ _ h
  unfold Ctr at h
  rw [wp_bind, wp_onRaise, wp_bind] at h
  exact h
/-- the around of a context, no more told than need be -/
def arOf (Γ : PySem.Ctx) : Around := ⟨Γ.handled, frameCount Γ.below + Γ.code.weight, none, none, Γ.units⟩
theorem in_arOf (Γ : PySem.Ctx) : Γ.In (arOf Γ) := ⟨rfl, Nat.le_refl _, fun l h => (by cases h), fun l h => (by cases h), Nat.le_refl _⟩
theorem dict_wp {keys : List (Option Expr)} {values : List Expr} {dpos q : Pos} {pairs : List (Sem Value × Sem Value)} {sA s1 : SharedT} {vs : List (Value × Value)} {ps : List TK} {N : Nat} {n0 : Nat} {ann : Option Value}
    (hshape : (evalEachOpt keys env).zip ((evalEach values env).map fun v => do let x ← v; standAt dpos; pure x) = pairs.map fun p => (some p.1, p.2)) (h0 : pairs ≠ []) (hlen : pairs.length ≤ 15) (hu : Γ.units < cLine)
    (g : ((sA.tree.ins sA.n newDict).get sA.n).isSome = true) (he : ev p w N (evalPairs pairs) (pushD sA) = some (vs, s1)) (hp : pairsB vs ps = true) (hk : ps.all (keyB s1) = true) (hn : newB s1 sA.n = true) (ha : aliveB s1 s1.n = true)
    (hd : storedAllH [] (ps.map keyT) = ps.map keyT) {Q : Value → Pos → Shared → Prop} {E : Value → Pos → Shared → Prop} (h : ∀ tk ep p2, Q (.ref sA.n) p2 (setD w s1 sA.n ps tk ep).abs) :
    Sem.wp (model p w) Γ (eval (.Dict keys values dpos) env) Q (fun _ _ _ => False) q sA.abs := by
  obtain ⟨e1, e2, e3⟩ := ev_ok (n0 := n0) (ann := ann) he
  have sz : sA.abs.heap.objs.size = sA.n := absHeap_size _ _ _
  have es : (pushD sA).abs = { sA.abs with heap := sA.abs.heap.push newDict } := by
    show (⟨absHeap (sA.tree.ins sA.n newDict) (sA.n + 1) sA.life, _, _, _, _⟩ : Shared) = _
    rw [absHeap_ins g]
    rfl
  have base : wpAny (model p w) (arOf Γ) (eval (.Dict keys values dpos) env) (fun v s' => v = .ref sA.n ∧ ∃ h' tk, s' = { s1.abs with heap := h', toks := tk } ∧ h'.DictOfH (tupleKind (L2.mixKind p w)) sA.n (ps.map keyT) ∧ Heap.SameBut sA.n s1.abs.heap h') (fun _ _ => False) sA.abs := by
    rw [arm_eval_Dict, hshape, dictDisplay_pairs pairs h0 (by omega)]
    refine wpAny_bind (wpAny_standAt (wpAny_bind (wpAny_subDictH (knd := tupleKind (L2.mixKind p w)) hu hlen ?_)))
    rw [← es, sz]
    refine e1 _ _ _ ⟨ps.map keyT, pairsB_ok hp hk, newB_ok hn, fun h' tk a b => ?_⟩
    rw [hd] at a
    exact wpAny_pure ⟨rfl, h', tk, rfl, a, b⟩
  have l := wp_life sA.abs.heap.life _ _ _ q sA.abs rfl (base Γ q (in_arOf Γ))
  refine Sem.wp_mono _ _ _ (fun v p2 s' hh => ?_) (fun _ _ _ hh => hh.elim) _ _ l
  obtain ⟨⟨rfl, h', tk, rfl, hD, hS⟩, hl⟩ := hh
  obtain ⟨o, es', ep, ho, hx, hdat, hent, his, hnd⟩ := hD
  have dl : sA.n < s1.n := Nat.lt_of_lt_of_le (Nat.lt_succ_self _) e3
  have s1z : s1.abs.heap.objs.size = s1.n := absHeap_size _ _ _
  have hl' : h'.life = s1.abs.heap.life := by
    have q2 : s1.abs.heap.life = (pushD sA).abs.heap.life := e2.2.1
    rw [es] at q2
    exact Eq.trans (show h'.life = sA.abs.heap.life from hl) (Eq.trans (Heap.life_push _ _).symm q2.symm)
  have hE := heap_eq hl' ho hS (fun i hi => aliveB_ok ha i (by rw [← s1z]; exact hi)) (by rw [s1z]; exact dl)
  have oe : o = dictO w ps ep := by
    obtain ⟨oc, od, dt, sl⟩ := o
    obtain ⟨x1, x2, x3⟩ := hx
    have x1 : oc = .type "dict" := x1
    have x2 : od = none := x2
    have x3 : sl = #[] := x3
    have hdat : dt = .dict es' ep := hdat
    subst x1 x2 x3 hdat
    have : es' = (ps.map (entT w)).toArray := by
      apply Array.toList_inj.mp
      rw [hent, List.map_map]
      rfl
    rw [this]
    rfl
  have gt : ∃ x, s1.tree.get sA.n = some x := by
    unfold newB at hn
    unfold getT at hn
    rw [show Nat.blt sA.n s1.n = true from Nat.ble_eq_true_of_le dl] at hn
    cases z : s1.tree.get sA.n with
    | some x => exact ⟨x, rfl⟩
    | none =>
      rw [z] at hn
      exact absurd hn (by decide)
  obtain ⟨x, gx⟩ := gt
  have fin : (setD w s1 sA.n ps tk ep).abs = { s1.abs with heap := h', toks := tk } := by
    show (⟨absHeap (s1.tree.set sA.n fun _ => dictO w ps ep) s1.n s1.life, _, _, _, _⟩ : Shared) = _
    rw [absHeap_set gx, hE, oe]
    rfl
  rw [← fin]
  exact h tk ep p2
/-- run, walk, run -/
theorem whole {x0 x1 : KS} {q : Pos} {st : Stmt} {post : List Stmt} {S : List (Value → Sem Unit)} {keys : List (Option Expr)} {values : List Expr} {apos dpos : Pos} {pairs : List (Sem Value × Sem Value)} {s1 : SharedT} {vs : List (Value × Value)} {ps : List TK} {N nA nC n0 L : Nat} {ann : Option Value} {P : Shared → Prop}
    (z : (topStub p).cur = x0.cur ∧ (topStub p).code = x0.code ∧ (topStub p).pos = x0.pos ∧ x0.pre = [])
    (A : kUntil (stepT (denote table) p w) (denote table) [] (atLine L) (okU n0 ann) nA x0 = some x1) (hX : x1.cur = Xtr st post env) (hF : x1.pre = [topFrame q])
    (hs : exec st env = (do standAt apos; let v ← eval (.Dict keys values dpos) env; assignStores env v none S))
    (hshape : (evalEachOpt keys env).zip ((evalEach values env).map fun v => do let x ← v; standAt dpos; pure x) = pairs.map fun p => (some p.1, p.2)) (h0 : pairs ≠ []) (hlen : pairs.length ≤ 15) (hu : (PySem.Ctx.of x1.code [topFrame q]).units < cLine)
    (g : ((x1.s.tree.ins x1.s.n newDict).get x1.s.n).isSome = true) (he : ev p w N (evalPairs pairs) (pushD x1.s) = some (vs, s1)) (hp : pairsB vs ps = true) (hk : ps.all (keyB s1) = true) (hn : newB s1 x1.s.n = true) (ha : aliveB s1 s1.n = true)
    (hd : storedAllH [] (ps.map keyT) = ps.map keyT) (hn0 : n0 ≤ x1.s.n)
    (C : ∀ tk ep p2, ∃ y, kUntil (stepT (denote table) p w) (denote table) [topFrame q] isEnd (okU n0 ann) nC ⟨setD w s1 x1.s.n ps tk ep, Ctr S post env (.ref x1.s.n), x1.code, p2, []⟩ = some y ∧ P y.s.abs) :
    ∃ s', Reach (model p w) [] x0.s.abs (topStub p).cur (topStub p).code (topStub p).pos [] s' (.ret (.ok (.ret .none))) ∧ Old n0 ann x0.s.abs s' ∧ P s' := by
  obtain ⟨z1, z2, z3, z4⟩ := z
  have e2 := (ev_ok (n0 := n0) (ann := ann) he).2
  have oD : ∀ tk ep, Old n0 ann x1.s.abs (setD w s1 x1.s.n ps tk ep).abs := fun tk ep => by
    have es : (pushD x1.s).abs = { x1.s.abs with heap := x1.s.abs.heap.push newDict } := by
      show (⟨absHeap (x1.s.tree.ins x1.s.n newDict) (x1.s.n + 1) x1.s.life, _, _, _, _⟩ : Shared) = _
      rw [absHeap_ins g]
      rfl
    have o1 : Old n0 ann x1.s.abs (pushD x1.s).abs := by
      rw [es]
      exact ⟨rfl, Heap.life_push _ _, fun b o h1 h2 h3 h4 h5 => Heap.get?_push_of_some _ h5⟩
    refine (o1.trans e2.1).trans ⟨rfl, rfl, fun b o h1 h2 h3 h4 h5 => ?_⟩
    have dl : x1.s.n < s1.n := Nat.lt_of_lt_of_le (Nat.lt_succ_self _) e2.2
    cases gx : s1.tree.get x1.s.n with
    | none =>
      unfold newB getT at hn
      rw [show Nat.blt x1.s.n s1.n = true from Nat.ble_eq_true_of_le dl, gx] at hn
      exact absurd hn (by decide)
    | some x =>
      show (absHeap (s1.tree.set x1.s.n fun _ => dictO w ps ep) s1.n s1.life).get? b = some o
      rw [absHeap_set gx]
      exact (Heap.get?_update_other _ _ (Nat.ne_of_gt (Nat.lt_of_lt_of_le h1 hn0))).trans h5
  have Bw : Sem.wp (model p w) (PySem.Ctx.of x1.code [topFrame q]) (Xtr st post env) (Sem.finPost (model p w) (PySem.Ctx.of x1.code [topFrame q]) fun r s' => r = .ok .next ∧ Old n0 ann x1.s.abs s' ∧ P s') (fun e _ s' => (fun r s' => r = Except.ok Flow.next ∧ Old n0 ann x1.s.abs s' ∧ P s') (.error e) s') x1.pos x1.s.abs := by
    refine wp_X hs (dict_wp (n0 := n0) (ann := ann) (E := fun _ _ _ => True) hshape h0 hlen hu g he hp hk hn ha hd fun tk ep p2 => ?_)
    obtain ⟨y, hy, hP⟩ := C tk ep p2
    have st := kUntil_stop hy
    exact (wp_iff_reach _ _ _ _).mpr ⟨.ok .next, y.s.abs, kUntil_ok hy (isEnd_exit st), rfl, (oD tk ep).trans (kUntil_old hy), hP⟩
  obtain ⟨r, s', hr, rfl, ho, hP⟩ := (wp_iff_reach _ _ _ _).mp Bw
  refine ⟨s', ?_, (kUntil_old A).trans ho, hP⟩
  refine top_reach (sA := x1.s.abs) (X := x1.cur) (c := x1.code) (pA := x1.pos) (q := q) (fun s2 e r => ?_) (by rw [hX]; exact hr)
  rw [← hF] at r
  have a := kUntil_ok A r
  rw [z4] at a
  rw [z1, z2, z3]
  exact a
end
end ZH

/-! Q5: a law over such a head -/
noncomputable section
namespace ZH
open PySem PySem.W PyProof.Rows HandSHeadRun PySem.Calls PySem.Spec
def bootS (w : World) (os : OsState) : Shared := ⟨boot_heap w.params, #[], boot_drawn, boot_toks, os⟩
/-- what the top leaves, at each world -/
def Left (p q : Program) (loose : List Str) (Xt : Shared → Bool) {α : Type} (Yf : Shared → α) (Ya : World → α) : Prop :=
  ∀ (w : World) (os : OsState), ∃ s', Reach (model p w) [] (bootS w os) (topStub p).cur (topStub p).code (topStub p).pos [] s' (.ret (.ok (.ret .none))) ∧
    Old (boot_heap w.params).objs.size (bootAnn w) (bootS w os) s' ∧ looksF p (boot_heap w.params) s' = true ∧ openSeen q loose (importedModules p.main.body) Xt true s' = openGood q loose ∧ Yf s' = Ya w
section
variable {p q : Program} {loose : List Str} {Xt : Shared → Bool} {XP : (Str → Option Value) → Heap → Prop} {α : Type} {Yf : Shared → α} {Ya : World → α}
theorem Left.behind (L : Left p q loose Xt Yf Ya) (e : opening p = plainProg p.main.scope.names) (f : ∀ s, fenceModules? p s = some s) (hX : ∀ s, Xt s = true → XP (s.heap.nsMap mainGlobals) s.heap) (hch : chainsOk q = true) (w : World) :
    (∃ s, AfterRun (opening p) w s) ∧ ∀ s, AfterRun (opening p) w s → ∃ s0, fenceModules? p s = some s0 ∧ s0.gens = #[] ∧ ∃ s1, TopRan p w s0 s1 ∧ s1.asleep ∧ s1.gens = #[] ∧ s1.heap.isNs mainGlobals = true ∧
      Ground q loose [] XP w s1 (s1.heap.nsMap mainGlobals) (s1.heap.nsMap builtinsNs) s1.heap ∧ Yf s1 = Ya w := by
  obtain ⟨s0, b1, b2⟩ := Option.map_eq_some_iff.mp (boot_open e (N := 600) rfl f w)
  obtain ⟨h, gs, d, k, os⟩ := s0
  obtain ⟨rfl, rfl, rfl, rfl⟩ : h = boot_heap w.params ∧ gs = Array.mk [] ∧ d = boot_drawn ∧ k = boot_toks := by simpa using b2
  rw [← table_eq_tree] at b1
  obtain ⟨s, i1, i2⟩ := Option.bind_eq_some_iff.mp b1
  have AI := AfterImport.of_importEnds i1
  refine ⟨⟨s, AI⟩, fun s' hs' => ?_⟩
  have es : s' = s := AfterImport.unique hs' AI
  subst es
  refine ⟨bootS w os, i2, rfl, ?_⟩
  have z0 : (bootS w os).asleep := Shared.asleep_of_life (fence_lifeW i2) AI.life
  obtain ⟨s1, r, ol, lk, sn, y⟩ := L w os
  obtain ⟨G, g0, g1, g2, g3, g4, g5⟩ := ground_of_open (w := w) hX hch sn
  have g0 : s1.gens = #[] := Array.eq_empty_of_size_eq_zero (beq_iff_eq.mp g0)
  obtain ⟨sc, lf⟩ := sched_of_reach r g0 z0
  have lk : (staticsOk (importedModules p.main.body) (boot_heap w.params) s1.heap && namesBound p s1.heap && gensDone s1 && laidKept (boot_heap w.params) s1.heap) = true := lk
  rw [Bool.and_eq_true, Bool.and_eq_true, Bool.and_eq_true] at lk
  obtain ⟨⟨⟨k1, k2⟩, k3⟩, k4⟩ := lk
  have hg : (bootS w os).heap.isNs mainGlobals = true := boot_ns w.params
  refine ⟨s1, ⟨sc, lf, Shared.rest_eq ol.1, fun b o hb hn => ?_, g2, statics_of_ok k1, g3, g4, g5, gens_of_done k3, names_of_bound k2, laid_of_kept k4⟩, Shared.asleep_of_life lf z0, g0, g1, G, y⟩
  exact ol.2.2 b o (Heap.lt_size hb) (fun c => hn (.inl c)) (fun c => hn (.inr (.inl c))) (fun c => hn (.inr (.inr ((Pin.globalOf_eq hg _).trans c)))) hb
end
/-- the row holds, by a walk of the law's def behind such a head -/
theorem holds2 {r : OpenRow} {q : Program} {H : Hook} {loose : List Str} {d : DefRec} {kw : List (Str × Expr)}
    (L : Left r.prog q loose (fun s => xlAt q [] s && recOk r.toRowW.records s) H.obs H.val) (e : opening r.prog = plainProg r.prog.main.scope.names) (f : ∀ s, fenceModules? r.prog s = some s)
    (hd : defOf q r.name = some (d, kw)) (hpd : r.prog.theDef r.name = some (d.params, d.body, d.scope)) (hkw : kwWritten? d.params.kwonlyargs d.params.kw_defaults = some kw)
    (hw : (!r.writes || r.records.isEmpty) = true) (hs : r.wellSaid = true) (ok : (chainsOk q && opensWell r.prog && (frees r.toRowW && r.within.isEmpty)) = true) (hb : r.prog.bare) (hpr : r.toRowW.promised)
    (go : WalkO q loose (XL q []) H.says r.toRowW d kw fun fn us => PySem.call fn us) : r.Holds := by
  obtain ⟨ok1, ok2⟩ := Bool.and_eq_true_iff.mp ok
  obtain ⟨hch, o1⟩ := Bool.and_eq_true_iff.mp ok1
  obtain ⟨k5, k6⟩ := Bool.and_eq_true_iff.mp ok2
  obtain ⟨n1, n2, n3, n4, n5⟩ := frees_parts k5
  have XT : ∀ s : Shared, (xlAt q [] s && recOk r.toRowW.records s) = true → XL q [] (s.heap.nsMap mainGlobals) s.heap ∧ RecFacts r.records s.heap := fun s z =>
    ⟨xl_of s (Bool.and_eq_true_iff.mp z).1, recFacts_of (Bool.and_eq_true_iff.mp z).2⟩
  refine ⟨hs, hpr, ⟨hb, o1, ?_⟩, hpr.witness, fun w => ⟨(L.behind e f (fun s z => (XT s z).1) hch w).1, fun s' hs' => ?_⟩⟩
  · show r.makers.map _ = []
    rw [show r.makers = [] from n5]
    rfl
  obtain ⟨s0, b1, b2, t, T, tz, tg, tn, G00, y⟩ := (L.behind (XP := fun mg h => XL q [] mg h ∧ RecFacts r.records h) e f XT hch w).2 s' hs'
  have G0 : Ground q loose [] (XL q []) w t (t.heap.nsMap mainGlobals) (t.heap.nsMap builtinsNs) t.heap :=
    ⟨G00.T, G00.B, G00.D, G00.TE, G00.TD, G00.W, G00.X.1, G00.cls, G00.has, G00.apart, G00.once, G00.K⟩
  have RF := G00.X.2
  have T2 := T
  refine ⟨s0, b1, b2, t, T, fun x hx => ?_, RF.1, RF.2.1, ?_⟩
  · have ex : x = r.name := by split at hx <;> simp_all
    subst ex
    exact pinned_of_view tn G0 hd hpd hkw
  have G : Ground q loose r.records (XL q []) w t _ _ t.heap := RF.ground G0
  refine ClaimW.callFrom_of_specG (c := r.toRowW.claim) tz tg fun as1 pre lay ord hord => ?_
  obtain ⟨⟨us, u1⟩, laid⟩ := Option.isSome_iff_exists.mp (layAllW_isSome (P := w.params) (ord := ord) G.has as1 r.args t (pre_splitW pre).1)
  have kp := layAllW_keeps _ _ _ laid
  have al := layAllW_rest _ _ _ laid
  obtain ⟨ads, a1, a2, a3⟩ := reads_layAllW hord _ _ _ laid lay u1.heap (fun _ _ z => z)
  have LL : Laid r.toRowW.records w t u1 as1 us ads := ⟨⟨ord, hord, laid⟩, a1, a2, a3, kp, al.1.trans tg, al.2.2.1⟩
  have G1 := G.keeps XL.keeps kp
  obtain ⟨fa, o, pm, cd, doc, dV, kV, h1, h2, h3, h4, h5⟩ := G1.fn hd
  have hc := go w t u1 _ _ G1 (H.keeps _ _ _ (H.of w t y) kp) fa o pm cd doc dV kV h2 h3 h4 h5 (defOf_name hd ▸ h1) LL.gens as1 us ads pre lay LL.reads LL.well (LL.low G.low)
  have hi := ident_freeW n2 n3 n4
  have wi : r.toRowW.claim.within = [] := List.isEmpty_iff.mp k6
  have fin : ∀ {rr : Result} {s2 : Shared}, GoodWG r.toRowW.claim (classAt t.heap) (ExcName.means t.heap) as1 u1 rr s2 → _ := fun {rr s2} g => GoodWG.laid (c := r.toRowW.claim) n1 wi hi LL g
  refine ⟨us, u1, laid, ?_⟩
  refine wpAny_bind (wpAny_nsGet G1.T.g ?_)
  rw [h1]
  refine wpAny_bind (wpAny_mono hc (fun v s2 g => wpAny_pure ⟨_, rfl, ?_⟩) fun x s2 g => ?_)
  · have z := fin g
    exact ⟨z.1, z.2.1, z.2.2, fun hq => ⟨namesKept_of T2 tn _ kp g.2.1.old, noTable hw hq⟩⟩
  · have z := fin g
    exact ⟨z.1, z.2.1, z.2.2, fun hq => ⟨namesKept_of T2 tn _ kp g.2.1.old, noTable hw hq⟩⟩
end ZH

/-! Q6: the head of a program with dicts at its top, each walked by rules -/
noncomputable section
namespace ZH
open PySem PySem.W PyProof.Rows HandSHeadRun PySem.Calls PySem.Spec
def stX (p : Program) (w : World) : SharedT → Thread → Option (SharedT × Thread) := stepQ (denQ tabQ) p w
def denX : Code → Sem Fin := denQ tabQ
theorem stX_eq (p : Program) (w : World) : stepT (denote table) p w = stX p w := by
  unfold stX
  rw [table_eq_tree, stepQ_eq, denQ_eq, tabQ_eq]
theorem denX_eq : denote table = denX := by
  unfold denX
  rw [table_eq_tree, denQ_eq, tabQ_eq]
/-- the statement at the pause -/
def stOf (p : Program) (i : Nat) : Stmt := (behindTheImports p).getD i (.Pass ⟨0, 0, 0, 0⟩)
def postOf (p : Program) (i : Nat) : List Stmt := (behindTheImports p).drop (i + 1)
def dTgt : Stmt → Expr
  | .Assign [t] _ _ => t
  | _ => .Name "" ⟨0, 0, 0, 0⟩
def dKeys : Stmt → List (Option Expr)
  | .Assign _ (.Dict ks _ _) _ => ks
  | _ => []
def dVals : Stmt → List Expr
  | .Assign _ (.Dict _ vs _) _ => vs
  | _ => []
def dPos : Stmt → Pos
  | .Assign _ (.Dict _ _ p) _ => p
  | _ => ⟨0, 0, 0, 0⟩
def aPos : Stmt → Pos
  | .Assign _ _ p => p
  | _ => ⟨0, 0, 0, 0⟩
def pairsOf (st : Stmt) (env : Env) : List (Sem Value × Sem Value) := ((evalEachOpt (dKeys st) env).zip ((evalEach (dVals st) env).map fun v => do let x ← v; standAt (dPos st); pure x)).filterMap fun q => match q with
  | (some a, b) => some (a, b)
  | _ => none
def storesOf (st : Stmt) (env : Env) : List (Value → Sem Unit) := (assignEach [dTgt st] env).map (·.2)
def envK (x : KS) : Env := match x.code with
  | .body _ env => env
  | _ => default
def qK (x : KS) : Pos := match x.pre with
  | [.ret _ _ _ _ _ q _] => q
  | _ => ⟨0, 0, 0, 0⟩
def psOf : List (List Str) → List (Value × Value) → List TK
  | k :: ks, (.ref a, v) :: r => (k, a, v) :: psOf ks r
  | _, _ => []
theorem stored_new {K : Type} [DecidableEq K] : ∀ (ps acc : List (K × Addr × Value)), (acc ++ ps).map (·.1) |>.Nodup → storedAllH acc ps = acc ++ ps
  | [], acc, _ => by rw [List.append_nil]; rfl
  | p :: ps, acc, h => by
    have ha : atKey acc p.1 = none := by
      unfold atKey
      rw [Option.map_eq_none_iff, List.find?_eq_none]
      intro x hx q
      have q : x.1 = p.1 := by simpa using q
      rw [List.map_append, List.nodup_append] at h
      exact h.2.2 x.1 (List.mem_map_of_mem hx) p.1 (by simp) q
    have e : storedH acc p.1 p.2.1 p.2.2 = acc ++ [p] := storedH_new ha _ _
    show storedAllH (storedH acc p.1 p.2.1 p.2.2) ps = _
    rw [e, stored_new ps (acc ++ [p]) (by rw [List.append_assoc]; exact h), List.append_assoc]
    rfl
theorem psOf_keys : ∀ {ks : List (List Str)} {vs : List (Value × Value)}, (psOf ks vs).length = ks.length → (psOf ks vs).map (·.1) = ks
  | [], vs, _ => by cases vs <;> rfl
  | k :: ks, [], h => by simp [psOf] at h
  | k :: ks, (v, u) :: r, h => by
    cases v with
    | ref a =>
      simp only [psOf, List.length_cons] at h
      rw [show psOf (k :: ks) ((.ref a, u) :: r) = (k, a, u) :: psOf ks r from rfl, List.map_cons, psOf_keys (by omega)]
    | _ => simp [psOf] at h

/-! ### text keys -/
def entS (w : World) (f : Nat → Nat) : Nat → List Str → List (Value × Value) → List DictEntry
  | n, k :: ks, v :: r => ⟨hashStr w k, .str k (f n), v.2⟩ :: entS w f (n + 1) ks r
  | _, _, _ => []
def dictS (w : World) (ks : List Str) (vs : List (Value × Value)) (ep : Nat) (f : Nat → Nat) : Obj := ⟨.type "dict", none, .dict (entS w f 0 ks vs).toArray ep, #[]⟩
def keysS : List Str → List (Value × Value) → Bool
  | [], [] => true
  | k :: ks, (.str x _, _) :: r => decide (k = x) && keysS ks r
  | _, _ => false
theorem keysS_ok {p : Program} {w : World} : ∀ {ks : List Str} {vs : List (Value × Value)}, keysS ks vs = true → Carries (strKind p w) vs (ks.zip (vs.map (·.2))) ∧ (ks.zip (vs.map (·.2))).map (·.1) = ks
  | [], [], _ => ⟨trivial, rfl⟩
  | [], _ :: _, h => by simp [keysS] at h
  | k :: ks, [], h => by simp [keysS] at h
  | k :: ks, (v, u) :: r, h => by
    cases v with
    | str x t =>
      simp only [keysS, Bool.and_eq_true, decide_eq_true_eq] at h
      obtain ⟨rfl, h⟩ := h
      obtain ⟨a, b⟩ := keysS_ok h
      refine ⟨⟨?_, rfl, a⟩, by rw [List.map_cons, List.zip_cons_cons, List.map_cons, b]⟩
      show Value.isStrOf k (.str k t) = true
      simp [Value.isStrOf]
    | _ => simp [keysS] at h
theorem merged_new {K : Type} [DecidableEq K] : ∀ (ps acc : List (K × Value)), ((acc ++ ps).map (·.1)).Nodup → merged acc ps = acc ++ ps
  | [], acc, _ => by rw [List.append_nil]; rfl
  | p :: ps, acc, h => by
    have ha : acc.any (fun kv => kv.1 = p.1) = false := by
      rw [List.any_eq_false]
      intro x hx q
      have q : x.1 = p.1 := by simpa using q
      rw [List.map_append, List.nodup_append] at h
      exact h.2.2 x.1 (List.mem_map_of_mem hx) p.1 (by simp) q
    have e : stored acc p.1 p.2 = acc ++ [p] := by
      unfold stored
      rw [ha]
      rfl
    show merged (stored acc p.1 p.2) ps = _
    rw [e, merged_new ps (acc ++ [p]) (by rw [List.append_assoc]; exact h), List.append_assoc]
    rfl
end ZH

/-! Q7: the head of a program with dicts at its top: pauses in a row -/
noncomputable section
namespace ZH
open PySem PySem.W PyProof.Rows HandSHeadRun PySem.Calls PySem.Spec
/-- the token of a text key is not known -/
theorem entS_of {p : Program} {w : World} : ∀ {ks : List Str} {vs : List (Value × Value)} {es : List DictEntry} (n : Nat), keysS ks vs = true → (∀ e ∈ es, ∃ k, (strKind p w).is k e.key = true ∧ e.hash = (strKind p w).hash k) → Pairs (strKind p w) es (ks.zip (vs.map (·.2))) → ∃ f, es = entS w f n ks vs
  | [], [], es, n, _, _, h => by
    cases h
    exact ⟨fun _ => 0, rfl⟩
  | [], _ :: _, _, _, h, _, _ => by simp [keysS] at h
  | k :: ks, [], _, _, h, _, _ => by simp [keysS] at h
  | k :: ks, (v, u) :: r, es, n, h, hk, hp => by
    cases v with
    | str x t =>
      simp only [keysS, Bool.and_eq_true, decide_eq_true_eq] at h
      obtain ⟨rfl, h⟩ := h
      rw [List.map_cons, List.zip_cons_cons] at hp
      cases hp with
      | @cons e _ es2 _ h1 h2 h3 =>
        obtain ⟨f, rfl⟩ := entS_of (n + 1) h (fun e he => hk e (List.mem_cons_of_mem _ he)) h3
        obtain ⟨k2, q1, q2⟩ := hk e List.mem_cons_self
        obtain rfl : k = k2 := (strKind p w).inj _ _ _ h1 q1
        obtain ⟨t2, ht⟩ := Value.isStrOf_shape h1
        have e1 : ∀ (f g : Nat → Nat) (ks : List Str) (vs : List (Value × Value)) (m : Nat), (∀ j, m ≤ j → f j = g j) → entS w f m ks vs = entS w g m ks vs := fun f g ks => by
          induction ks with
          | nil => intro vs m _; cases vs <;> rfl
          | cons k ks ih =>
            intro vs m hfg
            cases vs with
            | nil => rfl
            | cons v vs =>
              show _ :: _ = _ :: _
              rw [hfg m (Nat.le_refl _), ih vs (m + 1) fun j hj => hfg j (by omega)]
        refine ⟨fun j => if j = n then t2 else f j, ?_⟩
        show e :: entS w f (n + 1) ks r = _ :: _
        rw [e1 f (fun j => if j = n then t2 else f j) ks r (n + 1) (fun j hj => by rw [if_neg (by omega)])]
        congr 1
        obtain ⟨a, b, c⟩ := e
        dsimp only at q2 ht h2
        rw [q2, ht, h2]
        show _ = DictEntry.mk _ (Value.str k (if n = n then t2 else f n)) _
        rw [if_pos rfl]
        rfl
    | _ => simp [keysS] at h
section
variable {p : Program} {w : World} {Γ : PySem.Ctx} {env : Env} {n0 : Nat} {ann : Option Value}
def putD (s : SharedT) (d : Addr) (o : Obj) (tk : Nat) : SharedT := { s with tree := s.tree.set d (fun _ => o), toks := tk }
theorem old_put {s s1 : SharedT} {o : Obj} {tk : Nat} (g : ((s.tree.ins s.n newDict).get s.n).isSome = true) (e2 : Old n0 ann (pushD s).abs s1.abs ∧ (pushD s).n ≤ s1.n) (hn : newB s1 s.n = true) (hn0 : n0 ≤ s.n) : Old n0 ann s.abs (putD s1 s.n o tk).abs := by
  have es : (pushD s).abs = { s.abs with heap := s.abs.heap.push newDict } := by
    show (⟨absHeap (s.tree.ins s.n newDict) (s.n + 1) s.life, _, _, _, _⟩ : Shared) = _
    rw [absHeap_ins g]
    rfl
  have o1 : Old n0 ann s.abs (pushD s).abs := by
    rw [es]
    exact ⟨rfl, Heap.life_push _ _, fun b o h1 h2 h3 h4 h5 => Heap.get?_push_of_some _ h5⟩
  refine (o1.trans e2.1).trans ⟨rfl, rfl, fun b o h1 h2 h3 h4 h5 => ?_⟩
  have dl : s.n < s1.n := Nat.lt_of_lt_of_le (Nat.lt_succ_self _) e2.2
  cases gx : s1.tree.get s.n with
  | none =>
    unfold newB getT at hn
    rw [show Nat.blt s.n s1.n = true from Nat.ble_eq_true_of_le dl, gx] at hn
    exact absurd hn (by decide)
  | some x =>
    show (absHeap (s1.tree.set s.n _) s1.n s1.life).get? b = some o
    rw [absHeap_set gx]
    exact (Heap.get?_update_other _ _ (Nat.ne_of_gt (Nat.lt_of_lt_of_le h1 hn0))).trans h5
open Sem in
/-- from a rule's end to a state of ours -/
theorem core_wp {e : Expr} {q : Pos} {sA s1 : SharedT} {Ob : Obj → Prop} (g : ((sA.tree.ins sA.n newDict).get sA.n).isSome = true) (e2 : Old n0 ann (pushD sA).abs s1.abs ∧ (pushD sA).n ≤ s1.n) (hn : newB s1 sA.n = true) (ha : aliveB s1 s1.n = true)
    (base : wpAny (model p w) (arOf Γ) (eval e env) (fun v s' => v = .ref sA.n ∧ ∃ h' tk, s' = { s1.abs with heap := h', toks := tk } ∧ Heap.SameBut sA.n s1.abs.heap h' ∧ ∃ o, h'.get? sA.n = some o ∧ Ob o) (fun _ _ => False) sA.abs)
    {Q : Value → Pos → Shared → Prop} {E : Value → Pos → Shared → Prop} (h : ∀ tk o p2, Ob o → Q (.ref sA.n) p2 (putD s1 sA.n o tk).abs) :
    Sem.wp (model p w) Γ (eval e env) Q (fun _ _ _ => False) q sA.abs := by
  obtain ⟨e2, e3⟩ := e2
  have sz : sA.abs.heap.objs.size = sA.n := absHeap_size _ _ _
  have es : (pushD sA).abs = { sA.abs with heap := sA.abs.heap.push newDict } := by
    show (⟨absHeap (sA.tree.ins sA.n newDict) (sA.n + 1) sA.life, _, _, _, _⟩ : Shared) = _
    rw [absHeap_ins g]
    rfl
  have l := wp_life sA.abs.heap.life _ _ _ q sA.abs rfl (base Γ q (in_arOf Γ))
  refine Sem.wp_mono _ _ _ (fun v p2 s' hh => ?_) (fun _ _ _ hh => hh.elim) _ _ l
  obtain ⟨⟨rfl, h', tk, rfl, hS, o, ho, hO⟩, hl⟩ := hh
  have dl : sA.n < s1.n := Nat.lt_of_lt_of_le (Nat.lt_succ_self _) e3
  have s1z : s1.abs.heap.objs.size = s1.n := absHeap_size _ _ _
  have hl' : h'.life = s1.abs.heap.life := by
    have q2 : s1.abs.heap.life = (pushD sA).abs.heap.life := e2.2.1
    rw [es] at q2
    exact Eq.trans (show h'.life = sA.abs.heap.life from hl) (Eq.trans (Heap.life_push _ _).symm q2.symm)
  have hE := heap_eq hl' ho hS (fun i hi => aliveB_ok ha i (by rw [← s1z]; exact hi)) (by rw [s1z]; exact dl)
  have gt : ∃ x, s1.tree.get sA.n = some x := by
    unfold newB at hn
    unfold getT at hn
    rw [show Nat.blt sA.n s1.n = true from Nat.ble_eq_true_of_le dl] at hn
    cases z : s1.tree.get sA.n with
    | some x => exact ⟨x, rfl⟩
    | none =>
      rw [z] at hn
      exact absurd hn (by decide)
  obtain ⟨x, gx⟩ := gt
  have fin : (putD s1 sA.n o tk).abs = { s1.abs with heap := h', toks := tk } := by
    show (⟨absHeap (s1.tree.set sA.n fun _ => o) s1.n s1.life, _, _, _, _⟩ : Shared) = _
    rw [absHeap_set gx, hE]
    rfl
  rw [← fin]
  exact h tk o p2 hO
theorem base_tup {keys : List (Option Expr)} {values : List Expr} {dpos : Pos} {pairs : List (Sem Value × Sem Value)} {sA s1 : SharedT} {vs : List (Value × Value)} {ps : List TK} {N : Nat}
    (hshape : (evalEachOpt keys env).zip ((evalEach values env).map fun v => do let x ← v; standAt dpos; pure x) = pairs.map fun p => (some p.1, p.2)) (h0 : pairs ≠ []) (hlen : pairs.length ≤ 15) (hu : Γ.units < cLine)
    (g : ((sA.tree.ins sA.n newDict).get sA.n).isSome = true) (he : ev p w N (evalPairs pairs) (pushD sA) = some (vs, s1)) (hp : pairsB vs ps = true) (hk : ps.all (keyB s1) = true) (hn : newB s1 sA.n = true)
    (hd : storedAllH [] (ps.map keyT) = ps.map keyT) :
    wpAny (model p w) (arOf Γ) (eval (.Dict keys values dpos) env) (fun v s' => v = .ref sA.n ∧ ∃ h' tk, s' = { s1.abs with heap := h', toks := tk } ∧ Heap.SameBut sA.n s1.abs.heap h' ∧ ∃ o, h'.get? sA.n = some o ∧ ∃ ep, o = dictO w ps ep) (fun _ _ => False) sA.abs := by
  obtain ⟨e1, e2, e3⟩ := ev_ok (n0 := 0) (ann := none) he
  have sz : sA.abs.heap.objs.size = sA.n := absHeap_size _ _ _
  have es : (pushD sA).abs = { sA.abs with heap := sA.abs.heap.push newDict } := by
    show (⟨absHeap (sA.tree.ins sA.n newDict) (sA.n + 1) sA.life, _, _, _, _⟩ : Shared) = _
    rw [absHeap_ins g]
    rfl
  rw [arm_eval_Dict, hshape, dictDisplay_pairs pairs h0 (by omega)]
  refine wpAny_bind (wpAny_standAt (wpAny_bind (wpAny_subDictH (knd := tupleKind (L2.mixKind p w)) hu hlen ?_)))
  rw [← es, sz]
  refine e1 _ _ _ ⟨ps.map keyT, pairsB_ok hp hk, newB_ok hn, fun h' tk a b => ?_⟩
  rw [hd] at a
  obtain ⟨o, es', ep, ho, hx, hdat, hent, his, hnd⟩ := a
  refine wpAny_pure ⟨rfl, h', tk, rfl, b, o, ho, ep, ?_⟩
  obtain ⟨oc, od, dt, sl⟩ := o
  obtain ⟨x1, x2, x3⟩ := hx
  have x1 : oc = .type "dict" := x1
  have x2 : od = none := x2
  have x3 : sl = #[] := x3
  have hdat : dt = .dict es' ep := hdat
  subst x1 x2 x3 hdat
  have : es' = (ps.map (entT w)).toArray := by
    apply Array.toList_inj.mp
    rw [hent, List.map_map]
    rfl
  rw [this]
  rfl
theorem base_str {keys : List (Option Expr)} {values : List Expr} {dpos : Pos} {pairs : List (Sem Value × Sem Value)} {sA s1 : SharedT} {vs : List (Value × Value)} {ks : List Str} {N : Nat}
    (hshape : (evalEachOpt keys env).zip ((evalEach values env).map fun v => do let x ← v; standAt dpos; pure x) = pairs.map fun p => (some p.1, p.2)) (h0 : pairs ≠ []) (hlen : pairs.length ≤ 15)
    (g : ((sA.tree.ins sA.n newDict).get sA.n).isSome = true) (he : ev p w N (evalPairs pairs) (pushD sA) = some (vs, s1)) (hp : keysS ks vs = true) (hn : newB s1 sA.n = true) (hnd : ks.Nodup) :
    wpAny (model p w) (arOf Γ) (eval (.Dict keys values dpos) env) (fun v s' => v = .ref sA.n ∧ ∃ h' tk, s' = { s1.abs with heap := h', toks := tk } ∧ Heap.SameBut sA.n s1.abs.heap h' ∧ ∃ o, h'.get? sA.n = some o ∧ ∃ ep f, o = dictS w ks vs ep f) (fun _ _ => False) sA.abs := by
  obtain ⟨e1, e2, e3⟩ := ev_ok (n0 := 0) (ann := none) he
  have sz : sA.abs.heap.objs.size = sA.n := absHeap_size _ _ _
  have es : (pushD sA).abs = { sA.abs with heap := sA.abs.heap.push newDict } := by
    show (⟨absHeap (sA.tree.ins sA.n newDict) (sA.n + 1) sA.life, _, _, _, _⟩ : Shared) = _
    rw [absHeap_ins g]
    rfl
  obtain ⟨c1, c2⟩ := keysS_ok (p := p) (w := w) hp
  have new : s1.abs.heap.DictOf (strKind p w) sA.n [] := by
    obtain ⟨o, es', ep, ho, hx, hdat, hent, his, hnd⟩ := newB_ok (p := p) (w := w) hn
    have : es' = #[] := Array.toList_inj.mp hent
    subst this
    exact ⟨o, #[], ep, ho, hx, hdat, fun e he => by simp at he, .nil, List.Pairwise.nil⟩
  rw [arm_eval_Dict, hshape, dictDisplay_pairs pairs h0 (by omega)]
  refine wpAny_bind (wpAny_standAt (wpAny_bind (wpAny_subDict (knd := strKind p w) hlen ?_)))
  rw [← es, sz]
  refine e1 _ _ _ ⟨_, c1, new, fun h' a b => ?_⟩
  have mn := merged_new (ks.zip (vs.map (·.2))) [] (by rw [List.nil_append, c2]; exact hnd)
  rw [mn, List.nil_append] at a
  obtain ⟨o, es', ep, ho, hx, hdat, hky, hpr, hnd⟩ := a
  obtain ⟨f, hf⟩ := entS_of 0 hp (fun e he => hky e (by simpa using he)) hpr
  refine wpAny_pure ⟨rfl, h', _, rfl, b, o, ho, ep, f, ?_⟩
  obtain ⟨oc, od, dt, sl⟩ := o
  obtain ⟨x1, x2, x3⟩ := hx
  have x1 : oc = .type "dict" := x1
  have x2 : od = none := x2
  have x3 : sl = #[] := x3
  have hdat : dt = .dict es' ep := hdat
  subst x1 x2 x3 hdat
  have : es' = (entS w f 0 ks vs).toArray := by
    apply Array.toList_inj.mp
    rw [hf]
  rw [this]
  rfl
end
end ZH

/-! Q8: pauses in a row -/
noncomputable section
namespace ZH
open PySem PySem.W PyProof.Rows HandSHeadRun PySem.Calls PySem.Spec
/-! the library's twins -/
def execsQ : List Stmt → Env → Sem Flow := PySem.W.Fast.tw12563942051412417395
theorem execsQ_eq : @PySem.execs = execsQ := PySem.W.Fast.te12563942051412417395
def leavingQ : Env → Value → Sem Unit := PySem.W.Fast.tw9442747609961115081
theorem leavingQ_eq : @PySem.leaving = leavingQ := PySem.W.Fast.te9442747609961115081
theorem assignStoresQ_eq : @PySem.assignStores = PySem.W.Fast.tw2470068587113613483 := PySem.W.Fast.te2470068587113613483
theorem assignEachQ_eq : @PySem.assignEach = PySem.W.Fast.tw15628205474173192105 := PySem.W.Fast.te15628205474173192105
def restQ (post : List Stmt) (env : Env) : Flow → Sem Flow := fun f => match f with
  | .next => execsQ post env
  | f => .pure f
theorem restQ_eq (post : List Stmt) (env : Env) : restG post env = restQ post env := by
  funext f
  unfold restG restQ
  rw [execsQ_eq]
  rfl
def XtrQ (st : Stmt) (post : List Stmt) (env : Env) : Sem Fin := PySem.W.R.bindR (PySem.W.R.onRaiseR (execsQ (st :: post) env) (leavingQ env)) fun f => (.pure (.done f) : Sem Fin)
theorem XtrQ_eq (st : Stmt) (post : List Stmt) (env : Env) : Xtr st post env = XtrQ st post env := by
  unfold Xtr XtrQ
  rw [execsQ_eq, leavingQ_eq, PySem.W.R.bindR_eq, PySem.W.R.onRaiseR_eq]
def CtrQ (S : List (Value → Sem Unit)) (post : List Stmt) (env : Env) (v : Value) : Sem Fin := PySem.W.R.bindR (PySem.W.R.onRaiseR (PySem.W.R.bindR (PySem.W.Fast.tw2470068587113613483 env v none S) (restQ post env)) (leavingQ env)) fun f => (.pure (.done f) : Sem Fin)
theorem CtrQ_eq (S : List (Value → Sem Unit)) (post : List Stmt) (env : Env) (v : Value) : Ctr S post env v = CtrQ S post env v := by
  unfold Ctr CtrQ
  rw [restQ_eq, leavingQ_eq, assignStoresQ_eq, PySem.W.R.bindR_eq, PySem.W.R.onRaiseR_eq]
def storesQ (st : Stmt) (env : Env) : List (Value → Sem Unit) := (PySem.W.Fast.tw15628205474173192105 [dTgt st] env).map (·.2)
theorem storesQ_eq (st : Stmt) (env : Env) : storesOf st env = storesQ st env := by
  unfold storesOf storesQ
  rw [assignEachQ_eq]
inductive DKs where
  | t (ks : List (List Str)) | s (ks : List Str)
def DKs.len : DKs → Nat
  | .t ks => ks.length
  | .s ks => ks.length
def DKs.nd : DKs → Prop
  | .t ks => ks.Nodup
  | .s ks => ks.Nodup
structure DSp where
  L : Nat
  i : Nat
  ks : DKs
/-- what is not known behind a dict -/
structure Sup where
  tk : Nat
  ep : Nat
  p2 : Pos
  f : Nat → Nat
def objOf (w : World) (d : DKs) (vs : List (Value × Value)) (u : Sup) : Obj := match d with
  | .t ks => dictO w (psOf ks vs) u.ep
  | .s ks => dictS w ks vs u.ep u.f
def chkD (d : DKs) (n0 : Nat) (q : Pos) (x : KS) (vs : List (Value × Value)) (s1 : SharedT) : Bool := ((x.s.tree.ins x.s.n newDict).get x.s.n).isSome && (newB s1 x.s.n && (aliveB s1 s1.n && (Nat.ble n0 x.s.n && (x.pre.isEmpty && (match d with
  | .t ks => Nat.blt (PySem.Ctx.of x.code [topFrame q]).units cLine && (pairsB vs (psOf ks vs) && ((psOf ks vs).all (keyB s1) && Nat.beq (psOf ks vs).length ks.length))
  | .s ks => keysS ks vs)))))
def nextK (p : Program) (w : World) (d : DSp) (x : KS) (vs : List (Value × Value)) (s1 : SharedT) (u : Sup) : KS := ⟨putD s1 x.s.n (objOf w d.ks vs u) u.tk, CtrQ (storesQ (stOf p d.i) (envK x)) (postOf p d.i) (envK x) (.ref x.s.n), x.code, u.p2, []⟩
def atLine0 (L : Nat) (x : KS) : Bool := match x.cur with
  | .at q _ => Nat.beq q.line L && x.pre.isEmpty
  | _ => false
abbrev Trio : Type := Sem Fin × Sem Fin × Bool
def goD (p : Program) (w : World) (n0 : Nat) (ann : Option Value) (q : Pos) (N n : Nat) : List DSp → List Sup → KS → Option (List Trio × KS)
  | [], _, x => (match kUntil (stX p w) denX [topFrame q] isEnd (okU n0 ann) n x with
    | some y => some ([], y)
    | none => none)
  | _ :: _, [], _ => none
  | d :: ds, u :: us, x => (match kUntil (stX p w) denX [topFrame q] (atLine0 d.L) (okU n0 ann) n x with
    | some y => (match ev p w N (evalPairs (pairsOf (stOf p d.i) (envK y))) (pushD y.s) with
      | some (vs, s1) => (match goD p w n0 ann q N n ds us (nextK p w d y vs s1 u) with
        | some (l, z) => some ((y.cur, XtrQ (stOf p d.i) (postOf p d.i) (envK y), chkD d.ks n0 q y vs s1) :: l, z)
        | none => none)
      | none => none)
    | none => none)
structure OkD (p : Program) (d : DSp) : Prop where
  hs : ∀ env, exec (stOf p d.i) env = (do standAt (aPos (stOf p d.i)); let v ← eval (.Dict (dKeys (stOf p d.i)) (dVals (stOf p d.i)) (dPos (stOf p d.i))) env; assignStores env v none (storesOf (stOf p d.i) env))
  shape : ∀ env, (evalEachOpt (dKeys (stOf p d.i)) env).zip ((evalEach (dVals (stOf p d.i)) env).map fun v => do let x ← v; standAt (dPos (stOf p d.i)); pure x) = (pairsOf (stOf p d.i) env).map fun p => (some p.1, p.2)
  len : ∀ env, (pairsOf (stOf p d.i) env).length = d.ks.len
  pos : 0 < d.ks.len
  few : d.ks.len ≤ 15
  nd : d.ks.nd
def AllD (p : Program) : List DSp → Prop
  | [] => True
  | d :: ds => OkD p d ∧ AllD p ds
def EndsIn (p : Program) (w : World) (n0 : Nat) (ann : Option Value) (q : Pos) (P : Shared → Prop) (x : KS) : Prop :=
  ∃ s', Reach (model p w) [topFrame q] x.s.abs x.cur x.code x.pos x.pre s' (.ret (.ok .next)) ∧ Old n0 ann x.s.abs s' ∧ P s'
section
variable {p : Program} {w : World} {n0 : Nat} {ann : Option Value} {q : Pos} {P : Shared → Prop} {N n : Nat}
theorem EndsIn.run {stop : KS → Bool} {x y : KS} (h : kUntil (stX p w) denX [topFrame q] stop (okU n0 ann) n x = some y) (e : EndsIn p w n0 ann q P y) : EndsIn p w n0 ann q P x := by
  rw [← stX_eq, ← denX_eq] at h
  obtain ⟨s', a, b, c⟩ := e
  exact ⟨s', kUntil_ok h a, (kUntil_old h).trans b, c⟩
theorem EndsIn.fin {y : KS} (h : isEnd y = true) (e : P y.s.abs) : EndsIn p w n0 ann q P y := ⟨_, isEnd_exit h, Old.refl, e⟩
theorem nodup_inr : ∀ {l : List (List Str)}, l.Nodup → (l.map fun q => q.map (Sum.inr : Str → L2.Key)).Nodup
  | [], _ => List.Pairwise.nil
  | y :: l, h => by
    rw [List.nodup_cons] at h
    rw [List.map_cons, List.nodup_cons]
    refine ⟨fun hmm => ?_, nodup_inr h.2⟩
    obtain ⟨z, hz1, hz2⟩ := List.mem_map.mp hmm
    rw [Z.map_inr hz2] at hz1
    exact h.1 hz1
theorem EndsIn.dict {d : DSp} (ok : OkD p d) {y : KS} {vs : List (Value × Value)} {s1 : SharedT} (hc : y.cur = Xtr (stOf p d.i) (postOf p d.i) (envK y)) (eB : ev p w N (evalPairs (pairsOf (stOf p d.i) (envK y))) (pushD y.s) = some (vs, s1)) (hk : chkD d.ks n0 q y vs s1 = true)
    (h : ∀ u, EndsIn p w n0 ann q P (nextK p w d y vs s1 u)) : EndsIn p w n0 ann q P y := by
  unfold chkD at hk
  simp only [Bool.and_eq_true] at hk
  obtain ⟨c1, c2, c3, c4, c5, c6⟩ := hk
  have hpre : y.pre = [] := List.isEmpty_iff.mp c5
  have e2 := (ev_ok (n0 := n0) (ann := ann) eB).2
  have h0 : pairsOf (stOf p d.i) (envK y) ≠ [] := fun z => by
    have := ok.len (envK y)
    rw [z] at this
    have := ok.pos
    simp at *
    omega
  have hlen : (pairsOf (stOf p d.i) (envK y)).length ≤ 15 := by rw [ok.len]; exact ok.few
  have base : ∃ Ob : Obj → Prop, (∀ o, Ob o → ∃ ep f, ∀ tk p2, o = objOf w d.ks vs ⟨tk, ep, p2, f⟩) ∧ wpAny (model p w) (arOf (PySem.Ctx.of y.code [topFrame q])) (eval (.Dict (dKeys (stOf p d.i)) (dVals (stOf p d.i)) (dPos (stOf p d.i))) (envK y)) (fun v s' => v = .ref y.s.n ∧ ∃ h' tk, s' = { s1.abs with heap := h', toks := tk } ∧ Heap.SameBut y.s.n s1.abs.heap h' ∧ ∃ o, h'.get? y.s.n = some o ∧ Ob o) (fun _ _ => False) y.s.abs := by
    cases ek : d.ks with
    | t ks =>
      rw [ek] at c6
      simp only [Bool.and_eq_true] at c6
      obtain ⟨d1, d2, d3, d4⟩ := c6
      have nd := ok.nd
      rw [ek] at nd
      refine ⟨fun o => ∃ ep, o = dictO w (psOf ks vs) ep, fun o ⟨ep, e⟩ => ⟨ep, fun _ => 0, fun _ _ => e⟩, base_tup (ok.shape _) h0 hlen (Nat.le_of_ble_eq_true d1) c1 eB d2 d3 c2 ?_⟩
      have := stored_new ((psOf ks vs).map keyT) [] (by
        rw [List.nil_append, List.map_map]
        have e : ((fun x : List L2.Key × Addr × Value => x.1) ∘ keyT) = (fun l : List Str => l.map (Sum.inr : Str → L2.Key)) ∘ (fun x : TK => x.1) := rfl
        rw [e, ← List.map_map, psOf_keys (Nat.eq_of_beq_eq_true d4)]
        exact nodup_inr nd)
      rw [List.nil_append] at this
      exact this
    | s ks =>
      rw [ek] at c6
      have nd := ok.nd
      rw [ek] at nd
      exact ⟨fun o => ∃ ep f, o = dictS w ks vs ep f, fun o ⟨ep, f, e⟩ => ⟨ep, f, fun _ _ => e⟩, base_str (ok.shape _) h0 hlen c1 eB c6 c2 nd⟩
  obtain ⟨Ob, hO, base⟩ := base
  have Bw : Sem.wp (model p w) (PySem.Ctx.of y.code [topFrame q]) (Xtr (stOf p d.i) (postOf p d.i) (envK y)) (Sem.finPost (model p w) (PySem.Ctx.of y.code [topFrame q]) fun r s' => r = .ok .next ∧ Old n0 ann y.s.abs s' ∧ P s') (fun e _ s' => (fun r s' => r = Except.ok Flow.next ∧ Old n0 ann y.s.abs s' ∧ P s') (.error e) s') y.pos y.s.abs := by
    refine wp_X (ok.hs _) (core_wp (n0 := n0) (ann := ann) (E := fun _ _ _ => True) c1 e2 c2 c3 base fun tk o p2 ho => ?_)
    obtain ⟨ep, f, eo⟩ := hO o ho
    obtain ⟨s', a, b, c⟩ := h ⟨tk, ep, p2, f⟩
    unfold nextK at a b
    rw [← CtrQ_eq, ← storesQ_eq] at a b
    rw [eo tk p2]
    exact (wp_iff_reach _ _ _ _).mpr ⟨.ok .next, s', a, rfl, (old_put c1 e2 c2 (Nat.le_of_ble_eq_true c4)).trans b, c⟩
  obtain ⟨r, s', hr, rfl, ho, hP⟩ := (wp_iff_reach _ _ _ _).mp Bw
  refine ⟨s', ?_, ho, hP⟩
  rw [hc, hpre]
  exact hr
theorem goD_ok : ∀ {ds : List DSp} {x : KS}, AllD p ds → (∀ us : List Sup, us.length = ds.length → ∃ l z, goD p w n0 ann q N n ds us x = some (l, z) ∧ (∀ t ∈ l, t.1 = t.2.1 ∧ t.2.2 = true) ∧ P z.s.abs) → EndsIn p w n0 ann q P x
  | [], x, _, h => by
    obtain ⟨l, z, h1, _, h3⟩ := h [] rfl
    unfold goD at h1
    cases e : kUntil (stX p w) denX [topFrame q] isEnd (okU n0 ann) n x with
    | none => rw [e] at h1; cases h1
    | some y =>
      rw [e] at h1
      cases h1
      have e' := e
      rw [← stX_eq, ← denX_eq] at e'
      exact EndsIn.run e (.fin (kUntil_stop e') h3)
  | d :: ds, x, ok, h => by
    obtain ⟨l, z, h1, h2, _⟩ := h (List.replicate (d :: ds).length ⟨0, 0, ⟨0, 0, 0, 0⟩, fun _ => 0⟩) (by simp)
    rw [List.length_cons, List.replicate_succ] at h1
    unfold goD at h1
    cases e : kUntil (stX p w) denX [topFrame q] (atLine0 d.L) (okU n0 ann) n x with
    | none => rw [e] at h1; cases h1
    | some y =>
      simp only [e] at h1
      cases eB : ev p w N (evalPairs (pairsOf (stOf p d.i) (envK y))) (pushD y.s) with
      | none => rw [eB] at h1; cases h1
      | some r =>
        obtain ⟨vs, s1⟩ := r
        simp only [eB] at h1
        split at h1
        · rename_i l' z' _
          cases h1
          obtain ⟨a1, a2⟩ := h2 _ List.mem_cons_self
          refine EndsIn.run e (EndsIn.dict ok.1 (a1.trans (XtrQ_eq _ _ _).symm) eB a2 fun u => goD_ok ok.2 fun us hus => ?_)
          obtain ⟨l2, z2, g1, g2, g3⟩ := h (u :: us) (by rw [List.length_cons, List.length_cons, hus])
          unfold goD at g1
          simp only [e, eB] at g1
          split at g1
          · rename_i l3 z3 g4
            cases g1
            exact ⟨l3, _, g4, fun t ht => g2 t (List.mem_cons_of_mem _ ht), g3⟩
          · cases g1
        · cases h1
end
/-! the whole, behind the imports -/
def aheadF (M : Nat) (p : Program) (w : World) : Option (Shared × SharedT) := match impF (stX (opening p) w) M (startT (opening p)) (start (opening p)).2 with
  | some s => (match fenceQ p s.abs with
    | some s0 => (match s0.heap.isNs mainGlobals && s0.gens.size == 0 with
      | true => (match treeOf s0 with
        | some x => frS x fun x => some (s0, x)
        | none => none)
      | false => none)
    | none => none)
  | none => none
theorem aheadF_ok {M : Nat} {p : Program} {w : World} {s0 : Shared} {x : SharedT} (h : aheadF M p w = some (s0, x)) : fencedOpening treeTable p w M = some s0 ∧ (s0.heap.isNs mainGlobals && s0.gens.size == 0) = true ∧ x.abs = s0 ∧ s0.heap.objs.size = x.n := by
  unfold aheadF at h
  rw [← stX_eq, table_eq_tree, ← fenceQ_eq] at h
  cases e1 : impF (stepT (denote treeTable) (opening p) w) M (startT (opening p)) (start (opening p)).2 with
  | none => simp only [e1] at h; cases h
  | some s =>
    simp only [e1] at h
    have a1 := impF_ok e1
    rw [startT_eq] at a1
    cases e2 : fenceModules? p s.abs with
    | none => simp only [e2] at h; cases h
    | some z =>
      simp only [e2] at h
      cases e3 : z.heap.isNs mainGlobals && z.gens.size == 0 with
      | false => simp only [e3] at h; cases h
      | true =>
        simp only [e3] at h
        cases e4 : treeOf z with
        | none => simp only [e4] at h; cases h
        | some y =>
          simp only [e4] at h
          rw [frS_eq] at h
          cases h
          obtain ⟨ex, en⟩ := treeOf_eq e4
          refine ⟨?_, e3, ex, en⟩
          unfold fencedOpening
          rw [a1]
          exact e2
def annOf (s : Shared) : Option Value := s.heap.nsMap mainGlobals "__annotations__"
def xK (p : Program) (x : SharedT) : KS := ⟨x, (topStub p).cur, (topStub p).code, (topStub p).pos, []⟩
abbrev RunT : Type := Shared × List Frame × Pos × List Trio × KS
def runD (p : Program) (M L N : Nat) (ds : List DSp) (w : World) (us : List Sup) : Option RunT := match aheadF M p w with
  | some (s0, x) => (match kUntil (stX p w) denX [] (atLine L) (okU x.n (annOf s0)) M (xK p x) with
    | some y => (match goD p w x.n (annOf s0) (qK y) N M ds us ⟨y.s, y.cur, y.code, y.pos, []⟩ with
      | some (l, z) => some (s0, y.pre, qK y, l, z)
      | none => none)
    | none => none)
  | none => none
def seeL (r : RunT) : List Frame × List (Sem Fin × Bool) := (r.2.1, r.2.2.2.1.map fun t => (t.1, t.2.2))
def seeR (r : RunT) : List Frame × List (Sem Fin × Bool) := ([topFrame r.2.2.1], r.2.2.2.1.map fun t => (t.2.1, true))
theorem see_all {l : List Trio} (h : (l.map fun t => (t.1, t.2.2)) = l.map fun t => (t.2.1, true)) : ∀ t ∈ l, t.1 = t.2.1 ∧ t.2.2 = true := by
  induction l with
  | nil => intro t ht; cases ht
  | cons a l ih =>
    rw [List.map_cons, List.map_cons] at h
    injection h with h1 h2
    intro t ht
    rcases List.mem_cons.mp ht with rfl | ht
    · exact ⟨congrArg (fun z => z.1) h1, congrArg (fun z => z.2) h1⟩
    · exact ih h2 t ht
/-- what the imports and the top leave, at each world -/
def LeftI (p q : Program) (loose : List Str) (Xt : Shared → Bool) {α : Type} (Yf : Shared → α) (Ya : World → α) (M : Nat) : Prop :=
  ∀ w : World, ∃ s0 s', fencedOpening treeTable p w M = some s0 ∧ (s0.heap.isNs mainGlobals && s0.gens.size == 0) = true ∧ Reach (model p w) [] s0 (topStub p).cur (topStub p).code (topStub p).pos [] s' (.ret (.ok (.ret .none))) ∧
    Old s0.heap.objs.size (annOf s0) s0 s' ∧ looksF p s0.heap s' = true ∧ openSeen q loose (importedModules p.main.body) Xt true s' = openGood q loose ∧ Yf s' = Ya w
theorem left_of {p q : Program} {loose : List Str} {Xt : Shared → Bool} {α : Type} {Yf : Shared → α} {Yt : SharedT → α} {Ya : World → α} {M L N : Nat} {ds : List DSp} (ok : AllD p ds)
    (hA : ∀ w us, us.length = ds.length → (runD p M L N ds w us).map seeL = (runD p M L N ds w us).map seeR)
    (hC : ∀ w us, us.length = ds.length → (runD p M L N ds w us).map (fun r => (looksF p r.1.heap r.2.2.2.2.s.abs, seenQ q loose (importedModules p.main.body) Xt r.2.2.2.2.s.abs, Yt r.2.2.2.2.s)) = some (true, openGood q loose, Ya w))
    (hY : ∀ s, Yt s = Yf s.abs) : LeftI p q loose Xt Yf Ya M := by
  intro w
  have all : ∀ us : List Sup, us.length = ds.length → ∃ s0 x y l z, aheadF M p w = some (s0, x) ∧ kUntil (stX p w) denX [] (atLine L) (okU x.n (annOf s0)) M (xK p x) = some y ∧ goD p w x.n (annOf s0) (qK y) N M ds us ⟨y.s, y.cur, y.code, y.pos, []⟩ = some (l, z) ∧ y.pre = [topFrame (qK y)] ∧ (∀ t ∈ l, t.1 = t.2.1 ∧ t.2.2 = true) ∧
      (looksF p s0.heap z.s.abs = true ∧ openSeen q loose (importedModules p.main.body) Xt true z.s.abs = openGood q loose ∧ Yf z.s.abs = Ya w) := fun us hus => by
    have a := hA w us hus
    obtain ⟨r, e, c⟩ := Option.map_eq_some_iff.mp (hC w us hus)
    rw [e] at a
    have a := Option.some.inj a
    unfold runD at e
    cases eA : aheadF M p w with
    | none => simp only [eA] at e; cases e
    | some sx =>
      obtain ⟨s0, x⟩ := sx
      simp only [eA] at e
      cases eK : kUntil (stX p w) denX [] (atLine L) (okU x.n (annOf s0)) M (xK p x) with
      | none => simp only [eK] at e; cases e
      | some y =>
        simp only [eK] at e
        cases eG : goD p w x.n (annOf s0) (qK y) N M ds us ⟨y.s, y.cur, y.code, y.pos, []⟩ with
        | none => simp only [eG] at e; cases e
        | some lz =>
          obtain ⟨l, z⟩ := lz
          simp only [eG] at e
          cases e
          refine ⟨s0, x, y, l, z, rfl, eK, eG, congrArg (fun z => z.1) a, see_all (congrArg (fun z => z.2) a), congrArg (fun z => z.1) c, ?_, ?_⟩
          · rw [seenQ_eq]
            exact congrArg (fun z => z.2.1) c
          · rw [← hY]
            exact congrArg (fun z => z.2.2) c
  obtain ⟨s0, x, y, l0, z0, eA, eK, _, hpre, _⟩ := all (List.replicate ds.length ⟨0, 0, ⟨0, 0, 0, 0⟩, fun _ => 0⟩) (by simp)
  have E : EndsIn p w x.n (annOf s0) (qK y) (fun s' => looksF p s0.heap s' = true ∧ openSeen q loose (importedModules p.main.body) Xt true s' = openGood q loose ∧ Yf s' = Ya w) ⟨y.s, y.cur, y.code, y.pos, []⟩ :=
    goD_ok (N := N) (n := M) ok fun us hus => by
      obtain ⟨s0', x', y', l, z, e1, e2, e3, _, e4, e5⟩ := all us hus
      rw [eA] at e1
      cases e1
      rw [eK] at e2
      cases e2
      exact ⟨l, z, e3, e4, e5⟩
  obtain ⟨s', hr, ho, hP⟩ := E
  obtain ⟨f1, f2, f3, f4⟩ := aheadF_ok eA
  rw [← stX_eq p w, ← denX_eq] at eK
  have o1 := kUntil_old eK
  have o1 : Old x.n (annOf s0) x.abs y.s.abs := o1
  rw [f3, ← f4] at o1
  rw [← f4] at ho
  have tr := top_reach (p := p) (w := w) (s := s0) (sA := y.s.abs) (X := y.cur) (c := y.code) (pA := y.pos) (q := qK y) (fun s2 e r => by
    rw [← hpre] at r
    have a := kUntil_ok eK r
    have a : Reach (model p w) [] x.abs (topStub p).cur (topStub p).code (topStub p).pos [] s2 e := a
    rw [f3] at a
    exact a) hr
  exact ⟨s0, s', f1, f2, tr, o1.trans ho, hP⟩
section
variable {p q : Program} {loose : List Str} {Xt : Shared → Bool} {XP : (Str → Option Value) → Heap → Prop} {α : Type} {Yf : Shared → α} {Ya : World → α} {M : Nat}
theorem LeftI.behind (L : LeftI p q loose Xt Yf Ya M) (hX : ∀ s, Xt s = true → XP (s.heap.nsMap mainGlobals) s.heap) (hch : chainsOk q = true) (w : World) :
    (∃ s, AfterRun (opening p) w s) ∧ ∀ s, AfterRun (opening p) w s → ∃ s0, fenceModules? p s = some s0 ∧ s0.gens = #[] ∧ ∃ s1, TopRan p w s0 s1 ∧ s1.asleep ∧ s1.gens = #[] ∧ s1.heap.isNs mainGlobals = true ∧
      Ground q loose [] XP w s1 (s1.heap.nsMap mainGlobals) (s1.heap.nsMap builtinsNs) s1.heap ∧ Yf s1 = Ya w := by
  obtain ⟨s0, s1, b1, b2, r, ol, lk, sn, y⟩ := L w
  rw [Bool.and_eq_true] at b2
  obtain ⟨hg, hz⟩ := b2
  have hz : s0.gens = #[] := Array.eq_empty_of_size_eq_zero (beq_iff_eq.mp hz)
  unfold fencedOpening at b1
  rw [← table_eq_tree] at b1
  obtain ⟨s, i1, i2⟩ := Option.bind_eq_some_iff.mp b1
  have AI := AfterImport.of_importEnds i1
  refine ⟨⟨s, AI⟩, fun s' hs' => ?_⟩
  have es : s' = s := AfterImport.unique hs' AI
  subst es
  refine ⟨s0, i2, hz, ?_⟩
  have z0 : s0.asleep := Shared.asleep_of_life (fence_lifeW i2) AI.life
  obtain ⟨G, g0, g1, g2, g3, g4, g5⟩ := ground_of_open (w := w) hX hch sn
  have g0 : s1.gens = #[] := Array.eq_empty_of_size_eq_zero (beq_iff_eq.mp g0)
  obtain ⟨sc, lf⟩ := sched_of_reach r g0 z0
  have lk : (staticsOk (importedModules p.main.body) s0.heap s1.heap && namesBound p s1.heap && gensDone s1 && laidKept s0.heap s1.heap) = true := lk
  rw [Bool.and_eq_true, Bool.and_eq_true, Bool.and_eq_true] at lk
  obtain ⟨⟨⟨k1, k2⟩, k3⟩, k4⟩ := lk
  refine ⟨s1, ⟨sc, lf, Shared.rest_eq ol.1, fun b o hb hn => ?_, g2, statics_of_ok k1, g3, g4, g5, gens_of_done k3, names_of_bound k2, laid_of_kept k4⟩, Shared.asleep_of_life lf z0, g0, g1, G, y⟩
  exact ol.2.2 b o (Heap.lt_size hb) (fun c => hn (.inl c)) (fun c => hn (.inr (.inl c))) (fun c => hn (.inr (.inr ((Pin.globalOf_eq hg _).trans c)))) hb
end
/-- the row holds, by a walk of the law's def behind such a head -/
theorem holds3 {r : OpenRow} {q : Program} {H : Hook} {loose : List Str} {d : DefRec} {kw : List (Str × Expr)} {M : Nat}
    (L : LeftI r.prog q loose (fun s => xlAt q [] s && recOk r.toRowW.records s) H.obs H.val M)
    (hd : defOf q r.name = some (d, kw)) (hpd : r.prog.theDef r.name = some (d.params, d.body, d.scope)) (hkw : kwWritten? d.params.kwonlyargs d.params.kw_defaults = some kw)
    (hw : (!r.writes || r.records.isEmpty) = true) (hs : r.wellSaid = true) (ok : (chainsOk q && opensWell r.prog && (frees r.toRowW && r.within.isEmpty)) = true) (hb : r.prog.bare) (hpr : r.toRowW.promised)
    (go : WalkO q loose (XL q []) H.says r.toRowW d kw fun fn us => PySem.call fn us) : r.Holds := by
  obtain ⟨ok1, ok2⟩ := Bool.and_eq_true_iff.mp ok
  obtain ⟨hch, o1⟩ := Bool.and_eq_true_iff.mp ok1
  obtain ⟨k5, k6⟩ := Bool.and_eq_true_iff.mp ok2
  obtain ⟨n1, n2, n3, n4, n5⟩ := frees_parts k5
  have XT : ∀ s : Shared, (xlAt q [] s && recOk r.toRowW.records s) = true → XL q [] (s.heap.nsMap mainGlobals) s.heap ∧ RecFacts r.records s.heap := fun s z =>
    ⟨xl_of s (Bool.and_eq_true_iff.mp z).1, recFacts_of (Bool.and_eq_true_iff.mp z).2⟩
  refine ⟨hs, hpr, ⟨hb, o1, ?_⟩, hpr.witness, fun w => ⟨(L.behind (fun s z => (XT s z).1) hch w).1, fun s' hs' => ?_⟩⟩
  · show r.makers.map _ = []
    rw [show r.makers = [] from n5]
    rfl
  obtain ⟨s0, b1, b2, t, T, tz, tg, tn, G00, y⟩ := (L.behind (XP := fun mg h => XL q [] mg h ∧ RecFacts r.records h) XT hch w).2 s' hs'
  have G0 : Ground q loose [] (XL q []) w t (t.heap.nsMap mainGlobals) (t.heap.nsMap builtinsNs) t.heap :=
    ⟨G00.T, G00.B, G00.D, G00.TE, G00.TD, G00.W, G00.X.1, G00.cls, G00.has, G00.apart, G00.once, G00.K⟩
  have RF := G00.X.2
  have T2 := T
  refine ⟨s0, b1, b2, t, T, fun x hx => ?_, RF.1, RF.2.1, ?_⟩
  · have ex : x = r.name := by split at hx <;> simp_all
    subst ex
    exact pinned_of_view tn G0 hd hpd hkw
  have G : Ground q loose r.records (XL q []) w t _ _ t.heap := RF.ground G0
  refine ClaimW.callFrom_of_specG (c := r.toRowW.claim) tz tg fun as1 pre lay ord hord => ?_
  obtain ⟨⟨us, u1⟩, laid⟩ := Option.isSome_iff_exists.mp (layAllW_isSome (P := w.params) (ord := ord) G.has as1 r.args t (pre_splitW pre).1)
  have kp := layAllW_keeps _ _ _ laid
  have al := layAllW_rest _ _ _ laid
  obtain ⟨ads, a1, a2, a3⟩ := reads_layAllW hord _ _ _ laid lay u1.heap (fun _ _ z => z)
  have LL : Laid r.toRowW.records w t u1 as1 us ads := ⟨⟨ord, hord, laid⟩, a1, a2, a3, kp, al.1.trans tg, al.2.2.1⟩
  have G1 := G.keeps XL.keeps kp
  obtain ⟨fa, o, pm, cd, doc, dV, kV, h1, h2, h3, h4, h5⟩ := G1.fn hd
  have hc := go w t u1 _ _ G1 (H.keeps _ _ _ (H.of w t y) kp) fa o pm cd doc dV kV h2 h3 h4 h5 (defOf_name hd ▸ h1) LL.gens as1 us ads pre lay LL.reads LL.well (LL.low G.low)
  have hi := ident_freeW n2 n3 n4
  have wi : r.toRowW.claim.within = [] := List.isEmpty_iff.mp k6
  have fin : ∀ {rr : Result} {s2 : Shared}, GoodWG r.toRowW.claim (classAt t.heap) (ExcName.means t.heap) as1 u1 rr s2 → _ := fun {rr s2} g => GoodWG.laid (c := r.toRowW.claim) n1 wi hi LL g
  refine ⟨us, u1, laid, ?_⟩
  refine wpAny_bind (wpAny_nsGet G1.T.g ?_)
  rw [h1]
  refine wpAny_bind (wpAny_mono hc (fun v s2 g => wpAny_pure ⟨_, rfl, ?_⟩) fun x s2 g => ?_)
  · have z := fin g
    exact ⟨z.1, z.2.1, z.2.2, fun hq => ⟨namesKept_of T2 tn _ kp g.2.1.old, noTable hw hq⟩⟩
  · have z := fin g
    exact ⟨z.1, z.2.1, z.2.2, fun hq => ⟨namesKept_of T2 tn _ kp g.2.1.old, noTable hw hq⟩⟩
end ZH

namespace L_curveseal_k36_digests_in_pieces
open PySem PySem.Spec PyProof.Rows L2 Z
def topS (i : Nat) : Stmt := PySem.Challenge.pw_curveseal_k36_digests_in_pieces.main.body.getD i (.Pass ⟨0, 0, 0, 0⟩)
/-- the classes by number -/
def clsN : List PySem.Str := ["CurveError", "OutOfRange", "Digester", "Sha256", "Sha512"]
def clsOf (K : PySem.W.Frag) (i : Nat) : Addr := He.ga K (clsN.getD i "")
abbrev w_MESSAGE_LIMIT : W := Cn.w (.int 1048576)
abbrev w_WORDS : W := Cn.w (.int 8)
def d_SIZES : List (DK × Cn) := [(.s "sha256", .tup [.int 32, .int 64, .int 64, .int 8, .int 32]), (.s "sha512", .tup [.int 64, .int 128, .int 80, .int 16, .int 64])]
def d_TURNS : List (DK × Cn) := [(.t ["sha256", "sum_zero"], .tup [.int 2, .int 13, .int 22]), (.t ["sha256", "sum_one"], .tup [.int 6, .int 11, .int 25]), (.t ["sha256", "turn_zero"], .tup [.int 7, .int 18, .int 3]), (.t ["sha256", "turn_one"], .tup [.int 17, .int 19, .int 10]), (.t ["sha512", "sum_zero"], .tup [.int 28, .int 34, .int 39]), (.t ["sha512", "sum_one"], .tup [.int 14, .int 18, .int 41]), (.t ["sha512", "turn_zero"], .tup [.int 1, .int 8, .int 7]), (.t ["sha512", "turn_one"], .tup [.int 19, .int 61, .int 6])]
def m_CurveError : List (Nat × Bool) := [(0, true), (1, true)]
def m_OutOfRange : List (Nat × Bool) := [(0, false), (1, true)]
structure Env (Γ : Gam) : Prop where
  B : Bs Γ
  d_check_kind : Def Γ ("check_kind", none) "check_kind" "check_kind" (topS 13)
  d_word_bits : Def Γ ("word_bits", none) "word_bits" "word_bits" (topS 14)
  d_to_little : Def Γ ("to_little", none) "to_little" "to_little" (topS 6)
  d_to_big : Def Γ ("to_big", none) "to_big" "to_big" (topS 7)
  d_compress_with : Def Γ ("compress_with", none) "compress_with" "compress_with" (topS 23)
  d_from_big : Def Γ ("from_big", none) "from_big" "from_big" (topS 8)
  d_block_size : Def Γ ("block_size", none) "block_size" "block_size" (topS 15)
  d_schedule : Def Γ ("schedule", none) "schedule" "schedule" (topS 22)
  d_first_primes : Def Γ ("first_primes", none) "first_primes" "first_primes" (topS 18)
  d_whole_cube_root : Def Γ ("whole_cube_root", none) "whole_cube_root" "whole_cube_root" (topS 19)
  d_round_constants : Def Γ ("round_constants", none) "round_constants" "round_constants" (topS 20)
  d_Digester_make_ready : Def Γ ("Digester", some "make_ready") "make_ready" "Digester.make_ready" (inClass (topS 27) 1)
  d_length_size : Def Γ ("length_size", none) "length_size" "length_size" (topS 16)
  d_padding : Def Γ ("padding", none) "padding" "padding" (topS 26)
  d_Digester_told : Def Γ ("Digester", some "told") "told" "Digester.told" (inClass (topS 27) 3)
  d_Digester_add : Def Γ ("Digester", some "add") "add" "Digester.add" (inClass (topS 27) 2)
  d_start_words : Def Γ ("start_words", none) "start_words" "start_words" (topS 21)
  d_Digester___init__ : Def Γ ("Digester", some "__init__") "__init__" "Digester.__init__" (inClass (topS 27) 0)
  d_digest : Def Γ ("digest", none) "digest" "digest" (topS 28)
  d_Sha512_digest : Def Γ ("Sha512", some "digest") "digest" "Sha512.digest" (inClass (topS 34) 1)
  d_Sha256_digest : Def Γ ("Sha256", some "digest") "digest" "Sha256.digest" (inClass (topS 33) 1)
  d__law_no_kind : Def Γ ("_law_no_kind", none) "_law_no_kind" "_law_no_kind" (topS 42)
  d_digest_parts : Def Γ ("digest_parts", none) "digest_parts" "digest_parts" (topS 30)
  d_Sha512_digest_parts : Def Γ ("Sha512", some "digest_parts") "digest_parts" "Sha512.digest_parts" (inClass (topS 34) 2)
  d_Sha256_digest_parts : Def Γ ("Sha256", some "digest_parts") "digest_parts" "Sha256.digest_parts" (inClass (topS 33) 2)
  d_Digester_length : Def Γ ("Digester", some "length") "length" "Digester.length" (inClass (topS 27) 4)
  d__law_is_integer : Def Γ ("_law_is_integer", none) "_law_is_integer" "_law_is_integer" (topS 37)
  d__law_told : Def Γ ("_law_told", none) "_law_told" "_law_told" (topS 41)
  d_Digester_twin : Def Γ ("Digester", some "twin") "twin" "Digester.twin" (inClass (topS 27) 5)
  d__law_cell : Def Γ ("_law_cell", none) "_law_cell" "_law_cell" (topS 36)
  d_Sha512_pieces : Def Γ ("Sha512", some "pieces") "pieces" "Sha512.pieces" (inClass (topS 34) 5)
  d_Sha256_pieces : Def Γ ("Sha256", some "pieces") "pieces" "Sha256.pieces" (inClass (topS 33) 5)
  d__law_pieces : Def Γ ("_law_pieces", none) "_law_pieces" "_law_pieces" (topS 40)
  d__law_row : Def Γ ("_law_row", none) "_law_row" "_law_row" (topS 38)
  d_digest_size : Def Γ ("digest_size", none) "digest_size" "digest_size" (topS 17)
  d_Sha512___init__ : Def Γ ("Sha512", some "__init__") "__init__" "Sha512.__init__" (inClass (topS 34) 0)
  d_Sha256___init__ : Def Γ ("Sha256", some "__init__") "__init__" "Sha256.__init__" (inClass (topS 33) 0)
  d_law : Def Γ ("law", none) "law" "law" (topS 43)
  g__law_cell : Γ.mg "_law_cell" = some (.ref (He.fAd Γ.K ("_law_cell", none)))
  g__law_is_integer : Γ.mg "_law_is_integer" = some (.ref (He.fAd Γ.K ("_law_is_integer", none)))
  g__law_no_kind : Γ.mg "_law_no_kind" = some (.ref (He.fAd Γ.K ("_law_no_kind", none)))
  g__law_pieces : Γ.mg "_law_pieces" = some (.ref (He.fAd Γ.K ("_law_pieces", none)))
  g__law_row : Γ.mg "_law_row" = some (.ref (He.fAd Γ.K ("_law_row", none)))
  g__law_told : Γ.mg "_law_told" = some (.ref (He.fAd Γ.K ("_law_told", none)))
  g_block_size : Γ.mg "block_size" = some (.ref (He.fAd Γ.K ("block_size", none)))
  g_check_kind : Γ.mg "check_kind" = some (.ref (He.fAd Γ.K ("check_kind", none)))
  g_compress_with : Γ.mg "compress_with" = some (.ref (He.fAd Γ.K ("compress_with", none)))
  g_digest_size : Γ.mg "digest_size" = some (.ref (He.fAd Γ.K ("digest_size", none)))
  g_first_primes : Γ.mg "first_primes" = some (.ref (He.fAd Γ.K ("first_primes", none)))
  g_from_big : Γ.mg "from_big" = some (.ref (He.fAd Γ.K ("from_big", none)))
  g_law : Γ.mg "law" = some (.ref (He.fAd Γ.K ("law", none)))
  g_length_size : Γ.mg "length_size" = some (.ref (He.fAd Γ.K ("length_size", none)))
  g_padding : Γ.mg "padding" = some (.ref (He.fAd Γ.K ("padding", none)))
  g_round_constants : Γ.mg "round_constants" = some (.ref (He.fAd Γ.K ("round_constants", none)))
  g_schedule : Γ.mg "schedule" = some (.ref (He.fAd Γ.K ("schedule", none)))
  g_start_words : Γ.mg "start_words" = some (.ref (He.fAd Γ.K ("start_words", none)))
  g_to_big : Γ.mg "to_big" = some (.ref (He.fAd Γ.K ("to_big", none)))
  g_to_little : Γ.mg "to_little" = some (.ref (He.fAd Γ.K ("to_little", none)))
  g_whole_cube_root : Γ.mg "whole_cube_root" = some (.ref (He.fAd Γ.K ("whole_cube_root", none)))
  g_word_bits : Γ.mg "word_bits" = some (.ref (He.fAd Γ.K ("word_bits", none)))
  a_digest_digest : Γ.mg "digest_digest" = some (.ref (He.fAd Γ.K ("digest", none)))
  a_digest_parts_digest : Γ.mg "digest_parts_digest" = some (.ref (He.fAd Γ.K ("digest_parts", none)))
  c_Digester : Cls Γ.K (Γ.cl 2)
  c_Sha256 : Cls Γ.K (Γ.cl 3)
  c_Sha512 : Cls Γ.K (Γ.cl 4)
  n_Digester__constants : NoAttr Γ.K (Γ.cl 2) "_constants"
  n_Digester__kind : NoAttr Γ.K (Γ.cl 2) "_kind"
  n_Digester__length : NoAttr Γ.K (Γ.cl 2) "_length"
  n_Digester__rest : NoAttr Γ.K (Γ.cl 2) "_rest"
  n_Digester__words : NoAttr Γ.K (Γ.cl 2) "_words"
  n_Sha256_block_size : NoAttr Γ.K (Γ.cl 3) "block_size"
  n_Sha256_name : NoAttr Γ.K (Γ.cl 3) "name"
  n_Sha256_size : NoAttr Γ.K (Γ.cl 3) "size"
  n_Sha512_block_size : NoAttr Γ.K (Γ.cl 4) "block_size"
  n_Sha512_name : NoAttr Γ.K (Γ.cl 4) "name"
  n_Sha512_size : NoAttr Γ.K (Γ.cl 4) "size"
  me_Digester_add : Meth Γ.K (Γ.cl 2) "add" (He.fAd Γ.K ("Digester", some "add"))
  me_Digester_length : Meth Γ.K (Γ.cl 2) "length" (He.fAd Γ.K ("Digester", some "length"))
  me_Digester_make_ready : Meth Γ.K (Γ.cl 2) "make_ready" (He.fAd Γ.K ("Digester", some "make_ready"))
  me_Digester_told : Meth Γ.K (Γ.cl 2) "told" (He.fAd Γ.K ("Digester", some "told"))
  me_Digester_twin : Meth Γ.K (Γ.cl 2) "twin" (He.fAd Γ.K ("Digester", some "twin"))
  me_Sha256_digest : Meth Γ.K (Γ.cl 3) "digest" (He.fAd Γ.K ("Sha256", some "digest"))
  me_Sha256_digest_parts : Meth Γ.K (Γ.cl 3) "digest_parts" (He.fAd Γ.K ("Sha256", some "digest_parts"))
  me_Sha256_pieces : Meth Γ.K (Γ.cl 3) "pieces" (He.fAd Γ.K ("Sha256", some "pieces"))
  me_Sha512_digest : Meth Γ.K (Γ.cl 4) "digest" (He.fAd Γ.K ("Sha512", some "digest"))
  me_Sha512_digest_parts : Meth Γ.K (Γ.cl 4) "digest_parts" (He.fAd Γ.K ("Sha512", some "digest_parts"))
  me_Sha512_pieces : Meth Γ.K (Γ.cl 4) "pieces" (He.fAd Γ.K ("Sha512", some "pieces"))
  mk_Digester : Mk Γ.K (Γ.cl 2) (He.fAd Γ.K ("Digester", some "__init__"))
  gc_Digester : Γ.mg "Digester" = some (.ref (Γ.cl 2))
  mk_Sha256 : Mk Γ.K (Γ.cl 3) (He.fAd Γ.K ("Sha256", some "__init__"))
  gc_Sha256 : Γ.mg "Sha256" = some (.ref (Γ.cl 3))
  mk_Sha512 : Mk Γ.K (Γ.cl 4) (He.fAd Γ.K ("Sha512", some "__init__"))
  gc_Sha512 : Γ.mg "Sha512" = some (.ref (Γ.cl 4))
  k_MESSAGE_LIMIT : Kon Γ "MESSAGE_LIMIT" w_MESSAGE_LIMIT
  k_WORDS : Kon Γ "WORDS" w_WORDS
  kd_SIZES : KonD Γ "SIZES" d_SIZES
  kd_TURNS : KonD Γ "TURNS" d_TURNS
  b_isqrt : Γ.mg "isqrt" = some (.builtin "math.isqrt")
  xo_OutOfRange : ExcOk Γ 1 "OutOfRange"
  gx_CurveError : Γ.mg "CurveError" = some (.ref (Γ.cl 0))
  gx_OutOfRange : Γ.mg "OutOfRange" = some (.ref (Γ.cl 1))
  xm_CurveError : ExmOk Γ m_CurveError 0
  xi_OutOfRange : IsiOk Γ m_OutOfRange 1
/-! check_kind -/
def c_check_kind : Cfg := ⟨["kind"], ["kind"], ["kind"], ["SIZES", "OutOfRange"], defScope (topS 13), true, true⟩
theorem ck_check_kind : cfgOk c_check_kind = true := by decide +kernel
theorem cs_check_kind : FnScope c_check_kind.N ["kind"] (defScope (topS 13)) := ⟨rfl, rfl, rfl, by decide +kernel, rfl, by decide +kernel, by decide +kernel⟩
theorem cb_check_kind : BindsN (topS 13) "check_kind" "check_kind" ["kind"] := fun _ _ _ _ _ _ us hl => match us, hl with | [_], _ => rfl
abbrev b_check_kind : XS :=
    sIf (xB (xKIn d_SIZES true (xVar 0))) (sRaise 1) (sSkip)
def F_check_kind : List W → Hm → Out W := mkF 1 b_check_kind
set_option maxHeartbeats 0 in
theorem ok_check_kind {Γ : Gam} (E : Env Γ) : CalD Γ 1 (He.fAd Γ.K ("check_kind", none)) ["kind"] F_check_kind := cal_mk (k := 0) E.d_check_kind cb_check_kind cs_check_kind ck_check_kind
    (sl_one (ss_if (st_knin 0 E.kd_SIZES (se_var 0 0) (by decide +kernel)) (sl_one (ss_raise 1 1 E.xo_OutOfRange)) (sl_nil)))
/-! word_bits -/
def c_word_bits : Cfg := ⟨["kind"], ["kind"], ["kind"], ["check_kind", "SIZES"], defScope (topS 14), true, true⟩
theorem ck_word_bits : cfgOk c_word_bits = true := by decide +kernel
theorem cs_word_bits : FnScope c_word_bits.N ["kind"] (defScope (topS 14)) := ⟨rfl, rfl, rfl, by decide +kernel, rfl, by decide +kernel, by decide +kernel⟩
theorem cb_word_bits : BindsN (topS 14) "word_bits" "word_bits" ["kind"] := fun _ _ _ _ _ _ us hl => match us, hl with | [_], _ => rfl
abbrev b_word_bits : XS :=
    sSeq (sExpr (xFn F_check_kind (xCons (xVar 0) (xNil))))
    (sRet (xBin ixW (xKGet d_SIZES (xVar 0)) (xK (.int 0))))
def F_word_bits : List W → Hm → Out W := mkF 1 b_word_bits
set_option maxHeartbeats 0 in
theorem ok_word_bits {Γ : Gam} (E : Env Γ) : CalD Γ 2 (He.fAd Γ.K ("word_bits", none)) ["kind"] F_word_bits := cal_mk (k := 1) E.d_word_bits cb_word_bits cs_word_bits ck_word_bits
    (sl_cons (ss_expr (se_cal 0 (Cal.of (ok_check_kind E) E.g_check_kind) (sa_cons (se_var 0 0) (sa_nil)) (len_cons (len_nil))))
    (sl_one (ss_ret (se_ix (se_kget 1 E.kd_SIZES (se_var 0 0) (by decide +kernel)) (se_int)))))
/-! to_little -/
def c_to_little : Cfg := ⟨["number", "size", "data", "_"], ["number", "size", "data", "_"], ["number", "size", "data", "_"], ["OutOfRange", "range"], defScope (topS 6), true, true⟩
theorem ck_to_little : cfgOk c_to_little = true := by decide +kernel
theorem cs_to_little : FnScope c_to_little.N ["number", "size"] (defScope (topS 6)) := ⟨rfl, rfl, rfl, by decide +kernel, rfl, by decide +kernel, by decide +kernel⟩
theorem cb_to_little : BindsN (topS 6) "to_little" "to_little" ["number", "size"] := fun _ _ _ _ _ _ us hl => match us, hl with | [_, _], _ => rfl
abbrev b_to_little : XS :=
    sSeq (sIf (xOrT (xB (xBin ltW (xVar 1) (xK (.int 0)))) (xB (xBin gtW (xVar 1) (xK (.int 4096))))) (sRaise 1) (sSkip))
    (sSeq (sIf (xOrT (xB (xBin ltW (xVar 0) (xK (.int 0)))) (xB (xBin neW (xBin shrW (xVar 0) (xBin mulW (xK (.int 8)) (xVar 1))) (xK (.int 0))))) (sRaise 1) (sSkip))
    (sSeq (sSet 2 (xLst (xNil)))
    (sSeq (sFor (iRng1 (xCons (xVar 1) (xNil))) (gN 3) (sSeq (sExpr (xMeth isL appW (xVar 2) (xCons (xBin andW (xVar 0) (xK (.int 255))) (xNil))))
    (sSet 0 (xBin shrW (xVar 0) (xK (.int 8))))))
    (sRet (xVar 2)))))
def F_to_little : List W → Hm → Out W := mkF 4 b_to_little
set_option maxHeartbeats 0 in
theorem ok_to_little {Γ : Gam} (E : Env Γ) : CalD Γ 1 (He.fAd Γ.K ("to_little", none)) ["number", "size"] F_to_little := cal_mk (k := 0) E.d_to_little cb_to_little cs_to_little ck_to_little
    (sl_cons (ss_if (st_w (sw_or (st_cmp os_lt (se_var 1 1) (se_int)) (sw_one (st_cmp os_gt (se_var 1 1) (se_int))))) (sl_one (ss_raise 0 1 E.xo_OutOfRange)) (sl_nil))
    (sl_cons (ss_if (st_w (sw_or (st_cmp os_lt (se_var 0 0) (se_int)) (sw_one (st_cmp os_ne (se_bin os_shr (se_var 0 0) (se_bin os_mul (se_int) (se_var 1 1))) (se_int))))) (sl_one (ss_raise 0 1 E.xo_OutOfRange)) (sl_nil))
    (sl_cons (ss_set 2 2 (se_lst (sa_nil)))
    (sl_cons (ss_for (si_rng1 1 E.B (sa_cons (se_var 1 1) (sa_nil))) (sg_name 3 3) (sl_cons (ss_expr (e_append (se_var 2 2) (sa_cons (se_bin os_and (se_var 0 0) (se_int)) (sa_nil))))
    (sl_one (ss_set 0 0 (se_bin os_shr (se_var 0 0) (se_int))))))
    (sl_one (ss_ret (se_var 2 2)))))))
/-! to_big -/
def c_to_big : Cfg := ⟨["number", "size"], ["number", "size"], ["number", "size"], ["list", "reversed", "to_little"], defScope (topS 7), true, true⟩
theorem ck_to_big : cfgOk c_to_big = true := by decide +kernel
theorem cs_to_big : FnScope c_to_big.N ["number", "size"] (defScope (topS 7)) := ⟨rfl, rfl, rfl, by decide +kernel, rfl, by decide +kernel, by decide +kernel⟩
theorem cb_to_big : BindsN (topS 7) "to_big" "to_big" ["number", "size"] := fun _ _ _ _ _ _ us hl => match us, hl with | [_, _], _ => rfl
abbrev b_to_big : XS :=
    sRet (xCall revW (xCons (xFn F_to_little (xCons (xVar 0) (xCons (xVar 1) (xNil)))) xNil))
def F_to_big : List W → Hm → Out W := mkF 2 b_to_big
set_option maxHeartbeats 0 in
theorem ok_to_big {Γ : Gam} (E : Env Γ) : CalD Γ 2 (He.fAd Γ.K ("to_big", none)) ["number", "size"] F_to_big := cal_mk (k := 1) E.d_to_big cb_to_big cs_to_big ck_to_big
    (sl_one (ss_ret (se_lrev 0 1 E.B (se_cal 2 (Cal.of (ok_to_little E) E.g_to_little) (sa_cons (se_var 0 0) (sa_cons (se_var 1 1) (sa_nil))) (len_cons (len_cons (len_nil)))))))
/-! compress_with -/
def c_compress_with : Cfg := ⟨["kind", "constants", "words", "inputs", "bits", "mask", "one", "two", "three", "four", "five", "six", "a", "b", "c", "d", "e", "f", "g", "h", "constant", "added", "wide", "first", "second", "mixed", "old", "new"], ["kind", "constants", "words", "inputs", "bits", "mask", "one", "two", "three", "four", "five", "six", "a", "b", "c", "d", "e", "f", "g", "h", "constant", "added", "wide", "first", "second", "mixed"], ["kind", "constants", "words", "inputs", "bits", "mask", "one", "two", "three", "four", "five", "six", "a", "b", "c", "d", "e", "f", "g", "h", "constant", "added", "wide", "first", "second", "mixed"], ["word_bits", "TURNS", "zip"], defScope (topS 23), true, true⟩
theorem ck_compress_with : cfgOk c_compress_with = true := by decide +kernel
theorem cs_compress_with : FnScope c_compress_with.N ["kind", "constants", "words", "inputs"] (defScope (topS 23)) := ⟨rfl, rfl, rfl, by decide +kernel, rfl, by decide +kernel, by decide +kernel⟩
theorem cb_compress_with : BindsN (topS 23) "compress_with" "compress_with" ["kind", "constants", "words", "inputs"] := fun _ _ _ _ _ _ us hl => match us, hl with | [_, _, _, _], _ => rfl
abbrev b_compress_with : XS :=
    sSeq (sSet 4 (xFn F_word_bits (xCons (xVar 0) (xNil))))
    (sSeq (sSet 5 (xBin subW (xBin shlW (xK (.int 1)) (xVar 4)) (xK (.int 1))))
    (sSeq (sAsg (gT (gsCons (gN 6) (gsCons (gN 7) (gsCons (gN 8) (gsNil))))) (xKGet d_TURNS (xTup (xCons (xVar 0) (xCons (xK (.str "sum_one")) (xNil))))))
    (sSeq (sAsg (gT (gsCons (gN 9) (gsCons (gN 10) (gsCons (gN 11) (gsNil))))) (xKGet d_TURNS (xTup (xCons (xVar 0) (xCons (xK (.str "sum_zero")) (xNil))))))
    (sSeq (sAsg (gT (gsCons (gN 12) (gsCons (gN 13) (gsCons (gN 14) (gsCons (gN 15) (gsCons (gN 16) (gsCons (gN 17) (gsCons (gN 18) (gsCons (gN 19) (gsNil)))))))))) (xVar 2))
    (sSeq (sFor (iZip (xCons (xVar 1) (xCons (xVar 3) (xNil)))) (gT (gsCons (gN 20) (gsCons (gN 21) (gsNil)))) (sSeq (sSet 22 (xBin orW (xVar 16) (xBin shlW (xVar 16) (xVar 4))))
    (sSeq (sSet 23 (xBin addW (xBin addW (xBin addW (xBin addW (xVar 19) (xBin andW (xBin xorW (xBin xorW (xBin shrW (xVar 22) (xVar 6)) (xBin shrW (xVar 22) (xVar 7))) (xBin shrW (xVar 22) (xVar 8))) (xVar 5))) (xBin xorW (xBin andW (xBin xorW (xVar 17) (xVar 18)) (xVar 16)) (xVar 18))) (xVar 20)) (xVar 21)))
    (sSeq (sSet 22 (xBin orW (xVar 12) (xBin shlW (xVar 12) (xVar 4))))
    (sSeq (sSet 24 (xBin addW (xBin andW (xBin xorW (xBin xorW (xBin shrW (xVar 22) (xVar 9)) (xBin shrW (xVar 22) (xVar 10))) (xBin shrW (xVar 22) (xVar 11))) (xVar 5)) (xBin xorW (xBin xorW (xBin andW (xVar 12) (xVar 13)) (xBin andW (xVar 12) (xVar 14))) (xBin andW (xVar 13) (xVar 14)))))
    (sSeq (sAsg (gT (gsCons (gN 19) (gsCons (gN 18) (gsCons (gN 17) (gsCons (gN 16) (gsCons (gN 15) (gsCons (gN 14) (gsCons (gN 13) (gsNil))))))))) (xTup (xCons (xVar 18) (xCons (xVar 17) (xCons (xVar 16) (xCons (xBin andW (xBin addW (xVar 15) (xVar 23)) (xVar 5)) (xCons (xVar 14) (xCons (xVar 13) (xCons (xVar 12) (xNil))))))))))
    (sSet 12 (xBin andW (xBin addW (xVar 23) (xVar 24)) (xVar 5)))))))))
    (sSeq (sSet 25 (xLst (xCons (xVar 12) (xCons (xVar 13) (xCons (xVar 14) (xCons (xVar 15) (xCons (xVar 16) (xCons (xVar 17) (xCons (xVar 18) (xCons (xVar 19) (xNil)))))))))))
    (sRet (xComp (iZip (xCons (xVar 2) (xCons (xVar 25) (xNil)))) (gT (gsCons (gN 26) (gsCons (gN 27) (gsNil)))) (xTrue) (xBin andW (xBin addW (xVar 26) (xVar 27)) (xVar 5)) [26, 27]))))))))
def F_compress_with : List W → Hm → Out W := mkF 28 b_compress_with
set_option maxHeartbeats 0 in
theorem ok_compress_with {Γ : Gam} (E : Env Γ) : CalD Γ 3 (He.fAd Γ.K ("compress_with", none)) ["kind", "constants", "words", "inputs"] F_compress_with := cal_mk (k := 2) E.d_compress_with cb_compress_with cs_compress_with ck_compress_with
    (sl_cons (ss_set 4 4 (se_cal 0 (Cal.of (ok_word_bits E) E.g_word_bits) (sa_cons (se_var 0 0) (sa_nil)) (len_cons (len_nil))))
    (sl_cons (ss_set 5 5 (se_bin os_sub (se_bin os_shl (se_int) (se_var 4 4)) (se_int)))
    (sl_cons (ss_asg (se_kgetT 1 E.kd_TURNS (se_tup (sa_cons (se_var 0 0) (sa_cons (se_str) (sa_nil)))) (by decide +kernel)) (sg_tup (sgs_cons (sg_name 6 6) (sgs_cons (sg_name 7 7) (sgs_cons (sg_name 8 8) (sgs_nil)))) (gs_lenS (gs_lenS (gs_lenS (gs_len0))))))
    (sl_cons (ss_asg (se_kgetT 1 E.kd_TURNS (se_tup (sa_cons (se_var 0 0) (sa_cons (se_str) (sa_nil)))) (by decide +kernel)) (sg_tup (sgs_cons (sg_name 9 9) (sgs_cons (sg_name 10 10) (sgs_cons (sg_name 11 11) (sgs_nil)))) (gs_lenS (gs_lenS (gs_lenS (gs_len0))))))
    (sl_cons (ss_asg (se_var 2 2) (sg_tup (sgs_cons (sg_name 12 12) (sgs_cons (sg_name 13 13) (sgs_cons (sg_name 14 14) (sgs_cons (sg_name 15 15) (sgs_cons (sg_name 16 16) (sgs_cons (sg_name 17 17) (sgs_cons (sg_name 18 18) (sgs_cons (sg_name 19 19) (sgs_nil))))))))) (gs_lenS (gs_lenS (gs_lenS (gs_lenS (gs_lenS (gs_lenS (gs_lenS (gs_lenS (gs_len0)))))))))))
    (sl_cons (ss_for (si_zip 2 E.B (sa_cons (se_var 1 1) (sa_cons (se_var 3 3) (sa_nil)))) (sg_tup (sgs_cons (sg_name 20 20) (sgs_cons (sg_name 21 21) (sgs_nil))) (gs_lenS (gs_lenS (gs_len0)))) (sl_cons (ss_set 22 22 (se_bin os_or (se_var 16 16) (se_bin os_shl (se_var 16 16) (se_var 4 4))))
    (sl_cons (ss_set 23 23 (se_bin os_add (se_bin os_add (se_bin os_add (se_bin os_add (se_var 19 19) (se_bin os_and (se_bin os_xor (se_bin os_xor (se_bin os_shr (se_var 22 22) (se_var 6 6)) (se_bin os_shr (se_var 22 22) (se_var 7 7))) (se_bin os_shr (se_var 22 22) (se_var 8 8))) (se_var 5 5))) (se_bin os_xor (se_bin os_and (se_bin os_xor (se_var 17 17) (se_var 18 18)) (se_var 16 16)) (se_var 18 18))) (se_var 20 20)) (se_var 21 21)))
    (sl_cons (ss_set 22 22 (se_bin os_or (se_var 12 12) (se_bin os_shl (se_var 12 12) (se_var 4 4))))
    (sl_cons (ss_set 24 24 (se_bin os_add (se_bin os_and (se_bin os_xor (se_bin os_xor (se_bin os_shr (se_var 22 22) (se_var 9 9)) (se_bin os_shr (se_var 22 22) (se_var 10 10))) (se_bin os_shr (se_var 22 22) (se_var 11 11))) (se_var 5 5)) (se_bin os_xor (se_bin os_xor (se_bin os_and (se_var 12 12) (se_var 13 13)) (se_bin os_and (se_var 12 12) (se_var 14 14))) (se_bin os_and (se_var 13 13) (se_var 14 14)))))
    (sl_cons (ss_asg (se_tup (sa_cons (se_var 18 18) (sa_cons (se_var 17 17) (sa_cons (se_var 16 16) (sa_cons (se_bin os_and (se_bin os_add (se_var 15 15) (se_var 23 23)) (se_var 5 5)) (sa_cons (se_var 14 14) (sa_cons (se_var 13 13) (sa_cons (se_var 12 12) (sa_nil))))))))) (sg_tup (sgs_cons (sg_name 19 19) (sgs_cons (sg_name 18 18) (sgs_cons (sg_name 17 17) (sgs_cons (sg_name 16 16) (sgs_cons (sg_name 15 15) (sgs_cons (sg_name 14 14) (sgs_cons (sg_name 13 13) (sgs_nil)))))))) (gs_lenS (gs_lenS (gs_lenS (gs_lenS (gs_lenS (gs_lenS (gs_lenS (gs_len0))))))))))
    (sl_one (ss_set 12 12 (se_bin os_and (se_bin os_add (se_var 23 23) (se_var 24 24)) (se_var 5 5))))))))))
    (sl_cons (ss_set 25 25 (se_lst (sa_cons (se_var 12 12) (sa_cons (se_var 13 13) (sa_cons (se_var 14 14) (sa_cons (se_var 15 15) (sa_cons (se_var 16 16) (sa_cons (se_var 17 17) (sa_cons (se_var 18 18) (sa_cons (se_var 19 19) (sa_nil)))))))))))
    (sl_one (ss_ret (se_lc [("old", 26), ("new", 27)] ["old", "new", "mask"] ["old", "new"] [] (si_zip 2 E.B (sa_cons (se_var 2 2) (sa_cons (se_var 25 25) (sa_nil)))) (so_tup (sos_cons (so_name 26 0) (sos_cons (so_name 27 1) (sos_nil))) (gs_lenS (gs_lenS (gs_len0)))) (sts_nil) (se_bin os_and (se_bin os_add (se_var 26 0) (se_var 27 1)) (se_var 5 2)) (by decide +kernel) (by decide +kernel)))))))))))
/-! from_big -/
def c_from_big : Cfg := ⟨["data", "number", "byte"], ["data", "number", "byte"], ["data", "number", "byte"], [], defScope (topS 8), true, true⟩
theorem ck_from_big : cfgOk c_from_big = true := by decide +kernel
theorem cs_from_big : FnScope c_from_big.N ["data"] (defScope (topS 8)) := ⟨rfl, rfl, rfl, by decide +kernel, rfl, by decide +kernel, by decide +kernel⟩
theorem cb_from_big : BindsN (topS 8) "from_big" "from_big" ["data"] := fun _ _ _ _ _ _ us hl => match us, hl with | [_], _ => rfl
abbrev b_from_big : XS :=
    sSeq (sSet 1 (xK (.int 0)))
    (sSeq (sFor (iAny (xVar 0)) (gN 2) (sSet 1 (xBin addW (xBin mulW (xVar 1) (xK (.int 256))) (xVar 2))))
    (sRet (xVar 1)))
def F_from_big : List W → Hm → Out W := mkF 3 b_from_big
set_option maxHeartbeats 0 in
theorem ok_from_big {Γ : Gam} (E : Env Γ) : CalD Γ 1 (He.fAd Γ.K ("from_big", none)) ["data"] F_from_big := cal_mk (k := 0) E.d_from_big cb_from_big cs_from_big ck_from_big
    (sl_cons (ss_set 1 1 (se_int))
    (sl_cons (ss_for (si_any (se_var 0 0)) (sg_name 2 2) (sl_one (ss_set 1 1 (se_bin os_add (se_bin os_mul (se_var 1 1) (se_int)) (se_var 2 2)))))
    (sl_one (ss_ret (se_var 1 1)))))
/-! block_size -/
def c_block_size : Cfg := ⟨["kind"], ["kind"], ["kind"], ["check_kind", "SIZES"], defScope (topS 15), true, true⟩
theorem ck_block_size : cfgOk c_block_size = true := by decide +kernel
theorem cs_block_size : FnScope c_block_size.N ["kind"] (defScope (topS 15)) := ⟨rfl, rfl, rfl, by decide +kernel, rfl, by decide +kernel, by decide +kernel⟩
theorem cb_block_size : BindsN (topS 15) "block_size" "block_size" ["kind"] := fun _ _ _ _ _ _ us hl => match us, hl with | [_], _ => rfl
abbrev b_block_size : XS :=
    sSeq (sExpr (xFn F_check_kind (xCons (xVar 0) (xNil))))
    (sRet (xBin ixW (xKGet d_SIZES (xVar 0)) (xK (.int 1))))
def F_block_size : List W → Hm → Out W := mkF 1 b_block_size
set_option maxHeartbeats 0 in
theorem ok_block_size {Γ : Gam} (E : Env Γ) : CalD Γ 2 (He.fAd Γ.K ("block_size", none)) ["kind"] F_block_size := cal_mk (k := 1) E.d_block_size cb_block_size cs_block_size ck_block_size
    (sl_cons (ss_expr (se_cal 0 (Cal.of (ok_check_kind E) E.g_check_kind) (sa_cons (se_var 0 0) (sa_nil)) (len_cons (len_nil))))
    (sl_one (ss_ret (se_ix (se_kget 1 E.kd_SIZES (se_var 0 0) (by decide +kernel)) (se_int)))))
/-! schedule -/
def c_schedule : Cfg := ⟨["kind", "block", "bits", "size", "rounds", "_", "mask", "step", "words", "far_one", "far_two", "far_three", "near_one", "near_two", "near_three", "at", "far", "near", "word"], ["kind", "block", "bits", "size", "rounds", "_", "mask", "step", "words", "far_one", "far_two", "far_three", "near_one", "near_two", "near_three", "at", "far", "near", "word"], ["kind", "block", "bits", "size", "rounds", "_", "mask", "step", "words", "far_one", "far_two", "far_three", "near_one", "near_two", "near_three", "at", "far", "near", "word"], ["len", "block_size", "OutOfRange", "SIZES", "range", "TURNS"], defScope (topS 22), true, true⟩
theorem ck_schedule : cfgOk c_schedule = true := by decide +kernel
theorem cs_schedule : FnScope c_schedule.N ["kind", "block"] (defScope (topS 22)) := ⟨rfl, rfl, rfl, by decide +kernel, rfl, by decide +kernel, by decide +kernel⟩
theorem cb_schedule : BindsN (topS 22) "schedule" "schedule" ["kind", "block"] := fun _ _ _ _ _ _ us hl => match us, hl with | [_, _], _ => rfl
abbrev b_schedule : XS :=
    sSeq (sIf (xB (xBin neW (xCall lenW (xCons (xVar 1) (xNil))) (xFn F_block_size (xCons (xVar 0) (xNil))))) (sRaise 1) (sSkip))
    (sSeq (sAsg (gT (gsCons (gN 2) (gsCons (gN 3) (gsCons (gN 4) (gsCons (gN 5) (gsCons (gN 5) (gsNil))))))) (xKGet d_SIZES (xVar 0)))
    (sSeq (sSet 6 (xBin subW (xBin shlW (xK (.int 1)) (xVar 2)) (xK (.int 1))))
    (sSeq (sSet 7 (xBin fdivW (xVar 2) (xK (.int 8))))
    (sSeq (sSet 8 (xComp (iRng3 (xCons (xK (.int 0)) (xCons (xVar 3) (xCons (xVar 7) (xNil))))) (gN 15) (xTrue) (xFn F_from_big (xCons (xSl (xVar 1) (xoSome (xVar 15)) (xoSome (xBin addW (xVar 15) (xVar 7)))) (xNil))) [15]))
    (sSeq (sAsg (gT (gsCons (gN 9) (gsCons (gN 10) (gsCons (gN 11) (gsNil))))) (xKGet d_TURNS (xTup (xCons (xVar 0) (xCons (xK (.str "turn_zero")) (xNil))))))
    (sSeq (sAsg (gT (gsCons (gN 12) (gsCons (gN 13) (gsCons (gN 14) (gsNil))))) (xKGet d_TURNS (xTup (xCons (xVar 0) (xCons (xK (.str "turn_one")) (xNil))))))
    (sSeq (sFor (iRng2 (xCons (xK (.int 16)) (xCons (xVar 4) (xNil)))) (gN 15) (sSeq (sSet 16 (xBin orW (xBin ixW (xVar 8) (xBin subW (xVar 15) (xK (.int 15)))) (xBin shlW (xBin ixW (xVar 8) (xBin subW (xVar 15) (xK (.int 15)))) (xVar 2))))
    (sSeq (sSet 17 (xBin orW (xBin ixW (xVar 8) (xBin subW (xVar 15) (xK (.int 2)))) (xBin shlW (xBin ixW (xVar 8) (xBin subW (xVar 15) (xK (.int 2)))) (xVar 2))))
    (sSeq (sSet 18 (xBin andW (xBin xorW (xBin xorW (xBin shrW (xVar 16) (xVar 9)) (xBin shrW (xVar 16) (xVar 10))) (xBin shrW (xBin ixW (xVar 8) (xBin subW (xVar 15) (xK (.int 15)))) (xVar 11))) (xVar 6)))
    (sSeq (sSet 18 (xBin addW (xVar 18) (xBin andW (xBin xorW (xBin xorW (xBin shrW (xVar 17) (xVar 12)) (xBin shrW (xVar 17) (xVar 13))) (xBin shrW (xBin ixW (xVar 8) (xBin subW (xVar 15) (xK (.int 2)))) (xVar 14))) (xVar 6))))
    (sExpr (xMeth isL appW (xVar 8) (xCons (xBin andW (xBin addW (xBin addW (xVar 18) (xBin ixW (xVar 8) (xBin subW (xVar 15) (xK (.int 7))))) (xBin ixW (xVar 8) (xBin subW (xVar 15) (xK (.int 16))))) (xVar 6)) (xNil)))))))))
    (sRet (xVar 8)))))))))
def F_schedule : List W → Hm → Out W := mkF 19 b_schedule
set_option maxHeartbeats 0 in
theorem ok_schedule {Γ : Gam} (E : Env Γ) : CalD Γ 3 (He.fAd Γ.K ("schedule", none)) ["kind", "block"] F_schedule := cal_mk (k := 2) E.d_schedule cb_schedule cs_schedule ck_schedule
    (sl_cons (ss_if (st_cmp os_ne (e_len 0 E.B (sa_cons (se_var 1 1) (sa_nil))) (se_cal 1 (Cal.of (ok_block_size E) E.g_block_size) (sa_cons (se_var 0 0) (sa_nil)) (len_cons (len_nil)))) (sl_one (ss_raise 2 1 E.xo_OutOfRange)) (sl_nil))
    (sl_cons (ss_asg (se_kget 3 E.kd_SIZES (se_var 0 0) (by decide +kernel)) (sg_tup (sgs_cons (sg_name 2 2) (sgs_cons (sg_name 3 3) (sgs_cons (sg_name 4 4) (sgs_cons (sg_name 5 5) (sgs_cons (sg_name 5 5) (sgs_nil)))))) (gs_lenS (gs_lenS (gs_lenS (gs_lenS (gs_lenS (gs_len0))))))))
    (sl_cons (ss_set 6 6 (se_bin os_sub (se_bin os_shl (se_int) (se_var 2 2)) (se_int)))
    (sl_cons (ss_set 7 7 (se_bin os_fdiv (se_var 2 2) (se_int)))
    (sl_cons (ss_lc 8 8 [("at", 15)] ["at", "block", "step"] ["at"] ["from_big"] (si_rng3 4 E.B (sa_cons (se_int) (sa_cons (se_var 3 3) (sa_cons (se_var 7 7) (sa_nil))))) (so_name 15 0) (sts_nil) (se_cal 0 (Cal.of (ok_from_big E) E.g_from_big) (sa_cons (se_sl (se_var 1 1) (so_some (se_var 15 0)) (so_some (se_bin os_add (se_var 15 0) (se_var 7 2)))) (sa_nil)) (len_cons (len_nil))) (by decide +kernel) (by decide +kernel) (by decide +kernel) (by decide +kernel))
    (sl_cons (ss_asg (se_kgetT 5 E.kd_TURNS (se_tup (sa_cons (se_var 0 0) (sa_cons (se_str) (sa_nil)))) (by decide +kernel)) (sg_tup (sgs_cons (sg_name 9 9) (sgs_cons (sg_name 10 10) (sgs_cons (sg_name 11 11) (sgs_nil)))) (gs_lenS (gs_lenS (gs_lenS (gs_len0))))))
    (sl_cons (ss_asg (se_kgetT 5 E.kd_TURNS (se_tup (sa_cons (se_var 0 0) (sa_cons (se_str) (sa_nil)))) (by decide +kernel)) (sg_tup (sgs_cons (sg_name 12 12) (sgs_cons (sg_name 13 13) (sgs_cons (sg_name 14 14) (sgs_nil)))) (gs_lenS (gs_lenS (gs_lenS (gs_len0))))))
    (sl_cons (ss_for (si_rng2 4 E.B (sa_cons (se_int) (sa_cons (se_var 4 4) (sa_nil)))) (sg_name 15 15) (sl_cons (ss_set 16 16 (se_bin os_or (se_ix (se_var 8 8) (se_bin os_sub (se_var 15 15) (se_int))) (se_bin os_shl (se_ix (se_var 8 8) (se_bin os_sub (se_var 15 15) (se_int))) (se_var 2 2))))
    (sl_cons (ss_set 17 17 (se_bin os_or (se_ix (se_var 8 8) (se_bin os_sub (se_var 15 15) (se_int))) (se_bin os_shl (se_ix (se_var 8 8) (se_bin os_sub (se_var 15 15) (se_int))) (se_var 2 2))))
    (sl_cons (ss_set 18 18 (se_bin os_and (se_bin os_xor (se_bin os_xor (se_bin os_shr (se_var 16 16) (se_var 9 9)) (se_bin os_shr (se_var 16 16) (se_var 10 10))) (se_bin os_shr (se_ix (se_var 8 8) (se_bin os_sub (se_var 15 15) (se_int))) (se_var 11 11))) (se_var 6 6)))
    (sl_cons (ss_set 18 18 (se_bin os_add (se_var 18 18) (se_bin os_and (se_bin os_xor (se_bin os_xor (se_bin os_shr (se_var 17 17) (se_var 12 12)) (se_bin os_shr (se_var 17 17) (se_var 13 13))) (se_bin os_shr (se_ix (se_var 8 8) (se_bin os_sub (se_var 15 15) (se_int))) (se_var 14 14))) (se_var 6 6))))
    (sl_one (ss_expr (e_append (se_var 8 8) (sa_cons (se_bin os_and (se_bin os_add (se_bin os_add (se_var 18 18) (se_ix (se_var 8 8) (se_bin os_sub (se_var 15 15) (se_int)))) (se_ix (se_var 8 8) (se_bin os_sub (se_var 15 15) (se_int)))) (se_var 6 6)) (sa_nil))))))))))
    (sl_one (ss_ret (se_var 8 8)))))))))))
/-! first_primes -/
def c_first_primes : Cfg := ⟨["count", "primes", "number", "prime"], ["count", "primes", "number"], ["count", "primes", "number"], ["len", "all"], defScope (topS 18), true, true⟩
theorem ck_first_primes : cfgOk c_first_primes = true := by decide +kernel
theorem cs_first_primes : FnScope c_first_primes.N ["count"] (defScope (topS 18)) := ⟨rfl, rfl, rfl, by decide +kernel, rfl, by decide +kernel, by decide +kernel⟩
theorem cb_first_primes : BindsN (topS 18) "first_primes" "first_primes" ["count"] := fun _ _ _ _ _ _ us hl => match us, hl with | [_], _ => rfl
abbrev b_first_primes : XS :=
    sSeq (sSet 1 (xLst (xNil)))
    (sSeq (sSet 2 (xK (.int 2)))
    (sSeq (sWhile (xB (xBin ltW (xCall lenW (xCons (xVar 1) (xNil))) (xVar 0))) (sSeq (sIf (xB (xCall allW (xCons (xComp (iAny (xVar 1)) (gN 3) (xTrue) (xBin neW (xBin modW (xVar 2) (xVar 3)) (xK (.int 0))) [3]) (xNil)))) (sExpr (xMeth isL appW (xVar 1) (xCons (xVar 2) (xNil)))) (sSkip))
    (sSet 2 (xBin addW (xVar 2) (xK (.int 1))))) fuel)
    (sRet (xVar 1))))
def F_first_primes : List W → Hm → Out W := mkF 4 b_first_primes
set_option maxHeartbeats 0 in
theorem ok_first_primes {Γ : Gam} (E : Env Γ) : CalD Γ 1 (He.fAd Γ.K ("first_primes", none)) ["count"] F_first_primes := cal_mk (k := 0) E.d_first_primes cb_first_primes cs_first_primes ck_first_primes
    (sl_cons (ss_set 1 1 (se_lst (sa_nil)))
    (sl_cons (ss_set 2 2 (se_int))
    (sl_cons (ss_while (st_cmp os_lt (e_len 0 E.B (sa_cons (se_var 1 1) (sa_nil))) (se_var 0 0)) (sl_cons (ss_if (st_val (e_all 1 E.B (sa_cons (se_lc [("prime", 3)] ["prime", "number"] ["prime"] [] (si_any (se_var 1 1)) (so_name 3 0) (sts_nil) (se_cmp os_ne (se_bin os_mod (se_var 2 1) (se_var 3 0)) (se_int)) (by decide +kernel) (by decide +kernel)) (sa_nil)))) (sl_one (ss_expr (e_append (se_var 1 1) (sa_cons (se_var 2 2) (sa_nil))))) (sl_nil))
    (sl_one (ss_set 2 2 (se_bin os_add (se_var 2 2) (se_int))))))
    (sl_one (ss_ret (se_var 1 1))))))
/-! whole_cube_root -/
def c_whole_cube_root : Cfg := ⟨["number", "start", "root", "better"], ["number", "start", "root", "better"], ["number", "start", "root", "better"], [], defScope (topS 19), true, true⟩
theorem ck_whole_cube_root : cfgOk c_whole_cube_root = true := by decide +kernel
theorem cs_whole_cube_root : FnScope c_whole_cube_root.N ["number", "start"] (defScope (topS 19)) := ⟨rfl, rfl, rfl, by decide +kernel, rfl, by decide +kernel, by decide +kernel⟩
theorem cb_whole_cube_root : BindsN (topS 19) "whole_cube_root" "whole_cube_root" ["number", "start"] := fun _ _ _ _ _ _ us hl => match us, hl with | [_, _], _ => rfl
abbrev b_whole_cube_root : XS :=
    sSeq (sSet 2 (xVar 1))
    (sSeq (sSet 3 (xBin fdivW (xBin addW (xBin mulW (xK (.int 2)) (xVar 2)) (xBin fdivW (xVar 0) (xBin mulW (xVar 2) (xVar 2)))) (xK (.int 3))))
    (sSeq (sWhile (xB (xBin ltW (xVar 3) (xVar 2))) (sSeq (sSet 2 (xVar 3))
    (sSet 3 (xBin fdivW (xBin addW (xBin mulW (xK (.int 2)) (xVar 2)) (xBin fdivW (xVar 0) (xBin mulW (xVar 2) (xVar 2)))) (xK (.int 3))))) fuel)
    (sRet (xVar 2))))
def F_whole_cube_root : List W → Hm → Out W := mkF 4 b_whole_cube_root
set_option maxHeartbeats 0 in
theorem ok_whole_cube_root {Γ : Gam} (E : Env Γ) : CalD Γ 1 (He.fAd Γ.K ("whole_cube_root", none)) ["number", "start"] F_whole_cube_root := cal_mk (k := 0) E.d_whole_cube_root cb_whole_cube_root cs_whole_cube_root ck_whole_cube_root
    (sl_cons (ss_set 2 2 (se_var 1 1))
    (sl_cons (ss_set 3 3 (se_bin os_fdiv (se_bin os_add (se_bin os_mul (se_int) (se_var 2 2)) (se_bin os_fdiv (se_var 0 0) (se_bin os_mul (se_var 2 2) (se_var 2 2)))) (se_int)))
    (sl_cons (ss_while (st_cmp os_lt (se_var 3 3) (se_var 2 2)) (sl_cons (ss_set 2 2 (se_var 3 3))
    (sl_one (ss_set 3 3 (se_bin os_fdiv (se_bin os_add (se_bin os_mul (se_int) (se_var 2 2)) (se_bin os_fdiv (se_var 0 0) (se_bin os_mul (se_var 2 2) (se_var 2 2)))) (se_int))))))
    (sl_one (ss_ret (se_var 2 2))))))
/-! round_constants -/
def c_round_constants : Cfg := ⟨["kind", "bits", "_", "rounds", "constants", "root", "prime"], ["kind", "bits", "_", "rounds", "constants", "root", "prime"], ["kind", "bits", "_", "rounds", "constants", "root", "prime"], ["check_kind", "SIZES", "first_primes", "whole_cube_root"], defScope (topS 20), true, true⟩
theorem ck_round_constants : cfgOk c_round_constants = true := by decide +kernel
theorem cs_round_constants : FnScope c_round_constants.N ["kind"] (defScope (topS 20)) := ⟨rfl, rfl, rfl, by decide +kernel, rfl, by decide +kernel, by decide +kernel⟩
theorem cb_round_constants : BindsN (topS 20) "round_constants" "round_constants" ["kind"] := fun _ _ _ _ _ _ us hl => match us, hl with | [_], _ => rfl
abbrev b_round_constants : XS :=
    sSeq (sExpr (xFn F_check_kind (xCons (xVar 0) (xNil))))
    (sSeq (sAsg (gT (gsCons (gN 1) (gsCons (gN 2) (gsCons (gN 3) (gsCons (gN 2) (gsCons (gN 2) (gsNil))))))) (xKGet d_SIZES (xVar 0)))
    (sSeq (sSet 4 (xLst (xNil)))
    (sSeq (sSet 5 (xBin shlW (xK (.int 1)) (xVar 1)))
    (sSeq (sFor (iAny (xFn F_first_primes (xCons (xVar 3) (xNil)))) (gN 6) (sSeq (sSet 5 (xFn F_whole_cube_root (xCons (xBin shlW (xVar 6) (xBin mulW (xK (.int 3)) (xVar 1))) (xCons (xBin mulW (xK (.int 2)) (xVar 5)) (xNil)))))
    (sExpr (xMeth isL appW (xVar 4) (xCons (xBin andW (xVar 5) (xBin subW (xBin shlW (xK (.int 1)) (xVar 1)) (xK (.int 1)))) (xNil))))))
    (sRet (xVar 4))))))
def F_round_constants : List W → Hm → Out W := mkF 7 b_round_constants
set_option maxHeartbeats 0 in
theorem ok_round_constants {Γ : Gam} (E : Env Γ) : CalD Γ 2 (He.fAd Γ.K ("round_constants", none)) ["kind"] F_round_constants := cal_mk (k := 1) E.d_round_constants cb_round_constants cs_round_constants ck_round_constants
    (sl_cons (ss_expr (se_cal 0 (Cal.of (ok_check_kind E) E.g_check_kind) (sa_cons (se_var 0 0) (sa_nil)) (len_cons (len_nil))))
    (sl_cons (ss_asg (se_kget 1 E.kd_SIZES (se_var 0 0) (by decide +kernel)) (sg_tup (sgs_cons (sg_name 1 1) (sgs_cons (sg_name 2 2) (sgs_cons (sg_name 3 3) (sgs_cons (sg_name 2 2) (sgs_cons (sg_name 2 2) (sgs_nil)))))) (gs_lenS (gs_lenS (gs_lenS (gs_lenS (gs_lenS (gs_len0))))))))
    (sl_cons (ss_set 4 4 (se_lst (sa_nil)))
    (sl_cons (ss_set 5 5 (se_bin os_shl (se_int) (se_var 1 1)))
    (sl_cons (ss_for (si_any (se_cal 2 (Cal.of (ok_first_primes E) E.g_first_primes) (sa_cons (se_var 3 3) (sa_nil)) (len_cons (len_nil)))) (sg_name 6 6) (sl_cons (ss_set 5 5 (se_cal 3 (Cal.of (ok_whole_cube_root E) E.g_whole_cube_root) (sa_cons (se_bin os_shl (se_var 6 6) (se_bin os_mul (se_int) (se_var 1 1))) (sa_cons (se_bin os_mul (se_int) (se_var 5 5)) (sa_nil))) (len_cons (len_cons (len_nil)))))
    (sl_one (ss_expr (e_append (se_var 4 4) (sa_cons (se_bin os_and (se_var 5 5) (se_bin os_sub (se_bin os_shl (se_int) (se_var 1 1)) (se_int))) (sa_nil)))))))
    (sl_one (ss_ret (se_var 4 4))))))))
/-! Digester.make_ready -/
def c_Digester_make_ready : Cfg := ⟨["self"], ["self"], ["self"], ["round_constants"], defScope (inClass (topS 27) 1), true, true⟩
theorem ck_Digester_make_ready : cfgOk c_Digester_make_ready = true := by decide +kernel
theorem cs_Digester_make_ready : FnScope c_Digester_make_ready.N ["self"] (defScope (inClass (topS 27) 1)) := ⟨rfl, rfl, rfl, by decide +kernel, rfl, by decide +kernel, by decide +kernel⟩
theorem cb_Digester_make_ready : BindsN (inClass (topS 27) 1) "make_ready" "Digester.make_ready" ["self"] := fun _ _ _ _ _ _ us hl => match us, hl with | [_], _ => rfl
abbrev b_Digester_make_ready : XS :=
    sIf (xB (xBin eqW (xFld [2] "_constants" (xVar 0)) (xLst (xNil)))) (sFldSet [2] "_constants" (xVar 0) (xFn F_round_constants (xCons (xFld [2] "_kind" (xVar 0)) (xNil)))) (sSkip)
def F_Digester_make_ready : List W → Hm → Out W := mkF 1 b_Digester_make_ready
set_option maxHeartbeats 0 in
theorem ok_Digester_make_ready {Γ : Gam} (E : Env Γ) : CalD Γ 3 (He.fAd Γ.K ("Digester", some "make_ready")) ["self"] F_Digester_make_ready := cal_mk (k := 2) E.d_Digester_make_ready cb_Digester_make_ready cs_Digester_make_ready ck_Digester_make_ready
    (sl_one (ss_if (st_cmp os_eq (se_fld (FldOk.cons E.c_Digester E.n_Digester__constants (FldOk.nil)) (se_var 0 0)) (se_lst (sa_nil))) (sl_one (ss_fld (FldOk.cons E.c_Digester E.n_Digester__constants (FldOk.nil)) (se_var 0 0) (se_cal 0 (Cal.of (ok_round_constants E) E.g_round_constants) (sa_cons (se_fld (FldOk.cons E.c_Digester E.n_Digester__kind (FldOk.nil)) (se_var 0 0)) (sa_nil)) (len_cons (len_nil))))) (sl_nil)))
/-! length_size -/
def c_length_size : Cfg := ⟨["kind"], ["kind"], ["kind"], ["check_kind", "SIZES"], defScope (topS 16), true, true⟩
theorem ck_length_size : cfgOk c_length_size = true := by decide +kernel
theorem cs_length_size : FnScope c_length_size.N ["kind"] (defScope (topS 16)) := ⟨rfl, rfl, rfl, by decide +kernel, rfl, by decide +kernel, by decide +kernel⟩
theorem cb_length_size : BindsN (topS 16) "length_size" "length_size" ["kind"] := fun _ _ _ _ _ _ us hl => match us, hl with | [_], _ => rfl
abbrev b_length_size : XS :=
    sSeq (sExpr (xFn F_check_kind (xCons (xVar 0) (xNil))))
    (sRet (xBin ixW (xKGet d_SIZES (xVar 0)) (xK (.int 3))))
def F_length_size : List W → Hm → Out W := mkF 1 b_length_size
set_option maxHeartbeats 0 in
theorem ok_length_size {Γ : Gam} (E : Env Γ) : CalD Γ 2 (He.fAd Γ.K ("length_size", none)) ["kind"] F_length_size := cal_mk (k := 1) E.d_length_size cb_length_size cs_length_size ck_length_size
    (sl_cons (ss_expr (se_cal 0 (Cal.of (ok_check_kind E) E.g_check_kind) (sa_cons (se_var 0 0) (sa_nil)) (len_cons (len_nil))))
    (sl_one (ss_ret (se_ix (se_kget 1 E.kd_SIZES (se_var 0 0) (by decide +kernel)) (se_int)))))
/-! padding -/
def c_padding : Cfg := ⟨["kind", "length", "count"], ["kind", "length", "count"], ["kind", "length", "count"], ["check_kind", "MESSAGE_LIMIT", "OutOfRange", "length_size", "block_size", "to_big"], defScope (topS 26), true, true⟩
theorem ck_padding : cfgOk c_padding = true := by decide +kernel
theorem cs_padding : FnScope c_padding.N ["kind", "length"] (defScope (topS 26)) := ⟨rfl, rfl, rfl, by decide +kernel, rfl, by decide +kernel, by decide +kernel⟩
theorem cb_padding : BindsN (topS 26) "padding" "padding" ["kind", "length"] := fun _ _ _ _ _ _ us hl => match us, hl with | [_, _], _ => rfl
abbrev b_padding : XS :=
    sSeq (sExpr (xFn F_check_kind (xCons (xVar 0) (xNil))))
    (sSeq (sIf (xOrT (xB (xBin ltW (xVar 1) (xK (.int 0)))) (xB (xBin gtW (xVar 1) (xK (w_MESSAGE_LIMIT))))) (sRaise 1) (sSkip))
    (sSeq (sSet 2 (xBin modW (xBin subW (xBin subW (xUn negW (xVar 1)) (xK (.int 1))) (xFn F_length_size (xCons (xVar 0) (xNil)))) (xFn F_block_size (xCons (xVar 0) (xNil)))))
    (sRet (xBin addW (xBin addW (xLst (xCons (xK (.int 128)) (xNil))) (xBin mulW (xLst (xCons (xK (.int 0)) (xNil))) (xVar 2))) (xFn F_to_big (xCons (xBin mulW (xK (.int 8)) (xVar 1)) (xCons (xFn F_length_size (xCons (xVar 0) (xNil))) (xNil))))))))
def F_padding : List W → Hm → Out W := mkF 3 b_padding
set_option maxHeartbeats 0 in
theorem ok_padding {Γ : Gam} (E : Env Γ) : CalD Γ 3 (He.fAd Γ.K ("padding", none)) ["kind", "length"] F_padding := cal_mk (k := 2) E.d_padding cb_padding cs_padding ck_padding
    (sl_cons (ss_expr (se_cal 0 (Cal.of (ok_check_kind E) E.g_check_kind) (sa_cons (se_var 0 0) (sa_nil)) (len_cons (len_nil))))
    (sl_cons (ss_if (st_w (sw_or (st_cmp os_lt (se_var 1 1) (se_int)) (sw_one (st_cmp os_gt (se_var 1 1) (se_glo 1 E.k_MESSAGE_LIMIT))))) (sl_one (ss_raise 2 1 E.xo_OutOfRange)) (sl_nil))
    (sl_cons (ss_set 2 2 (se_bin os_mod (se_bin os_sub (se_bin os_sub (se_un us_neg (se_var 1 1)) (se_int)) (se_cal 3 (Cal.of (ok_length_size E) E.g_length_size) (sa_cons (se_var 0 0) (sa_nil)) (len_cons (len_nil)))) (se_cal 4 (Cal.of (ok_block_size E) E.g_block_size) (sa_cons (se_var 0 0) (sa_nil)) (len_cons (len_nil)))))
    (sl_one (ss_ret (se_bin os_add (se_bin os_add (se_lst (sa_cons (se_int) (sa_nil))) (se_bin os_mul (se_lst (sa_cons (se_int) (sa_nil))) (se_var 2 2))) (se_cal 5 (Cal.of (ok_to_big E) E.g_to_big) (sa_cons (se_bin os_mul (se_int) (se_var 1 1)) (sa_cons (se_cal 3 (Cal.of (ok_length_size E) E.g_length_size) (sa_cons (se_var 0 0) (sa_nil)) (len_cons (len_nil))) (sa_nil))) (len_cons (len_cons (len_nil))))))))))
/-! Digester.told -/
def c_Digester_told : Cfg := ⟨["self", "size", "words", "last", "at", "inputs", "data", "word"], ["self", "size", "words", "last", "at", "inputs", "data", "word"], ["self", "size", "words", "last", "at", "inputs", "data", "word"], ["block_size", "padding", "range", "len", "schedule", "compress_with", "to_big", "word_bits"], defScope (inClass (topS 27) 3), true, true⟩
theorem ck_Digester_told : cfgOk c_Digester_told = true := by decide +kernel
theorem cs_Digester_told : FnScope c_Digester_told.N ["self"] (defScope (inClass (topS 27) 3)) := ⟨rfl, rfl, rfl, by decide +kernel, rfl, by decide +kernel, by decide +kernel⟩
theorem cb_Digester_told : BindsN (inClass (topS 27) 3) "told" "Digester.told" ["self"] := fun _ _ _ _ _ _ us hl => match us, hl with | [_], _ => rfl
abbrev b_Digester_told : XS :=
    sSeq (sSet 1 (xFn F_block_size (xCons (xFld [2] "_kind" (xVar 0)) (xNil))))
    (sSeq (sSet 2 (xFld [2] "_words" (xVar 0)))
    (sSeq (sSet 3 (xBin addW (xFld [2] "_rest" (xVar 0)) (xFn F_padding (xCons (xFld [2] "_kind" (xVar 0)) (xCons (xFld [2] "_length" (xVar 0)) (xNil))))))
    (sSeq (sExpr (xMet [(2, F_Digester_make_ready)] "make_ready" (xVar 0) xNil))
    (sSeq (sFor (iRng3 (xCons (xK (.int 0)) (xCons (xCall lenW (xCons (xVar 3) (xNil))) (xCons (xVar 1) (xNil))))) (gN 4) (sSeq (sSet 5 (xFn F_schedule (xCons (xFld [2] "_kind" (xVar 0)) (xCons (xSl (xVar 3) (xoSome (xVar 4)) (xoSome (xBin addW (xVar 4) (xVar 1)))) (xNil)))))
    (sSet 2 (xFn F_compress_with (xCons (xFld [2] "_kind" (xVar 0)) (xCons (xFld [2] "_constants" (xVar 0)) (xCons (xVar 2) (xCons (xVar 5) (xNil)))))))))
    (sSeq (sSet 6 (xLst (xNil)))
    (sSeq (sFor (iAny (xVar 2)) (gN 7) (sExpr (xMeth isL extW (xVar 6) (xCons (xFn F_to_big (xCons (xVar 7) (xCons (xBin fdivW (xFn F_word_bits (xCons (xFld [2] "_kind" (xVar 0)) (xNil))) (xK (.int 8))) (xNil)))) (xNil)))))
    (sRet (xVar 6))))))))
def F_Digester_told : List W → Hm → Out W := mkF 8 b_Digester_told
set_option maxHeartbeats 0 in
theorem ok_Digester_told {Γ : Gam} (E : Env Γ) : CalD Γ 4 (He.fAd Γ.K ("Digester", some "told")) ["self"] F_Digester_told := cal_mk (k := 3) E.d_Digester_told cb_Digester_told cs_Digester_told ck_Digester_told
    (sl_cons (ss_set 1 1 (se_cal 0 (Cal.of (ok_block_size E) E.g_block_size) (sa_cons (se_fld (FldOk.cons E.c_Digester E.n_Digester__kind (FldOk.nil)) (se_var 0 0)) (sa_nil)) (len_cons (len_nil))))
    (sl_cons (ss_set 2 2 (se_fld (FldOk.cons E.c_Digester E.n_Digester__words (FldOk.nil)) (se_var 0 0)))
    (sl_cons (ss_set 3 3 (se_bin os_add (se_fld (FldOk.cons E.c_Digester E.n_Digester__rest (FldOk.nil)) (se_var 0 0)) (se_cal 1 (Cal.of (ok_padding E) E.g_padding) (sa_cons (se_fld (FldOk.cons E.c_Digester E.n_Digester__kind (FldOk.nil)) (se_var 0 0)) (sa_cons (se_fld (FldOk.cons E.c_Digester E.n_Digester__length (FldOk.nil)) (se_var 0 0)) (sa_nil))) (len_cons (len_cons (len_nil))))))
    (sl_cons (ss_expr (se_met0 (j := 3) (MetOk.cons E.c_Digester E.me_Digester_make_ready (ok_Digester_make_ready E) rfl (by decide) (MetOk.nil)) (se_var 0 0)))
    (sl_cons (ss_for (si_rng3 2 E.B (sa_cons (se_int) (sa_cons (e_len 3 E.B (sa_cons (se_var 3 3) (sa_nil))) (sa_cons (se_var 1 1) (sa_nil))))) (sg_name 4 4) (sl_cons (ss_set 5 5 (se_cal 4 (Cal.of (ok_schedule E) E.g_schedule) (sa_cons (se_fld (FldOk.cons E.c_Digester E.n_Digester__kind (FldOk.nil)) (se_var 0 0)) (sa_cons (se_sl (se_var 3 3) (so_some (se_var 4 4)) (so_some (se_bin os_add (se_var 4 4) (se_var 1 1)))) (sa_nil))) (len_cons (len_cons (len_nil)))))
    (sl_one (ss_set 2 2 (se_cal 5 (Cal.of (ok_compress_with E) E.g_compress_with) (sa_cons (se_fld (FldOk.cons E.c_Digester E.n_Digester__kind (FldOk.nil)) (se_var 0 0)) (sa_cons (se_fld (FldOk.cons E.c_Digester E.n_Digester__constants (FldOk.nil)) (se_var 0 0)) (sa_cons (se_var 2 2) (sa_cons (se_var 5 5) (sa_nil))))) (len_cons (len_cons (len_cons (len_cons (len_nil))))))))))
    (sl_cons (ss_set 6 6 (se_lst (sa_nil)))
    (sl_cons (ss_for (si_any (se_var 2 2)) (sg_name 7 7) (sl_one (ss_expr (e_extend (se_var 6 6) (sa_cons (se_cal 6 (Cal.of (ok_to_big E) E.g_to_big) (sa_cons (se_var 7 7) (sa_cons (se_bin os_fdiv (se_cal 7 (Cal.of (ok_word_bits E) E.g_word_bits) (sa_cons (se_fld (FldOk.cons E.c_Digester E.n_Digester__kind (FldOk.nil)) (se_var 0 0)) (sa_nil)) (len_cons (len_nil))) (se_int)) (sa_nil))) (len_cons (len_cons (len_nil)))) (sa_nil))))))
    (sl_one (ss_ret (se_var 6 6))))))))))
/-! Digester.add -/
def c_Digester_add : Cfg := ⟨["self", "data", "size", "waiting", "whole", "at", "inputs"], ["self", "data", "size", "waiting", "whole", "at", "inputs"], ["self", "data", "size", "waiting", "whole", "at", "inputs"], ["len", "MESSAGE_LIMIT", "OutOfRange", "block_size", "list", "range", "schedule", "compress_with"], defScope (inClass (topS 27) 2), true, true⟩
theorem ck_Digester_add : cfgOk c_Digester_add = true := by decide +kernel
theorem cs_Digester_add : FnScope c_Digester_add.N ["self", "data"] (defScope (inClass (topS 27) 2)) := ⟨rfl, rfl, rfl, by decide +kernel, rfl, by decide +kernel, by decide +kernel⟩
theorem cb_Digester_add : BindsN (inClass (topS 27) 2) "add" "Digester.add" ["self", "data"] := fun _ _ _ _ _ _ us hl => match us, hl with | [_, _], _ => rfl
abbrev b_Digester_add : XS :=
    sSeq (sIf (xB (xBin gtW (xBin addW (xFld [2] "_length" (xVar 0)) (xCall lenW (xCons (xVar 1) (xNil)))) (xK (w_MESSAGE_LIMIT)))) (sRaise 1) (sSkip))
    (sSeq (sFldAug [2] "_length" addI (xVar 0) (xCall lenW (xCons (xVar 1) (xNil))))
    (sSeq (sSet 2 (xFn F_block_size (xCons (xFld [2] "_kind" (xVar 0)) (xNil))))
    (sSeq (sSet 3 (xBin addW (xFld [2] "_rest" (xVar 0)) (xCall listW (xCons (xVar 1) (xNil)))))
    (sSeq (sSet 4 (xBin mulW (xBin fdivW (xCall lenW (xCons (xVar 3) (xNil))) (xVar 2)) (xVar 2)))
    (sSeq (sIf (xB (xBin gtW (xVar 4) (xK (.int 0)))) (sExpr (xMet [(2, F_Digester_make_ready)] "make_ready" (xVar 0) xNil)) (sSkip))
    (sSeq (sFor (iRng3 (xCons (xK (.int 0)) (xCons (xVar 4) (xCons (xVar 2) (xNil))))) (gN 5) (sSeq (sSet 6 (xFn F_schedule (xCons (xFld [2] "_kind" (xVar 0)) (xCons (xSl (xVar 3) (xoSome (xVar 5)) (xoSome (xBin addW (xVar 5) (xVar 2)))) (xNil)))))
    (sFldSet [2] "_words" (xVar 0) (xFn F_compress_with (xCons (xFld [2] "_kind" (xVar 0)) (xCons (xFld [2] "_constants" (xVar 0)) (xCons (xFld [2] "_words" (xVar 0)) (xCons (xVar 6) (xNil)))))))))
    (sFldSet [2] "_rest" (xVar 0) (xSl (xVar 3) (xoSome (xVar 4)) (xoNone)))))))))
def F_Digester_add : List W → Hm → Out W := mkF 7 b_Digester_add
set_option maxHeartbeats 0 in
theorem ok_Digester_add {Γ : Gam} (E : Env Γ) : CalD Γ 4 (He.fAd Γ.K ("Digester", some "add")) ["self", "data"] F_Digester_add := cal_mk (k := 3) E.d_Digester_add cb_Digester_add cs_Digester_add ck_Digester_add
    (sl_cons (ss_if (st_cmp os_gt (se_bin os_add (se_fld (FldOk.cons E.c_Digester E.n_Digester__length (FldOk.nil)) (se_var 0 0)) (e_len 0 E.B (sa_cons (se_var 1 1) (sa_nil)))) (se_glo 1 E.k_MESSAGE_LIMIT)) (sl_one (ss_raise 2 1 E.xo_OutOfRange)) (sl_nil))
    (sl_cons (ss_fldaug (FldOk.cons E.c_Digester E.n_Digester__length (FldOk.nil)) ip_add (se_var 0 0) (e_len 0 E.B (sa_cons (se_var 1 1) (sa_nil))))
    (sl_cons (ss_set 2 2 (se_cal 3 (Cal.of (ok_block_size E) E.g_block_size) (sa_cons (se_fld (FldOk.cons E.c_Digester E.n_Digester__kind (FldOk.nil)) (se_var 0 0)) (sa_nil)) (len_cons (len_nil))))
    (sl_cons (ss_set 3 3 (se_bin os_add (se_fld (FldOk.cons E.c_Digester E.n_Digester__rest (FldOk.nil)) (se_var 0 0)) (e_list 4 E.B (sa_cons (se_var 1 1) (sa_nil)))))
    (sl_cons (ss_set 4 4 (se_bin os_mul (se_bin os_fdiv (e_len 0 E.B (sa_cons (se_var 3 3) (sa_nil))) (se_var 2 2)) (se_var 2 2)))
    (sl_cons (ss_if (st_cmp os_gt (se_var 4 4) (se_int)) (sl_one (ss_expr (se_met0 (j := 3) (MetOk.cons E.c_Digester E.me_Digester_make_ready (ok_Digester_make_ready E) rfl (by decide) (MetOk.nil)) (se_var 0 0)))) (sl_nil))
    (sl_cons (ss_for (si_rng3 5 E.B (sa_cons (se_int) (sa_cons (se_var 4 4) (sa_cons (se_var 2 2) (sa_nil))))) (sg_name 5 5) (sl_cons (ss_set 6 6 (se_cal 6 (Cal.of (ok_schedule E) E.g_schedule) (sa_cons (se_fld (FldOk.cons E.c_Digester E.n_Digester__kind (FldOk.nil)) (se_var 0 0)) (sa_cons (se_sl (se_var 3 3) (so_some (se_var 5 5)) (so_some (se_bin os_add (se_var 5 5) (se_var 2 2)))) (sa_nil))) (len_cons (len_cons (len_nil)))))
    (sl_one (ss_fld (FldOk.cons E.c_Digester E.n_Digester__words (FldOk.nil)) (se_var 0 0) (se_cal 7 (Cal.of (ok_compress_with E) E.g_compress_with) (sa_cons (se_fld (FldOk.cons E.c_Digester E.n_Digester__kind (FldOk.nil)) (se_var 0 0)) (sa_cons (se_fld (FldOk.cons E.c_Digester E.n_Digester__constants (FldOk.nil)) (se_var 0 0)) (sa_cons (se_fld (FldOk.cons E.c_Digester E.n_Digester__words (FldOk.nil)) (se_var 0 0)) (sa_cons (se_var 6 6) (sa_nil))))) (len_cons (len_cons (len_cons (len_cons (len_nil))))))))))
    (sl_one (ss_fld (FldOk.cons E.c_Digester E.n_Digester__rest (FldOk.nil)) (se_var 0 0) (se_sl (se_var 3 3) (so_some (se_var 4 4)) (so_none)))))))))))
/-! start_words -/
def c_start_words : Cfg := ⟨["kind", "bits", "prime"], ["kind", "bits"], ["kind", "bits"], ["word_bits", "first_primes", "WORDS"], defScope (topS 21), true, true⟩
theorem ck_start_words : cfgOk c_start_words = true := by decide +kernel
theorem cs_start_words : FnScope c_start_words.N ["kind"] (defScope (topS 21)) := ⟨rfl, rfl, rfl, by decide +kernel, rfl, by decide +kernel, by decide +kernel⟩
theorem cb_start_words : BindsN (topS 21) "start_words" "start_words" ["kind"] := fun _ _ _ _ _ _ us hl => match us, hl with | [_], _ => rfl
abbrev b_start_words : XS :=
    sSeq (sSet 1 (xFn F_word_bits (xCons (xVar 0) (xNil))))
    (sRet (xComp (iAny (xFn F_first_primes (xCons (xK (w_WORDS)) (xNil)))) (gN 2) (xTrue) (xBin andW (xCall isqW (xCons (xBin shlW (xVar 2) (xBin mulW (xK (.int 2)) (xVar 1))) (xNil))) (xBin subW (xBin shlW (xK (.int 1)) (xVar 1)) (xK (.int 1)))) [2]))
def F_start_words : List W → Hm → Out W := mkF 3 b_start_words
set_option maxHeartbeats 0 in
theorem ok_start_words {Γ : Gam} (E : Env Γ) : CalD Γ 3 (He.fAd Γ.K ("start_words", none)) ["kind"] F_start_words := cal_mk (k := 2) E.d_start_words cb_start_words cs_start_words ck_start_words
    (sl_cons (ss_set 1 1 (se_cal 0 (Cal.of (ok_word_bits E) E.g_word_bits) (sa_cons (se_var 0 0) (sa_nil)) (len_cons (len_nil))))
    (sl_one (ss_ret (se_lc [("prime", 2)] ["prime", "bits"] ["prime"] ["isqrt"] (si_any (se_cal 1 (Cal.of (ok_first_primes E) E.g_first_primes) (sa_cons (se_glo 2 E.k_WORDS) (sa_nil)) (len_cons (len_nil)))) (so_name 2 0) (sts_nil) (se_bin os_and (se_mathfn 0 cs_isq E.b_isqrt (sa_cons (se_bin os_shl (se_var 2 0) (se_bin os_mul (se_int) (se_var 1 1))) (sa_nil))) (se_bin os_sub (se_bin os_shl (se_int) (se_var 1 1)) (se_int))) (by decide +kernel) (by decide +kernel)))))
/-! Digester.__init__ -/
def c_Digester___init__ : Cfg := ⟨["self", "kind"], ["self", "kind"], ["self", "kind"], ["start_words"], defScope (inClass (topS 27) 0), true, true⟩
theorem ck_Digester___init__ : cfgOk c_Digester___init__ = true := by decide +kernel
theorem cs_Digester___init__ : FnScope c_Digester___init__.N ["self", "kind"] (defScope (inClass (topS 27) 0)) := ⟨rfl, rfl, rfl, by decide +kernel, rfl, by decide +kernel, by decide +kernel⟩
theorem cb_Digester___init__ : BindsN (inClass (topS 27) 0) "__init__" "Digester.__init__" ["self", "kind"] := fun _ _ _ _ _ _ us hl => match us, hl with | [_, _], _ => rfl
abbrev b_Digester___init__ : XS :=
    sSeq (sFldSet [2] "_kind" (xVar 0) (xVar 1))
    (sSeq (sFldSet [2] "_words" (xVar 0) (xFn F_start_words (xCons (xVar 1) (xNil))))
    (sSeq (sFldSet [2] "_rest" (xVar 0) (xLst (xNil)))
    (sSeq (sFldSet [2] "_length" (xVar 0) (xK (.int 0)))
    (sFldSet [2] "_constants" (xVar 0) (xLst (xNil))))))
def F_Digester___init__ : List W → Hm → Out W := mkF 2 b_Digester___init__
set_option maxHeartbeats 0 in
theorem ok_Digester___init__ {Γ : Gam} (E : Env Γ) : CalD Γ 4 (He.fAd Γ.K ("Digester", some "__init__")) ["self", "kind"] F_Digester___init__ := cal_mk (k := 3) E.d_Digester___init__ cb_Digester___init__ cs_Digester___init__ ck_Digester___init__
    (sl_cons (ss_fld (FldOk.cons E.c_Digester E.n_Digester__kind (FldOk.nil)) (se_var 0 0) (se_var 1 1))
    (sl_cons (ss_fld (FldOk.cons E.c_Digester E.n_Digester__words (FldOk.nil)) (se_var 0 0) (se_cal 0 (Cal.of (ok_start_words E) E.g_start_words) (sa_cons (se_var 1 1) (sa_nil)) (len_cons (len_nil))))
    (sl_cons (ss_fld (FldOk.cons E.c_Digester E.n_Digester__rest (FldOk.nil)) (se_var 0 0) (se_lst (sa_nil)))
    (sl_cons (ss_fld (FldOk.cons E.c_Digester E.n_Digester__length (FldOk.nil)) (se_var 0 0) (se_int))
    (sl_one (ss_fld (FldOk.cons E.c_Digester E.n_Digester__constants (FldOk.nil)) (se_var 0 0) (se_lst (sa_nil))))))))
/-! digest -/
def c_digest : Cfg := ⟨["kind", "data", "digester"], ["kind", "data", "digester"], ["kind", "data", "digester"], ["Digester"], defScope (topS 28), true, true⟩
theorem ck_digest : cfgOk c_digest = true := by decide +kernel
theorem cs_digest : FnScope c_digest.N ["kind", "data"] (defScope (topS 28)) := ⟨rfl, rfl, rfl, by decide +kernel, rfl, by decide +kernel, by decide +kernel⟩
theorem cb_digest : BindsN (topS 28) "digest" "digest" ["kind", "data"] := fun _ _ _ _ _ _ us hl => match us, hl with | [_, _], _ => rfl
abbrev b_digest : XS :=
    sSeq (sSet 2 (xMake 2 F_Digester___init__ (xCons (xVar 0) (xNil))))
    (sSeq (sExpr (xMet [(2, F_Digester_add)] "add" (xVar 2) (xCons (xVar 1) (xNil))))
    (sRet (xMet [(2, F_Digester_told)] "told" (xVar 2) xNil)))
def F_digest : List W → Hm → Out W := mkF 3 b_digest
set_option maxHeartbeats 0 in
theorem ok_digest {Γ : Gam} (E : Env Γ) : CalD Γ 6 (He.fAd Γ.K ("digest", none)) ["kind", "data"] F_digest := cal_mk (k := 5) E.d_digest cb_digest cs_digest ck_digest
    (sl_cons (ss_set 2 2 (se_make 0 (MakeOk.of E.mk_Digester (ok_Digester___init__ E) rfl E.gc_Digester) (sa_cons (se_var 0 0) (sa_nil)) (len_cons (len_nil))))
    (sl_cons (ss_expr (se_met (j := 5) (MetOk.cons E.c_Digester E.me_Digester_add (ok_Digester_add E) rfl (by decide) (MetOk.nil)) (se_var 2 2) (sa_cons (se_var 1 1) (sa_nil)) (len_cons (len_nil))))
    (sl_one (ss_ret (se_met0 (j := 5) (MetOk.cons E.c_Digester E.me_Digester_told (ok_Digester_told E) rfl (by decide) (MetOk.nil)) (se_var 2 2))))))
/-! Sha512.digest -/
def c_Sha512_digest : Cfg := ⟨["self", "data"], ["self", "data"], ["self", "data"], ["digest_digest"], defScope (inClass (topS 34) 1), true, true⟩
theorem ck_Sha512_digest : cfgOk c_Sha512_digest = true := by decide +kernel
theorem cs_Sha512_digest : FnScope c_Sha512_digest.N ["self", "data"] (defScope (inClass (topS 34) 1)) := ⟨rfl, rfl, rfl, by decide +kernel, rfl, by decide +kernel, by decide +kernel⟩
theorem cb_Sha512_digest : BindsN (inClass (topS 34) 1) "digest" "Sha512.digest" ["self", "data"] := fun _ _ _ _ _ _ us hl => match us, hl with | [_, _], _ => rfl
abbrev b_Sha512_digest : XS :=
    sRet (xFn F_digest (xCons (xK (.str "sha512")) (xCons (xVar 1) (xNil))))
def F_Sha512_digest : List W → Hm → Out W := mkF 2 b_Sha512_digest
set_option maxHeartbeats 0 in
theorem ok_Sha512_digest {Γ : Gam} (E : Env Γ) : CalD Γ 7 (He.fAd Γ.K ("Sha512", some "digest")) ["self", "data"] F_Sha512_digest := cal_mk (k := 6) E.d_Sha512_digest cb_Sha512_digest cs_Sha512_digest ck_Sha512_digest
    (sl_one (ss_ret (se_cal 0 (Cal.of (ok_digest E) E.a_digest_digest) (sa_cons (se_str) (sa_cons (se_var 1 1) (sa_nil))) (len_cons (len_cons (len_nil))))))
/-! Sha256.digest -/
def c_Sha256_digest : Cfg := ⟨["self", "data"], ["self", "data"], ["self", "data"], ["digest_digest"], defScope (inClass (topS 33) 1), true, true⟩
theorem ck_Sha256_digest : cfgOk c_Sha256_digest = true := by decide +kernel
theorem cs_Sha256_digest : FnScope c_Sha256_digest.N ["self", "data"] (defScope (inClass (topS 33) 1)) := ⟨rfl, rfl, rfl, by decide +kernel, rfl, by decide +kernel, by decide +kernel⟩
theorem cb_Sha256_digest : BindsN (inClass (topS 33) 1) "digest" "Sha256.digest" ["self", "data"] := fun _ _ _ _ _ _ us hl => match us, hl with | [_, _], _ => rfl
abbrev b_Sha256_digest : XS :=
    sRet (xFn F_digest (xCons (xK (.str "sha256")) (xCons (xVar 1) (xNil))))
def F_Sha256_digest : List W → Hm → Out W := mkF 2 b_Sha256_digest
set_option maxHeartbeats 0 in
theorem ok_Sha256_digest {Γ : Gam} (E : Env Γ) : CalD Γ 7 (He.fAd Γ.K ("Sha256", some "digest")) ["self", "data"] F_Sha256_digest := cal_mk (k := 6) E.d_Sha256_digest cb_Sha256_digest cs_Sha256_digest ck_Sha256_digest
    (sl_one (ss_ret (se_cal 0 (Cal.of (ok_digest E) E.a_digest_digest) (sa_cons (se_str) (sa_cons (se_var 1 1) (sa_nil))) (len_cons (len_cons (len_nil))))))
/-! _law_no_kind -/
def c__law_no_kind : Cfg := ⟨["_law_kind", "e"], ["_law_kind", "e"], ["_law_kind", "e"], ["Digester", "CurveError", "isinstance", "OutOfRange"], defScope (topS 42), true, true⟩
theorem ck__law_no_kind : cfgOk c__law_no_kind = true := by decide +kernel
theorem cs__law_no_kind : FnScope c__law_no_kind.N ["_law_kind"] (defScope (topS 42)) := ⟨rfl, rfl, rfl, by decide +kernel, rfl, by decide +kernel, by decide +kernel⟩
theorem cb__law_no_kind : BindsN (topS 42) "_law_no_kind" "_law_no_kind" ["_law_kind"] := fun _ _ _ _ _ _ us hl => match us, hl with | [_], _ => rfl
abbrev b__law_no_kind : XS :=
    sSeq (sTryAs (sExpr (xMake 2 F_Digester___init__ (xCons (xVar 0) (xNil)))) 1 m_CurveError (fun ci => match (fun ci => m_OutOfRange.lookup ci) ci with | some b => sRet (xK (.bl b)) | none => fun _ _ => .bad))
    (sRet (xK (.bl false)))
def F__law_no_kind : List W → Hm → Out W := mkF 2 b__law_no_kind
set_option maxHeartbeats 0 in
theorem ok__law_no_kind {Γ : Gam} (E : Env Γ) : CalD Γ 6 (He.fAd Γ.K ("_law_no_kind", none)) ["_law_kind"] F__law_no_kind := cal_mk (k := 5) E.d__law_no_kind cb__law_no_kind cs__law_no_kind ck__law_no_kind
    (sl_cons (ss_tryas (i := 1) 1 1 (sl_one (ss_expr (se_make 0 (MakeOk.of E.mk_Digester (ok_Digester___init__ E) rfl E.gc_Digester) (sa_cons (se_var 0 0) (sa_nil)) (len_cons (len_nil))))) (su_ret (ue_isi 1 1 2 3 E.B E.xi_OutOfRange E.gx_OutOfRange)) E.gx_CurveError E.xm_CurveError)
    (sl_one (ss_ret (se_bl))))
/-! digest_parts -/
def c_digest_parts : Cfg := ⟨["kind", "parts", "digester", "part"], ["kind", "parts", "digester", "part"], ["kind", "parts", "digester", "part"], ["Digester"], defScope (topS 30), true, true⟩
theorem ck_digest_parts : cfgOk c_digest_parts = true := by decide +kernel
theorem cs_digest_parts : FnScope c_digest_parts.N ["kind", "parts"] (defScope (topS 30)) := ⟨rfl, rfl, rfl, by decide +kernel, rfl, by decide +kernel, by decide +kernel⟩
theorem cb_digest_parts : BindsN (topS 30) "digest_parts" "digest_parts" ["kind", "parts"] := fun _ _ _ _ _ _ us hl => match us, hl with | [_, _], _ => rfl
abbrev b_digest_parts : XS :=
    sSeq (sSet 2 (xMake 2 F_Digester___init__ (xCons (xVar 0) (xNil))))
    (sSeq (sFor (iAny (xVar 1)) (gN 3) (sExpr (xMet [(2, F_Digester_add)] "add" (xVar 2) (xCons (xVar 3) (xNil)))))
    (sRet (xMet [(2, F_Digester_told)] "told" (xVar 2) xNil)))
def F_digest_parts : List W → Hm → Out W := mkF 4 b_digest_parts
set_option maxHeartbeats 0 in
theorem ok_digest_parts {Γ : Gam} (E : Env Γ) : CalD Γ 6 (He.fAd Γ.K ("digest_parts", none)) ["kind", "parts"] F_digest_parts := cal_mk (k := 5) E.d_digest_parts cb_digest_parts cs_digest_parts ck_digest_parts
    (sl_cons (ss_set 2 2 (se_make 0 (MakeOk.of E.mk_Digester (ok_Digester___init__ E) rfl E.gc_Digester) (sa_cons (se_var 0 0) (sa_nil)) (len_cons (len_nil))))
    (sl_cons (ss_for (si_any (se_var 1 1)) (sg_name 3 3) (sl_one (ss_expr (se_met (j := 5) (MetOk.cons E.c_Digester E.me_Digester_add (ok_Digester_add E) rfl (by decide) (MetOk.nil)) (se_var 2 2) (sa_cons (se_var 3 3) (sa_nil)) (len_cons (len_nil))))))
    (sl_one (ss_ret (se_met0 (j := 5) (MetOk.cons E.c_Digester E.me_Digester_told (ok_Digester_told E) rfl (by decide) (MetOk.nil)) (se_var 2 2))))))
/-! Sha512.digest_parts -/
def c_Sha512_digest_parts : Cfg := ⟨["self", "parts"], ["self", "parts"], ["self", "parts"], ["digest_parts_digest"], defScope (inClass (topS 34) 2), true, true⟩
theorem ck_Sha512_digest_parts : cfgOk c_Sha512_digest_parts = true := by decide +kernel
theorem cs_Sha512_digest_parts : FnScope c_Sha512_digest_parts.N ["self", "parts"] (defScope (inClass (topS 34) 2)) := ⟨rfl, rfl, rfl, by decide +kernel, rfl, by decide +kernel, by decide +kernel⟩
theorem cb_Sha512_digest_parts : BindsN (inClass (topS 34) 2) "digest_parts" "Sha512.digest_parts" ["self", "parts"] := fun _ _ _ _ _ _ us hl => match us, hl with | [_, _], _ => rfl
abbrev b_Sha512_digest_parts : XS :=
    sRet (xFn F_digest_parts (xCons (xK (.str "sha512")) (xCons (xVar 1) (xNil))))
def F_Sha512_digest_parts : List W → Hm → Out W := mkF 2 b_Sha512_digest_parts
set_option maxHeartbeats 0 in
theorem ok_Sha512_digest_parts {Γ : Gam} (E : Env Γ) : CalD Γ 7 (He.fAd Γ.K ("Sha512", some "digest_parts")) ["self", "parts"] F_Sha512_digest_parts := cal_mk (k := 6) E.d_Sha512_digest_parts cb_Sha512_digest_parts cs_Sha512_digest_parts ck_Sha512_digest_parts
    (sl_one (ss_ret (se_cal 0 (Cal.of (ok_digest_parts E) E.a_digest_parts_digest) (sa_cons (se_str) (sa_cons (se_var 1 1) (sa_nil))) (len_cons (len_cons (len_nil))))))
/-! Sha256.digest_parts -/
def c_Sha256_digest_parts : Cfg := ⟨["self", "parts"], ["self", "parts"], ["self", "parts"], ["digest_parts_digest"], defScope (inClass (topS 33) 2), true, true⟩
theorem ck_Sha256_digest_parts : cfgOk c_Sha256_digest_parts = true := by decide +kernel
theorem cs_Sha256_digest_parts : FnScope c_Sha256_digest_parts.N ["self", "parts"] (defScope (inClass (topS 33) 2)) := ⟨rfl, rfl, rfl, by decide +kernel, rfl, by decide +kernel, by decide +kernel⟩
theorem cb_Sha256_digest_parts : BindsN (inClass (topS 33) 2) "digest_parts" "Sha256.digest_parts" ["self", "parts"] := fun _ _ _ _ _ _ us hl => match us, hl with | [_, _], _ => rfl
abbrev b_Sha256_digest_parts : XS :=
    sRet (xFn F_digest_parts (xCons (xK (.str "sha256")) (xCons (xVar 1) (xNil))))
def F_Sha256_digest_parts : List W → Hm → Out W := mkF 2 b_Sha256_digest_parts
set_option maxHeartbeats 0 in
theorem ok_Sha256_digest_parts {Γ : Gam} (E : Env Γ) : CalD Γ 7 (He.fAd Γ.K ("Sha256", some "digest_parts")) ["self", "parts"] F_Sha256_digest_parts := cal_mk (k := 6) E.d_Sha256_digest_parts cb_Sha256_digest_parts cs_Sha256_digest_parts ck_Sha256_digest_parts
    (sl_one (ss_ret (se_cal 0 (Cal.of (ok_digest_parts E) E.a_digest_parts_digest) (sa_cons (se_str) (sa_cons (se_var 1 1) (sa_nil))) (len_cons (len_cons (len_nil))))))
/-! Digester.length -/
def c_Digester_length : Cfg := ⟨["self"], ["self"], ["self"], [], defScope (inClass (topS 27) 4), true, true⟩
theorem ck_Digester_length : cfgOk c_Digester_length = true := by decide +kernel
theorem cs_Digester_length : FnScope c_Digester_length.N ["self"] (defScope (inClass (topS 27) 4)) := ⟨rfl, rfl, rfl, by decide +kernel, rfl, by decide +kernel, by decide +kernel⟩
theorem cb_Digester_length : BindsN (inClass (topS 27) 4) "length" "Digester.length" ["self"] := fun _ _ _ _ _ _ us hl => match us, hl with | [_], _ => rfl
abbrev b_Digester_length : XS :=
    sRet (xFld [2] "_length" (xVar 0))
def F_Digester_length : List W → Hm → Out W := mkF 1 b_Digester_length
set_option maxHeartbeats 0 in
theorem ok_Digester_length {Γ : Gam} (E : Env Γ) : CalD Γ 1 (He.fAd Γ.K ("Digester", some "length")) ["self"] F_Digester_length := cal_mk (k := 0) E.d_Digester_length cb_Digester_length cs_Digester_length ck_Digester_length
    (sl_one (ss_ret (se_fld (FldOk.cons E.c_Digester E.n_Digester__length (FldOk.nil)) (se_var 0 0))))
/-! _law_is_integer -/
def c__law_is_integer : Cfg := ⟨["_law_actual"], ["_law_actual"], ["_law_actual"], ["isinstance", "int", "bool"], defScope (topS 37), true, true⟩
theorem ck__law_is_integer : cfgOk c__law_is_integer = true := by decide +kernel
theorem cs__law_is_integer : FnScope c__law_is_integer.N ["_law_actual"] (defScope (topS 37)) := ⟨rfl, rfl, rfl, by decide +kernel, rfl, by decide +kernel, by decide +kernel⟩
theorem cb__law_is_integer : BindsN (topS 37) "_law_is_integer" "_law_is_integer" ["_law_actual"] := fun _ _ _ _ _ _ us hl => match us, hl with | [_], _ => rfl
abbrev b__law_is_integer : XS :=
    sRet (xAnd (xIsi "int" (xVar 0)) (xNot (xIsi "bool" (xVar 0))))
def F__law_is_integer : List W → Hm → Out W := mkF 1 b__law_is_integer
set_option maxHeartbeats 0 in
theorem ok__law_is_integer {Γ : Gam} (E : Env Γ) : CalD Γ 1 (He.fAd Γ.K ("_law_is_integer", none)) ["_law_actual"] F__law_is_integer := cal_mk (k := 0) E.d__law_is_integer cb__law_is_integer cs__law_is_integer ck__law_is_integer
    (sl_one (ss_ret (se_and (e_is_int 0 1 E.B (se_var 0 0)) (se_one (se_not (e_is_bool 0 2 E.B (se_var 0 0)))))))
/-! _law_told -/
def c__law_told : Cfg := ⟨["_law_digester", "_law_kind", "_law_joined", "_law_turn", "_law_actual"], ["_law_digester", "_law_kind", "_law_joined", "_law_turn", "_law_actual"], ["_law_digester", "_law_kind", "_law_joined", "_law_turn", "_law_actual"], ["range", "isinstance", "list", "digest_digest", "len", "_law_is_integer"], defScope (topS 41), true, true⟩
theorem ck__law_told : cfgOk c__law_told = true := by decide +kernel
theorem cs__law_told : FnScope c__law_told.N ["_law_digester", "_law_kind", "_law_joined"] (defScope (topS 41)) := ⟨rfl, rfl, rfl, by decide +kernel, rfl, by decide +kernel, by decide +kernel⟩
theorem cb__law_told : BindsN (topS 41) "_law_told" "_law_told" ["_law_digester", "_law_kind", "_law_joined"] := fun _ _ _ _ _ _ us hl => match us, hl with | [_, _, _], _ => rfl
abbrev b__law_told : XS :=
    sSeq (sFor (iRng1 (xCons (xK (.int 2)) (xNil))) (gN 3) (sSeq (sSet 4 (xMet [(2, F_Digester_told)] "told" (xVar 0) xNil))
    (sSeq (sIf (xOrT (xNotT (xB (xIsi "list" (xVar 4)))) (xB (xBin neW (xVar 4) (xFn F_digest (xCons (xVar 1) (xCons (xCall listW (xCons (xVar 2) (xNil))) (xNil))))))) (sRet (xK (.bl false))) (sSkip))
    (sExpr (xMeth isL appW (xVar 4) (xCons (xK (.int 3)) (xNil)))))))
    (sRet (xAnd (xBin eqW (xMet [(2, F_Digester_length)] "length" (xVar 0) xNil) (xCall lenW (xCons (xVar 2) (xNil)))) (xFn F__law_is_integer (xCons (xMet [(2, F_Digester_length)] "length" (xVar 0) xNil) (xNil)))))
def F__law_told : List W → Hm → Out W := mkF 5 b__law_told
set_option maxHeartbeats 0 in
theorem ok__law_told {Γ : Gam} (E : Env Γ) : CalD Γ 7 (He.fAd Γ.K ("_law_told", none)) ["_law_digester", "_law_kind", "_law_joined"] F__law_told := cal_mk (k := 6) E.d__law_told cb__law_told cs__law_told ck__law_told
    (sl_cons (ss_for (si_rng1 0 E.B (sa_cons (se_int) (sa_nil))) (sg_name 3 3) (sl_cons (ss_set 4 4 (se_met0 (j := 6) (MetOk.cons E.c_Digester E.me_Digester_told (ok_Digester_told E) rfl (by decide) (MetOk.nil)) (se_var 0 0)))
    (sl_cons (ss_if (st_w (sw_or (st_not (st_val (e_is_list 1 2 E.B (se_var 4 4)))) (sw_one (st_cmp os_ne (se_var 4 4) (se_cal 3 (Cal.of (ok_digest E) E.a_digest_digest) (sa_cons (se_var 1 1) (sa_cons (e_list 2 E.B (sa_cons (se_var 2 2) (sa_nil))) (sa_nil))) (len_cons (len_cons (len_nil)))))))) (sl_one (ss_ret (se_bl))) (sl_nil))
    (sl_one (ss_expr (e_append (se_var 4 4) (sa_cons (se_int) (sa_nil))))))))
    (sl_one (ss_ret (se_and (se_cmp os_eq (se_met0 (j := 6) (MetOk.cons E.c_Digester E.me_Digester_length (ok_Digester_length E) rfl (by decide) (MetOk.nil)) (se_var 0 0)) (e_len 4 E.B (sa_cons (se_var 2 2) (sa_nil)))) (se_one (se_cal 5 (Cal.of (ok__law_is_integer E) E.g__law_is_integer) (sa_cons (se_met0 (j := 6) (MetOk.cons E.c_Digester E.me_Digester_length (ok_Digester_length E) rfl (by decide) (MetOk.nil)) (se_var 0 0)) (sa_nil)) (len_cons (len_nil))))))))
/-! Digester.twin -/
def c_Digester_twin : Cfg := ⟨["self", "copied"], ["self", "copied"], ["self", "copied"], ["Digester", "list"], defScope (inClass (topS 27) 5), true, true⟩
theorem ck_Digester_twin : cfgOk c_Digester_twin = true := by decide +kernel
theorem cs_Digester_twin : FnScope c_Digester_twin.N ["self"] (defScope (inClass (topS 27) 5)) := ⟨rfl, rfl, rfl, by decide +kernel, rfl, by decide +kernel, by decide +kernel⟩
theorem cb_Digester_twin : BindsN (inClass (topS 27) 5) "twin" "Digester.twin" ["self"] := fun _ _ _ _ _ _ us hl => match us, hl with | [_], _ => rfl
abbrev b_Digester_twin : XS :=
    sSeq (sSet 1 (xMake 2 F_Digester___init__ (xCons (xFld [2] "_kind" (xVar 0)) (xNil))))
    (sSeq (sFldSet [2] "_words" (xVar 1) (xCall listW (xCons (xFld [2] "_words" (xVar 0)) (xNil))))
    (sSeq (sFldSet [2] "_rest" (xVar 1) (xCall listW (xCons (xFld [2] "_rest" (xVar 0)) (xNil))))
    (sSeq (sFldSet [2] "_length" (xVar 1) (xFld [2] "_length" (xVar 0)))
    (sSeq (sFldSet [2] "_constants" (xVar 1) (xFld [2] "_constants" (xVar 0)))
    (sRet (xVar 1))))))
def F_Digester_twin : List W → Hm → Out W := mkF 2 b_Digester_twin
set_option maxHeartbeats 0 in
theorem ok_Digester_twin {Γ : Gam} (E : Env Γ) : CalD Γ 6 (He.fAd Γ.K ("Digester", some "twin")) ["self"] F_Digester_twin := cal_mk (k := 5) E.d_Digester_twin cb_Digester_twin cs_Digester_twin ck_Digester_twin
    (sl_cons (ss_set 1 1 (se_make 0 (MakeOk.of E.mk_Digester (ok_Digester___init__ E) rfl E.gc_Digester) (sa_cons (se_fld (FldOk.cons E.c_Digester E.n_Digester__kind (FldOk.nil)) (se_var 0 0)) (sa_nil)) (len_cons (len_nil))))
    (sl_cons (ss_fld (FldOk.cons E.c_Digester E.n_Digester__words (FldOk.nil)) (se_var 1 1) (e_list 1 E.B (sa_cons (se_fld (FldOk.cons E.c_Digester E.n_Digester__words (FldOk.nil)) (se_var 0 0)) (sa_nil))))
    (sl_cons (ss_fld (FldOk.cons E.c_Digester E.n_Digester__rest (FldOk.nil)) (se_var 1 1) (e_list 1 E.B (sa_cons (se_fld (FldOk.cons E.c_Digester E.n_Digester__rest (FldOk.nil)) (se_var 0 0)) (sa_nil))))
    (sl_cons (ss_fld (FldOk.cons E.c_Digester E.n_Digester__length (FldOk.nil)) (se_var 1 1) (se_fld (FldOk.cons E.c_Digester E.n_Digester__length (FldOk.nil)) (se_var 0 0)))
    (sl_cons (ss_fld (FldOk.cons E.c_Digester E.n_Digester__constants (FldOk.nil)) (se_var 1 1) (se_fld (FldOk.cons E.c_Digester E.n_Digester__constants (FldOk.nil)) (se_var 0 0)))
    (sl_one (ss_ret (se_var 1 1))))))))
/-! _law_cell -/
def c__law_cell : Cfg := ⟨["_law_script", "_law_k"], ["_law_script", "_law_k"], ["_law_script", "_law_k"], ["len", "int"], defScope (topS 36), true, true⟩
theorem ck__law_cell : cfgOk c__law_cell = true := by decide +kernel
theorem cs__law_cell : FnScope c__law_cell.N ["_law_script", "_law_k"] (defScope (topS 36)) := ⟨rfl, rfl, rfl, by decide +kernel, rfl, by decide +kernel, by decide +kernel⟩
theorem cb__law_cell : BindsN (topS 36) "_law_cell" "_law_cell" ["_law_script", "_law_k"] := fun _ _ _ _ _ _ us hl => match us, hl with | [_, _], _ => rfl
abbrev b__law_cell : XS :=
    sSeq (sIf (xB (xBin ltW (xVar 1) (xCall lenW (xCons (xVar 0) (xNil))))) (sRet (xCall intW (xCons (xBin ixW (xVar 0) (xVar 1)) (xNil)))) (sSkip))
    (sRet (xK (.int 0)))
def F__law_cell : List W → Hm → Out W := mkF 2 b__law_cell
set_option maxHeartbeats 0 in
theorem ok__law_cell {Γ : Gam} (E : Env Γ) : CalD Γ 1 (He.fAd Γ.K ("_law_cell", none)) ["_law_script", "_law_k"] F__law_cell := cal_mk (k := 0) E.d__law_cell cb__law_cell cs__law_cell ck__law_cell
    (sl_cons (ss_if (st_cmp os_lt (se_var 1 1) (e_len 0 E.B (sa_cons (se_var 0 0) (sa_nil)))) (sl_one (ss_ret (e_int 1 E.B (sa_cons (se_ix (se_var 0 0) (se_var 1 1)) (sa_nil))))) (sl_nil))
    (sl_one (ss_ret (se_int))))
/-! Sha512.pieces -/
def c_Sha512_pieces : Cfg := ⟨["self"], ["self"], ["self"], ["Digester"], defScope (inClass (topS 34) 5), true, true⟩
theorem ck_Sha512_pieces : cfgOk c_Sha512_pieces = true := by decide +kernel
theorem cs_Sha512_pieces : FnScope c_Sha512_pieces.N ["self"] (defScope (inClass (topS 34) 5)) := ⟨rfl, rfl, rfl, by decide +kernel, rfl, by decide +kernel, by decide +kernel⟩
theorem cb_Sha512_pieces : BindsN (inClass (topS 34) 5) "pieces" "Sha512.pieces" ["self"] := fun _ _ _ _ _ _ us hl => match us, hl with | [_], _ => rfl
abbrev b_Sha512_pieces : XS :=
    sRet (xMake 2 F_Digester___init__ (xCons (xK (.str "sha512")) (xNil)))
def F_Sha512_pieces : List W → Hm → Out W := mkF 1 b_Sha512_pieces
set_option maxHeartbeats 0 in
theorem ok_Sha512_pieces {Γ : Gam} (E : Env Γ) : CalD Γ 6 (He.fAd Γ.K ("Sha512", some "pieces")) ["self"] F_Sha512_pieces := cal_mk (k := 5) E.d_Sha512_pieces cb_Sha512_pieces cs_Sha512_pieces ck_Sha512_pieces
    (sl_one (ss_ret (se_make 0 (MakeOk.of E.mk_Digester (ok_Digester___init__ E) rfl E.gc_Digester) (sa_cons (se_str) (sa_nil)) (len_cons (len_nil)))))
/-! Sha256.pieces -/
def c_Sha256_pieces : Cfg := ⟨["self"], ["self"], ["self"], ["Digester"], defScope (inClass (topS 33) 5), true, true⟩
theorem ck_Sha256_pieces : cfgOk c_Sha256_pieces = true := by decide +kernel
theorem cs_Sha256_pieces : FnScope c_Sha256_pieces.N ["self"] (defScope (inClass (topS 33) 5)) := ⟨rfl, rfl, rfl, by decide +kernel, rfl, by decide +kernel, by decide +kernel⟩
theorem cb_Sha256_pieces : BindsN (inClass (topS 33) 5) "pieces" "Sha256.pieces" ["self"] := fun _ _ _ _ _ _ us hl => match us, hl with | [_], _ => rfl
abbrev b_Sha256_pieces : XS :=
    sRet (xMake 2 F_Digester___init__ (xCons (xK (.str "sha256")) (xNil)))
def F_Sha256_pieces : List W → Hm → Out W := mkF 1 b_Sha256_pieces
set_option maxHeartbeats 0 in
theorem ok_Sha256_pieces {Γ : Gam} (E : Env Γ) : CalD Γ 6 (He.fAd Γ.K ("Sha256", some "pieces")) ["self"] F_Sha256_pieces := cal_mk (k := 5) E.d_Sha256_pieces cb_Sha256_pieces cs_Sha256_pieces ck_Sha256_pieces
    (sl_one (ss_ret (se_make 0 (MakeOk.of E.mk_Digester (ok_Digester___init__ E) rfl E.gc_Digester) (sa_cons (se_str) (sa_nil)) (len_cons (len_nil)))))
/-! _law_pieces -/
def c__law_pieces : Cfg := ⟨["_law_script", "_law_message", "_law_pieces_here", "_law_at", "_law_k", "_law_size"], ["_law_script", "_law_message", "_law_pieces_here", "_law_at", "_law_k", "_law_size"], ["_law_script", "_law_message", "_law_pieces_here", "_law_at", "_law_k", "_law_size"], ["range", "min", "len", "int", "abs"], defScope (topS 40), true, true⟩
theorem ck__law_pieces : cfgOk c__law_pieces = true := by decide +kernel
theorem cs__law_pieces : FnScope c__law_pieces.N ["_law_script", "_law_message"] (defScope (topS 40)) := ⟨rfl, rfl, rfl, by decide +kernel, rfl, by decide +kernel, by decide +kernel⟩
theorem cb__law_pieces : BindsN (topS 40) "_law_pieces" "_law_pieces" ["_law_script", "_law_message"] := fun _ _ _ _ _ _ us hl => match us, hl with | [_, _], _ => rfl
abbrev b__law_pieces : XS :=
    sSeq (sSet 2 (xLst (xNil)))
    (sSeq (sSet 3 (xK (.int 0)))
    (sSeq (sFor (iRng2 (xCons (xK (.int 3)) (xCons (xCall minW (xCons (xK (.int 17)) (xCons (xCall lenW (xCons (xVar 0) (xNil))) (xNil)))) (xNil)))) (gN 4) (sSeq (sSet 5 (xBin modW (xCall intW (xCons (xCall absW (xCons (xBin ixW (xVar 0) (xVar 4)) (xNil))) (xNil))) (xK (.int 61))))
    (sSeq (sExpr (xMeth isL appW (xVar 2) (xCons (xSl (xVar 1) (xoSome (xVar 3)) (xoSome (xBin addW (xVar 3) (xVar 5)))) (xNil))))
    (sSet 3 (xBin addW (xVar 3) (xVar 5))))))
    (sSeq (sExpr (xMeth isL appW (xVar 2) (xCons (xSl (xVar 1) (xoSome (xVar 3)) (xoNone)) (xNil))))
    (sRet (xVar 2)))))
def F__law_pieces : List W → Hm → Out W := mkF 6 b__law_pieces
set_option maxHeartbeats 0 in
theorem ok__law_pieces {Γ : Gam} (E : Env Γ) : CalD Γ 1 (He.fAd Γ.K ("_law_pieces", none)) ["_law_script", "_law_message"] F__law_pieces := cal_mk (k := 0) E.d__law_pieces cb__law_pieces cs__law_pieces ck__law_pieces
    (sl_cons (ss_set 2 2 (se_lst (sa_nil)))
    (sl_cons (ss_set 3 3 (se_int))
    (sl_cons (ss_for (si_rng2 0 E.B (sa_cons (se_int) (sa_cons (e_min 1 E.B (sa_cons (se_int) (sa_cons (e_len 2 E.B (sa_cons (se_var 0 0) (sa_nil))) (sa_nil)))) (sa_nil)))) (sg_name 4 4) (sl_cons (ss_set 5 5 (se_bin os_mod (e_int 3 E.B (sa_cons (e_abs 4 E.B (sa_cons (se_ix (se_var 0 0) (se_var 4 4)) (sa_nil))) (sa_nil))) (se_int)))
    (sl_cons (ss_expr (e_append (se_var 2 2) (sa_cons (se_sl (se_var 1 1) (so_some (se_var 3 3)) (so_some (se_bin os_add (se_var 3 3) (se_var 5 5)))) (sa_nil))))
    (sl_one (ss_set 3 3 (se_bin os_add (se_var 3 3) (se_var 5 5)))))))
    (sl_cons (ss_expr (e_append (se_var 2 2) (sa_cons (se_sl (se_var 1 1) (so_some (se_var 3 3)) (so_none)) (sa_nil))))
    (sl_one (ss_ret (se_var 2 2)))))))
/-! _law_row -/
def c__law_row : Cfg := ⟨["_law_cell_here", "_law_count", "_law_row_here", "_law_left", "_law_k", "_law_state"], ["_law_cell_here", "_law_count", "_law_row_here", "_law_left", "_law_k", "_law_state"], ["_law_cell_here", "_law_count", "_law_row_here", "_law_left", "_law_k", "_law_state"], ["abs", "range", "int"], defScope (topS 38), true, true⟩
theorem ck__law_row : cfgOk c__law_row = true := by decide +kernel
theorem cs__law_row : FnScope c__law_row.N ["_law_cell_here", "_law_count"] (defScope (topS 38)) := ⟨rfl, rfl, rfl, by decide +kernel, rfl, by decide +kernel, by decide +kernel⟩
theorem cb__law_row : BindsN (topS 38) "_law_row" "_law_row" ["_law_cell_here", "_law_count"] := fun _ _ _ _ _ _ us hl => match us, hl with | [_, _], _ => rfl
abbrev b__law_row : XS :=
    sSeq (sSet 2 (xLst (xNil)))
    (sSeq (sSet 3 (xCall absW (xCons (xVar 0) (xNil))))
    (sSeq (sIf (xB (xBin geW (xVar 3) (xBin powW (xK (.int 10)) (xK (.int 18))))) (sSeq (sFor (iRng1 (xCons (xVar 1) (xNil))) (gN 4) (sSeq (sExpr (xMeth isL appW (xVar 2) (xCons (xBin andW (xVar 3) (xK (.int 255))) (xNil))))
    (sSet 3 (xBin shrW (xVar 3) (xK (.int 8))))))
    (sRet (xVar 2))) (sSkip))
    (sSeq (sSet 5 (xBin addW (xBin modW (xCall intW (xCons (xVar 3) (xNil))) (xK (.int 2147483629))) (xK (.int 1))))
    (sSeq (sFor (iRng1 (xCons (xVar 1) (xNil))) (gN 4) (sSeq (sSet 5 (xBin modW (xCall intW (xCons (xBin mulW (xVar 5) (xK (.int 48271))) (xNil))) (xK (.int 2147483647))))
    (sExpr (xMeth isL appW (xVar 2) (xCons (xBin andW (xBin addW (xBin fdivW (xVar 5) (xK (.int 7))) (xVar 5)) (xK (.int 255))) (xNil))))))
    (sRet (xVar 2))))))
def F__law_row : List W → Hm → Out W := mkF 6 b__law_row
set_option maxHeartbeats 0 in
theorem ok__law_row {Γ : Gam} (E : Env Γ) : CalD Γ 1 (He.fAd Γ.K ("_law_row", none)) ["_law_cell_here", "_law_count"] F__law_row := cal_mk (k := 0) E.d__law_row cb__law_row cs__law_row ck__law_row
    (sl_cons (ss_set 2 2 (se_lst (sa_nil)))
    (sl_cons (ss_set 3 3 (e_abs 0 E.B (sa_cons (se_var 0 0) (sa_nil))))
    (sl_cons (ss_if (st_cmp os_ge (se_var 3 3) (se_bin os_pow (se_int) (se_int))) (sl_cons (ss_for (si_rng1 1 E.B (sa_cons (se_var 1 1) (sa_nil))) (sg_name 4 4) (sl_cons (ss_expr (e_append (se_var 2 2) (sa_cons (se_bin os_and (se_var 3 3) (se_int)) (sa_nil))))
    (sl_one (ss_set 3 3 (se_bin os_shr (se_var 3 3) (se_int))))))
    (sl_one (ss_ret (se_var 2 2)))) (sl_nil))
    (sl_cons (ss_set 5 5 (se_bin os_add (se_bin os_mod (e_int 2 E.B (sa_cons (se_var 3 3) (sa_nil))) (se_int)) (se_int)))
    (sl_cons (ss_for (si_rng1 1 E.B (sa_cons (se_var 1 1) (sa_nil))) (sg_name 4 4) (sl_cons (ss_set 5 5 (se_bin os_mod (e_int 2 E.B (sa_cons (se_bin os_mul (se_var 5 5) (se_int)) (sa_nil))) (se_int)))
    (sl_one (ss_expr (e_append (se_var 2 2) (sa_cons (se_bin os_and (se_bin os_add (se_bin os_fdiv (se_var 5 5) (se_int)) (se_var 5 5)) (se_int)) (sa_nil)))))))
    (sl_one (ss_ret (se_var 2 2))))))))
/-! digest_size -/
def c_digest_size : Cfg := ⟨["kind"], ["kind"], ["kind"], ["check_kind", "SIZES"], defScope (topS 17), true, true⟩
theorem ck_digest_size : cfgOk c_digest_size = true := by decide +kernel
theorem cs_digest_size : FnScope c_digest_size.N ["kind"] (defScope (topS 17)) := ⟨rfl, rfl, rfl, by decide +kernel, rfl, by decide +kernel, by decide +kernel⟩
theorem cb_digest_size : BindsN (topS 17) "digest_size" "digest_size" ["kind"] := fun _ _ _ _ _ _ us hl => match us, hl with | [_], _ => rfl
abbrev b_digest_size : XS :=
    sSeq (sExpr (xFn F_check_kind (xCons (xVar 0) (xNil))))
    (sRet (xBin ixW (xKGet d_SIZES (xVar 0)) (xK (.int 4))))
def F_digest_size : List W → Hm → Out W := mkF 1 b_digest_size
set_option maxHeartbeats 0 in
theorem ok_digest_size {Γ : Gam} (E : Env Γ) : CalD Γ 2 (He.fAd Γ.K ("digest_size", none)) ["kind"] F_digest_size := cal_mk (k := 1) E.d_digest_size cb_digest_size cs_digest_size ck_digest_size
    (sl_cons (ss_expr (se_cal 0 (Cal.of (ok_check_kind E) E.g_check_kind) (sa_cons (se_var 0 0) (sa_nil)) (len_cons (len_nil))))
    (sl_one (ss_ret (se_ix (se_kget 1 E.kd_SIZES (se_var 0 0) (by decide +kernel)) (se_int)))))
/-! Sha512.__init__ -/
def c_Sha512___init__ : Cfg := ⟨["self"], ["self"], ["self"], ["digest_size", "block_size"], defScope (inClass (topS 34) 0), true, true⟩
theorem ck_Sha512___init__ : cfgOk c_Sha512___init__ = true := by decide +kernel
theorem cs_Sha512___init__ : FnScope c_Sha512___init__.N ["self"] (defScope (inClass (topS 34) 0)) := ⟨rfl, rfl, rfl, by decide +kernel, rfl, by decide +kernel, by decide +kernel⟩
theorem cb_Sha512___init__ : BindsN (inClass (topS 34) 0) "__init__" "Sha512.__init__" ["self"] := fun _ _ _ _ _ _ us hl => match us, hl with | [_], _ => rfl
abbrev b_Sha512___init__ : XS :=
    sSeq (sFldSet [3, 4] "name" (xVar 0) (xK (.str "sha512")))
    (sSeq (sFldSet [3, 4] "size" (xVar 0) (xFn F_digest_size (xCons (xK (.str "sha512")) (xNil))))
    (sFldSet [3, 4] "block_size" (xVar 0) (xFn F_block_size (xCons (xK (.str "sha512")) (xNil)))))
def F_Sha512___init__ : List W → Hm → Out W := mkF 1 b_Sha512___init__
set_option maxHeartbeats 0 in
theorem ok_Sha512___init__ {Γ : Gam} (E : Env Γ) : CalD Γ 3 (He.fAd Γ.K ("Sha512", some "__init__")) ["self"] F_Sha512___init__ := cal_mk (k := 2) E.d_Sha512___init__ cb_Sha512___init__ cs_Sha512___init__ ck_Sha512___init__
    (sl_cons (ss_fld (FldOk.cons E.c_Sha256 E.n_Sha256_name (FldOk.cons E.c_Sha512 E.n_Sha512_name (FldOk.nil))) (se_var 0 0) (se_str))
    (sl_cons (ss_fld (FldOk.cons E.c_Sha256 E.n_Sha256_size (FldOk.cons E.c_Sha512 E.n_Sha512_size (FldOk.nil))) (se_var 0 0) (se_cal 0 (Cal.of (ok_digest_size E) E.g_digest_size) (sa_cons (se_str) (sa_nil)) (len_cons (len_nil))))
    (sl_one (ss_fld (FldOk.cons E.c_Sha256 E.n_Sha256_block_size (FldOk.cons E.c_Sha512 E.n_Sha512_block_size (FldOk.nil))) (se_var 0 0) (se_cal 1 (Cal.of (ok_block_size E) E.g_block_size) (sa_cons (se_str) (sa_nil)) (len_cons (len_nil)))))))
/-! Sha256.__init__ -/
def c_Sha256___init__ : Cfg := ⟨["self"], ["self"], ["self"], ["digest_size", "block_size"], defScope (inClass (topS 33) 0), true, true⟩
theorem ck_Sha256___init__ : cfgOk c_Sha256___init__ = true := by decide +kernel
theorem cs_Sha256___init__ : FnScope c_Sha256___init__.N ["self"] (defScope (inClass (topS 33) 0)) := ⟨rfl, rfl, rfl, by decide +kernel, rfl, by decide +kernel, by decide +kernel⟩
theorem cb_Sha256___init__ : BindsN (inClass (topS 33) 0) "__init__" "Sha256.__init__" ["self"] := fun _ _ _ _ _ _ us hl => match us, hl with | [_], _ => rfl
abbrev b_Sha256___init__ : XS :=
    sSeq (sFldSet [3, 4] "name" (xVar 0) (xK (.str "sha256")))
    (sSeq (sFldSet [3, 4] "size" (xVar 0) (xFn F_digest_size (xCons (xK (.str "sha256")) (xNil))))
    (sFldSet [3, 4] "block_size" (xVar 0) (xFn F_block_size (xCons (xK (.str "sha256")) (xNil)))))
def F_Sha256___init__ : List W → Hm → Out W := mkF 1 b_Sha256___init__
set_option maxHeartbeats 0 in
theorem ok_Sha256___init__ {Γ : Gam} (E : Env Γ) : CalD Γ 3 (He.fAd Γ.K ("Sha256", some "__init__")) ["self"] F_Sha256___init__ := cal_mk (k := 2) E.d_Sha256___init__ cb_Sha256___init__ cs_Sha256___init__ ck_Sha256___init__
    (sl_cons (ss_fld (FldOk.cons E.c_Sha256 E.n_Sha256_name (FldOk.cons E.c_Sha512 E.n_Sha512_name (FldOk.nil))) (se_var 0 0) (se_str))
    (sl_cons (ss_fld (FldOk.cons E.c_Sha256 E.n_Sha256_size (FldOk.cons E.c_Sha512 E.n_Sha512_size (FldOk.nil))) (se_var 0 0) (se_cal 0 (Cal.of (ok_digest_size E) E.g_digest_size) (sa_cons (se_str) (sa_nil)) (len_cons (len_nil))))
    (sl_one (ss_fld (FldOk.cons E.c_Sha256 E.n_Sha256_block_size (FldOk.cons E.c_Sha512 E.n_Sha512_block_size (FldOk.nil))) (se_var 0 0) (se_cal 1 (Cal.of (ok_block_size E) E.g_block_size) (sa_cons (se_str) (sa_nil)) (len_cons (len_nil)))))))
/-! law -/
def c_law : Cfg := ⟨["_law_script", "_law_cell_here", "_law_kind", "_law_hasher", "_law_message", "_law_pieces_here", "_law_digester", "_law_other", "_law_twin", "_law_apart", "_law_joined", "_law_when", "_law_k", "_law_given", "_law_parts", "_law_due", "_law_piece"], ["_law_script", "_law_cell_here", "_law_kind", "_law_hasher", "_law_message", "_law_pieces_here", "_law_digester", "_law_other", "_law_twin", "_law_apart", "_law_joined", "_law_when", "_law_k", "_law_given", "_law_parts", "_law_due"], ["_law_script", "_law_cell_here", "_law_kind", "_law_hasher", "_law_message", "_law_pieces_here", "_law_digester", "_law_other", "_law_twin", "_law_apart", "_law_joined", "_law_when", "_law_k", "_law_given", "_law_parts", "_law_due"], ["abs", "_law_cell", "int", "Sha256", "Sha512", "_law_row", "_law_pieces", "Digester", "len", "range", "list", "_law_told", "digest_digest", "digest_parts_digest", "_law_no_kind", "str"], defScope (topS 43), true, true⟩
theorem ck_law : cfgOk c_law = true := by decide +kernel
theorem cs_law : FnScope c_law.N ["_law_script"] (defScope (topS 43)) := ⟨rfl, rfl, rfl, by decide +kernel, rfl, by decide +kernel, by decide +kernel⟩
theorem cb_law : BindsN (topS 43) "law" "law" ["_law_script"] := fun _ _ _ _ _ _ us hl => match us, hl with | [_], _ => rfl
abbrev b_law : XS :=
    sSeq (sSet 1 (xCall absW (xCons (xFn F__law_cell (xCons (xVar 0) (xCons (xK (.int 0)) (xNil)))) (xNil))))
    (sSeq (sSet 2 (xBin ixW (xLst (xCons (xK (.str "sha256")) (xCons (xK (.str "sha512")) (xNil)))) (xBin andW (xCall intW (xCons (xVar 1) (xNil))) (xK (.int 1)))))
    (sSeq (sSet 3 (xBin ixW (xLst (xCons (xMake 3 F_Sha256___init__ xNil) (xCons (xMake 4 F_Sha512___init__ xNil) (xNil)))) (xBin andW (xCall intW (xCons (xVar 1) (xNil))) (xK (.int 1)))))
    (sSeq (sSet 4 (xFn F__law_row (xCons (xFn F__law_cell (xCons (xVar 0) (xCons (xK (.int 1)) (xNil)))) (xCons (xBin modW (xCall intW (xCons (xBin fdivW (xVar 1) (xK (.int 2))) (xNil))) (xK (.int 201))) (xNil)))))
    (sSeq (sSet 5 (xFn F__law_pieces (xCons (xVar 0) (xCons (xVar 4) (xNil)))))
    (sSeq (sSet 6 (xMake 2 F_Digester___init__ (xCons (xVar 2) (xNil))))
    (sSeq (sSet 7 (xMet [(3, F_Sha256_pieces), (4, F_Sha512_pieces)] "pieces" (xVar 3) xNil))
    (sSeq (sSet 8 (xMake 2 F_Digester___init__ (xCons (xVar 2) (xNil))))
    (sSeq (sSet 9 (xLst (xNil)))
    (sSeq (sSet 10 (xLst (xNil)))
    (sSeq (sSet 11 (xBin modW (xCall intW (xCons (xCall absW (xCons (xFn F__law_cell (xCons (xVar 0) (xCons (xK (.int 2)) (xNil)))) (xNil))) (xNil))) (xCall lenW (xCons (xVar 5) (xNil)))))
    (sSeq (sFor (iRng1 (xCons (xCall lenW (xCons (xVar 5) (xNil))) (xNil))) (gN 12) (sSeq (sSet 13 (xCall listW (xCons (xBin ixW (xVar 5) (xVar 12)) (xNil))))
    (sSeq (sIf (xOrT (xB (xBin isnW (xMet [(2, F_Digester_add)] "add" (xVar 6) (xCons (xVar 13) (xNil))) (xK .non))) (xB (xBin neW (xVar 13) (xBin ixW (xVar 5) (xVar 12))))) (sRet (xK (.bl false))) (sSkip))
    (sSeq (sExpr (xMet [(2, F_Digester_add)] "add" (xVar 7) (xCons (xCall listW (xCons (xBin ixW (xVar 5) (xVar 12)) (xNil))) (xNil))))
    (sSeq (sExpr (xMeth isL appW (xVar 13) (xCons (xK (.int 9)) (xNil))))
    (sSeq (sSet 10 (xBin addW (xVar 10) (xBin ixW (xVar 5) (xVar 12))))
    (sSeq (sIf (xB (xBin eqW (xVar 12) (xVar 11))) (sSeq (sSet 8 (xMet [(2, F_Digester_twin)] "twin" (xVar 6) xNil))
    (sSeq (sSet 9 (xBin addW (xVar 10) (xLst (xCons (xK (.int 7)) (xCons (xK (.int 7)) (xNil))))))
    (sSeq (sExpr (xMet [(2, F_Digester_add)] "add" (xVar 8) (xCons (xLst (xCons (xK (.int 7)) (xNil))) (xNil))))
    (sExpr (xMet [(2, F_Digester_add)] "add" (xVar 8) (xCons (xLst (xCons (xK (.int 7)) (xNil))) (xNil))))))) (sSkip))
    (sIf (xAndT (xB (xBin eqW (xBin andW (xVar 12) (xK (.int 3))) (xK (.int 2)))) (xNotT (xB (xFn F__law_told (xCons (xVar 6) (xCons (xVar 2) (xCons (xVar 10) (xNil)))))))) (sRet (xK (.bl false))) (sSkip)))))))))
    (sSeq (sIf (xOrT (xB (xBin neW (xVar 10) (xVar 4))) (xOrT (xNotT (xB (xFn F__law_told (xCons (xVar 6) (xCons (xVar 2) (xCons (xVar 4) (xNil))))))) (xNotT (xB (xFn F__law_told (xCons (xVar 8) (xCons (xVar 2) (xCons (xVar 9) (xNil))))))))) (sRet (xK (.bl false))) (sSkip))
    (sSeq (sSet 14 (xComp (iAny (xVar 5)) (gN 16) (xTrue) (xCall listW (xCons (xVar 16) (xNil))) [16]))
    (sSeq (sSet 15 (xFn F_digest (xCons (xVar 2) (xCons (xCall listW (xCons (xVar 4) (xNil))) (xNil)))))
    (sSeq (sIf (xOrT (xB (xBin neW (xFn F_digest_parts (xCons (xVar 2) (xCons (xVar 14) (xNil)))) (xVar 15))) (xOrT (xB (xBin neW (xMet [(3, F_Sha256_digest_parts), (4, F_Sha512_digest_parts)] "digest_parts" (xVar 3) (xCons (xVar 14) (xNil))) (xVar 15))) (xB (xBin neW (xVar 14) (xVar 5))))) (sRet (xK (.bl false))) (sSkip))
    (sSeq (sIf (xOrT (xB (xBin neW (xMet [(3, F_Sha256_digest), (4, F_Sha512_digest)] "digest" (xVar 3) (xCons (xCall listW (xCons (xVar 4) (xNil))) (xNil))) (xVar 15))) (xOrT (xB (xBin neW (xMet [(2, F_Digester_told)] "told" (xVar 7) xNil) (xVar 15))) (xNotT (xB (xFn F__law_no_kind (xCons (xBin addW (xK (.str "sha")) (xCall strW (xCons (xBin modW (xCall intW (xCons (xVar 1) (xNil))) (xK (.int 100))) (xNil)))) (xNil))))))) (sRet (xK (.bl false))) (sSkip))
    (sSeq (sIf (xB (xBin eqW (xBin andW (xCall intW (xCons (xVar 1) (xNil))) (xK (.int 1))) (xK (.int 1)))) (sRet (xBin eqW (xLst (xCons (xFld [3, 4] "name" (xVar 3)) (xCons (xFld [3, 4] "size" (xVar 3)) (xCons (xFld [3, 4] "block_size" (xVar 3)) (xNil))))) (xLst (xCons (xK (.str "sha512")) (xCons (xK (.int 64)) (xCons (xK (.int 128)) (xNil))))))) (sSkip))
    (sRet (xBin eqW (xLst (xCons (xFld [3, 4] "name" (xVar 3)) (xCons (xFld [3, 4] "size" (xVar 3)) (xCons (xFld [3, 4] "block_size" (xVar 3)) (xNil))))) (xLst (xCons (xK (.str "sha256")) (xCons (xK (.int 32)) (xCons (xK (.int 64)) (xNil))))))))))))))))))))))))
def F_law : List W → Hm → Out W := mkF 17 b_law
set_option maxHeartbeats 0 in
theorem ok_law {Γ : Gam} (E : Env Γ) : CalD Γ 8 (He.fAd Γ.K ("law", none)) ["_law_script"] F_law := cal_mk (k := 7) E.d_law cb_law cs_law ck_law
    (sl_cons (ss_set 1 1 (e_abs 0 E.B (sa_cons (se_cal 1 (Cal.of (ok__law_cell E) E.g__law_cell) (sa_cons (se_var 0 0) (sa_cons (se_int) (sa_nil))) (len_cons (len_cons (len_nil)))) (sa_nil))))
    (sl_cons (ss_set 2 2 (se_ix (se_lst (sa_cons (se_str) (sa_cons (se_str) (sa_nil)))) (se_bin os_and (e_int 2 E.B (sa_cons (se_var 1 1) (sa_nil))) (se_int))))
    (sl_cons (ss_set 3 3 (se_ix (se_lst (sa_cons (se_make0 3 (MakeOk.of E.mk_Sha256 (ok_Sha256___init__ E) rfl E.gc_Sha256)) (sa_cons (se_make0 4 (MakeOk.of E.mk_Sha512 (ok_Sha512___init__ E) rfl E.gc_Sha512)) (sa_nil)))) (se_bin os_and (e_int 2 E.B (sa_cons (se_var 1 1) (sa_nil))) (se_int))))
    (sl_cons (ss_set 4 4 (se_cal 5 (Cal.of (ok__law_row E) E.g__law_row) (sa_cons (se_cal 1 (Cal.of (ok__law_cell E) E.g__law_cell) (sa_cons (se_var 0 0) (sa_cons (se_int) (sa_nil))) (len_cons (len_cons (len_nil)))) (sa_cons (se_bin os_mod (e_int 2 E.B (sa_cons (se_bin os_fdiv (se_var 1 1) (se_int)) (sa_nil))) (se_int)) (sa_nil))) (len_cons (len_cons (len_nil)))))
    (sl_cons (ss_set 5 5 (se_cal 6 (Cal.of (ok__law_pieces E) E.g__law_pieces) (sa_cons (se_var 0 0) (sa_cons (se_var 4 4) (sa_nil))) (len_cons (len_cons (len_nil)))))
    (sl_cons (ss_set 6 6 (se_make 7 (MakeOk.of E.mk_Digester (ok_Digester___init__ E) rfl E.gc_Digester) (sa_cons (se_var 2 2) (sa_nil)) (len_cons (len_nil))))
    (sl_cons (ss_set 7 7 (se_met0 (j := 7) (MetOk.cons E.c_Sha256 E.me_Sha256_pieces (ok_Sha256_pieces E) rfl (by decide) (MetOk.cons E.c_Sha512 E.me_Sha512_pieces (ok_Sha512_pieces E) rfl (by decide) (MetOk.nil))) (se_var 3 3)))
    (sl_cons (ss_set 8 8 (se_make 7 (MakeOk.of E.mk_Digester (ok_Digester___init__ E) rfl E.gc_Digester) (sa_cons (se_var 2 2) (sa_nil)) (len_cons (len_nil))))
    (sl_cons (ss_set 9 9 (se_lst (sa_nil)))
    (sl_cons (ss_set 10 10 (se_lst (sa_nil)))
    (sl_cons (ss_set 11 11 (se_bin os_mod (e_int 2 E.B (sa_cons (e_abs 0 E.B (sa_cons (se_cal 1 (Cal.of (ok__law_cell E) E.g__law_cell) (sa_cons (se_var 0 0) (sa_cons (se_int) (sa_nil))) (len_cons (len_cons (len_nil)))) (sa_nil))) (sa_nil))) (e_len 8 E.B (sa_cons (se_var 5 5) (sa_nil)))))
    (sl_cons (ss_for (si_rng1 9 E.B (sa_cons (e_len 8 E.B (sa_cons (se_var 5 5) (sa_nil))) (sa_nil))) (sg_name 12 12) (sl_cons (ss_set 13 13 (e_list 10 E.B (sa_cons (se_ix (se_var 5 5) (se_var 12 12)) (sa_nil))))
    (sl_cons (ss_if (st_w (sw_or (st_cmp os_isn (se_met (j := 7) (MetOk.cons E.c_Digester E.me_Digester_add (ok_Digester_add E) rfl (by decide) (MetOk.nil)) (se_var 6 6) (sa_cons (se_var 13 13) (sa_nil)) (len_cons (len_nil))) (se_non)) (sw_one (st_cmp os_ne (se_var 13 13) (se_ix (se_var 5 5) (se_var 12 12)))))) (sl_one (ss_ret (se_bl))) (sl_nil))
    (sl_cons (ss_expr (se_met (j := 7) (MetOk.cons E.c_Digester E.me_Digester_add (ok_Digester_add E) rfl (by decide) (MetOk.nil)) (se_var 7 7) (sa_cons (e_list 10 E.B (sa_cons (se_ix (se_var 5 5) (se_var 12 12)) (sa_nil))) (sa_nil)) (len_cons (len_nil))))
    (sl_cons (ss_expr (e_append (se_var 13 13) (sa_cons (se_int) (sa_nil))))
    (sl_cons (ss_set 10 10 (se_bin os_add (se_var 10 10) (se_ix (se_var 5 5) (se_var 12 12))))
    (sl_cons (ss_if (st_cmp os_eq (se_var 12 12) (se_var 11 11)) (sl_cons (ss_set 8 8 (se_met0 (j := 7) (MetOk.cons E.c_Digester E.me_Digester_twin (ok_Digester_twin E) rfl (by decide) (MetOk.nil)) (se_var 6 6)))
    (sl_cons (ss_set 9 9 (se_bin os_add (se_var 10 10) (se_lst (sa_cons (se_int) (sa_cons (se_int) (sa_nil))))))
    (sl_cons (ss_expr (se_met (j := 7) (MetOk.cons E.c_Digester E.me_Digester_add (ok_Digester_add E) rfl (by decide) (MetOk.nil)) (se_var 8 8) (sa_cons (se_lst (sa_cons (se_int) (sa_nil))) (sa_nil)) (len_cons (len_nil))))
    (sl_one (ss_expr (se_met (j := 7) (MetOk.cons E.c_Digester E.me_Digester_add (ok_Digester_add E) rfl (by decide) (MetOk.nil)) (se_var 8 8) (sa_cons (se_lst (sa_cons (se_int) (sa_nil))) (sa_nil)) (len_cons (len_nil)))))))) (sl_nil))
    (sl_one (ss_if (st_w (sw_and (st_cmp os_eq (se_bin os_and (se_var 12 12) (se_int)) (se_int)) (sw_one (st_not (st_val (se_cal 11 (Cal.of (ok__law_told E) E.g__law_told) (sa_cons (se_var 6 6) (sa_cons (se_var 2 2) (sa_cons (se_var 10 10) (sa_nil)))) (len_cons (len_cons (len_cons (len_nil)))))))))) (sl_one (ss_ret (se_bl))) (sl_nil))))))))))
    (sl_cons (ss_if (st_w (sw_or (st_cmp os_ne (se_var 10 10) (se_var 4 4)) (sw_or (st_not (st_val (se_cal 11 (Cal.of (ok__law_told E) E.g__law_told) (sa_cons (se_var 6 6) (sa_cons (se_var 2 2) (sa_cons (se_var 4 4) (sa_nil)))) (len_cons (len_cons (len_cons (len_nil))))))) (sw_one (st_not (st_val (se_cal 11 (Cal.of (ok__law_told E) E.g__law_told) (sa_cons (se_var 8 8) (sa_cons (se_var 2 2) (sa_cons (se_var 9 9) (sa_nil)))) (len_cons (len_cons (len_cons (len_nil))))))))))) (sl_one (ss_ret (se_bl))) (sl_nil))
    (sl_cons (ss_lc 14 14 [("_law_piece", 16)] ["_law_piece"] ["_law_piece"] ["list"] (si_any (se_var 5 5)) (so_name 16 0) (sts_nil) (e_list 0 E.B (sa_cons (se_var 16 0) (sa_nil))) (by decide +kernel) (by decide +kernel) (by decide +kernel) (by decide +kernel))
    (sl_cons (ss_set 15 15 (se_cal 12 (Cal.of (ok_digest E) E.a_digest_digest) (sa_cons (se_var 2 2) (sa_cons (e_list 10 E.B (sa_cons (se_var 4 4) (sa_nil))) (sa_nil))) (len_cons (len_cons (len_nil)))))
    (sl_cons (ss_if (st_w (sw_or (st_cmp os_ne (se_cal 13 (Cal.of (ok_digest_parts E) E.a_digest_parts_digest) (sa_cons (se_var 2 2) (sa_cons (se_var 14 14) (sa_nil))) (len_cons (len_cons (len_nil)))) (se_var 15 15)) (sw_or (st_cmp os_ne (se_met (j := 7) (MetOk.cons E.c_Sha256 E.me_Sha256_digest_parts (ok_Sha256_digest_parts E) rfl (by decide) (MetOk.cons E.c_Sha512 E.me_Sha512_digest_parts (ok_Sha512_digest_parts E) rfl (by decide) (MetOk.nil))) (se_var 3 3) (sa_cons (se_var 14 14) (sa_nil)) (len_cons (len_nil))) (se_var 15 15)) (sw_one (st_cmp os_ne (se_var 14 14) (se_var 5 5)))))) (sl_one (ss_ret (se_bl))) (sl_nil))
    (sl_cons (ss_if (st_w (sw_or (st_cmp os_ne (se_met (j := 7) (MetOk.cons E.c_Sha256 E.me_Sha256_digest (ok_Sha256_digest E) rfl (by decide) (MetOk.cons E.c_Sha512 E.me_Sha512_digest (ok_Sha512_digest E) rfl (by decide) (MetOk.nil))) (se_var 3 3) (sa_cons (e_list 10 E.B (sa_cons (se_var 4 4) (sa_nil))) (sa_nil)) (len_cons (len_nil))) (se_var 15 15)) (sw_or (st_cmp os_ne (se_met0 (j := 7) (MetOk.cons E.c_Digester E.me_Digester_told (ok_Digester_told E) rfl (by decide) (MetOk.nil)) (se_var 7 7)) (se_var 15 15)) (sw_one (st_not (st_val (se_cal 14 (Cal.of (ok__law_no_kind E) E.g__law_no_kind) (sa_cons (se_bin os_add (se_str) (e_str 15 E.B (sa_cons (se_bin os_mod (e_int 2 E.B (sa_cons (se_var 1 1) (sa_nil))) (se_int)) (sa_nil)))) (sa_nil)) (len_cons (len_nil))))))))) (sl_one (ss_ret (se_bl))) (sl_nil))
    (sl_cons (ss_if (st_cmp os_eq (se_bin os_and (e_int 2 E.B (sa_cons (se_var 1 1) (sa_nil))) (se_int)) (se_int)) (sl_one (ss_ret (se_cmp os_eq (se_lst (sa_cons (se_fld (FldOk.cons E.c_Sha256 E.n_Sha256_name (FldOk.cons E.c_Sha512 E.n_Sha512_name (FldOk.nil))) (se_var 3 3)) (sa_cons (se_fld (FldOk.cons E.c_Sha256 E.n_Sha256_size (FldOk.cons E.c_Sha512 E.n_Sha512_size (FldOk.nil))) (se_var 3 3)) (sa_cons (se_fld (FldOk.cons E.c_Sha256 E.n_Sha256_block_size (FldOk.cons E.c_Sha512 E.n_Sha512_block_size (FldOk.nil))) (se_var 3 3)) (sa_nil))))) (se_lst (sa_cons (se_str) (sa_cons (se_int) (sa_cons (se_int) (sa_nil)))))))) (sl_nil))
    (sl_one (ss_ret (se_cmp os_eq (se_lst (sa_cons (se_fld (FldOk.cons E.c_Sha256 E.n_Sha256_name (FldOk.cons E.c_Sha512 E.n_Sha512_name (FldOk.nil))) (se_var 3 3)) (sa_cons (se_fld (FldOk.cons E.c_Sha256 E.n_Sha256_size (FldOk.cons E.c_Sha512 E.n_Sha512_size (FldOk.nil))) (se_var 3 3)) (sa_cons (se_fld (FldOk.cons E.c_Sha256 E.n_Sha256_block_size (FldOk.cons E.c_Sha512 E.n_Sha512_block_size (FldOk.nil))) (se_var 3 3)) (sa_nil))))) (se_lst (sa_cons (se_str) (sa_cons (se_int) (sa_cons (se_int) (sa_nil))))))))))))))))))))))))))
end L_curveseal_k36_digests_in_pieces

local macro_rules | `(tactic| array_mem_dec) => `(tactic| with_reducible first | assumption | ((apply Z.Bd.mul) <;> array_mem_dec) | ((apply Z.Bd.add) <;> array_mem_dec) | ((apply Z.Bd.sub) <;> array_mem_dec) | ((apply Z.Bd.neg) <;> array_mem_dec) | ((apply Z.Bd.mod) <;> assumption) | ((apply Z.bd_num) <;> decide))
local macro_rules | `(tactic| array_get_dec) => `(tactic| repeat (first | (with_reducible (apply Z.is_S; first | apply Z.w_seq | apply Z.w_set | apply Z.w_if | apply Z.w_ret | apply Z.w_expr | apply Z.w_For | apply Z.w_asg | apply Z.w_skip | apply Z.w_sub | apply Z.w_retN | apply Z.w_break | apply Z.w_cont | apply Z.w_fldset | apply Z.w_raise | apply Z.w_try)) | ((with_reducible apply Z.is_O); first | (with_reducible first | apply Z.o_addI | apply Z.o_subI | apply Z.o_eqI | apply Z.o_neI | apply Z.o_ltI | apply Z.o_gtI | apply Z.o_leI | apply Z.o_geI | apply Z.o_andI | apply Z.o_orI | apply Z.o_xorI | apply Z.o_negI | apply Z.o_eqS | apply Z.o_neS | apply Z.o_eqB | apply Z.o_neB | apply Z.o_isN | apply Z.o_isnN | apply Z.o_isB | apply Z.o_isnB | apply Z.o_lenT | apply Z.o_abs | apply Z.o_int | apply Z.o_intB | apply Z.o_ord1 | apply Z.o_leS | apply Z.o_min | apply Z.o_max) | ((with_reducible apply Z.o_ixT); exact rfl) | ((with_reducible apply Z.o_mulB); array_mem_dec; array_mem_dec; decide)) | ((with_reducible apply Z.w_var); exact rfl) | (with_reducible (apply Z.is_E; first | apply Z.w_bin | apply Z.w_cons | apply Z.w_nil | apply Z.w_K | apply Z.w_call | apply Z.w_Fn | apply Z.w_B | apply Z.w_asB | apply Z.w_tup | apply Z.w_OrT | apply Z.w_AndT | apply Z.w_NotT | apply Z.w_lst | apply Z.w_Meth | apply Z.w_Isi | apply Z.w_And | apply Z.w_Or | apply Z.w_Not | apply Z.w_If | apply Z.w_Chain | apply Z.w_un | apply Z.w_oNone | apply Z.w_oSome | apply Z.w_Sl | apply Z.w_iRng1 | apply Z.w_iAny | apply Z.w_iRng2 | apply Z.w_iRev | apply Z.w_iZip | apply Z.w_iEnum | apply Z.w_comp | apply Z.w_true | apply Z.w_dic | apply Z.w_Fld | apply Z.w_Met | apply Z.w_Make | apply Z.w_KGet | apply Z.w_KIn)) | (with_reducible (apply Z.is_D; first | apply Z.d_T | apply Z.d_F | apply Z.d_not)) | (with_reducible apply Z.d_bl) | (with_reducible apply Z.d_int) | (with_reducible refine Z.d_len (by simp) ?_) | ((with_reducible apply Z.d_fld); (with_reducible assumption); exact rfl; exact rfl) | ((with_reducible apply Z.d_met); (with_reducible assumption); exact rfl; exact rfl)))
local macro_rules | `(tactic| sizeOf_list_dec) => `(tactic| repeat (first | (with_reducible (apply Z.is_S; first | apply Z.w_seq | apply Z.w_set | apply Z.w_if | apply Z.w_ret | apply Z.w_expr | apply Z.w_For | apply Z.w_asg | apply Z.w_skip | apply Z.w_sub | apply Z.w_retN | apply Z.w_break | apply Z.w_cont | apply Z.w_fldset | apply Z.w_raise | apply Z.w_try)) | ((with_reducible apply Z.is_O); first | (with_reducible first | apply Z.o_addI | apply Z.o_subI | apply Z.o_eqI | apply Z.o_neI | apply Z.o_ltI | apply Z.o_gtI | apply Z.o_leI | apply Z.o_geI | apply Z.o_andI | apply Z.o_orI | apply Z.o_xorI | apply Z.o_negI | apply Z.o_eqS | apply Z.o_neS | apply Z.o_eqB | apply Z.o_neB | apply Z.o_isN | apply Z.o_isnN | apply Z.o_isB | apply Z.o_isnB | apply Z.o_lenT | apply Z.o_abs | apply Z.o_int | apply Z.o_intB | apply Z.o_ord1 | apply Z.o_leS | apply Z.o_min | apply Z.o_max) | ((with_reducible apply Z.o_ixT); exact rfl) | ((with_reducible apply Z.o_mulB); array_mem_dec; array_mem_dec; decide)) | ((with_reducible apply Z.w_var); exact rfl) | (with_reducible (apply Z.is_E; first | apply Z.w_bin | apply Z.w_cons | apply Z.w_nil | apply Z.w_K | apply Z.w_call | apply Z.w_Fn | apply Z.w_B | apply Z.w_asB | apply Z.w_tup | apply Z.w_OrT | apply Z.w_AndT | apply Z.w_NotT | apply Z.w_lst | apply Z.w_Meth | apply Z.w_Isi | apply Z.w_And | apply Z.w_Or | apply Z.w_Not | apply Z.w_If | apply Z.w_Chain | apply Z.w_un | apply Z.w_oNone | apply Z.w_oSome | apply Z.w_Sl | apply Z.w_iRng1 | apply Z.w_iAny | apply Z.w_iRng2 | apply Z.w_iRev | apply Z.w_iZip | apply Z.w_iEnum | apply Z.w_comp | apply Z.w_true | apply Z.w_dic | apply Z.w_Fld | apply Z.w_Met | apply Z.w_Make | apply Z.w_KGet | apply Z.w_KIn)) | (with_reducible (apply Z.is_D; first | apply Z.d_T | apply Z.d_F | apply Z.d_not)) | (with_reducible apply Z.d_bl) | (with_reducible apply Z.d_int) | (with_reducible refine Z.d_len (by simp) ?_) | ((with_reducible apply Z.d_fld); (with_reducible assumption); exact rfl; exact rfl) | ((with_reducible apply Z.d_met); (with_reducible assumption); exact rfl; exact rfl) | (with_reducible (apply Z.is_D; first | refine Z.d_decF (by omega) ?_ | refine Z.d_decT (by omega) ?_)) | (with_reducible (apply Z.is_O; first | refine Z.o_mulS (by first | decide | omega) ?_ | refine Z.o_mulSR (by first | decide | omega) ?_ | refine Z.o_modI (by first | decide | omega) ?_ | refine Z.o_fdivI (by first | decide | omega) ?_ | refine Z.o_shrI (by first | decide | omega) ?_ | refine Z.o_lenS (by first | decide | omega) ?_))))
/-! D0: bytes of numbers, numbers of bytes -/
namespace Z
open PySem PySem.Spec PyProof.Rows L2
open L_curveseal_k36_digests_in_pieces
abbrev li (l : List Int) : O := .lst (l.map W.int)
section
variable {h : Hm} {V : W → Hm → Prop} {E : Exn → Hm → Prop}
theorem i32n {a : Nat} : (a : Int).toNat = a := by omega
def byteAt (n : Int) (j : Nat) : Int := Builtin.bitAnd (n / 256 ^ j) 255
def tlB (n : Int) (k : Nat) : List Int := (List.range k).map (byteAt n)
def tbB (n : Int) (k : Nat) : List Int := (tlB n k).reverse
theorem byte_r {n : Int} {j : Nat} : 0 ≤ byteAt n j ∧ byteAt n j ≤ 255 := bitAnd_range (by decide)
theorem byte_e {n : Int} {j : Nat} : byteAt n j = n / 256 ^ j % 256 := bitAnd_m8 _
theorem tlB_len {n : Int} {k : Nat} : (tlB n k).length = k := by simp [tlB]
theorem tbB_len {n : Int} {k : Nat} : (tbB n k).length = k := by simp [tbB, tlB]
/-- bytes -/
def By (l : List Int) : Prop := ∀ x ∈ l, 0 ≤ x ∧ x ≤ 255
theorem tlB_by {n : Int} {k : Nat} : By (tlB n k) := fun x hx => by
  obtain ⟨j, _, rfl⟩ := List.mem_map.mp hx
  exact byte_r
theorem tbB_by {n : Int} {k : Nat} : By (tbB n k) := fun x hx => tlB_by x (List.mem_reverse.mp hx)
theorem By.app {l m : List Int} (a : By l) (b : By m) : By (l ++ m) := fun x hx => (List.mem_append.mp hx).elim (a x) (b x)
theorem By.take {l : List Int} (n : Nat) (a : By l) : By (l.take n) := fun x hx => a x (List.mem_of_mem_take hx)
theorem By.drop {l : List Int} (n : Nat) (a : By l) : By (l.drop n) := fun x hx => a x (List.mem_of_mem_drop hx)
theorem lt_fuel' {n : Nat} (hn : n < 1000000000) : n < fuel := hn
theorem sp_to_little {n : Int} {k : Nat} (hk : k ≤ 4096) (h0 : 0 ≤ n) (h1 : n < 2 ^ (8 * k)) (q : V (.ref h.length) (h ++ [li (tlB n k)])) : (F_to_little [.int n, .int k] h).wp V E := by
  refine w_mk ?_
  obtain ⟨z, ez⟩ : ∃ z : Int, z = (k : Int) := ⟨_, rfl⟩
  rw [← ez]
  have z0 : 0 ≤ z := by omega
  have z1 : z ≤ 4096 := by omega
  have nz : n / 2 ^ (8 * z).toNat = 0 := by
    rw [show (8 * z).toNat = 8 * k by omega]
    exact Int.ediv_eq_zero_of_lt h0 h1
  have zt : z.toNat = k := by omega
  clear ez
  sizeOf_list_dec
  refine ⟨_, rfl, by unfold smallI; exact decide_eq_true (by omega), ?_⟩
  rw [zt]
  refine w_rng0 (fun i σ h1 => h1 = h ++ [li (tlB n i)] ∧ ∃ u, σ = [some (.int (n / 256 ^ i)), some (.int z), some (.ref h.length), u]) (lt_fuel' (by omega)) ⟨rfl, none, by rw [Int.pow_zero, Int.ediv_one]; rfl⟩ ?_ ?_
  · rintro i σ h1 hi ⟨rfl, u, rfl⟩
    refine ⟨_, rfl, ?_⟩
    sizeOf_list_dec
    refine ⟨isL_new, ?_⟩
    sizeOf_list_dec
    refine o_appN (by simp [tlB]; omega) ?_
    sizeOf_list_dec
    refine ⟨?_, some (.int (i : Nat)), ?_⟩
    · rw [tlB, tlB, List.range_succ, List.map_append]
      unfold li
      rw [List.map_append]
      rfl
    · have : n / 256 ^ i / 2 ^ (8 : Int).toNat = n / 256 ^ (i + 1) := by
        rw [Int.pow_succ, ← Int.ediv_ediv_of_nonneg (Int.pow_nonneg (by decide))]
        rfl
      rw [this]
      rfl
  · rintro σ h1 ⟨rfl, u, rfl⟩
    sizeOf_list_dec
    exact q
theorem sp_to_big {n : Int} {k : Nat} (hk : k ≤ 4096) (h0 : 0 ≤ n) (h1 : n < 2 ^ (8 * k)) (q : ∀ r h', h <+: h' → h'[r]? = some (li (tbB n k)) → h.length ≤ r → V (.ref r) h') : (F_to_big [.int n, .int k] h).wp V E := by
  refine w_mk ?_
  sizeOf_list_dec
  refine sp_to_little hk h0 h1 ?_
  sizeOf_list_dec
  refine o_rev (seqC_at get_new) ?_
  sizeOf_list_dec
  refine q _ _ ⟨_, by rw [List.append_assoc]⟩ ?_ (by simp)
  rw [get_new, tbB, ← List.map_reverse]
def fromB (l : List Int) : Int := l.foldl (fun n b => n * 256 + b) 0
theorem fromB_app {l : List Int} {b : Int} : fromB (l ++ [b]) = fromB l * 256 + b := by simp [fromB]
theorem fromB_r2 : ∀ (m : List Int), By m.reverse → 0 ≤ fromB m.reverse ∧ fromB m.reverse < 256 ^ m.length := by
  intro m
  induction m with
  | nil => intro _; exact ⟨Int.le_refl _, by decide⟩
  | cons b l ih =>
    intro hl
    rw [List.reverse_cons] at hl ⊢
    obtain ⟨a, c⟩ := ih fun x hx => hl x (List.mem_append_left _ hx)
    obtain ⟨d, e⟩ := hl b (by simp)
    rw [fromB_app, List.length_cons, Int.pow_succ]
    omega
theorem fromB_r {l : List Int} (h : By l) : 0 ≤ fromB l ∧ fromB l < 256 ^ l.length := by
  have := fromB_r2 l.reverse
  rw [List.reverse_reverse, List.length_reverse] at this
  exact this h
theorem pow_le {a b : Nat} (h : a ≤ b) : (256 : Int) ^ a ≤ 256 ^ b := by
  have : ((256 ^ a : Nat) : Int) ≤ ((256 ^ b : Nat) : Int) := Int.ofNat_le.mpr (Nat.pow_le_pow_right (by decide) h)
  rw [Int.natCast_pow, Int.natCast_pow] at this
  exact this
theorem sp_from_big {a : W} {l : List Int} (e : seqC a h = some (l.map W.int)) (hb : By l) (hl : l.length ≤ 4096) (q : V (.int (fromB l)) h) : (F_from_big [a] h).wp V E := by
  refine w_mk ?_
  sizeOf_list_dec
  refine .inl ⟨_, e, ?_⟩
  refine w_items (xs := l.map W.int) (fun i σ h1 => h1 = h ∧ ∃ u, σ = [some a, some (.int (fromB (l.take i))), u]) (lt_fuel' (by rw [List.length_map]; omega)) ⟨rfl, none, rfl⟩ (fun i σ h1 ⟨e1, _⟩ => by rw [e1]; exact e) ?_ ?_
  · rintro i σ h1 w hw ⟨rfl, u, rfl⟩
    rw [List.getElem?_map] at hw
    obtain ⟨x, hx, rfl⟩ := Option.map_eq_some_iff.mp hw
    refine ⟨_, rfl, ?_⟩
    have hi : i < l.length := (List.getElem?_eq_some_iff.mp hx).1
    have bd : Bd 40000 (fromB (l.take i)) := by
      obtain ⟨a1, a2⟩ := fromB_r (hb.take i)
      have a3 : (256 : Int) ^ (l.take i).length ≤ 256 ^ 4096 := pow_le (by rw [List.length_take]; omega)
      have a4 : (256 : Int) ^ 4096 = ((256 ^ 4096 : Nat) : Int) := by rw [Int.natCast_pow]; rfl
      have a5 : (256 : Nat) ^ 4096 ≤ 2 ^ 40000 := by
        rw [show (256 : Nat) = 2 ^ 8 from rfl, ← Nat.pow_mul]
        exact Nat.pow_le_pow_right (by decide) (by decide)
      unfold Bd
      generalize (2 : Nat) ^ 40000 = p at *
      generalize (256 : Nat) ^ 4096 = p2 at *
      rw [a4] at a3
      omega
    sizeOf_list_dec
    refine ⟨rfl, some (.int x), ?_⟩
    rw [List.take_add_one, hx]
    show _ = [_, some (W.int (fromB (l.take i ++ [x]))), _]
    rw [fromB_app]
    rfl
  · rintro σ h1 ⟨rfl, u, rfl⟩
    sizeOf_list_dec
    rw [List.length_map, List.take_length]
    exact q
end
end Z

/-! D1: the kinds; primes, roots -/
namespace Z
open PySem PySem.Spec PyProof.Rows L2
open L_curveseal_k36_digests_in_pieces
/-- the kinds: false sha256, true sha512 -/
def kn (b : Bool) : Str := if b then "sha512" else "sha256"
def bi (b : Bool) : Nat := if b then 64 else 32
def bsz (b : Bool) : Nat := if b then 128 else 64
def ro (b : Bool) : Nat := if b then 80 else 64
def lsz (b : Bool) : Nat := if b then 16 else 8
def dsz (b : Bool) : Nat := if b then 64 else 32
def mk (b : Bool) : Int := 2 ^ bi b - 1
theorem kget_sizes (b : Bool) : kGet d_SIZES (.str (kn b)) = some (.tup [.int (bi b), .int (bsz b), .int (ro b), .int (lsz b), .int (dsz b)]) := by cases b <;> rfl
theorem kin_sizes (b : Bool) : kIn d_SIZES (.str (kn b)) = some true := by cases b <;> rfl
section
variable {h : Hm} {V : W → Hm → Prop} {E : Exn → Hm → Prop} {b : Bool}
theorem bi_r (b : Bool) : 32 ≤ bi b ∧ bi b ≤ 64 := by cases b <;> decide
theorem sp_check_kind (q : V .non h) : (F_check_kind [.str (kn b)] h).wp V E := by
  refine w_mk ?_
  sizeOf_list_dec
  refine ⟨_, kin_sizes b, ?_⟩
  refine d_F ?_
  sizeOf_list_dec
  exact q
theorem sp_word_bits (q : V (.int (bi b)) h) : (F_word_bits [.str (kn b)] h).wp V E := by
  refine w_mk ?_
  sizeOf_list_dec
  refine sp_check_kind ?_
  sizeOf_list_dec
  refine ⟨_, kget_sizes b, ?_⟩
  sizeOf_list_dec
  exact q
theorem sp_block_size (q : V (.int (bsz b)) h) : (F_block_size [.str (kn b)] h).wp V E := by
  refine w_mk ?_
  sizeOf_list_dec
  refine sp_check_kind ?_
  sizeOf_list_dec
  refine ⟨_, kget_sizes b, ?_⟩
  sizeOf_list_dec
  exact q
theorem sp_length_size (q : V (.int (lsz b)) h) : (F_length_size [.str (kn b)] h).wp V E := by
  refine w_mk ?_
  sizeOf_list_dec
  refine sp_check_kind ?_
  sizeOf_list_dec
  refine ⟨_, kget_sizes b, ?_⟩
  sizeOf_list_dec
  exact q
/-! primes -/
def N80 : List Nat := [2, 3, 5, 7, 11, 13, 17, 19, 23, 29, 31, 37, 41, 43, 47, 53, 59, 61, 67, 71, 73, 79, 83, 89, 97, 101, 103, 107, 109, 113, 127, 131, 137, 139, 149, 151, 157, 163, 167, 173, 179, 181, 191, 193, 197, 199, 211, 223, 227, 229, 233, 239, 241, 251, 257, 263, 269, 271, 277, 281, 283, 293, 307, 311, 313, 317, 331, 337, 347, 349, 353, 359, 367, 373, 379, 383, 389, 397, 401, 409]
def P80 : List Int := N80.map fun p : Nat => (p : Int)
def eqN : List Nat → List Nat → Bool
  | [], [] => true
  | x :: xs, y :: ys => Nat.beq x y && eqN xs ys
  | _, _ => false
theorem eqN_ok : ∀ {xs ys : List Nat}, eqN xs ys = true → xs = ys
  | [], [], _ => rfl
  | [], _ :: _, h => by cases h
  | _ :: _, [], h => by cases h
  | x :: xs, y :: ys, h => by
    unfold eqN at h
    rw [Bool.and_eq_true] at h
    rw [Nat.eq_of_beq_eq_true h.1, eqN_ok h.2]
def Nn (n : Nat) : List Nat := N80.filter fun p => Nat.blt p n
def Pn (n : Nat) : List Int := (Nn n).map fun p : Nat => (p : Int)
def pAll (n : Nat) : Bool := (Nn n).all fun p => !Nat.beq (n % p) 0
def pOk (n : Nat) : Bool := (if pAll n then eqN (Nn (n + 1)) (Nn n ++ [n]) else eqN (Nn (n + 1)) (Nn n)) && eqN (Nn n) (N80.take (Nn n).length)
theorem pOk_all : (List.range 408).all (fun i => pOk (i + 2)) = true := by decide +kernel
theorem pOk_at {n : Nat} (h2 : 2 ≤ n) (h : n < 410) : pOk n = true := by
  have := List.all_eq_true.mp pOk_all (n - 2) (List.mem_range.mpr (by omega))
  rwa [show n - 2 + 2 = n by omega] at this
theorem Pn_410 : (Pn 410).length = 80 := by decide +kernel
theorem Pn_2 : Pn 2 = [] := by decide +kernel
theorem Pn_take (n : Nat) (h2 : 2 ≤ n) (h : n ≤ 410) : Pn n = P80.take (Pn n).length := by
  have : Nn n = N80.take (Nn n).length := by
    rcases Nat.lt_or_ge n 410 with q | q
    · have := pOk_at h2 q
      unfold pOk at this
      rw [Bool.and_eq_true] at this
      exact eqN_ok this.2
    · obtain rfl : n = 410 := by omega
      decide +kernel
  unfold Pn P80
  rw [List.length_map, ← List.map_take, ← this]
theorem P80_pos : P80.all (fun p => decide (0 < p ∧ p < 410)) = true := by decide +kernel
theorem P80_r {p : Int} (h : p ∈ P80) : 0 < p ∧ p < 410 := of_decide_eq_true (List.all_eq_true.mp P80_pos p h)
theorem Pn_mem {n : Nat} {p : Int} (h : p ∈ Pn n) : p ∈ P80 := by
  obtain ⟨x, hx, rfl⟩ := List.mem_map.mp h
  exact List.mem_map_of_mem (List.mem_filter.mp hx).1
theorem Pn_len {n : Nat} : (Pn n).length ≤ 80 := by
  unfold Pn
  rw [List.length_map]
  exact List.length_filter_le _ _
theorem pAll_eq (n : Nat) : ((Pn n).all fun p => !decide ((n : Int) % p = 0)) = pAll n := by
  unfold Pn pAll
  rw [List.all_map]
  congr 1
  funext p
  show (!decide ((n : Int) % (p : Int) = 0)) = !Nat.beq (n % p) 0
  congr 1
  rw [Bool.eq_iff_iff, decide_eq_true_eq]
  constructor
  · intro h
    have : n % p = 0 := by omega
    rw [this]
    rfl
  · intro h
    have := Nat.eq_of_beq_eq_true h
    omega
theorem Pn_step {n : Nat} (h2 : 2 ≤ n) (h : n < 410) : Pn (n + 1) = if pAll n then Pn n ++ [(n : Int)] else Pn n := by
  have := pOk_at h2 h
  unfold pOk at this
  rw [Bool.and_eq_true] at this
  have t := this.1
  cases e : pAll n with
  | true =>
    rw [e] at t
    unfold Pn
    rw [eqN_ok t, List.map_append]
    rfl
  | false =>
    rw [e] at t
    unfold Pn
    rw [eqN_ok t]
    rfl
theorem bls_map {α : Type} (f : α → Bool) (l : List α) : bls? (l.map fun x => W.bl (f x)) = some (l.map f) := by
  induction l with
  | nil => rfl
  | cons x l ih => rw [List.map_cons, bls?, ih]; rfl
theorem sp_first_primes {c : Nat} (hc : c ≤ 80) (q : ∀ r h', h <+: h' → h'[r]? = some (li (P80.take c)) → h.length ≤ r → V (.ref r) h') : (F_first_primes [.int c] h).wp V E := by
  refine w_mk ?_
  array_get_dec
  refine w_while (fun d σ h1 => h <+: h1 ∧ ∃ n u, 2 ≤ n ∧ n ≤ 410 ∧ d = 410 - n ∧ (Pn n).length ≤ c ∧ h1[h.length]? = some (li (Pn n)) ∧ σ = [some (.int c), some (.ref h.length), some (.int (n : Nat)), u]) 408 (lt_fuel' (by omega)) ⟨⟨_, rfl⟩, 2, none, by omega, by omega, rfl, by rw [Pn_2]; exact Nat.zero_le _, by rw [Pn_2]; exact get_new, rfl⟩ ?_
  rintro d σ h1 ⟨pr, n, u, n2, n4, rfl, nl, e, rfl⟩
  have ls := lt_of_get' e
  obtain ⟨z, ez⟩ : ∃ z : Int, z = (n : Int) := ⟨_, rfl⟩
  obtain ⟨y, ey⟩ : ∃ z : Int, z = (c : Int) := ⟨_, rfl⟩
  rw [← ez, ← ey]
  array_get_dec
  refine o_len (seqC_at e) ?_
  array_get_dec
  rw [List.length_map]
  refine d_dec (fun hp => ?_) fun hp => ?_
  · have n5 : n < 410 := by
      rcases Nat.lt_or_ge n 410 with h | h
      · exact h
      · have : n = 410 := by omega
        subst this
        rw [Pn_410] at hp
        omega
    have st := Pn_step n2 n5
    have pa := pAll_eq n
    rw [← ez] at pa
    array_get_dec
    refine .inl ⟨_, seqC_at e, ?_⟩
    refine w_compL (n := (Pn n).length) (fun i acc h2 => h1 <+: h2 ∧ h2[h1.length]? = some (.lst acc) ∧ acc = ((Pn n).take i).map (fun p => W.bl (!decide (z % p = 0)))) (lt_fuel' (by have := @Pn_len n; omega)) (by have := @Pn_len n; omega) ⟨⟨_, rfl⟩, get_new, rfl⟩ (fun i acc h2 ⟨a1, a2, a3⟩ => ⟨a2, by rw [a3, List.length_map, List.length_take]; omega⟩) ?_ ?_
    · rintro i acc h2 hi ⟨a1, a2, rfl⟩
      have hx : (Pn n)[i]? = some (Pn n)[i] := List.getElem?_eq_getElem hi
      generalize (Pn n)[i] = x at hx
      have x0 : 0 < x := (P80_r (Pn_mem (List.mem_of_getElem? hx))).1
      refine ⟨.int x, _, ?_, rfl, ?_⟩
      · unfold itSeq
        rw [seqC_at (pre_get a1 e), Option.map_some, List.getElem?_map, hx]
        rfl
      array_get_dec
      refine o_modI x0 ?_
      array_get_dec
      have lt := lt_of_get' a2
      refine ⟨a2, pre_set a1 (Nat.le_refl _), ?_, ?_⟩
      · rw [List.getElem?_set_self lt]
      · rw [List.take_add_one, hx, List.map_append]
        rfl
    · rintro acc h2 ⟨a1, a2, rfl⟩
      refine ⟨?_, ?_⟩
      · unfold itSeq
        rw [seqC_at (pre_get a1 e), Option.map_some, List.getElem?_eq_none (by rw [List.length_map]; omega)]
      rw [List.take_length] at a2
      array_get_dec
      have ea : allW [.ref h1.length] h2 = some (.bl (pAll n), h2) := by
        unfold allW
        rw [← pa]
        show (if isL (.ref h1.length) h2 = true then _ else none) = _
        rw [if_pos (isL_at' a2), seqC_at a2]
        show (bls? _).map _ = _
        rw [bls_map]
        show some (W.bl ((List.map _ _).all id), h2) = _
        rw [List.all_map]
        rfl
      refine w_ofO ea ?_
      have e2 := pre_get a1 e
      array_get_dec
      cases epa : pAll n with
      | true =>
        rw [epa, if_pos rfl] at st
        refine d_T ?_
        array_get_dec
        refine ⟨isL_at' e2, ?_⟩
        array_get_dec
        refine o_app e2 (by rw [List.length_map]; have := @Pn_len n; omega) ?_
        array_get_dec
        have lt := lt_of_get' e2
        refine ⟨410 - (n + 1), by omega, pre_set (pr.trans a1) (Nat.le_refl _), n + 1, u, by omega, by omega, rfl, ?_, ?_, ?_⟩
        · rw [st, List.length_append]
          show _ + 1 ≤ c
          omega
        · rw [List.getElem?_set_self lt, st]
          unfold li
          rw [List.map_append, ez]
          rfl
        · rw [ez]
          rfl
      | false =>
        rw [epa, if_neg Bool.false_ne_true] at st
        refine d_F ?_
        array_get_dec
        refine ⟨410 - (n + 1), by omega, pr.trans a1, n + 1, u, by omega, by omega, rfl, by rw [st]; exact nl, by rw [st]; exact e2, ?_⟩
        rw [ez]
        rfl
  · array_get_dec
    refine q _ _ pr ?_ (Nat.le_refl _)
    rw [e, Pn_take n n2 n4, show (Pn n).length = c by omega]
end
end Z

/-! D2: cube roots, constants, first words -/
namespace Z
open PySem PySem.Spec PyProof.Rows L2
open L_curveseal_k36_digests_in_pieces
/-- one better root -/
def bett (n r : Int) : Int := (2 * r + n / (r * r)) / 3
/-- the root, in d turns -/
def crt : Nat → Int → Int → Option Int
  | 0, n, r => none
  | d + 1, n, r => if 0 < r ∧ r < 2 ^ 200 then (if bett n r < r then crt d n (bett n r) else some r) else none
section
variable {h : Hm} {V : W → Hm → Prop} {E : Exn → Hm → Prop} {b : Bool}
theorem sq_ok {r : Int} (h0 : 0 < r) (h1 : r < 2 ^ 200) : 0 < r * r ∧ (r * r).natAbs.log2 < 9000 := by
  have p : 0 < r * r := Int.mul_pos h0 h0
  have b : Bd 402 (r * r) := Bd.mul (k := 201) (l := 201) (Bd.of_lt (Int.le_of_lt h0) h1 (by unfold Bd; decide +kernel)) (Bd.of_lt (Int.le_of_lt h0) h1 (by unfold Bd; decide +kernel))
  exact ⟨p, (Nat.log2_lt (by omega)).mpr (Nat.lt_of_lt_of_le b (Nat.pow_le_pow_right (by decide) (by decide)))⟩
theorem sp_whole_cube_root {n s r : Int} {d : Nat} (hd : d < 1000000) (e : crt d n s = some r) (q : V (.int r) h) : (F_whole_cube_root [.int n, .int s] h).wp V E := by
  cases d with
  | zero => cases e
  | succ d =>
  have e' := e
  unfold crt at e
  split at e
  case isFalse => cases e
  rename_i hr
  obtain ⟨s1, s2⟩ := sq_ok hr.1 hr.2
  have bd : Bd 201 s := Bd.of_lt (Int.le_of_lt hr.1) hr.2 (by unfold Bd; decide +kernel)
  refine w_mk ?_
  array_get_dec
  refine o_fdivI ⟨s1, s2⟩ ?_
  array_get_dec
  refine o_fdivI (by decide) ?_
  array_get_dec
  refine w_while (fun d σ h1 => h1 = h ∧ ∃ t, crt (d + 1) n t = some r ∧ σ = [some (.int n), some (.int s), some (.int t), some (.int (bett n t))]) d (lt_fuel' (by omega)) ⟨rfl, s, e', rfl⟩ ?_
  rintro d σ h1 ⟨rfl, t, et, rfl⟩
  unfold crt at et
  split at et
  case isFalse => cases et
  rename_i ht
  obtain ⟨t1, t2⟩ := sq_ok ht.1 ht.2
  array_get_dec
  refine d_dec (fun hp => ?_) fun hp => ?_
  · rw [if_pos hp] at et
    cases d with
    | zero => cases et
    | succ d =>
    have et' := et
    unfold crt at et
    split at et
    case isFalse => cases et
    rename_i hu
    obtain ⟨u1, u2⟩ := sq_ok hu.1 hu.2
    have bu : Bd 201 (bett n t) := Bd.of_lt (Int.le_of_lt hu.1) hu.2 (by unfold Bd; decide +kernel)
    generalize ev : bett n t = v at *
    array_get_dec
    refine o_fdivI ⟨u1, u2⟩ ?_
    array_get_dec
    refine o_fdivI (by decide) ?_
    exact ⟨d, by omega, rfl, v, et', rfl⟩
  · rw [if_neg hp] at et
    cases et
    array_get_dec
    exact q
/-! the chain -/
def rst (b : Bool) (root p : Int) : Int := (crt 100 (p * 2 ^ (3 * bi b)) (2 * root)).getD 0
def rChk (b : Bool) : List Int → Int → Bool
  | [], _ => true
  | p :: ps, root => match crt 100 (p * 2 ^ (3 * bi b)) (2 * root) with
    | some r => rChk b ps r
    | none => false
def rAt (b : Bool) (i : Nat) : Int := (P80.take i).foldl (rst b) (2 ^ bi b)
theorem rChk_ok (b : Bool) : rChk b P80 (2 ^ bi b) = true := by cases b <;> decide +kernel
theorem rChk_at : ∀ (ps : List Int) (root : Int) (i : Nat) (p : Int), rChk b ps root = true → ps[i]? = some p → crt 100 (p * 2 ^ (3 * bi b)) (2 * (ps.take i).foldl (rst b) root) = some ((ps.take (i + 1)).foldl (rst b) root)
  | [], root, i, p, _, e => by cases e
  | x :: ps, root, i, p, h, e => by
    unfold rChk at h
    split at h
    · rename_i r er
      have er2 : rst b root x = r := by unfold rst; rw [er]; rfl
      cases i with
      | zero =>
        cases e
        show crt 100 _ (2 * root) = some (rst b root x)
        rw [er2]
        exact er
      | succ i =>
        have := rChk_at ps r i p h e
        rw [← er2] at this
        exact this
    · cases h
def consts (b : Bool) : List Int := (List.range (ro b)).map fun i => Builtin.bitAnd (rAt b (i + 1)) (mk b)
theorem shl_ok {i j : Int} (k : Nat) (b : Bd k i) (hk : k ≤ 100000) (j0 : 0 ≤ j) (e : j ≤ 1000000) : 0 ≤ j ∧ (Builtin.Int.intBits i : Int) + j ≤ 2 ^ 27 := by
  have := b.bits
  omega
theorem one_shl (b : Bool) : (1 : Int) * 2 ^ ((bi b : Nat) : Int).toNat - 1 = mk b := by
  rw [Int.one_mul, Int.toNat_natCast]
  rfl
theorem sp_round_constants (q : ∀ r h', h <+: h' → h'[r]? = some (li (consts b)) → h.length ≤ r → V (.ref r) h') : (F_round_constants [.str (kn b)] h).wp V E := by
  refine w_mk ?_
  array_get_dec
  refine sp_check_kind ?_
  array_get_dec
  refine ⟨_, kget_sizes b, ?_⟩
  refine ⟨_, rfl, ?_⟩
  obtain ⟨z, ez⟩ : ∃ z : Int, z = (bi b : Int) := ⟨_, rfl⟩
  have zr := bi_r b
  have z0 : 0 ≤ z := by omega
  have z1 : z ≤ 64 := by omega
  have zt : z.toNat = bi b := by omega
  rw [← ez]
  array_get_dec
  refine o_shlI (shl_ok 64 (bd_num 1 (by decide)) (by decide) z0 (by omega)) ?_
  array_get_dec
  refine sp_first_primes (by cases b <;> decide) fun r h1 pr er lr => ?_
  refine .inl ⟨_, seqC_at er, ?_⟩
  have ll : ((P80.take (ro b)).map W.int).length = ro b := by cases b <;> rfl
  have lg := lt_of_get' er
  refine w_items (xs := (P80.take (ro b)).map W.int) (fun i σ h2 => h <+: h2 ∧ h2[h.length]? = some (li ((List.range i).map fun i => Builtin.bitAnd (rAt b (i + 1)) (mk b))) ∧ h2[r]? = some (li (P80.take (ro b))) ∧ ∃ u, σ = [some (.str (kn b)), some (.int z), some (.int (dsz b)), some (.int (ro b)), some (.ref h.length), some (.int (rAt b i)), u]) (lt_fuel' (by rw [ll]; cases b <;> decide)) ⟨?_, ?_, er, none, ?_⟩ (fun i σ h2 ⟨_, _, e3, _⟩ => seqC_at e3) ?_ ?_
  · exact List.IsPrefix.trans ⟨_, rfl⟩ pr
  · exact pre_get pr get_new
  · rw [zt, Int.one_mul]
    rfl
  · rintro i σ h2 w hw ⟨p2, e1, e2, u, rfl⟩
    rw [List.getElem?_map] at hw
    obtain ⟨p, hp, rfl⟩ := Option.map_eq_some_iff.mp hw
    have hi : i < ro b := by
      have := (List.getElem?_eq_some_iff.mp hp).1
      rw [List.length_map] at ll
      omega
    have hp2 : P80[i]? = some p := by
      rw [List.getElem?_take_of_lt hi] at hp
      exact hp
    have pr2 := P80_r (List.mem_of_getElem? hp2)
    have bp : Bd 64 p := by unfold Bd; omega
    have cr : crt 100 (p * 2 ^ (3 * bi b)) (2 * rAt b i) = some (rAt b (i + 1)) := rChk_at P80 (2 ^ bi b) i p (rChk_ok b) hp2
    refine ⟨_, rfl, ?_⟩
    generalize rAt b i = ra at *
    array_get_dec
    refine o_mulS (by decide) ?_
    array_get_dec
    refine o_shlI (shl_ok 64 bp (by decide) (by omega) (by omega)) ?_
    array_get_dec
    refine o_mulS (by decide) ?_
    array_get_dec
    rw [show (3 * z).toNat = 3 * bi b by omega]
    refine sp_whole_cube_root (by decide) cr ?_
    array_get_dec
    refine ⟨isL_at' e1, ?_⟩
    array_get_dec
    refine o_shlI (shl_ok 64 (bd_num 1 (by decide)) (by decide) z0 (by omega)) ?_
    array_get_dec
    rw [zt, Int.one_mul]
    refine o_app e1 (by have : ro b ≤ 80 := by cases b <;> decide
                        rw [List.length_map, List.length_map, List.length_range]; omega) ?_
    array_get_dec
    have lt := lt_of_get' e1
    rw [List.length_append] at lr
    refine ⟨pre_set p2 (Nat.le_refl _), ?_, ?_, some (.int p), rfl⟩
    · rw [List.getElem?_set_self lt, List.range_succ, List.map_append]
      unfold li
      rw [List.map_append]
      rfl
    · rw [List.getElem?_set_ne (by show h.length ≠ r; have : ([O.lst []] : Hm).length = 1 := rfl; omega)]
      exact e2
  · rintro σ h2 ⟨p2, e1, e2, u, rfl⟩
    rw [ll] at e1
    array_get_dec
    exact q _ _ p2 e1 (Nat.le_refl _)
/-! first words -/
def sw (b : Bool) : List Int := (P80.take 8).map fun p => Builtin.bitAnd ((Float64.isqrt (p * 2 ^ (2 * bi b)).toNat : Nat) : Int) (mk b)
theorem mk_pos (b : Bool) : 0 ≤ mk b := by cases b <;> decide
/-- words -/
def Wd (b : Bool) (l : List Int) : Prop := ∀ x ∈ l, 0 ≤ x ∧ x ≤ mk b
theorem sw_wd : Wd b (sw b) := fun x hx => by
  obtain ⟨p, _, rfl⟩ := List.mem_map.mp hx
  exact bitAnd_range (mk_pos b)
theorem sw_len : (sw b).length = 8 := by cases b <;> rfl
theorem sp_start_words (q : ∀ r h', h <+: h' → h'[r]? = some (li (sw b)) → h.length ≤ r → V (.ref r) h') : (F_start_words [.str (kn b)] h).wp V E := by
  refine w_mk ?_
  obtain ⟨z, ez⟩ : ∃ z : Int, z = (bi b : Int) := ⟨_, rfl⟩
  have zr := bi_r b
  have z0 : 0 ≤ z := by omega
  have z1 : z ≤ 64 := by omega
  have zt : z.toNat = bi b := by omega
  array_get_dec
  refine sp_word_bits ?_
  rw [← ez]
  array_get_dec
  refine sp_first_primes (c := 8) (by decide) fun r h1 pr er lr => ?_
  refine .inl ⟨_, seqC_at er, ?_⟩
  have lg := lt_of_get' er
  refine w_compL (n := 8) (fun i acc h2 => h1 <+: h2 ∧ h2[h1.length]? = some (.lst acc) ∧ acc = ((sw b).take i).map W.int) (lt_fuel' (by decide)) (by decide) ⟨⟨_, rfl⟩, get_new, rfl⟩ (fun i acc h2 ⟨a1, a2, a3⟩ => ⟨a2, by rw [a3, List.length_map, List.length_take]; omega⟩) ?_ ?_
  · rintro i acc h2 hi ⟨a1, a2, rfl⟩
    obtain ⟨p, hp⟩ : ∃ p, (P80.take 8)[i]? = some p := ⟨_, List.getElem?_eq_getElem (by rw [show (P80.take 8).length = 8 from rfl]; exact hi)⟩
    have pr2 := P80_r (List.mem_of_mem_take (List.mem_of_getElem? hp))
    have bp : Bd 64 p := by unfold Bd; omega
    have hs : (sw b)[i]? = some (Builtin.bitAnd ((Float64.isqrt (p * 2 ^ (2 * bi b)).toNat : Nat) : Int) (mk b)) := by
      unfold sw
      rw [List.getElem?_map, hp]
      rfl
    refine ⟨.int p, _, ?_, rfl, ?_⟩
    · unfold itSeq
      rw [seqC_at (pre_get a1 er), Option.map_some, List.getElem?_map, hp]
      rfl
    array_get_dec
    refine o_mulS (by decide) ?_
    array_get_dec
    refine o_shlI (shl_ok 64 bp (by decide) (by omega) (by omega)) ?_
    array_get_dec
    have e2 : (2 * z).toNat = 2 * bi b := by omega
    rw [e2]
    have bq : Bd (64 + 129) (p * 2 ^ (2 * bi b)) := Bd.mul bp (by cases b <;> (unfold Bd; decide +kernel))
    have q0 : 0 ≤ p * 2 ^ (2 * bi b) := Int.mul_nonneg (by omega) (Int.pow_nonneg (by decide))
    refine o_isq ⟨q0, Nat.le_trans (PySem.W.mg_log (k := 192) (by unfold Bd at bq; generalize p * 2 ^ (2 * bi b) = y at *; omega)) (by decide)⟩ ?_
    generalize p * 2 ^ (2 * bi b) = y at *
    array_get_dec
    refine o_shlI (shl_ok 64 (bd_num 1 (by decide)) (by decide) z0 (by omega)) ?_
    array_get_dec
    rw [zt, Int.one_mul]
    have lt := lt_of_get' a2
    refine ⟨a2, pre_set a1 (Nat.le_refl _), ?_, ?_⟩
    · rw [List.getElem?_set_self lt]
    · rw [List.take_add_one, hs, List.map_append]
      rfl
  · rintro acc h2 ⟨a1, a2, rfl⟩
    refine ⟨?_, ?_⟩
    · unfold itSeq
      rw [seqC_at (pre_get a1 er)]
      rfl
    rw [List.take_of_length_le (by rw [sw_len]; exact Nat.le_refl _)] at a2
    array_get_dec
    exact q _ _ (pr.trans a1) a2 pr.length_le
end
end Z

/-! D3: the schedule of a block -/
namespace Z
open PySem PySem.Spec PyProof.Rows L2
open L_curveseal_k36_digests_in_pieces
section
variable {h : Hm} {V : W → Hm → Prop} {E : Exn → Hm → Prop} {b : Bool}
/-- the slots written anew -/
theorem w_lit {f : XS} {σ : Sg} {N B C : Sg → Hm → Prop} {R : W → Hm → Prop} {X : Exn → Sg → Hm → Prop} (σ' : Sg) (e : σ = σ') (w : (f σ' h).wp N R B C X) : (f σ h).wp N R B C X := by
  subst e
  exact w
theorem cut_map {l : List Int} {i j : Int} (h0 : 0 ≤ i) (h1 : i ≤ j) (h2 : j ≤ l.length) : cutW (l.map W.int) (some i) (some j) = ((l.drop i.toNat).take (j.toNat - i.toNat)).map W.int := by
  unfold cutW
  have e1 : HT.sIx (l.map W.int).length 0 (some i) = i.toNat := by
    show (if i < 0 then _ else min i.toNat _) = _
    rw [if_neg (by omega), List.length_map]
    omega
  have e2 : HT.sIx (l.map W.int).length (l.map W.int).length (some j) = j.toNat := by
    show (if j < 0 then _ else min j.toNat _) = _
    rw [if_neg (by omega), List.length_map]
    omega
  rw [e1, e2, ← List.map_drop, ← List.map_take]
theorem cut_mapN {l : List Int} {i : Int} (h0 : 0 ≤ i) (h1 : i ≤ l.length) : cutW (l.map W.int) (some i) none = (l.drop i.toNat).map W.int := by
  unfold cutW
  have e1 : HT.sIx (l.map W.int).length 0 (some i) = i.toNat := by
    show (if i < 0 then _ else min i.toNat _) = _
    rw [if_neg (by omega), List.length_map]
    omega
  rw [e1]
  show (List.drop _ _).take ((l.map W.int).length - _) = _
  rw [← List.map_drop, List.take_of_length_le (by rw [List.length_map, List.length_drop, List.length_map]; omega)]
theorem o_sl {r : Nat} {l : List Int} {i j : Int} (e : h[r]? = some (li l)) (h0 : 0 ≤ i) (h1 : i ≤ j) (h2 : j ≤ l.length) (q : V (.ref h.length) (h ++ [li ((l.drop i.toNat).take (j.toNat - i.toNat))])) : (ofO (slW (.ref r) (some i) (some j) h)).wp V E := by
  unfold slW
  simp only [e, cut_map h0 h1 h2]
  exact q
theorem o_slN {r : Nat} {l : List Int} {i : Int} (e : h[r]? = some (li l)) (h0 : 0 ≤ i) (h1 : i ≤ l.length) (q : V (.ref h.length) (h ++ [li (l.drop i.toNat)])) : (ofO (slW (.ref r) (some i) none h)).wp V E := by
  unfold slW
  simp only [e, cut_mapN h0 h1]
  exact q
theorem o_ixL {r : Nat} {l : List Int} {i : Int} (x : Int) (e : h[r]? = some (li l)) (h0 : 0 ≤ i) (ex : l[i.toNat]? = some x) (q : V (.int x) h) : (ofO (ixW (.ref r) (.int i) h)).wp V E := by
  have lt := (List.getElem?_eq_some_iff.mp ex).1
  refine o_ix (seqC_at e) ?_ q
  unfold atI
  rw [ixN_ok h0 (by rw [List.length_map]; omega)]
  show (l.map W.int)[i.toNat]? = _
  rw [List.getElem?_map, ex]
  rfl
def stp (b : Bool) : Nat := if b then 8 else 4
def words0 (b : Bool) (bs : List Int) : List Int := (List.range 16).map fun j => fromB ((bs.drop (j * stp b)).take (stp b))
def tz1 (b : Bool) : Int := if b then 1 else 7
def tz2 (b : Bool) : Int := if b then 8 else 18
def tz3 (b : Bool) : Int := if b then 7 else 3
def to1 (b : Bool) : Int := if b then 19 else 17
def to2 (b : Bool) : Int := if b then 61 else 19
def to3 (b : Bool) : Int := if b then 6 else 10
theorem kget_tz (b : Bool) : kGet d_TURNS (.tup [.str (kn b), .str "turn_zero"]) = some (.tup [.int (tz1 b), .int (tz2 b), .int (tz3 b)]) := by cases b <;> rfl
theorem kget_to (b : Bool) : kGet d_TURNS (.tup [.str (kn b), .str "turn_one"]) = some (.tup [.int (to1 b), .int (to2 b), .int (to3 b)]) := by cases b <;> rfl
theorem tz_r (b : Bool) : 0 ≤ tz1 b ∧ 0 ≤ tz2 b ∧ 0 ≤ tz3 b ∧ 0 ≤ to1 b ∧ 0 ≤ to2 b ∧ 0 ≤ to3 b := by cases b <;> decide
def wide (b : Bool) (x : Int) : Int := Builtin.bitOr x (x * 2 ^ bi b)
def nw (b : Bool) (x15 x2 x7 x16 : Int) : Int :=
  Builtin.bitAnd (Builtin.bitAnd (Builtin.bitXor (Builtin.bitXor (wide b x15 / 2 ^ (tz1 b).toNat) (wide b x15 / 2 ^ (tz2 b).toNat)) (x15 / 2 ^ (tz3 b).toNat)) (mk b) + Builtin.bitAnd (Builtin.bitXor (Builtin.bitXor (wide b x2 / 2 ^ (to1 b).toNat) (wide b x2 / 2 ^ (to2 b).toNat)) (x2 / 2 ^ (to3 b).toNat)) (mk b) + x7 + x16) (mk b)
def nwL (b : Bool) (w : List Int) : Int := nw b (w.getD (w.length - 15) 0) (w.getD (w.length - 2) 0) (w.getD (w.length - 7) 0) (w.getD (w.length - 16) 0)
def schedN (b : Bool) (bs : List Int) : Nat → List Int
  | 0 => words0 b bs
  | n + 1 => schedN b bs n ++ [nwL b (schedN b bs n)]
def sched (b : Bool) (bs : List Int) : List Int := schedN b bs (ro b - 16)
theorem schedN_len {bs : List Int} {n : Nat} : (schedN b bs n).length = 16 + n := by
  induction n with
  | zero => simp [schedN, words0]
  | succ n ih => rw [schedN, List.length_append, ih]; rfl
theorem words0_wd {bs : List Int} (hb : By bs) (hl : bs.length = bsz b) : Wd b (words0 b bs) := fun x hx => by
  obtain ⟨j, hj, rfl⟩ := List.mem_map.mp hx
  obtain ⟨a, c⟩ := fromB_r ((hb.drop (j * stp b)).take (stp b))
  have hle : ((bs.drop (j * stp b)).take (stp b)).length ≤ stp b := by rw [List.length_take]; omega
  have c2 := Int.lt_of_lt_of_le c (pow_le hle)
  refine ⟨a, ?_⟩
  have : (256 : Int) ^ stp b = mk b + 1 := by cases b <;> decide
  omega
theorem sched_wd {bs : List Int} (hb : By bs) (hl : bs.length = bsz b) {n : Nat} : Wd b (schedN b bs n) := by
  induction n with
  | zero => exact words0_wd hb hl
  | succ n ih =>
    intro x hx
    rw [schedN] at hx
    rcases List.mem_append.mp hx with h | h
    · exact ih x h
    · rw [List.mem_singleton.mp h]
      exact bitAnd_range (mk_pos b)
theorem mk_bd (b : Bool) : Bd 64 (mk b) := by cases b <;> (unfold Bd; decide)
theorem Wd.bd {l : List Int} {x : Int} (w : Wd b l) (e : x ∈ l) : Bd 64 x := by
  have := w x e
  have m : mk b < 2 ^ 64 := by cases b <;> decide
  unfold Bd
  omega
set_option maxHeartbeats 0 in
theorem sp_schedule {r : Nat} {bs : List Int} (e : h[r]? = some (li bs)) (hb : By bs) (hl : bs.length = bsz b) (q : ∀ r' h', h <+: h' → h'[r']? = some (li (sched b bs)) → h.length ≤ r' → V (.ref r') h') : (F_schedule [.str (kn b), .ref r] h).wp V E := by
  refine w_mk ?_
  obtain ⟨z, ez⟩ : ∃ z : Int, z = (bi b : Int) := ⟨_, rfl⟩
  obtain ⟨s, es⟩ : ∃ z : Int, z = (bsz b : Int) := ⟨_, rfl⟩
  obtain ⟨ro', ero⟩ : ∃ z : Int, z = (ro b : Int) := ⟨_, rfl⟩
  have zr := bi_r b
  have z0 : 0 ≤ z := by omega
  have z1 : z ≤ 64 := by omega
  have zt : z.toNat = bi b := by omega
  have st : z / 8 = (stp b : Int) := by rw [ez]; cases b <;> decide
  have st1 : stp b = 4 ∨ stp b = 8 := by cases b <;> decide
  have ss : bsz b = 16 * stp b := by cases b <;> decide
  obtain ⟨t, et⟩ : ∃ z : Int, z = (stp b : Int) := ⟨_, rfl⟩
  rw [← et] at st
  have rs : Builtin.Range.rangeSize 0 s t = 16 := by rw [es, et]; cases b <;> decide
  have rsm : Builtin.Range.small 0 s t = true := by rw [es, et]; cases b <;> decide
  refine w_lit [some (.str (kn b)), some (.ref r), none, none, none, none, none, none, none, none, none, none, none, none, none, none, none, none, none] rfl ?_
  refine w_seqM (fun σ h1 => h1 = h ∧ σ = [some (.str (kn b)), some (.ref r), none, none, none, none, none, none, none, none, none, none, none, none, none, none, none, none, none]) ?_ ?_
  · array_get_dec
    refine o_len (seqC_at e) ?_
    array_get_dec
    refine sp_block_size ?_
    rw [List.length_map, hl]
    array_get_dec
    refine d_decT rfl ?_
    array_get_dec
    exact ⟨rfl, rfl⟩
  rintro σ h1 ⟨rfl, rfl⟩
  refine w_seqM (fun σ h2 => h2 = h1 ∧ σ = [some (.str (kn b)), some (.ref r), some (.int z), some (.int s), some (.int ro'), some (.int (dsz b)), none, none, none, none, none, none, none, none, none, none, none, none, none]) ?_ ?_
  · array_get_dec
    refine ⟨_, kget_sizes b, ?_⟩
    refine ⟨_, rfl, ?_⟩
    rw [← ez, ← es, ← ero]
    exact ⟨rfl, rfl⟩
  rintro σ h2 ⟨rfl, rfl⟩
  refine w_seqM (fun σ h1 => h1 = h2 ∧ σ = [some (.str (kn b)), some (.ref r), some (.int z), some (.int s), some (.int ro'), some (.int (dsz b)), some (.int (mk b)), none, none, none, none, none, none, none, none, none, none, none, none]) ?_ ?_
  · array_get_dec
    refine o_shlI (shl_ok 64 (bd_num 1 (by decide)) (by decide) z0 (by omega)) ?_
    rw [zt, Int.one_mul]
    array_get_dec
    exact ⟨rfl, rfl⟩
  rintro σ h1 ⟨rfl, rfl⟩
  refine w_seqM (fun σ h2 => h2 = h1 ∧ σ = [some (.str (kn b)), some (.ref r), some (.int z), some (.int s), some (.int ro'), some (.int (dsz b)), some (.int (mk b)), some (.int t), none, none, none, none, none, none, none, none, none, none, none]) ?_ ?_
  · array_get_dec
    refine o_fdivI (by decide) ?_
    rw [st]
    exact ⟨rfl, rfl⟩
  rintro σ h2 ⟨rfl, rfl⟩
  refine w_seqM (fun σ h1 => h2 <+: h1 ∧ h1[h2.length]? = some (li (words0 b bs)) ∧ σ = [some (.str (kn b)), some (.ref r), some (.int z), some (.int s), some (.int ro'), some (.int (dsz b)), some (.int (mk b)), some (.int t), some (.ref h2.length), none, none, none, none, none, none, none, none, none, none]) ?_ ?_
  · apply w_set
    apply w_comp
    refine w_iRng3 ?_
    array_get_dec
    refine ⟨_, _, _, rfl, ⟨by omega, by omega, rsm, by rw [rs]; decide⟩, ?_⟩
    rw [rs]
    refine w_compL (n := 16) (fun i acc h1 => h2 <+: h1 ∧ h1[h2.length]? = some (.lst acc) ∧ acc = ((words0 b bs).take i).map W.int) (lt_fuel' (by decide)) (by decide) ⟨⟨_, rfl⟩, get_new, rfl⟩ (fun i acc h2 ⟨a1, a2, a3⟩ => ⟨a2, by rw [a3, List.length_map, List.length_take]; omega⟩) ?_ ?_
    · rintro i acc h1 hi ⟨a1, a2, rfl⟩
      have hw : (words0 b bs)[i]? = some (fromB ((bs.drop (i * stp b)).take (stp b))) := by
        unfold words0
        rw [List.getElem?_map, List.getElem?_range hi]
        rfl
      have le1 : i * stp b + stp b ≤ bs.length := by
        rw [hl, ss]
        rcases st1 with q | q <;> (rw [q]; omega)
      refine ⟨.int ((i : Int) * t), _, ?_, rfl, ?_⟩
      · unfold itRng
        rw [if_pos (by omega), Int.zero_add]
      obtain ⟨y, ey⟩ : ∃ y : Int, y = (i : Int) * t := ⟨_, rfl⟩
      have yt : y.toNat = i * stp b := by rw [ey, et, ← Int.natCast_mul]; omega
      have y0 : 0 ≤ y := by rw [ey, et, ← Int.natCast_mul]; omega
      have y1 : y + t = ((i * stp b + stp b : Nat) : Int) := by rw [ey, et, Int.natCast_add, Int.natCast_mul]
      rw [← ey]
      array_get_dec
      refine o_sl (pre_get a1 e) y0 (by omega) (by omega) ?_
      array_get_dec
      have e3 : (y + t).toNat - y.toNat = stp b := by omega
      rw [e3, yt]
      refine sp_from_big (seqC_at get_new) ((hb.drop _).take _) (by rw [List.length_take]; omega) ?_
      have lt := lt_of_get' a2
      refine ⟨get_old a2, ?_, ?_, ?_⟩
      · exact pre_set (pre_new a1) (Nat.le_refl _)
      · rw [List.getElem?_set_self (by rw [List.length_append]; omega)]
      · rw [List.take_add_one, hw, List.map_append]
        rfl
    · rintro acc h1 ⟨a1, a2, rfl⟩
      refine ⟨?_, a1, ?_, rfl⟩
      · unfold itRng
        rw [if_neg (by decide)]
      · rw [a2, List.take_of_length_le (by simp [words0])]
  rintro σ h1 ⟨p1, e1, rfl⟩
  have tr := tz_r b
  have tk1 := kget_tz b
  have tk2 := kget_to b
  have wd := @sched_wd b bs hb hl
  have snw : ∀ n, schedN b bs (n + 1) = schedN b bs n ++ [nwL b (schedN b bs n)] := fun _ => rfl
  unfold nwL nw wide at snw
  generalize tz1 b = a1 at *
  generalize tz2 b = a2 at *
  generalize tz3 b = a3 at *
  generalize to1 b = a4 at *
  generalize to2 b = a5 at *
  generalize to3 b = a6 at *
  refine w_seqM (fun σ h3 => h3 = h1 ∧ σ = [some (.str (kn b)), some (.ref r), some (.int z), some (.int s), some (.int ro'), some (.int (dsz b)), some (.int (mk b)), some (.int t), some (.ref h2.length), some (.int a1), some (.int a2), some (.int a3), none, none, none, none, none, none, none]) ?_ ?_
  · array_get_dec
    refine ⟨_, tk1, ?_⟩
    refine ⟨_, rfl, ?_⟩
    exact ⟨rfl, rfl⟩
  rintro σ h3 ⟨rfl, rfl⟩
  refine w_seqM (fun σ h1 => h1 = h3 ∧ σ = [some (.str (kn b)), some (.ref r), some (.int z), some (.int s), some (.int ro'), some (.int (dsz b)), some (.int (mk b)), some (.int t), some (.ref h2.length), some (.int a1), some (.int a2), some (.int a3), some (.int a4), some (.int a5), some (.int a6), none, none, none, none]) ?_ ?_
  · array_get_dec
    refine ⟨_, tk2, ?_⟩
    refine ⟨_, rfl, ?_⟩
    exact ⟨rfl, rfl⟩
  rintro σ h1 ⟨rfl, rfl⟩
  have rr : 16 ≤ ro b ∧ ro b ≤ 80 := by cases b <;> decide
  refine w_seqM (fun σ h3 => h2 <+: h3 ∧ h3[h2.length]? = some (li (sched b bs)) ∧ σ[8]? = some (some (.ref h2.length))) ?_ ?_
  · array_get_dec
    refine ⟨_, _, rfl, by decide, by unfold smallI; exact decide_eq_true (by omega), ?_⟩
    rw [show (ro' - 16).toNat = ro b - 16 by omega]
    refine w_rng (fun i σ h3 => h2 <+: h3 ∧ h3[h2.length]? = some (li (schedN b bs i)) ∧ ∃ u v x y, σ = [some (.str (kn b)), some (.ref r), some (.int z), some (.int s), some (.int ro'), some (.int (dsz b)), some (.int (mk b)), some (.int t), some (.ref h2.length), some (.int a1), some (.int a2), some (.int a3), some (.int a4), some (.int a5), some (.int a6), u, v, x, y]) (lt_fuel' (by omega)) ⟨p1, e1, none, none, none, none, rfl⟩ ?_ ?_
    · rintro i σ h3 hi ⟨p3, e3, u, v, x, y, rfl⟩
      refine ⟨_, rfl, ?_⟩
      have sl := @schedN_len b bs i
      have wi := @wd i
      have sn := snw i
      generalize schedN b bs i = l at *
      generalize schedN b bs (i + 1) = l2 at *
      have get : ∀ k : Nat, 0 < k → k ≤ 16 → l[l.length - k]? = some (l.getD (l.length - k) 0) := fun k k0 k1 => by
        rw [List.getD_eq_getElem?_getD, List.getElem?_eq_getElem (by omega)]
        rfl
      have bd : ∀ k : Nat, 0 < k → k ≤ 16 → Bd 64 (l.getD (l.length - k) 0) := fun k k0 k1 => wi.bd (List.mem_of_getElem? (get k k0 k1))
      have g15 := get 15 (by decide) (by decide)
      have g2 := get 2 (by decide) (by decide)
      have g7 := get 7 (by decide) (by decide)
      have g16 := get 16 (by decide) (by decide)
      have b15 := bd 15 (by decide) (by decide)
      have b2 := bd 2 (by decide) (by decide)
      generalize l.getD (l.length - 15) 0 = x15 at *
      generalize l.getD (l.length - 2) 0 = x2 at *
      generalize l.getD (l.length - 7) 0 = x7 at *
      generalize l.getD (l.length - 16) 0 = x16 at *
      obtain ⟨at_, ea⟩ : ∃ y : Int, y = 16 + (i : Int) := ⟨_, rfl⟩
      rw [← ea]
      have f15 : 0 ≤ at_ - 15 ∧ (at_ - 15).toNat = l.length - 15 := by omega
      have f2 : 0 ≤ at_ - 2 ∧ (at_ - 2).toNat = l.length - 2 := by omega
      have f7 : 0 ≤ at_ - 7 ∧ (at_ - 7).toNat = l.length - 7 := by omega
      have f16 : 0 ≤ at_ - 16 ∧ (at_ - 16).toNat = l.length - 16 := by omega
      rw [← f15.2] at g15
      rw [← f2.2] at g2
      rw [← f7.2] at g7
      rw [← f16.2] at g16
      refine w_seqM (fun σ h4 => h4 = h3 ∧ σ = [some (.str (kn b)), some (.ref r), some (.int z), some (.int s), some (.int ro'), some (.int (dsz b)), some (.int (mk b)), some (.int t), some (.ref h2.length), some (.int a1), some (.int a2), some (.int a3), some (.int a4), some (.int a5), some (.int a6), some (.int at_), some (.int (Builtin.bitOr x15 (x15 * 2 ^ bi b))), x, y]) ?_ ?_
      · array_get_dec
        refine o_ixL x15 e3 f15.1 g15 ?_
        array_get_dec
        refine o_ixL x15 e3 f15.1 g15 ?_
        array_get_dec
        refine o_shlI (shl_ok 64 b15 (by decide) z0 (by omega)) ?_
        rw [zt]
        array_get_dec
        exact ⟨rfl, rfl⟩
      rintro σ h4 ⟨rfl, rfl⟩
      refine w_seqM (fun σ h3 => h3 = h4 ∧ σ = [some (.str (kn b)), some (.ref r), some (.int z), some (.int s), some (.int ro'), some (.int (dsz b)), some (.int (mk b)), some (.int t), some (.ref h2.length), some (.int a1), some (.int a2), some (.int a3), some (.int a4), some (.int a5), some (.int a6), some (.int at_), some (.int (Builtin.bitOr x15 (x15 * 2 ^ bi b))), some (.int (Builtin.bitOr x2 (x2 * 2 ^ bi b))), y]) ?_ ?_
      · array_get_dec
        refine o_ixL x2 e3 f2.1 g2 ?_
        array_get_dec
        refine o_ixL x2 e3 f2.1 g2 ?_
        array_get_dec
        refine o_shlI (shl_ok 64 b2 (by decide) z0 (by omega)) ?_
        rw [zt]
        array_get_dec
        exact ⟨rfl, rfl⟩
      rintro σ h3 ⟨rfl, rfl⟩
      generalize Builtin.bitOr x15 (x15 * 2 ^ bi b) = far at *
      generalize Builtin.bitOr x2 (x2 * 2 ^ bi b) = near at *
      obtain ⟨c1, c2, c3, c4, c5, c6⟩ := tr
      array_get_dec
      refine o_shrI c1 ?_
      array_get_dec
      refine o_shrI c2 ?_
      array_get_dec
      refine o_ixL x15 e3 f15.1 g15 ?_
      array_get_dec
      refine o_shrI c3 ?_
      array_get_dec
      refine o_shrI c4 ?_
      array_get_dec
      refine o_shrI c5 ?_
      array_get_dec
      refine o_ixL x2 e3 f2.1 g2 ?_
      array_get_dec
      refine o_shrI c6 ?_
      array_get_dec
      refine ⟨isL_at' e3, ?_⟩
      array_get_dec
      refine o_ixL x7 e3 f7.1 g7 ?_
      array_get_dec
      refine o_ixL x16 e3 f16.1 g16 ?_
      array_get_dec
      refine o_app e3 (by rw [List.length_map]; omega) ?_
      array_get_dec
      have lt := lt_of_get' e3
      refine ⟨pre_set p3 (Nat.le_refl _), ?_, _, _, _, _, rfl⟩
      rw [List.getElem?_set_self lt, sn]
      unfold li
      rw [List.map_append]
      rfl
    · rintro σ h3 ⟨p3, e3, u, v, x, y, rfl⟩
      exact ⟨p3, e3, rfl⟩
  · rintro σ h3 ⟨p3, e3, e4⟩
    refine w_ret ?_
    refine w_var e4 ?_
    exact q _ _ p3 e3 (Nat.le_refl _)
end
end Z

/-! D4: one block more -/
namespace Z
open PySem PySem.Spec PyProof.Rows L2
open L_curveseal_k36_digests_in_pieces
structure C8 where
  a : Int
  b : Int
  c : Int
  d : Int
  e : Int
  f : Int
  g : Int
  h : Int
def so1 (b : Bool) : Int := if b then 14 else 6
def so2 (b : Bool) : Int := if b then 18 else 11
def so3 (b : Bool) : Int := if b then 41 else 25
def sz1 (b : Bool) : Int := if b then 28 else 2
def sz2 (b : Bool) : Int := if b then 34 else 13
def sz3 (b : Bool) : Int := if b then 39 else 22
theorem kget_so (b : Bool) : kGet d_TURNS (.tup [.str (kn b), .str "sum_one"]) = some (.tup [.int (so1 b), .int (so2 b), .int (so3 b)]) := by cases b <;> rfl
theorem kget_sz (b : Bool) : kGet d_TURNS (.tup [.str (kn b), .str "sum_zero"]) = some (.tup [.int (sz1 b), .int (sz2 b), .int (sz3 b)]) := by cases b <;> rfl
theorem so_r (b : Bool) : 0 ≤ so1 b ∧ 0 ≤ so2 b ∧ 0 ≤ so3 b ∧ 0 ≤ sz1 b ∧ 0 ≤ sz2 b ∧ 0 ≤ sz3 b := by cases b <;> decide
def fst8 (b : Bool) (s : C8) (k w : Int) : Int := s.h + Builtin.bitAnd (Builtin.bitXor (Builtin.bitXor (wide b s.e / 2 ^ (so1 b).toNat) (wide b s.e / 2 ^ (so2 b).toNat)) (wide b s.e / 2 ^ (so3 b).toNat)) (mk b) + Builtin.bitXor (Builtin.bitAnd (Builtin.bitXor s.f s.g) s.e) s.g + k + w
def snd8 (b : Bool) (s : C8) : Int := Builtin.bitAnd (Builtin.bitXor (Builtin.bitXor (wide b s.a / 2 ^ (sz1 b).toNat) (wide b s.a / 2 ^ (sz2 b).toNat)) (wide b s.a / 2 ^ (sz3 b).toNat)) (mk b) + Builtin.bitXor (Builtin.bitXor (Builtin.bitAnd s.a s.b) (Builtin.bitAnd s.a s.c)) (Builtin.bitAnd s.b s.c)
def cst (b : Bool) (s : C8) (k w : Int) : C8 := ⟨Builtin.bitAnd (fst8 b s k w + snd8 b s) (mk b), s.a, s.b, s.c, Builtin.bitAnd (s.d + fst8 b s k w) (mk b), s.e, s.f, s.g⟩
def cAt (b : Bool) (s : C8) (ks ws : List Int) (i : Nat) : C8 := ((ks.zip ws).take i).foldl (fun s p => cst b s p.1 p.2) s
theorem cAt_succ {b : Bool} {s : C8} {ks ws : List Int} {i : Nat} {k w : Int} (e1 : ks[i]? = some k) (e2 : ws[i]? = some w) : cAt b s ks ws (i + 1) = cst b (cAt b s ks ws i) k w := by
  unfold cAt
  have : (ks.zip ws)[i]? = some (k, w) := by
    rw [List.getElem?_zip_eq_some]
    exact ⟨e1, e2⟩
  rw [List.take_add_one, this, List.foldl_append]
  rfl
def C8.l (s : C8) : List Int := [s.a, s.b, s.c, s.d, s.e, s.f, s.g, s.h]
def c8 : List Int → C8
  | [a, b, c, d, e, f, g, h] => ⟨a, b, c, d, e, f, g, h⟩
  | _ => ⟨0, 0, 0, 0, 0, 0, 0, 0⟩
theorem c8_l {l : List Int} (h : l.length = 8) : (c8 l).l = l := by
  match l, h with
  | [a, b, c, d, e, f, g, h], _ => rfl
/-- the words after one block -/
def cmp (b : Bool) (ws inp : List Int) : List Int := (ws.zip (cAt b (c8 ws) (consts b) inp (ro b)).l).map fun p => Builtin.bitAnd (p.1 + p.2) (mk b)
section
variable {h : Hm} {V : W → Hm → Prop} {E : Exn → Hm → Prop} {b : Bool}
theorem cmp_len {ws inp : List Int} (hw : ws.length = 8) : (cmp b ws inp).length = 8 := by
  simp [cmp, hw, C8.l]
theorem cmp_wd {ws inp : List Int} : Wd b (cmp b ws inp) := fun x hx => by
  obtain ⟨p, _, rfl⟩ := List.mem_map.mp hx
  exact bitAnd_range (mk_pos b)
theorem cst_wd {s : C8} {k w : Int} (h : Wd b s.l) : Wd b (cst b s k w).l := fun x hx => by
  unfold C8.l cst at hx
  simp only [List.mem_cons, List.not_mem_nil, or_false] at hx
  have m : ∀ y, y ∈ s.l → 0 ≤ y ∧ y ≤ mk b := h
  rcases hx with rfl | rfl | rfl | rfl | rfl | rfl | rfl | rfl
  · exact bitAnd_range (mk_pos b)
  · exact m _ (by simp [C8.l])
  · exact m _ (by simp [C8.l])
  · exact m _ (by simp [C8.l])
  · exact bitAnd_range (mk_pos b)
  · exact m _ (by simp [C8.l])
  · exact m _ (by simp [C8.l])
  · exact m _ (by simp [C8.l])
theorem cAt_wd {s : C8} {ks ws : List Int} (h : Wd b s.l) (i : Nat) : Wd b (cAt b s ks ws i).l := by
  unfold cAt
  generalize (ks.zip ws).take i = l
  induction l generalizing s with
  | nil => exact h
  | cons p l ih => exact ih (cst_wd h)
theorem consts_len : (consts b).length = ro b := by simp [consts]
set_option maxHeartbeats 0 in
theorem sp_compress {rk rw ri : Nat} {ws inp : List Int} (ek : h[rk]? = some (li (consts b))) (ew : h[rw]? = some (li ws)) (ei : h[ri]? = some (li inp)) (hw : ws.length = 8) (hi : inp.length = ro b) (wd : Wd b ws)
    (q : ∀ r' h', h <+: h' → h'[r']? = some (li (cmp b ws inp)) → h.length ≤ r' → V (.ref r') h') : (F_compress_with [.str (kn b), .ref rk, .ref rw, .ref ri] h).wp V E := by
  refine w_mk ?_
  obtain ⟨z, ez⟩ : ∃ z : Int, z = (bi b : Int) := ⟨_, rfl⟩
  have zr := bi_r b
  have z0 : 0 ≤ z := by omega
  have z1 : z ≤ 64 := by omega
  have zt : z.toNat = bi b := by omega
  have kl := @consts_len b
  have rr : 16 ≤ ro b ∧ ro b ≤ 80 := by cases b <;> decide
  obtain ⟨w0, w1, w2, w3, w4, w5, w6, w7, rfl⟩ : ∃ w0 w1 w2 w3 w4 w5 w6 w7, ws = [w0, w1, w2, w3, w4, w5, w6, w7] := by
    match ws, hw with
    | [a, b, c, d, e, f, g, h], _ => exact ⟨a, b, c, d, e, f, g, h, rfl⟩
  have tk1 := kget_so b
  have tk2 := kget_sz b
  have tr := so_r b
  have cs : ∀ s k w, cst b s k w = cst b s k w := fun _ _ _ => rfl
  have wdA := fun i => cAt_wd (b := b) (s := c8 [w0, w1, w2, w3, w4, w5, w6, w7]) (ks := consts b) (ws := inp) wd i
  have stA := fun (i : Nat) (k w : Int) (e1 : (consts b)[i]? = some k) (e2 : inp[i]? = some w) => cAt_succ (b := b) (s := c8 [w0, w1, w2, w3, w4, w5, w6, w7]) e1 e2
  unfold cst fst8 snd8 wide at stA
  generalize so1 b = a1 at *
  generalize so2 b = a2 at *
  generalize so3 b = a3 at *
  generalize sz1 b = a4 at *
  generalize sz2 b = a5 at *
  generalize sz3 b = a6 at *
  refine w_lit [some (.str (kn b)), some (.ref rk), some (.ref rw), some (.ref ri), none, none, none, none, none, none, none, none, none, none, none, none, none, none, none, none, none, none, none, none, none, none, none, none] rfl ?_
  refine w_seqM (fun σ h1 => h1 = h ∧ σ = [some (.str (kn b)), some (.ref rk), some (.ref rw), some (.ref ri), some (.int z), none, none, none, none, none, none, none, none, none, none, none, none, none, none, none, none, none, none, none, none, none, none, none]) ?_ ?_
  · array_get_dec
    refine sp_word_bits ?_
    rw [← ez]
    exact ⟨rfl, rfl⟩
  rintro σ h1 ⟨rfl, rfl⟩
  refine w_seqM (fun σ h2 => h2 = h1 ∧ σ = [some (.str (kn b)), some (.ref rk), some (.ref rw), some (.ref ri), some (.int z), some (.int (mk b)), none, none, none, none, none, none, none, none, none, none, none, none, none, none, none, none, none, none, none, none, none, none]) ?_ ?_
  · array_get_dec
    refine o_shlI (shl_ok 64 (bd_num 1 (by decide)) (by decide) z0 (by omega)) ?_
    rw [zt, Int.one_mul]
    array_get_dec
    exact ⟨rfl, rfl⟩
  rintro σ h2 ⟨rfl, rfl⟩
  refine w_seqM (fun σ h1 => h1 = h2 ∧ σ = [some (.str (kn b)), some (.ref rk), some (.ref rw), some (.ref ri), some (.int z), some (.int (mk b)), some (.int a1), some (.int a2), some (.int a3), none, none, none, none, none, none, none, none, none, none, none, none, none, none, none, none, none, none, none]) ?_ ?_
  · array_get_dec
    exact ⟨_, tk1, _, rfl, rfl, rfl⟩
  rintro σ h1 ⟨rfl, rfl⟩
  refine w_seqM (fun σ h2 => h2 = h1 ∧ σ = [some (.str (kn b)), some (.ref rk), some (.ref rw), some (.ref ri), some (.int z), some (.int (mk b)), some (.int a1), some (.int a2), some (.int a3), some (.int a4), some (.int a5), some (.int a6), none, none, none, none, none, none, none, none, none, none, none, none, none, none, none, none]) ?_ ?_
  · array_get_dec
    exact ⟨_, tk2, _, rfl, rfl, rfl⟩
  rintro σ h2 ⟨rfl, rfl⟩
  refine w_seqM (fun σ h1 => h1 = h2 ∧ σ = [some (.str (kn b)), some (.ref rk), some (.ref rw), some (.ref ri), some (.int z), some (.int (mk b)), some (.int a1), some (.int a2), some (.int a3), some (.int a4), some (.int a5), some (.int a6), some (.int w0), some (.int w1), some (.int w2), some (.int w3), some (.int w4), some (.int w5), some (.int w6), some (.int w7), none, none, none, none, none, none, none, none]) ?_ ?_
  · array_get_dec
    refine ⟨_, ?_, rfl, rfl⟩
    unfold gT
    simp only [ew]
    rfl
  rintro σ h1 ⟨rfl, rfl⟩
  refine w_seqM (fun σ h2 => h2 = h1 ∧ ∃ u1 u2 u3 u4 u5, σ = [some (.str (kn b)), some (.ref rk), some (.ref rw), some (.ref ri), some (.int z), some (.int (mk b)), some (.int a1), some (.int a2), some (.int a3), some (.int a4), some (.int a5), some (.int a6), some (.int (cAt b (c8 [w0, w1, w2, w3, w4, w5, w6, w7]) (consts b) inp (ro b)).a), some (.int (cAt b (c8 [w0, w1, w2, w3, w4, w5, w6, w7]) (consts b) inp (ro b)).b), some (.int (cAt b (c8 [w0, w1, w2, w3, w4, w5, w6, w7]) (consts b) inp (ro b)).c), some (.int (cAt b (c8 [w0, w1, w2, w3, w4, w5, w6, w7]) (consts b) inp (ro b)).d), some (.int (cAt b (c8 [w0, w1, w2, w3, w4, w5, w6, w7]) (consts b) inp (ro b)).e), some (.int (cAt b (c8 [w0, w1, w2, w3, w4, w5, w6, w7]) (consts b) inp (ro b)).f), some (.int (cAt b (c8 [w0, w1, w2, w3, w4, w5, w6, w7]) (consts b) inp (ro b)).g), some (.int (cAt b (c8 [w0, w1, w2, w3, w4, w5, w6, w7]) (consts b) inp (ro b)).h), u1, u2, u3, u4, u5, none, none, none]) ?_ ?_
  · array_get_dec
    refine ⟨_, _, rfl, isL_at' ek, isL_at' ei, ?_⟩
    refine w_loop (n := ro b) (fun i σ h2 => h2 = h1 ∧ ∃ u1 u2 u3 u4 u5, σ = [some (.str (kn b)), some (.ref rk), some (.ref rw), some (.ref ri), some (.int z), some (.int (mk b)), some (.int a1), some (.int a2), some (.int a3), some (.int a4), some (.int a5), some (.int a6), some (.int (cAt b (c8 [w0, w1, w2, w3, w4, w5, w6, w7]) (consts b) inp i).a), some (.int (cAt b (c8 [w0, w1, w2, w3, w4, w5, w6, w7]) (consts b) inp i).b), some (.int (cAt b (c8 [w0, w1, w2, w3, w4, w5, w6, w7]) (consts b) inp i).c), some (.int (cAt b (c8 [w0, w1, w2, w3, w4, w5, w6, w7]) (consts b) inp i).d), some (.int (cAt b (c8 [w0, w1, w2, w3, w4, w5, w6, w7]) (consts b) inp i).e), some (.int (cAt b (c8 [w0, w1, w2, w3, w4, w5, w6, w7]) (consts b) inp i).f), some (.int (cAt b (c8 [w0, w1, w2, w3, w4, w5, w6, w7]) (consts b) inp i).g), some (.int (cAt b (c8 [w0, w1, w2, w3, w4, w5, w6, w7]) (consts b) inp i).h), u1, u2, u3, u4, u5, none, none, none]) (lt_fuel' (by omega)) ⟨rfl, none, none, none, none, none, rfl⟩ ?_ ?_
    · rintro i σ h2 hi2 ⟨rfl, u1, u2, u3, u4, u5, rfl⟩
      have e1 : (consts b)[i]? = some (consts b)[i] := List.getElem?_eq_getElem (by omega)
      have e2 : inp[i]? = some inp[i] := List.getElem?_eq_getElem (by omega)
      have wi := wdA i
      have si := stA i _ _ e1 e2
      generalize cAt b (c8 [w0, w1, w2, w3, w4, w5, w6, w7]) (consts b) inp (i + 1) = s' at *
      generalize cAt b (c8 [w0, w1, w2, w3, w4, w5, w6, w7]) (consts b) inp i = s at *
      generalize (consts b)[i] = kc at *
      generalize inp[i] = wc at *
      have be : Bd 64 s.e := wi.bd (by simp [C8.l])
      have ba : Bd 64 s.a := wi.bd (by simp [C8.l])
      refine ⟨.tup [.int kc, .int wc], _, ?_, rfl, ?_⟩
      · unfold itZip
        rw [seqC_at ek, seqC_at ei]
        show some (match ((consts b).map W.int)[i]?, (inp.map W.int)[i]? with
          | some a, some b => some (W.tup [a, b])
          | _, _ => none) = _
        rw [List.getElem?_map, List.getElem?_map, e1, e2]
        rfl
      subst si
      obtain ⟨sa, sb, sc, sd, se, sf, sg, sh⟩ := s
      dsimp only at *
      obtain ⟨c1, c2, c3, c4, c5, c6⟩ := tr
      refine w_seqM (fun σ h3 => h3 = h2 ∧ σ = [some (.str (kn b)), some (.ref rk), some (.ref rw), some (.ref ri), some (.int z), some (.int (mk b)), some (.int a1), some (.int a2), some (.int a3), some (.int a4), some (.int a5), some (.int a6), some (.int sa), some (.int sb), some (.int sc), some (.int sd), some (.int se), some (.int sf), some (.int sg), some (.int sh), some (.int kc), some (.int wc), some (.int (Builtin.bitOr se (se * 2 ^ bi b))), u4, u5, none, none, none]) ?_ ?_
      · array_get_dec
        refine o_shlI (shl_ok 64 be (by decide) z0 (by omega)) ?_
        rw [zt]
        array_get_dec
        exact ⟨rfl, rfl⟩
      rintro σ h3 ⟨rfl, rfl⟩
      generalize Builtin.bitOr se (se * 2 ^ bi b) = wide1 at *
      refine w_seqM (fun σ h2 => h2 = h3 ∧ σ = [some (.str (kn b)), some (.ref rk), some (.ref rw), some (.ref ri), some (.int z), some (.int (mk b)), some (.int a1), some (.int a2), some (.int a3), some (.int a4), some (.int a5), some (.int a6), some (.int sa), some (.int sb), some (.int sc), some (.int sd), some (.int se), some (.int sf), some (.int sg), some (.int sh), some (.int kc), some (.int wc), some (.int wide1), some (.int (sh + Builtin.bitAnd (Builtin.bitXor (Builtin.bitXor (wide1 / 2 ^ a1.toNat) (wide1 / 2 ^ a2.toNat)) (wide1 / 2 ^ a3.toNat)) (mk b) + Builtin.bitXor (Builtin.bitAnd (Builtin.bitXor sf sg) se) sg + kc + wc)), u5, none, none, none]) ?_ ?_
      · array_get_dec
        refine o_shrI c1 ?_
        array_get_dec
        refine o_shrI c2 ?_
        array_get_dec
        refine o_shrI c3 ?_
        array_get_dec
        exact ⟨rfl, rfl⟩
      rintro σ h2 ⟨rfl, rfl⟩
      generalize sh + Builtin.bitAnd (Builtin.bitXor (Builtin.bitXor (wide1 / 2 ^ a1.toNat) (wide1 / 2 ^ a2.toNat)) (wide1 / 2 ^ a3.toNat)) (mk b) + Builtin.bitXor (Builtin.bitAnd (Builtin.bitXor sf sg) se) sg + kc + wc = first at *
      refine w_seqM (fun σ h3 => h3 = h2 ∧ σ = [some (.str (kn b)), some (.ref rk), some (.ref rw), some (.ref ri), some (.int z), some (.int (mk b)), some (.int a1), some (.int a2), some (.int a3), some (.int a4), some (.int a5), some (.int a6), some (.int sa), some (.int sb), some (.int sc), some (.int sd), some (.int se), some (.int sf), some (.int sg), some (.int sh), some (.int kc), some (.int wc), some (.int (Builtin.bitOr sa (sa * 2 ^ bi b))), some (.int first), u5, none, none, none]) ?_ ?_
      · array_get_dec
        refine o_shlI (shl_ok 64 ba (by decide) z0 (by omega)) ?_
        rw [zt]
        array_get_dec
        exact ⟨rfl, rfl⟩
      rintro σ h3 ⟨rfl, rfl⟩
      generalize Builtin.bitOr sa (sa * 2 ^ bi b) = wide2 at *
      refine w_seqM (fun σ h2 => h2 = h3 ∧ σ = [some (.str (kn b)), some (.ref rk), some (.ref rw), some (.ref ri), some (.int z), some (.int (mk b)), some (.int a1), some (.int a2), some (.int a3), some (.int a4), some (.int a5), some (.int a6), some (.int sa), some (.int sb), some (.int sc), some (.int sd), some (.int se), some (.int sf), some (.int sg), some (.int sh), some (.int kc), some (.int wc), some (.int wide2), some (.int first), some (.int (Builtin.bitAnd (Builtin.bitXor (Builtin.bitXor (wide2 / 2 ^ a4.toNat) (wide2 / 2 ^ a5.toNat)) (wide2 / 2 ^ a6.toNat)) (mk b) + Builtin.bitXor (Builtin.bitXor (Builtin.bitAnd sa sb) (Builtin.bitAnd sa sc)) (Builtin.bitAnd sb sc))), none, none, none]) ?_ ?_
      · array_get_dec
        refine o_shrI c4 ?_
        array_get_dec
        refine o_shrI c5 ?_
        array_get_dec
        refine o_shrI c6 ?_
        array_get_dec
        exact ⟨rfl, rfl⟩
      rintro σ h2 ⟨rfl, rfl⟩
      generalize Builtin.bitAnd (Builtin.bitXor (Builtin.bitXor (wide2 / 2 ^ a4.toNat) (wide2 / 2 ^ a5.toNat)) (wide2 / 2 ^ a6.toNat)) (mk b) + Builtin.bitXor (Builtin.bitXor (Builtin.bitAnd sa sb) (Builtin.bitAnd sa sc)) (Builtin.bitAnd sb sc) = second at *
      refine w_seqM (fun σ h3 => h3 = h2 ∧ σ = [some (.str (kn b)), some (.ref rk), some (.ref rw), some (.ref ri), some (.int z), some (.int (mk b)), some (.int a1), some (.int a2), some (.int a3), some (.int a4), some (.int a5), some (.int a6), some (.int sa), some (.int sa), some (.int sb), some (.int sc), some (.int (Builtin.bitAnd (sd + first) (mk b))), some (.int se), some (.int sf), some (.int sg), some (.int kc), some (.int wc), some (.int wide2), some (.int first), some (.int second), none, none, none]) ?_ ?_
      · array_get_dec
        exact ⟨_, rfl, rfl, rfl⟩
      rintro σ h3 ⟨rfl, rfl⟩
      array_get_dec
      exact ⟨rfl, _, _, _, _, _, rfl⟩
    · rintro σ h2 ⟨rfl, u1, u2, u3, u4, u5, rfl⟩
      refine ⟨?_, rfl, u1, u2, u3, u4, u5, rfl⟩
      unfold itZip
      rw [seqC_at ek, seqC_at ei]
      show some (match ((consts b).map W.int)[ro b]?, (inp.map W.int)[ro b]? with
          | some a, some b => some (W.tup [a, b])
          | _, _ => none) = _
      rw [List.getElem?_eq_none (by rw [List.length_map]; omega)]
  rintro σ h2 ⟨rfl, u1, u2, u3, u4, u5, rfl⟩
  have el : cmp b [w0, w1, w2, w3, w4, w5, w6, w7] inp = ([w0, w1, w2, w3, w4, w5, w6, w7].zip (cAt b (c8 [w0, w1, w2, w3, w4, w5, w6, w7]) (consts b) inp (ro b)).l).map fun p => Builtin.bitAnd (p.1 + p.2) (mk b) := rfl
  generalize cmp b [w0, w1, w2, w3, w4, w5, w6, w7] inp = res at *
  generalize cAt b (c8 [w0, w1, w2, w3, w4, w5, w6, w7]) (consts b) inp (ro b) = s at *
  array_get_dec
  have ew2 := get_old (u := .lst [.int s.a, .int s.b, .int s.c, .int s.d, .int s.e, .int s.f, .int s.g, .int s.h]) ew
  have em : (h2 ++ [.lst [.int s.a, .int s.b, .int s.c, .int s.d, .int s.e, .int s.f, .int s.g, .int s.h]])[h2.length]? = some (li s.l) := get_new
  have p1 : h2 <+: h2 ++ [.lst [.int s.a, .int s.b, .int s.c, .int s.d, .int s.e, .int s.f, .int s.g, .int s.h]] := ⟨_, rfl⟩
  generalize h2 ++ [.lst [.int s.a, .int s.b, .int s.c, .int s.d, .int s.e, .int s.f, .int s.g, .int s.h]] = h3 at *
  refine ⟨_, _, rfl, isL_at' ew2, isL_at' em, ?_⟩
  have rl : res.length = 8 := by rw [el]; rfl
  refine w_compL (n := 8) (fun i acc h1 => h3 <+: h1 ∧ h1[h3.length]? = some (.lst acc) ∧ acc = (res.take i).map W.int) (lt_fuel' (by decide)) (by decide) ⟨⟨_, rfl⟩, get_new, rfl⟩ (fun i acc h2 ⟨a1, a2, a3⟩ => ⟨a2, by rw [a3, List.length_map, List.length_take]; omega⟩) ?_ ?_
  · rintro i acc h1 hi3 ⟨p3, e3, rfl⟩
    obtain ⟨x, ex⟩ : ∃ x, [w0, w1, w2, w3, w4, w5, w6, w7][i]? = some x := ⟨_, List.getElem?_eq_getElem hi3⟩
    obtain ⟨y, ey⟩ : ∃ x, s.l[i]? = some x := ⟨_, List.getElem?_eq_getElem hi3⟩
    have er : res[i]? = some (Builtin.bitAnd (x + y) (mk b)) := by
      rw [el, List.getElem?_map]
      have : ([w0, w1, w2, w3, w4, w5, w6, w7].zip s.l)[i]? = some (x, y) := by
        rw [List.getElem?_zip_eq_some]
        exact ⟨ex, ey⟩
      rw [this]
      rfl
    refine ⟨.tup [.int x, .int y], _, ?_, rfl, ?_⟩
    · unfold itZip
      rw [seqC_at (pre_get p3 ew2), seqC_at (pre_get p3 em)]
      show some (match ([w0, w1, w2, w3, w4, w5, w6, w7].map W.int)[i]?, (s.l.map W.int)[i]? with
        | some a, some b => some (W.tup [a, b])
        | _, _ => none) = _
      rw [List.getElem?_map, List.getElem?_map, ex, ey]
      rfl
    array_get_dec
    have lt := lt_of_get' e3
    refine ⟨e3, pre_set p3 (Nat.le_refl _), ?_, ?_⟩
    · rw [List.getElem?_set_self lt]
    · rw [List.take_add_one, er, List.map_append]
      rfl
  · rintro acc h1 ⟨p3, e3, rfl⟩
    refine ⟨?_, ?_⟩
    · unfold itZip
      rw [seqC_at (pre_get p3 ew2), seqC_at (pre_get p3 em)]
      rfl
    rw [List.take_of_length_le (by omega)] at e3
    exact q _ _ (p1.trans p3) e3 p1.length_le
end
end Z

/-! D5: padding; the digester's state -/
namespace Z
open PySem PySem.Spec PyProof.Rows L2
open L_curveseal_k36_digests_in_pieces
def cnt (b : Bool) (n : Nat) : Nat := ((-(n : Int) - 1 - (lsz b : Nat)) % (bsz b : Nat)).toNat
def pad (b : Bool) (n : Nat) : List Int := [128] ++ List.replicate (cnt b n) 0 ++ tbB (8 * n) (lsz b)
theorem cnt_lt (b : Bool) (n : Nat) : cnt b n < bsz b := by
  unfold cnt
  have : 0 < (bsz b : Int) := by cases b <;> decide
  have := Int.emod_lt_of_pos (-(n : Int) - 1 - (lsz b : Nat)) this
  omega
theorem pad_len (b : Bool) (n : Nat) : (pad b n).length = 1 + cnt b n + lsz b := by simp [pad, tbB_len]; omega
theorem pad_by (b : Bool) (n : Nat) : By (pad b n) := by
  refine By.app (By.app ?_ ?_) tbB_by
  · intro x hx
    rw [List.mem_singleton.mp hx]
    decide
  · intro x hx
    rw [(List.mem_replicate.mp hx).2]
    decide
theorem pad_fit (b : Bool) (n : Nat) : (n + (pad b n).length) % bsz b = 0 := by
  rw [pad_len]
  unfold cnt
  have h0 : 0 < (bsz b : Int) := by cases b <;> decide
  have h1 := Int.emod_nonneg (-(n : Int) - 1 - (lsz b : Nat)) (Int.ne_of_gt h0)
  have h2 := Int.emod_add_mul_ediv (-(n : Int) - 1 - (lsz b : Nat)) (bsz b)
  generalize (-(n : Int) - 1 - (lsz b : Nat)) % (bsz b : Nat) = x at *
  generalize (-(n : Int) - 1 - (lsz b : Nat)) / (bsz b : Nat) = y at *
  have : ((n + (1 + x.toNat + lsz b) : Nat) : Int) = (bsz b : Int) * (-y) := by
    rw [Int.mul_neg]
    omega
  have d : (bsz b : Int) ∣ ((n + (1 + x.toNat + lsz b) : Nat) : Int) := ⟨-y, this⟩
  exact Nat.mod_eq_zero_of_dvd (Int.natCast_dvd_natCast.mp d)
section
variable {h : Hm} {V : W → Hm → Prop} {E : Exn → Hm → Prop} {b : Bool}
theorem sp_padding {n : Nat} (hn : n ≤ 1048576) (q : ∀ r h', h <+: h' → h'[r]? = some (li (pad b n)) → h.length ≤ r → V (.ref r) h') : (F_padding [.str (kn b), .int n] h).wp V E := by
  refine w_mk ?_
  obtain ⟨z, ez⟩ : ∃ z : Int, z = (n : Int) := ⟨_, rfl⟩
  obtain ⟨lz, el⟩ : ∃ z : Int, z = (lsz b : Int) := ⟨_, rfl⟩
  obtain ⟨sz, es⟩ : ∃ z : Int, z = (bsz b : Int) := ⟨_, rfl⟩
  have l1 : 8 ≤ lz ∧ lz ≤ 16 := by rw [el]; cases b <;> decide
  have s1 : 64 ≤ sz ∧ sz ≤ 128 := by rw [es]; cases b <;> decide
  have z0 : 0 ≤ z := by omega
  have z1 : z ≤ 1048576 := by omega
  have cl := cnt_lt b n
  have ec : ((-z - 1 - lz) % sz).toNat = cnt b n := by rw [ez, el, es]; rfl
  have c0 := Int.emod_nonneg (-z - 1 - lz) (by omega : sz ≠ 0)
  have c1 := Int.emod_lt_of_pos (-z - 1 - lz) (by omega : 0 < sz)
  rw [← ez]
  refine w_seqM (fun σ h1 => h1 = h ∧ σ = [some (.str (kn b)), some (.int z), none]) ?_ ?_
  · array_get_dec
    refine sp_check_kind ?_
    exact ⟨rfl, rfl⟩
  rintro σ h1 ⟨rfl, rfl⟩
  refine w_seqM (fun σ h2 => h2 = h1 ∧ σ = [some (.str (kn b)), some (.int z), none]) ?_ ?_
  · sizeOf_list_dec
    refine d_decF (show ¬ (1048576 : Int) < z by omega) ?_
    sizeOf_list_dec
    exact ⟨rfl, rfl⟩
  rintro σ h2 ⟨rfl, rfl⟩
  refine w_seqM (fun σ h1 => h1 = h2 ∧ σ = [some (.str (kn b)), some (.int z), some (.int ((-z - 1 - lz) % sz))]) ?_ ?_
  · array_get_dec
    refine sp_length_size ?_
    rw [← el]
    array_get_dec
    refine sp_block_size ?_
    rw [← es]
    array_get_dec
    refine o_modI (by omega) ?_
    exact ⟨rfl, rfl⟩
  rintro σ h1 ⟨rfl, rfl⟩
  generalize (-z - 1 - lz) % sz = c at *
  array_get_dec
  have g0 : (h1 ++ [li [128]])[h1.length]? = some (li [128]) := get_new
  have g1 := get_old (u := li [0]) g0
  have g2 : (h1 ++ [li [128]] ++ [li [0]])[(h1 ++ [li [128]]).length]? = some (li [0]) := get_new
  have p2 : h1 <+: h1 ++ [li [128]] ++ [li [0]] := ⟨[li [128], li [0]], by simp⟩
  show (ofO (mulW (.ref (h1 ++ [li [128]]).length) (.int c) (h1 ++ [li [128]] ++ [li [0]]))).wp _ _
  generalize h1 ++ [li [128]] ++ [li [0]] = h3 at *
  refine o_mulL g2 ⟨by omega, by omega, by show 1 * c.toNat ≤ _; omega⟩ ?_
  have fl : (List.replicate c.toNat ([0].map W.int)).flatten = (List.replicate (cnt b n) (0 : Int)).map W.int := by
    rw [ec, List.map_replicate]
    exact List.flatten_replicate_singleton
  rw [fl]
  refine o_addL (get_old g1) get_new (by rw [List.length_map, List.length_map, List.length_replicate]; show 1 + _ ≤ _; omega) ?_
  have g4 : (h3 ++ [li (List.replicate (cnt b n) 0)] ++ [li ([128] ++ List.replicate (cnt b n) 0)])[(h3 ++ [li (List.replicate (cnt b n) 0)]).length]? = some (li ([128] ++ List.replicate (cnt b n) 0)) := get_new
  have p4 : h3 <+: h3 ++ [li (List.replicate (cnt b n) 0)] ++ [li ([128] ++ List.replicate (cnt b n) 0)] := ⟨[li (List.replicate (cnt b n) 0), li ([128] ++ List.replicate (cnt b n) 0)], by simp⟩
  rw [← List.map_append]
  generalize (h3 ++ [li (List.replicate (cnt b n) 0)]).length = r4 at *
  generalize h3 ++ [li (List.replicate (cnt b n) 0)] ++ [li ([128] ++ List.replicate (cnt b n) 0)] = h4 at *
  array_get_dec
  refine o_mulS (by decide) ?_
  array_get_dec
  refine sp_length_size ?_
  array_get_dec
  refine sp_to_big (by cases b <;> decide) (by omega) (by
    have : (2 : Int) ^ 64 ≤ 2 ^ (8 * lsz b) := by cases b <;> decide
    omega) fun r5 h5 p5 g5 l5 => ?_
  refine o_addL (pre_get p5 g4) g5 (by rw [List.length_map, List.length_map, List.length_append, List.length_replicate, tbB_len]; show 1 + _ + _ ≤ _; have : lsz b ≤ 16 := by cases b <;> decide
                                       omega) ?_
  rw [← List.map_append]
  refine q _ _ (pre_new ((p2.trans p4).trans p5)) ?_ ?_
  · rw [get_new, ez]
    rfl
  · exact ((p2.trans p4).trans p5).length_le
end
/-! blocks -/
def absorb (b : Bool) (ws m : List Int) : Nat → List Int
  | 0 => ws
  | n + 1 => cmp b (absorb b ws m n) (sched b ((m.drop (n * bsz b)).take (bsz b)))
theorem absorb_len {b : Bool} {ws m : List Int} (hw : ws.length = 8) (n : Nat) : (absorb b ws m n).length = 8 := by
  induction n with
  | zero => exact hw
  | succ n ih => exact cmp_len ih
theorem absorb_wd {b : Bool} {ws m : List Int} (hw : Wd b ws) (n : Nat) : Wd b (absorb b ws m n) := by
  cases n with
  | zero => exact hw
  | succ n => exact cmp_wd
theorem absorb_app {b : Bool} {ws x y : List Int} {n : Nat} (hx : x.length = n * bsz b) (k : Nat) : absorb b ws (x ++ y) (n + k) = absorb b (absorb b ws x n) y k := by
  induction k with
  | zero =>
    show absorb b ws (x ++ y) n = absorb b ws x n
    have : ∀ j, j ≤ n → absorb b ws (x ++ y) j = absorb b ws x j := by
      intro j
      induction j with
      | zero => intro _; rfl
      | succ j ih =>
        intro hj
        show cmp b _ _ = cmp b _ _
        rw [ih (by omega)]
        congr 2
        have hle : (j + 1) * bsz b ≤ n * bsz b := Nat.mul_le_mul_right _ hj
        rw [Nat.add_mul, Nat.one_mul] at hle
        rw [List.drop_append_of_le_length (by omega), List.take_append_of_le_length (by rw [List.length_drop]; omega)]
    exact this n (Nat.le_refl _)
  | succ k ih =>
    show cmp b (absorb b ws (x ++ y) (n + k)) _ = cmp b (absorb b (absorb b ws x n) y k) _
    rw [ih]
    congr 2
    show List.take (bsz b) (List.drop ((n + k) * bsz b) (x ++ y)) = _
    rw [Nat.add_mul, ← hx, List.drop_append, List.drop_eq_nil_of_le (by omega), List.nil_append, show x.length + k * bsz b - x.length = k * bsz b by omega]
def whole (b : Bool) (m : List Int) : Nat := m.length / bsz b
def rest (b : Bool) (m : List Int) : List Int := m.drop (whole b m * bsz b)
/-- the words of what was added -/
def wof (b : Bool) (m : List Int) : List Int := absorb b (sw b) m (whole b m)
theorem bsz_pos (b : Bool) : 0 < bsz b := by cases b <;> decide
theorem wof_add (b : Bool) (m d : List Int) : wof b (m ++ d) = absorb b (wof b m) (rest b m ++ d) (whole b (rest b m ++ d)) ∧ rest b (m ++ d) = rest b (rest b m ++ d) ∧ whole b (m ++ d) = whole b m + whole b (rest b m ++ d) := by
  have hb := bsz_pos b
  have le : whole b m * bsz b ≤ m.length := Nat.div_mul_le_self _ _
  have ex : (m.take (whole b m * bsz b)).length = whole b m * bsz b := by rw [List.length_take]; omega
  have em : m.take (whole b m * bsz b) ++ rest b m = m := List.take_append_drop _ _
  have ed : m ++ d = m.take (whole b m * bsz b) ++ (rest b m ++ d) := by rw [← List.append_assoc, em]
  have lr : (m ++ d).length = whole b m * bsz b + (rest b m ++ d).length := by rw [ed, List.length_append, ex]
  have wm : whole b (m ++ d) = whole b m + whole b (rest b m ++ d) := by
    unfold whole at *
    rw [lr, Nat.mul_comm, Nat.mul_add_div hb]
  refine ⟨?_, ?_, wm⟩
  · have h1 : wof b m = absorb b (sw b) (m.take (whole b m * bsz b)) (whole b m) := by
      have := absorb_app (b := b) (ws := sw b) (x := m.take (whole b m * bsz b)) (y := rest b m) ex 0
      rw [em] at this
      exact this
    rw [h1, ← absorb_app ex, ← ed, ← wm]
    rfl
  · have : ∀ l : List Int, rest b l = l.drop (whole b l * bsz b) := fun _ => rfl
    rw [this (m ++ d), wm, Nat.add_mul, ed, List.drop_append, List.drop_eq_nil_of_le (by omega), List.nil_append, ex]
    rw [show whole b m * bsz b + whole b (rest b m ++ d) * bsz b - whole b m * bsz b = whole b (rest b m ++ d) * bsz b by omega]
    rfl
theorem rest_len (b : Bool) (m : List Int) : (rest b m).length = m.length % bsz b := by
  unfold rest whole
  rw [List.length_drop]
  have := Nat.div_add_mod m.length (bsz b)
  rw [Nat.mul_comm] at this
  omega
/-- the last blocks -/
def lastB (b : Bool) (m : List Int) : List Int := rest b m ++ pad b m.length
/-- THE DIGEST -/
def dg (b : Bool) (m : List Int) : List Int := (absorb b (wof b m) (lastB b m) (whole b (lastB b m))).flatMap fun w => tbB w (stp b)
theorem dg_by (b : Bool) (m : List Int) : By (dg b m) := fun x hx => by
  obtain ⟨w, _, hw⟩ := List.mem_flatMap.mp hx
  exact tbB_by x hw
theorem wof_len (b : Bool) (m : List Int) : (wof b m).length = 8 := absorb_len sw_len _
theorem wof_wd (b : Bool) (m : List Int) : Wd b (wof b m) := absorb_wd sw_wd _
theorem flat_len (k : Nat) : ∀ l : List Int, (l.flatMap fun w => tbB w k).length = l.length * k
  | [] => by simp
  | x :: l => by rw [List.flatMap_cons, List.length_append, flat_len k l, tbB_len, List.length_cons, Nat.add_mul]; omega
theorem dg_len (b : Bool) (m : List Int) : (dg b m).length = dsz b := by
  unfold dg
  rw [flat_len, absorb_len (wof_len b m)]
  cases b <;> rfl
end Z

/-! D6: the digester: made, made ready -/
namespace Z
open PySem PySem.Spec PyProof.Rows L2
open L_curveseal_k36_digests_in_pieces
def DigX (h : Hm) (r : Nat) (b : Bool) (a c d : Nat) (n : Int) : Prop := h[r]? = some (.ins 2 [("_kind", .str (kn b)), ("_words", .ref a), ("_rest", .ref c), ("_length", .int n), ("_constants", .ref d)])
def CstAt (h : Hm) (b : Bool) (d : Nat) : Prop := h[d]? = some (li []) ∨ h[d]? = some (li (consts b))
/-- a digester that has been given m -/
structure DigP (P : Nat → Prop) (h : Hm) (r : Nat) (b : Bool) (m : List Int) : Prop where
  ex : ∃ a c d, DigX h r b a c d m.length ∧ h[a]? = some (li (wof b m)) ∧ h[c]? = some (li (rest b m)) ∧ CstAt h b d ∧ P a ∧ P c ∧ P d
  by_ : By m
  lim : m.length ≤ 1048576
abbrev DigAt (h : Hm) (r : Nat) (b : Bool) (m : List Int) : Prop := DigP (fun _ => True) h r b m
section
variable {h h' : Hm} {V : W → Hm → Prop} {E : Exn → Hm → Prop} {b : Bool} {r : Nat} {m : List Int}
theorem CstAt.ext {x c d : Nat} {fs : List (Str × W)} (e : Ext x h h') (ex : h[x]? = some (.ins c fs)) (a : CstAt h b d) : CstAt h' b d := a.elim (fun q => .inl (e.lst q ex)) fun q => .inr (e.lst q ex)
variable {P : Nat → Prop}
theorem DigP.ext {x c : Nat} {fs : List (Str × W)} (e : Ext x h h') (ex : h[x]? = some (.ins c fs)) (ne : r ≠ x) (a : DigP P h r b m) : DigP P h' r b m := by
  obtain ⟨a1, c1, d1, x1, x2, x3, x4, x5⟩ := a.ex
  exact ⟨⟨a1, c1, d1, e.at x1 ne, e.lst x2 ex, e.lst x3 ex, x4.ext e ex, x5⟩, a.by_, a.lim⟩
theorem DigP.pre (p : h <+: h') (a : DigP P h r b m) : DigP P h' r b m := by
  obtain ⟨a1, c1, d1, x1, x2, x3, x4, x5⟩ := a.ex
  exact ⟨⟨a1, c1, d1, pre_get p x1, pre_get p x2, pre_get p x3, x4.elim (fun q => .inl (pre_get p q)) fun q => .inr (pre_get p q), x5⟩, a.by_, a.lim⟩
theorem DigP.ins (a : DigP P h r b m) : ∃ fs, h[r]? = some (.ins 2 fs) := by
  obtain ⟨a1, c1, d1, x1, x2, x3, x4⟩ := a.ex
  exact ⟨_, x1⟩
theorem DigP.imp {Q : Nat → Prop} (a : DigP P h r b m) (k : ∀ x, x < h.length → P x → Q x) : DigP Q h r b m := by
  obtain ⟨a1, c1, d1, x1, x2, x3, x4, x5, x6, x7⟩ := a.ex
  exact ⟨⟨a1, c1, d1, x1, x2, x3, x4, k _ (lt_of_get' x2) x5, k _ (lt_of_get' x3) x6, k _ (x4.elim lt_of_get' lt_of_get') x7⟩, a.by_, a.lim⟩
/-- a write elsewhere -/
theorem DigP.wr {g : Nat} {o : O} (a : DigP (· ≠ g) h r b m) (ne : r ≠ g) : DigP (· ≠ g) (h.set g o) r b m := by
  obtain ⟨a1, c1, d1, x1, x2, x3, x4, x5, x6, x7⟩ := a.ex
  have k : ∀ {i : Nat} {u : O}, i ≠ g → h[i]? = some u → (h.set g o)[i]? = some u := fun ne e => by rw [List.getElem?_set_ne (Ne.symm ne)]; exact e
  exact ⟨⟨a1, c1, d1, k ne x1, k x5 x2, k x6 x3, x4.elim (fun q => .inl (k x7 q)) fun q => .inr (k x7 q), x5, x6, x7⟩, a.by_, a.lim⟩
theorem wof_nil : wof b [] = sw b := by unfold wof whole; rw [List.length_nil, Nat.zero_div]; rfl
theorem rest_nil : rest b [] = [] := List.drop_nil
theorem get_set {h : Hm} {r : Nat} {o : O} {u : O} (e : h[r]? = some u) : (h.set r o)[r]? = some o := List.getElem?_set_self (lt_of_get' e)
theorem sp_dig_init (e : h[r]? = some (.ins 2 [])) (q : ∀ h', Ext r h h' → DigP (h.length ≤ ·) h' r b [] → V .non h') : (F_Digester___init__ [.ref r, .str (kn b)] h).wp V E := by
  refine w_mk ?_
  array_get_dec
  refine ⟨_, setF_at e rfl (Nat.le_of_ble_eq_true rfl), ?_⟩
  have e1 := get_set (o := .ins 2 (putW "_kind" (.str (kn b)) [])) e
  have x1 : Ext r h (h.set r (.ins 2 (putW "_kind" (.str (kn b)) []))) := .set
  generalize h.set r (.ins 2 (putW "_kind" (.str (kn b)) [])) = h1 at *
  array_get_dec
  refine sp_start_words fun a h2 p2 g2 l2 => ?_
  have la : h.length ≤ a := Nat.le_trans x1.len l2
  have e2 := pre_get p2 e1
  have x2 := x1.trans (.pre p2)
  array_get_dec
  refine ⟨_, setF_at e2 rfl (Nat.le_of_ble_eq_true rfl), ?_⟩
  have e3 := get_set (o := .ins 2 (putW "_words" (.ref a) (putW "_kind" (.str (kn b)) []))) e2
  have x3 : Ext r h (h2.set r (.ins 2 (putW "_words" (.ref a) (putW "_kind" (.str (kn b)) [])))) := x2.trans .set
  have g3 : (h2.set r (.ins 2 (putW "_words" (.ref a) (putW "_kind" (.str (kn b)) []))))[a]? = some (li (sw b)) := Ext.lst .set g2 e2
  generalize h2.set r (.ins 2 (putW "_words" (.ref a) (putW "_kind" (.str (kn b)) []))) = h3 at *
  array_get_dec
  refine ⟨_, setF_at (get_old e3) rfl (Nat.le_of_ble_eq_true rfl), ?_⟩
  have e4 := get_set (o := .ins 2 (putW "_rest" (.ref h3.length) (putW "_words" (.ref a) (putW "_kind" (.str (kn b)) [])))) (get_old (u := O.lst []) e3)
  have x4 : Ext r h ((h3 ++ [O.lst []]).set r (.ins 2 (putW "_rest" (.ref h3.length) (putW "_words" (.ref a) (putW "_kind" (.str (kn b)) []))))) := x3.trans ((Ext.pre ⟨_, rfl⟩).trans .set)
  have g4 : ((h3 ++ [O.lst []]).set r (.ins 2 (putW "_rest" (.ref h3.length) (putW "_words" (.ref a) (putW "_kind" (.str (kn b)) [])))))[a]? = some (li (sw b)) := Ext.lst .set (get_old g3) (get_old e3)
  have k4 : ((h3 ++ [O.lst []]).set r (.ins 2 (putW "_rest" (.ref h3.length) (putW "_words" (.ref a) (putW "_kind" (.str (kn b)) [])))))[h3.length]? = some (li []) := Ext.lst .set get_new (get_old e3)
  have lc : h.length ≤ h3.length := x3.len
  generalize h3.length = c at *
  generalize (h3 ++ [O.lst []]).set r (.ins 2 (putW "_rest" (.ref c) (putW "_words" (.ref a) (putW "_kind" (.str (kn b)) [])))) = h4 at *
  array_get_dec
  refine ⟨_, setF_at e4 rfl (Nat.le_of_ble_eq_true rfl), ?_⟩
  have e5 := get_set (o := .ins 2 (putW "_length" (.int 0) (putW "_rest" (.ref c) (putW "_words" (.ref a) (putW "_kind" (.str (kn b)) []))))) e4
  have x5 : Ext r h (h4.set r (.ins 2 (putW "_length" (.int 0) (putW "_rest" (.ref c) (putW "_words" (.ref a) (putW "_kind" (.str (kn b)) [])))))) := x4.trans .set
  have g5 : (h4.set r (.ins 2 (putW "_length" (.int 0) (putW "_rest" (.ref c) (putW "_words" (.ref a) (putW "_kind" (.str (kn b)) []))))))[a]? = some (li (sw b)) := Ext.lst .set g4 e4
  have k5 : (h4.set r (.ins 2 (putW "_length" (.int 0) (putW "_rest" (.ref c) (putW "_words" (.ref a) (putW "_kind" (.str (kn b)) []))))))[c]? = some (li []) := Ext.lst .set k4 e4
  generalize h4.set r (.ins 2 (putW "_length" (.int 0) (putW "_rest" (.ref c) (putW "_words" (.ref a) (putW "_kind" (.str (kn b)) []))))) = h5 at *
  array_get_dec
  refine ⟨_, setF_at (get_old e5) rfl (Nat.le_of_ble_eq_true rfl), ?_⟩
  refine q _ (x5.trans ((Ext.pre ⟨_, rfl⟩).trans .set)) ⟨⟨a, c, h5.length, ?_, ?_, ?_, .inl ?_, la, lc, x5.len⟩, nofun, Nat.zero_le _⟩
  · exact get_set (get_old e5)
  · rw [wof_nil]
    exact Ext.lst .set (get_old g5) (get_old e5)
  · rw [rest_nil]
    exact Ext.lst .set (get_old k5) (get_old e5)
  · exact Ext.lst .set get_new (get_old e5)
/-- no such kind -/
theorem sp_dig_init_bad {k : Str} (hk : kIn d_SIZES (.str k) = some false) (e : h[r]? = some (.ins 2 [])) (q : ∀ h', Ext r h h' → E ⟨1, none⟩ h') : (F_Digester___init__ [.ref r, .str k] h).wp V E := by
  refine w_mk ?_
  array_get_dec
  refine ⟨_, setF_at e rfl (Nat.le_of_ble_eq_true rfl), ?_⟩
  array_get_dec
  refine w_mk ?_
  array_get_dec
  refine w_mk ?_
  array_get_dec
  refine w_mk ?_
  array_get_dec
  refine ⟨_, hk, ?_⟩
  refine d_T ?_
  array_get_dec
  exact q _ .set
theorem consts_ne : consts b ≠ [] := by cases b <;> (intro h; have := congrArg List.length h; rw [consts_len] at this; revert this; decide)
theorem sp_make_ready {a c d : Nat} {n : Int} (X : DigX h r b a c d n) (C : CstAt h b d) (q : ∀ h' d', Ext r h h' → DigX h' r b a c d' n → h'[d']? = some (li (consts b)) → (d' = d ∨ h.length ≤ d') → V .non h') : (F_Digester_make_ready [.ref r] h).wp V E := by
  unfold DigX at X
  refine w_mk ?_
  array_get_dec
  rcases C with C | C
  · refine o_eq (eqB_li (get_old C) (by exact get_new (o := li []))) ?_
    array_get_dec
    refine d_decT rfl ?_
    have X2 := get_old (u := O.lst []) X
    have p2 : h <+: h ++ [O.lst []] := ⟨_, rfl⟩
    generalize h ++ [O.lst []] = h2 at *
    array_get_dec
    refine sp_round_constants fun d' h3 p3 g3 l3 => ?_
    have X3 := pre_get p3 X2
    array_get_dec
    refine ⟨_, setF_at X3 rfl (Nat.le_of_ble_eq_true rfl), ?_⟩
    exact q _ d' ((Ext.pre (p2.trans p3)).trans .set) (get_set X3) (Ext.lst .set g3 X3) (.inr (Nat.le_trans p2.length_le l3))
  · refine o_eq (eqB_li (get_old C) (by exact get_new (o := li []))) ?_
    array_get_dec
    refine d_decF consts_ne ?_
    array_get_dec
    exact q _ d (Ext.pre ⟨_, rfl⟩) (get_old X) (get_old C) (.inl rfl)
end
end Z

/-! D7: the digester: add -/
namespace Z
open PySem PySem.Spec PyProof.Rows L2
open L_curveseal_k36_digests_in_pieces
section
variable {h h' : Hm} {V : W → Hm → Prop} {E : Exn → Hm → Prop} {b : Bool} {r : Nat} {m : List Int}
theorem fits {x : Int} (h0 : -1000000000 ≤ x) (h1 : x ≤ 1000000000) : Builtin.Range.rangeFitsLong x = true := by
  unfold Builtin.Range.rangeFitsLong
  first
    | exact decide_eq_true (by omega)
    | (rw [Bool.and_eq_true, decide_eq_true_eq, decide_eq_true_eq]; omega)
theorem rng_steps {k : Nat} {s : Int} (s0 : 0 < s) (s1 : s ≤ 1000) (hk : k ≤ 100000) : Builtin.Range.rangeSize 0 ((k : Int) * s) s = k ∧ Builtin.Range.small 0 ((k : Int) * s) s = true := by
  have p0 : 0 ≤ (k : Int) * s := Int.mul_nonneg (by omega) (by omega)
  have p1 : (k : Int) * s ≤ 100000 * 1000 := Int.mul_le_mul (by omega) s1 (by omega) (by decide)
  have rs : Builtin.Range.rangeSize 0 ((k : Int) * s) s = k := by
    unfold Builtin.Range.rangeSize
    rw [if_pos s0]
    by_cases hz : k = 0
    · subst hz
      rw [if_neg (by simp)]
      rfl
    · have : 0 < (k : Int) * s := Int.mul_pos (by omega) s0
      rw [if_pos this]
      have e : ((k : Int) * s - 0 - 1) = (s - 1) + s * (k - 1) := by
        rw [Int.mul_sub, Int.mul_comm s k]
        omega
      rw [e, Int.add_mul_ediv_left _ _ (by omega), Int.ediv_eq_zero_of_lt (by omega) (by omega)]
      omega
  refine ⟨rs, ?_⟩
  unfold Builtin.Range.small
  rw [rs, fits (by decide) (by decide), fits (by omega) (by omega), fits (by omega) (by omega), fits (by omega) (by omega)]
  rw [if_pos s0, fits (by omega) (by omega)]
  simp
set_option maxHeartbeats 0 in
theorem sp_add {P : Nat → Prop} {x : Nat} {d : List Int} (hP : ∀ x, h.length ≤ x → P x) (D : DigP P h r b m) (e : h[x]? = some (li d)) (hd : By d) (hl : m.length + d.length ≤ 1048576) (q : ∀ h', Ext r h h' → DigP P h' r b (m ++ d) → V .non h') : (F_Digester_add [.ref r, .ref x] h).wp V E := by
  obtain ⟨a, c, cs, X, wa, wc, C, Pa, Pc, Pd⟩ := D.ex
  have Bm := D.by_
  unfold DigX at X
  refine w_mk ?_
  obtain ⟨n, en⟩ : ∃ z : Int, z = (m.length : Int) := ⟨_, rfl⟩
  rw [← en] at X
  have n0 : 0 ≤ n := by omega
  refine w_lit [some (.ref r), some (.ref x), none, none, none, none, none] rfl ?_
  refine w_seqM (fun σ h1 => h1 = h ∧ σ = [some (.ref r), some (.ref x), none, none, none, none, none]) ?_ ?_
  · array_get_dec
    refine o_len (seqC_at e) ?_
    rw [List.length_map]
    array_get_dec
    refine d_decF (show ¬ (1048576 : Int) < n + d.length by omega) ?_
    array_get_dec
    exact ⟨rfl, rfl⟩
  rintro σ h1 ⟨rfl, rfl⟩
  refine w_seqM (fun σ h2 => Ext r h1 h2 ∧ h2[r]? = some (.ins 2 [("_kind", .str (kn b)), ("_words", .ref a), ("_rest", .ref c), ("_length", .int (n + d.length)), ("_constants", .ref cs)]) ∧ σ = [some (.ref r), some (.ref x), none, none, none, none, none]) ?_ ?_
  · refine w_fldaug ?_
    array_get_dec
    refine o_len (seqC_at e) ?_
    rw [List.length_map]
    refine ⟨_, _, rfl, ?_⟩
    have ec : clsW (.ref r) h1 = 2 := by
      unfold clsW
      rw [insW_at X]
      rfl
    rw [ec]
    refine ⟨_, setF_at X rfl (Nat.le_of_ble_eq_true rfl), .set, get_set X, rfl⟩
  rintro σ h2 ⟨x2, X2, rfl⟩
  have e2 := x2.lst e X
  have wa2 := x2.lst wa X
  have wc2 := x2.lst wc X
  have C2 := C.ext x2 X
  clear X e wa wc C
  generalize en' : n + (d.length : Int) = n' at *
  refine w_seqM (fun σ h3 => h3 = h2 ∧ σ = [some (.ref r), some (.ref x), some (.int (bsz b)), none, none, none, none]) ?_ ?_
  · array_get_dec
    refine sp_block_size ?_
    exact ⟨rfl, rfl⟩
  rintro σ h3 ⟨rfl, rfl⟩
  have rl := rest_len b m
  have rlt := Nat.mod_lt m.length (bsz_pos b)
  have bs1 : 64 ≤ bsz b ∧ bsz b ≤ 128 := by cases b <;> decide
  refine w_seqM (fun σ h4 => Ext r h3 h4 ∧ h4[r]? = some (.ins 2 [("_kind", .str (kn b)), ("_words", .ref a), ("_rest", .ref c), ("_length", .int n'), ("_constants", .ref cs)]) ∧ ∃ wr, h4[wr]? = some (li (rest b m ++ d)) ∧ σ = [some (.ref r), some (.ref x), some (.int (bsz b)), some (.ref wr), none, none, none]) ?_ ?_
  · array_get_dec
    refine o_list (seqC_at e2) ?_
    refine o_addL (get_old wc2) get_new (by rw [List.length_map, List.length_map]; omega) ?_
    rw [← List.map_append]
    refine ⟨(Ext.pre ⟨_, rfl⟩).trans (.pre ⟨_, rfl⟩), get_old (get_old X2), _, get_new, rfl⟩
  rintro σ h4 ⟨x4, X4, wr, e4, rfl⟩
  have wa4 := x4.lst wa2 X2
  have C4 := C2.ext x4 X2
  have x14 := x2.trans x4
  clear X2 e2 wa2 wc2 C2 x2 x4
  obtain ⟨w1, w2, w3⟩ := wof_add b m d
  have wby : By (rest b m ++ d) := By.app (Bm.drop _) hd
  have wle : (rest b m ++ d).length ≤ 1048576 + 128 := by rw [List.length_append]; omega
  generalize ew : rest b m ++ d = w at *
  obtain ⟨s, es⟩ : ∃ z : Int, z = (bsz b : Int) := ⟨_, rfl⟩
  have s0 : 0 < s := by omega
  have s1 : s ≤ 1000 := by omega
  have kk : whole b w ≤ 100000 := by
    unfold whole
    have := Nat.div_le_div_left bs1.1 (by decide) (a := w.length)
    omega
  obtain ⟨rs1, rs2⟩ := rng_steps (k := whole b w) s0 s1 kk
  have we : ((w.length : Int) / s) * s = (whole b w : Int) * s := by rw [es]; unfold whole; rw [Int.natCast_ediv]
  have wle2 : (whole b w : Int) * s ≤ w.length := by
    rw [es, ← Int.natCast_mul]
    exact Int.ofNat_le.mpr (Nat.div_mul_le_self _ _)
  rw [← es]
  refine w_seqM (fun σ h5 => h5 = h4 ∧ σ = [some (.ref r), some (.ref x), some (.int s), some (.ref wr), some (.int ((whole b w : Int) * s)), none, none]) ?_ ?_
  · array_get_dec
    refine o_len (seqC_at e4) ?_
    rw [List.length_map]
    array_get_dec
    refine o_fdivI ⟨s0, by
      have : s.natAbs < 2 ^ 10 := by omega
      exact Nat.lt_of_le_of_lt (PySem.W.mg_log (k := 9) this) (by decide)⟩ ?_
    refine o_mulSR ⟨by omega, by omega⟩ ?_
    rw [we]
    exact ⟨rfl, rfl⟩
  rintro σ h5 ⟨rfl, rfl⟩
  generalize ey : (whole b w : Int) * s = y at *
  have y0 : 0 ≤ y := by rw [← ey]; exact Int.mul_nonneg (by omega) (by omega)
  have yt : y.toNat = whole b w * bsz b := by rw [← ey, es, ← Int.natCast_mul]; omega
  refine w_seqM (fun σ h6 => Ext r h5 h6 ∧ (∃ cs', h6[r]? = some (.ins 2 [("_kind", .str (kn b)), ("_words", .ref a), ("_rest", .ref c), ("_length", .int n'), ("_constants", .ref cs')]) ∧ CstAt h6 b cs' ∧ P cs' ∧ (0 < y → h6[cs']? = some (li (consts b)))) ∧ σ = [some (.ref r), some (.ref x), some (.int s), some (.ref wr), some (.int y), none, none]) ?_ ?_
  · array_get_dec
    refine d_dec (fun hp => ?_) fun hp => ?_
    · array_get_dec
      refine sp_make_ready X4 C4 fun h6 d' x6 X6 g6 l6 => ?_
      exact ⟨x6, ⟨d', X6, .inr g6, l6.elim (fun e => e ▸ Pd) fun l => hP _ (Nat.le_trans x14.len l), fun _ => g6⟩, rfl⟩
    · array_get_dec
      exact ⟨.refl, ⟨cs, X4, C4, Pd, fun q => absurd q hp⟩, rfl⟩
  rintro σ h6 ⟨x6, ⟨cs', X6, C6, Pd', G6⟩, rfl⟩
  have wa6 := x6.lst wa4 X4
  have e6 := x6.lst e4 X4
  have x16 := x14.trans x6
  clear X4 wa4 e4 C4 x14 x6
  refine w_seqM (fun σ h7 => Ext r h6 h7 ∧ (∃ a', h7[r]? = some (.ins 2 [("_kind", .str (kn b)), ("_words", .ref a'), ("_rest", .ref c), ("_length", .int n'), ("_constants", .ref cs')]) ∧ h7[a']? = some (li (absorb b (wof b m) w (whole b w))) ∧ P a') ∧ ∃ u v, σ = [some (.ref r), some (.ref x), some (.int s), some (.ref wr), some (.int y), u, v]) ?_ ?_
  · apply w_For
    refine w_iRng3 ?_
    array_get_dec
    refine ⟨_, _, _, rfl, ⟨by omega, by omega, rs2, by rw [rs1]; omega⟩, ?_⟩
    rw [rs1]
    show (sForL (itRng 0 s (whole b w : Int).toNat) _ _ fuel 0 _ _).wp _ _ _ _ _
    rw [Int.toNat_natCast]
    refine w_loop (n := whole b w) (fun i σ h7 => Ext r h6 h7 ∧ (∃ a', h7[r]? = some (.ins 2 [("_kind", .str (kn b)), ("_words", .ref a'), ("_rest", .ref c), ("_length", .int n'), ("_constants", .ref cs')]) ∧ h7[a']? = some (li (absorb b (wof b m) w i)) ∧ P a') ∧ ∃ u v, σ = [some (.ref r), some (.ref x), some (.int s), some (.ref wr), some (.int y), u, v]) (lt_fuel' (by omega)) ⟨.refl, ⟨a, X6, wa6, Pa⟩, none, none, rfl⟩ ?_ ?_
    · rintro i σ h7 hi ⟨x7, ⟨a', X7, wa7, Pa'⟩, u, v, rfl⟩
      refine ⟨.int ((i : Int) * s), _, ?_, rfl, ?_⟩
      · unfold itRng
        rw [if_pos hi, Int.zero_add]
      have le1 : (i + 1) * bsz b ≤ w.length := Nat.le_trans (Nat.mul_le_mul_right _ hi) (Nat.div_mul_le_self _ _)
      rw [Nat.add_mul, Nat.one_mul] at le1
      obtain ⟨z, ez⟩ : ∃ z : Int, z = (i : Int) * s := ⟨_, rfl⟩
      have zt : z.toNat = i * bsz b := by rw [ez, es, ← Int.natCast_mul]; omega
      have z0 : 0 ≤ z := by rw [ez]; exact Int.mul_nonneg (by omega) (by omega)
      have ypos : 0 < y := by
        rw [← ey]
        exact Int.mul_pos (by omega) s0
      have g7 := x7.lst (G6 ypos) X6
      have e7 := x7.lst e6 X6
      rw [← ez]
      array_get_dec
      refine o_sl e7 z0 (by omega) (by omega) ?_
      array_get_dec
      rw [zt, show (z + s).toNat - i * bsz b = bsz b by omega]
      refine sp_schedule get_new ((wby.drop _).take _) (by rw [List.length_take, List.length_drop]; omega) fun r8 h8 p8 g8 l8 => ?_
      have p78 : h7 <+: h8 := List.IsPrefix.trans ⟨_, rfl⟩ p8
      have X8 := pre_get p78 X7
      have wa8 := pre_get p78 wa7
      have g8' := pre_get p78 g7
      have x8 := x7.trans (.pre p78)
      clear X7 wa7 g7 p8 l8 p78 e7
      array_get_dec
      have il : (sched b ((w.drop (i * bsz b)).take (bsz b))).length = ro b := by
        unfold sched
        rw [schedN_len]
        cases b <;> rfl
      refine sp_compress g8' wa8 g8 (absorb_len (wof_len b m) i) il (absorb_wd (wof_wd b m) i) fun r9 h9 p9 g9 l9 => ?_
      have X9 := pre_get p9 X8
      array_get_dec
      refine ⟨_, setF_at X9 rfl (Nat.le_of_ble_eq_true rfl), ?_⟩
      exact ⟨x8.trans ((Ext.pre p9).trans .set), ⟨r9, get_set X9, Ext.lst .set g9 X9, hP _ (Nat.le_trans (Nat.le_trans x16.len x8.len) l9)⟩, _, _, rfl⟩
    · rintro σ h7 ⟨x7, ⟨a', X7, wa7, Pa'⟩, u, v, rfl⟩
      refine ⟨?_, x7, ⟨a', X7, wa7, Pa'⟩, u, v, rfl⟩
      unfold itRng
      rw [if_neg (Nat.lt_irrefl _)]
  rintro σ h7 ⟨x7, ⟨a', X7, wa7, Pa'⟩, u, v, rfl⟩
  have e7 := x7.lst e6 X6
  have C7 := C6.ext x7 X6
  array_get_dec
  refine o_slN e7 y0 (by omega) ?_
  rw [yt]
  array_get_dec
  refine ⟨_, setF_at (get_old X7) rfl (Nat.le_of_ble_eq_true rfl), ?_⟩
  have p8 : h7 <+: h7 ++ [li (w.drop (whole b w * bsz b))] := ⟨_, rfl⟩
  refine q _ (x16.trans (x7.trans ((Ext.pre p8).trans .set))) ⟨⟨a', h7.length, cs', ?_, ?_, ?_, ?_, Pa', hP _ (Nat.le_trans x16.len x7.len), Pd'⟩, By.app Bm hd, by rw [List.length_append]; exact hl⟩
  · have := get_set (o := .ins 2 (putW "_rest" (.ref h7.length) [("_kind", .str (kn b)), ("_words", .ref a'), ("_rest", .ref c), ("_length", .int n'), ("_constants", .ref cs')])) (get_old (u := li (w.drop (whole b w * bsz b))) X7)
    unfold DigX
    rw [List.length_append, Int.natCast_add, ← en, en']
    exact this
  · rw [w1]
    exact Ext.lst .set (get_old wa7) (get_old X7)
  · rw [w2]
    exact Ext.lst .set get_new (get_old X7)
  · exact (C7.elim (fun q => .inl (get_old q)) fun q => .inr (get_old q) : CstAt (h7 ++ [li (w.drop (whole b w * bsz b))]) b cs').ext (c := 2) .set (get_old X7)
end
end Z

/-! D8: the digester: told, twin, length; digests -/
namespace Z
open PySem PySem.Spec PyProof.Rows L2
open L_curveseal_k36_digests_in_pieces
section
variable {h h' : Hm} {V : W → Hm → Prop} {E : Exn → Hm → Prop} {b : Bool} {r : Nat} {m : List Int}
set_option maxHeartbeats 0 in
theorem sp_told' {P : Nat → Prop} (hP : ∀ x, h.length ≤ x → P x) (D : DigP P h r b m) (q : ∀ x h0 h', Ext r h h0 → DigP P h0 r b m → h0 <+: h' → h'[x]? = some (li (dg b m)) → h0.length ≤ x → V (.ref x) h') : (F_Digester_told [.ref r] h).wp V E := by
  obtain ⟨a, c, cs, X, wa, wc, C, Pa, Pc, Pd⟩ := D.ex
  have Bm := D.by_
  have lim := D.lim
  unfold DigX at X
  refine w_mk ?_
  refine w_lit [some (.ref r), none, none, none, none, none, none, none] rfl ?_
  refine w_seqM (fun σ h1 => h1 = h ∧ σ = [some (.ref r), some (.int (bsz b)), none, none, none, none, none, none]) ?_ ?_
  · array_get_dec
    refine sp_block_size ?_
    exact ⟨rfl, rfl⟩
  rintro σ h1 ⟨rfl, rfl⟩
  obtain ⟨s, es⟩ : ∃ z : Int, z = (bsz b : Int) := ⟨_, rfl⟩
  rw [← es]
  refine w_seqM (fun σ h2 => h2 = h1 ∧ σ = [some (.ref r), some (.int s), some (.ref a), none, none, none, none, none]) ?_ ?_
  · array_get_dec
    exact ⟨rfl, rfl⟩
  rintro σ h2 ⟨rfl, rfl⟩
  refine w_seqM (fun σ h3 => h2 <+: h3 ∧ ∃ wr, h3[wr]? = some (li (lastB b m)) ∧ σ = [some (.ref r), some (.int s), some (.ref a), some (.ref wr), none, none, none, none]) ?_ ?_
  · array_get_dec
    refine sp_padding lim fun r1 h3 p3 g3 l3 => ?_
    refine o_addL (pre_get p3 wc) g3 (by
      rw [List.length_map, List.length_map, rest_len, pad_len]
      have := Nat.mod_lt m.length (bsz_pos b)
      have := cnt_lt b m.length
      have : bsz b ≤ 128 ∧ lsz b ≤ 16 := by cases b <;> decide
      omega) ?_
    rw [← List.map_append]
    exact ⟨pre_new p3, _, get_new, rfl⟩
  rintro σ h3 ⟨p3, wr, e3, rfl⟩
  have X3 := pre_get p3 X
  have wa3 := pre_get p3 wa
  have C3 : CstAt h3 b cs := C.elim (fun q => .inl (pre_get p3 q)) fun q => .inr (pre_get p3 q)
  have x3 : Ext r h2 h3 := .pre p3
  refine w_seqM (fun σ h4 => Ext r h3 h4 ∧ (∃ cs', h4[r]? = some (.ins 2 [("_kind", .str (kn b)), ("_words", .ref a), ("_rest", .ref c), ("_length", .int m.length), ("_constants", .ref cs')]) ∧ h4[cs']? = some (li (consts b)) ∧ P cs') ∧ σ = [some (.ref r), some (.int s), some (.ref a), some (.ref wr), none, none, none, none]) ?_ ?_
  · array_get_dec
    refine sp_make_ready X3 C3 fun h6 d' x6 X6 g6 l6 => ?_
    exact ⟨x6, ⟨d', X6, g6, l6.elim (fun e => e ▸ Pd) fun l => hP _ (Nat.le_trans x3.len l)⟩, rfl⟩
  rintro σ h4 ⟨x4, ⟨cs', X4, G4, Pd'⟩, rfl⟩
  have wa4 := x4.lst wa3 X3
  have e4 := x4.lst e3 X3
  have wc4 := x4.lst (pre_get p3 wc) X3
  have x14 := x3.trans x4
  have D4 : DigP P h4 r b m := ⟨⟨a, c, cs', X4, wa4, wc4, .inr G4, Pa, Pc, Pd'⟩, Bm, lim⟩
  clear X3 wa3 C3 x3 e3 x4 p3 wc4
  have fit : (lastB b m).length = whole b (lastB b m) * bsz b := by
    have f := pad_fit b m.length
    have d := Nat.div_add_mod m.length (bsz b)
    have e : (lastB b m).length % bsz b = 0 := by
      unfold lastB
      rw [List.length_append, rest_len]
      rw [Nat.add_mod] at f
      rw [Nat.add_mod, Nat.mod_mod]
      exact f
    unfold whole
    exact (Nat.div_mul_cancel (Nat.dvd_of_mod_eq_zero e)).symm
  have wby : By (lastB b m) := By.app (Bm.drop _) (pad_by b _)
  have dgE : dg b m = (absorb b (wof b m) (lastB b m) (whole b (lastB b m))).flatMap fun w => tbB w (stp b) := rfl
  have wle : (lastB b m).length ≤ 1000 := by
    unfold lastB
    rw [List.length_append, rest_len, pad_len]
    have := Nat.mod_lt m.length (bsz_pos b)
    have := cnt_lt b m.length
    have : bsz b ≤ 128 ∧ lsz b ≤ 16 := by cases b <;> decide
    omega
  generalize lastB b m = w at *
  have bs1 : 64 ≤ bsz b ∧ bsz b ≤ 128 := by cases b <;> decide
  have s0 : 0 < s := by omega
  have s1 : s ≤ 1000 := by omega
  have kk : whole b w ≤ 100000 := by
    unfold whole
    have := Nat.div_le_self w.length (bsz b)
    omega
  obtain ⟨rs1, rs2⟩ := rng_steps (k := whole b w) s0 s1 kk
  have wl : (w.length : Int) = (whole b w : Int) * s := by rw [es, ← Int.natCast_mul, ← fit]
  refine w_seqM (fun σ h7 => h4 <+: h7 ∧ ∃ a' u v, h7[a']? = some (li (absorb b (wof b m) w (whole b w))) ∧ σ = [some (.ref r), some (.int s), some (.ref a'), some (.ref wr), u, v, none, none]) ?_ ?_
  · apply w_For
    refine w_iRng3 ?_
    array_get_dec
    refine o_len (seqC_at e4) ?_
    rw [List.length_map, wl]
    array_get_dec
    refine ⟨_, _, _, rfl, ⟨by omega, by omega, rs2, by rw [rs1]; omega⟩, ?_⟩
    rw [rs1]
    show (sForL (itRng 0 s (whole b w : Int).toNat) _ _ fuel 0 _ _).wp _ _ _ _ _
    rw [Int.toNat_natCast]
    refine w_loop (n := whole b w) (fun i σ h7 => h4 <+: h7 ∧ ∃ a' u v, h7[a']? = some (li (absorb b (wof b m) w i)) ∧ σ = [some (.ref r), some (.int s), some (.ref a'), some (.ref wr), u, v, none, none]) (lt_fuel' (by omega)) ⟨List.prefix_refl _, a, none, none, wa4, rfl⟩ ?_ ?_
    · rintro i σ h7 hi ⟨p7, a', u, v, wa7, rfl⟩
      refine ⟨.int ((i : Int) * s), _, ?_, rfl, ?_⟩
      · unfold itRng
        rw [if_pos hi, Int.zero_add]
      have le1 : (i + 1) * bsz b ≤ w.length := Nat.le_trans (Nat.mul_le_mul_right _ hi) (Nat.div_mul_le_self _ _)
      rw [Nat.add_mul, Nat.one_mul] at le1
      obtain ⟨z, ez⟩ : ∃ z : Int, z = (i : Int) * s := ⟨_, rfl⟩
      have zt : z.toNat = i * bsz b := by rw [ez, es, ← Int.natCast_mul]; omega
      have z0 : 0 ≤ z := by rw [ez]; exact Int.mul_nonneg (by omega) (by omega)
      have g7 := pre_get p7 G4
      have e7 := pre_get p7 e4
      have X7 := pre_get p7 X4
      rw [← ez]
      array_get_dec
      refine o_sl e7 z0 (by omega) (by omega) ?_
      array_get_dec
      rw [zt, show (z + s).toNat - i * bsz b = bsz b by omega]
      refine sp_schedule get_new ((wby.drop _).take _) (by rw [List.length_take, List.length_drop]; omega) fun r8 h8 p8 g8 l8 => ?_
      have p78 : h7 <+: h8 := List.IsPrefix.trans ⟨_, rfl⟩ p8
      have X8 := pre_get p78 X7
      have wa8 := pre_get p78 wa7
      have g8' := pre_get p78 g7
      have p48 := p7.trans p78
      clear X7 wa7 g7 p8 l8 p78 e7
      array_get_dec
      have il : (sched b ((w.drop (i * bsz b)).take (bsz b))).length = ro b := by
        unfold sched
        rw [schedN_len]
        cases b <;> rfl
      refine sp_compress g8' wa8 g8 (absorb_len (wof_len b m) i) il (absorb_wd (wof_wd b m) i) fun r9 h9 p9 g9 l9 => ?_
      exact ⟨p48.trans p9, r9, _, _, g9, rfl⟩
    · rintro σ h7 ⟨p7, a', u, v, wa7, rfl⟩
      refine ⟨?_, p7, a', u, v, wa7, rfl⟩
      unfold itRng
      rw [if_neg (Nat.lt_irrefl _)]
  rintro σ h7 ⟨p7, a', u, v, wa7, rfl⟩
  have X7 := pre_get p7 X4
  have al := absorb_len (b := b) (m := w) (wof_len b m) (whole b w)
  have aw := absorb_wd (b := b) (m := w) (wof_wd b m) (whole b w)
  generalize absorb b (wof b m) w (whole b w) = fin at *
  have D7 := D4.pre p7
  have x17 := x14.trans (.pre p7)
  clear e4 p7 X4 G4 wa4 D4 x14
  array_get_dec
  have wa8 := get_old (u := O.lst []) wa7
  have X8 := get_old (u := O.lst []) X7
  have p8 : h7 <+: h7 ++ [O.lst []] := ⟨_, rfl⟩
  have g8 : (h7 ++ [O.lst []])[h7.length]? = some (li []) := get_new
  refine .inl ⟨_, seqC_at wa8, ?_⟩
  refine w_items (xs := fin.map W.int) (fun i σ h9 => h7 <+: h9 ∧ h9[h7.length]? = some (li ((fin.take i).flatMap fun w => tbB w (stp b))) ∧ ∃ u v y, σ = [some (.ref r), some (.int s), some (.ref a'), some (.ref wr), u, v, some (.ref h7.length), y]) (lt_fuel' (by rw [List.length_map]; omega)) ⟨p8, g8, u, v, none, rfl⟩ (fun i σ h9 ⟨p9, _⟩ => seqC_at (pre_get p9 wa7)) ?_ ?_
  · rintro i σ h9 w' hw ⟨p9, g9, u, v, y, rfl⟩
    rw [List.getElem?_map] at hw
    obtain ⟨x, hx, rfl⟩ := Option.map_eq_some_iff.mp hw
    have wx := aw x (List.mem_of_getElem? hx)
    have X9 := pre_get p9 X7
    have hi : i < fin.length := (List.getElem?_eq_some_iff.mp hx).1
    refine ⟨_, rfl, ?_⟩
    array_get_dec
    refine ⟨isL_at' g9, ?_⟩
    array_get_dec
    refine sp_word_bits ?_
    array_get_dec
    refine o_fdivI (by decide) ?_
    have st : (bi b : Int) / 8 = (stp b : Int) := by cases b <;> decide
    rw [st]
    array_get_dec
    refine sp_to_big (by cases b <;> decide) wx.1 (by
      have : mk b + 1 = 2 ^ (8 * stp b) := by cases b <;> decide
      omega) fun r10 h10 p10 g10 l10 => ?_
    array_get_dec
    have g11 := pre_get p10 g9
    refine w_ofO (x := .non) (h1 := h10.set h7.length (.lst (((fin.take i).flatMap fun w => tbB w (stp b)).map W.int ++ (tbB x (stp b)).map W.int))) ?_ ?_
    · unfold extW
      have : ((fin.take i).flatMap fun w => tbB w (stp b)).length + (tbB x (stp b)).length ≤ 16777216 := by
        rw [flat_len, tbB_len, List.length_take]
        have : stp b ≤ 8 := by cases b <;> decide
        have : min i fin.length * stp b ≤ 8 * 8 := Nat.mul_le_mul (by omega) this
        omega
      simp only [g11, g10, List.length_map]
      rw [if_pos this]
    array_get_dec
    refine ⟨pre_set (p9.trans p10) (Nat.le_refl _), ?_, u, v, _, rfl⟩
    rw [get_set g11, List.take_add_one, hx, List.flatMap_append, ← List.map_append]
    simp
  · rintro σ h9 ⟨p9, g9, u, v, y, rfl⟩
    rw [List.length_map, List.take_length, ← dgE] at g9
    array_get_dec
    exact q _ _ _ x17 D7 p9 g9 (Nat.le_refl _)
theorem sp_told {P : Nat → Prop} (hP : ∀ x, h.length ≤ x → P x) (D : DigP P h r b m) (q : ∀ x h', Ext r h h' → DigP P h' r b m → h'[x]? = some (li (dg b m)) → h.length ≤ x → V (.ref x) h') : (F_Digester_told [.ref r] h).wp V E :=
  sp_told' hP D fun x h0 h' e D0 p g l => q x h' (e.trans (.pre p)) (D0.pre p) g (Nat.le_trans e.len l)
theorem sp_dig_length {P : Nat → Prop} (D : DigP P h r b m) (q : V (.int m.length) h) : (F_Digester_length [.ref r] h).wp V E := by
  obtain ⟨a, c, cs, X, wa, wc, C⟩ := D.ex
  unfold DigX at X
  refine w_mk ?_
  array_get_dec
  exact q
end
end Z

/-! D9: twins, digests -/
namespace Z
open PySem PySem.Spec PyProof.Rows L2
open L_curveseal_k36_digests_in_pieces
theorem ext_pre {h h' : Hm} {o : O} (x : Ext h.length (h ++ [o]) h') : h <+: h' := by
  rw [List.prefix_iff_eq_take]
  apply List.ext_getElem?
  intro i
  by_cases hi : i < h.length
  · rw [List.getElem?_take_of_lt hi, x.get i (by rw [List.length_append]; omega) (by omega), List.getElem?_append_left hi]
  · rw [List.getElem?_eq_none (by omega), List.getElem?_eq_none (by rw [List.length_take]; omega)]
section
variable {h h' : Hm} {V : W → Hm → Prop} {E : Exn → Hm → Prop} {b : Bool} {r : Nat} {m : List Int}
theorem ext_len {h h' : Hm} {o : O} (x : Ext h.length (h ++ [o]) h') : h.length < h'.length := by
  have := x.len
  rw [List.length_append] at this
  exact this
theorem ext_len' {e : Nat} {h h' : Hm} {o : O} (x : Ext e (h ++ [o]) h') : h.length < h'.length := by
  have := x.len
  rw [List.length_append] at this
  exact this
set_option maxHeartbeats 0 in
theorem sp_twin {P : Nat → Prop} (hP : ∀ x, h.length ≤ x → P x) (D : DigP P h r b m) (q : ∀ x h', h <+: h' → DigP P h' x b m → h.length ≤ x → V (.ref x) h') : (F_Digester_twin [.ref r] h).wp V E := by
  obtain ⟨a, c, cs, X, wa, wc, C, Pa, Pc, Pd⟩ := D.ex
  have Bm := D.by_
  have lim := D.lim
  have lr := lt_of_get' X
  unfold DigX at X
  refine w_mk ?_
  array_get_dec
  refine sp_dig_init (get_new (h := h)) fun h1 x1 D1 => ?_
  obtain ⟨a1, c1, cs1, X1, _, _, _⟩ := D1.ex
  have Xr := x1.at (get_old X) (by omega)
  have war := x1.lst (get_old wa) get_new
  have wcr := x1.lst (get_old wc) get_new
  have Cr : CstAt h1 b cs := C.elim (fun q => .inl (x1.lst (get_old q) get_new)) fun q => .inr (x1.lst (get_old q) get_new)
  unfold DigX at X1
  generalize he : h.length = e at *
  have ne : r ≠ e := by omega
  refine ⟨rfl, ?_⟩
  array_get_dec
  refine o_list (seqC_at war) ?_
  array_get_dec
  have y1 : Ext e h1 (h1 ++ [li (wof b m)]) := .pre ⟨_, rfl⟩
  have A2 := get_new (h := h1) (o := li (wof b m))
  have X2 := get_old (u := li (wof b m)) X1
  have wc2 := get_old (u := li (wof b m)) wcr
  have Xr2 := get_old (u := li (wof b m)) Xr
  have C2 := Cr.elim (fun q => Or.inl (get_old (u := li (wof b m)) q)) fun q => Or.inr (get_old (u := li (wof b m)) q)
  show ∃ h3, setF _ _ _ _ (h1 ++ [li (wof b m)]) = some h3 ∧ _
  have x2 := x1.trans y1
  have Pa2 : P h1.length := hP _ (by have := ext_len' x1; omega)
  generalize h1.length = a2 at *
  generalize h1 ++ [li (wof b m)] = h2 at *
  clear x1 D1 X1 wcr Xr Cr y1 war
  refine ⟨_, setF_at X2 rfl (Nat.le_of_ble_eq_true rfl), ?_⟩
  generalize eh : h2.set e _ = h3
  have X3 : h3[e]? = some (.ins 2 [("_kind", .str (kn b)), ("_words", .ref a2), ("_rest", .ref c1), ("_length", .int ([] : List Int).length), ("_constants", .ref cs1)]) := by rw [← eh]; exact get_set X2
  have y3 : Ext e h2 h3 := by rw [← eh]; exact .set
  have A3 := y3.lst A2 X2
  have wc3 := y3.lst wc2 X2
  have Xr3 := y3.at Xr2 ne
  have C3 := C2.elim (fun q => Or.inl (y3.lst q X2)) fun q => Or.inr (y3.lst q X2)
  have x3 := x2.trans y3
  clear eh X2 y3 A2 wc2 Xr2 C2 x2
  array_get_dec
  refine o_list (seqC_at wc3) ?_
  array_get_dec
  have y4 : Ext e h3 (h3 ++ [li (rest b m)]) := .pre ⟨_, rfl⟩
  have B4 := get_new (h := h3) (o := li (rest b m))
  have A4 := get_old (u := li (rest b m)) A3
  have X4 := get_old (u := li (rest b m)) X3
  have Xr4 := get_old (u := li (rest b m)) Xr3
  have C4 := C3.elim (fun q => Or.inl (get_old (u := li (rest b m)) q)) fun q => Or.inr (get_old (u := li (rest b m)) q)
  show ∃ h5, setF _ _ _ _ (h3 ++ [li (rest b m)]) = some h5 ∧ _
  have x4 := x3.trans y4
  have Pc2 : P h3.length := hP _ (by have := ext_len' x3; omega)
  generalize h3.length = c2 at *
  generalize h3 ++ [li (rest b m)] = h4 at *
  clear x3 X3 Xr3 C3 y4 A3 wc3
  refine ⟨_, setF_at X4 rfl (Nat.le_of_ble_eq_true rfl), ?_⟩
  generalize eh : h4.set e _ = h5
  have X5 : h5[e]? = some (.ins 2 [("_kind", .str (kn b)), ("_words", .ref a2), ("_rest", .ref c2), ("_length", .int ([] : List Int).length), ("_constants", .ref cs1)]) := by rw [← eh]; exact get_set X4
  have y5 : Ext e h4 h5 := by rw [← eh]; exact .set
  have A5 := y5.lst A4 X4
  have B5 := y5.lst B4 X4
  have Xr5 := y5.at Xr4 ne
  have C5 := C4.elim (fun q => Or.inl (y5.lst q X4)) fun q => Or.inr (y5.lst q X4)
  have x5 := x4.trans y5
  clear eh X4 y5 A4 B4 Xr4 C4 x4
  array_get_dec
  refine ⟨_, setF_at X5 rfl (Nat.le_of_ble_eq_true rfl), ?_⟩
  generalize eh : h5.set e _ = h6
  have X6 : h6[e]? = some (.ins 2 [("_kind", .str (kn b)), ("_words", .ref a2), ("_rest", .ref c2), ("_length", .int m.length), ("_constants", .ref cs1)]) := by rw [← eh]; exact get_set X5
  have y6 : Ext e h5 h6 := by rw [← eh]; exact .set
  have A6 := y6.lst A5 X5
  have B6 := y6.lst B5 X5
  have Xr6 := y6.at Xr5 ne
  have C6 := C5.elim (fun q => Or.inl (y6.lst q X5)) fun q => Or.inr (y6.lst q X5)
  have x6 := x5.trans y6
  clear eh X5 y6 A5 B5 Xr5 C5 x5
  array_get_dec
  refine ⟨_, setF_at X6 rfl (Nat.le_of_ble_eq_true rfl), ?_⟩
  generalize eh : h6.set e _ = h7
  have X7 : h7[e]? = some (.ins 2 [("_kind", .str (kn b)), ("_words", .ref a2), ("_rest", .ref c2), ("_length", .int m.length), ("_constants", .ref cs)]) := by rw [← eh]; exact get_set X6
  have y7 : Ext e h6 h7 := by rw [← eh]; exact .set
  have A7 := y7.lst A6 X6
  have B7 := y7.lst B6 X6
  have C7 : CstAt h7 b cs := C6.elim (fun q => Or.inl (y7.lst q X6)) fun q => Or.inr (y7.lst q X6)
  have x7 := x6.trans y7
  array_get_dec
  refine q _ _ ?_ ⟨⟨a2, c2, cs, X7, A7, B7, C7, Pa2, Pc2, Pd⟩, Bm, lim⟩ (by omega)
  subst he
  exact ext_pre x7
set_option maxHeartbeats 0 in
theorem sp_digest {x : Nat} {d : List Int} (e : h[x]? = some (li d)) (hd : By d) (hl : d.length ≤ 1048576) (q : ∀ y h', h <+: h' → h'[y]? = some (li (dg b d)) → h.length ≤ y → V (.ref y) h') : (F_digest [.str (kn b), .ref x] h).wp V E := by
  refine w_mk ?_
  array_get_dec
  refine sp_dig_init (get_new (h := h)) fun h1 x1 D1 => ?_
  refine ⟨rfl, ?_⟩
  have e1 := x1.lst (get_old e) get_new
  obtain ⟨fs, X1⟩ := D1.ins
  obtain ⟨a1, c1, d1, Y1, _⟩ := D1.ex
  unfold DigX at Y1
  array_get_dec
  refine sp_add (P := fun _ => True) (fun _ _ => trivial) (D1.imp fun _ _ _ => trivial) e1 hd (by rw [List.length_nil]; omega) fun h2 x2 D2 => ?_
  obtain ⟨a2, c2, d2, Y2, _⟩ := D2.ex
  unfold DigX at Y2
  array_get_dec
  refine sp_told (fun _ _ => trivial) D2 fun y h3 x3 D3 g3 l3 => ?_
  have p := ext_pre ((x1.trans x2).trans x3)
  have la := ext_len x1
  have lb := x2.len
  array_get_dec
  exact q _ _ p g3 (by omega)
set_option maxHeartbeats 0 in
theorem sp_digest_parts {x : Nat} {rs : List Nat} {ls : List (List Int)} (e : h[x]? = some (.lst (rs.map W.ref))) (L : LL h rs ls) (hd : ∀ l ∈ ls, By l) (hn : ls.length ≤ 1000) (hl : ls.flatten.length ≤ 1048576) (q : ∀ y h', h <+: h' → h'[y]? = some (li (dg b ls.flatten)) → h.length ≤ y → V (.ref y) h') : (F_digest_parts [.str (kn b), .ref x] h).wp V E := by
  refine w_mk ?_
  array_get_dec
  refine sp_dig_init (get_new (h := h)) fun h1 x1 D1 => ?_
  refine ⟨rfl, ?_⟩
  have ll := L.len
  array_get_dec
  refine .inl ⟨_, seqC_at (x1.lst (get_old e) get_new), ?_⟩
  refine w_items (xs := rs.map W.ref) (fun i σ h2 => Ext h.length (h ++ [.ins 2 []]) h2 ∧ DigAt h2 h.length b (ls.take i).flatten ∧ ∃ u, σ = [some (.str (kn b)), some (.ref x), some (.ref h.length), u]) (lt_fuel' (by rw [List.length_map]; omega)) ⟨x1, D1.imp fun _ _ _ => trivial, none, rfl⟩ (fun i σ h2 ⟨x2, _⟩ => seqC_at (x2.lst (get_old e) get_new)) ?_ ?_
  · rintro i σ h2 w' hw ⟨x2, D2, u, rfl⟩
    rw [List.getElem?_map] at hw
    obtain ⟨y, hy, rfl⟩ := Option.map_eq_some_iff.mp hw
    have hi : i < ls.length := by have := (List.getElem?_eq_some_iff.mp hy).1; omega
    have el : ls[i]? = some ls[i] := List.getElem?_eq_getElem hi
    have hm : ls[i] ∈ ls := List.getElem_mem hi
    generalize ls[i] = l at *
    obtain ⟨y', ey, g⟩ := L.get el
    rw [hy] at ey
    cases ey
    have fl : (ls.take (i + 1)).flatten = (ls.take i).flatten ++ l := by
      rw [List.take_add_one, el, List.flatten_append]
      simp
    have le : (ls.take (i + 1)).flatten.length ≤ ls.flatten.length := by
      have := congrArg (fun l => l.flatten.length) (List.take_append_drop (i + 1) ls)
      simp only [List.flatten_append, List.length_append] at this
      omega
    obtain ⟨a2, c2, d2, Y2, _⟩ := D2.ex
    unfold DigX at Y2
    refine ⟨_, rfl, ?_⟩
    array_get_dec
    refine sp_add (fun _ _ => trivial) D2 (x2.lst (get_old g) get_new) (hd l hm) (by rw [fl, List.length_append] at le; omega) fun h3 x3 D3 => ?_
    refine ⟨x2.trans x3, ?_, _, rfl⟩
    rw [fl]
    exact D3
  · rintro σ h2 ⟨x2, D2, u, rfl⟩
    rw [List.length_map, ll, List.take_length] at D2
    obtain ⟨a2, c2, d2, Y2, _⟩ := D2.ex
    unfold DigX at Y2
    array_get_dec
    refine sp_told (fun _ _ => trivial) D2 fun y h3 x3 D3 g3 l3 => ?_
    have la := ext_len x2
    array_get_dec
    exact q _ _ (ext_pre (x2.trans x3)) g3 (by omega)
end
end Z

/-! P36a: the law's own helpers -/
namespace Z
open PySem PySem.Spec PyProof.Rows L2
open L_curveseal_k36_digests_in_pieces
section
variable {h h' : Hm} {V : W → Hm → Prop} {E : Exn → Hm → Prop} {b : Bool} {r : Nat} {m : List Int} {ns : List Int}
theorem sp_cell {k : Nat} (e : h[0]? = some (.frz (ns.map W.int))) (q : V (.int (ns.getD k 0)) h) : (F__law_cell [.ref 0, .int k] h).wp V E := by
  refine w_mk ?_
  obtain ⟨z, ez⟩ : ∃ z : Int, z = (k : Int) := ⟨_, rfl⟩
  rw [← ez]
  array_get_dec
  refine o_len (seqC_frz e) ?_
  rw [List.length_map]
  array_get_dec
  refine d_dec (fun hp => ?_) fun hp => ?_
  · array_get_dec
    have hk : k < ns.length := by omega
    refine o_ix (w := .int (ns.getD k 0)) (seqC_frz e) ?_ ?_
    · unfold atI
      rw [ixN_ok (by omega) (by rw [List.length_map]; omega)]
      show (ns.map W.int)[z.toNat]? = _
      rw [show z.toNat = k by omega, List.getElem?_map, List.getElem?_eq_getElem hk, List.getD_eq_getElem?_getD, List.getElem?_eq_getElem hk]
      rfl
    array_get_dec
    exact q
  · array_get_dec
    rw [List.getD_eq_getElem?_getD, List.getElem?_eq_none (by omega)] at q
    exact q
theorem sp_is_integer {i : Int} (q : V (.bl true) h) : (F__law_is_integer [.int i] h).wp V E := by
  refine w_mk ?_
  array_get_dec
  refine ⟨true, rfl, true, rfl, fun _ => ?_, nofun⟩
  array_get_dec
  refine ⟨false, rfl, ?_⟩
  exact ⟨false, rfl, q⟩
theorem sp_row {c : Int} {k : Nat} (hk : k ≤ 1000) (q : ∀ l r h', h <+: h' → h'[r]? = some (li l) → By l → l.length = k → h.length ≤ r → V (.ref r) h') : (F__law_row [.int c, .int k] h).wp V E := by
  refine w_mk ?_
  obtain ⟨z, ez⟩ : ∃ z : Int, z = (k : Int) := ⟨_, rfl⟩
  have z0 : 0 ≤ z := by omega
  have zt : z.toNat = k := by omega
  rw [← ez]
  refine w_seqM (fun σ h1 => h1 = h ++ [O.lst []] ∧ σ = [some (.int c), some (.int z), some (.ref h.length), none, none, none]) ?_ ?_
  · array_get_dec
    exact ⟨rfl, rfl⟩
  rintro σ h1 ⟨rfl, rfl⟩
  refine w_seqM (fun σ h1 => h1 = h ++ [O.lst []] ∧ ∃ x : Int, 0 ≤ x ∧ σ = [some (.int c), some (.int z), some (.ref h.length), some (.int x), none, none]) ?_ ?_
  · array_get_dec
    exact ⟨rfl, _, by split <;> omega, rfl⟩
  rintro σ h1 ⟨rfl, x, x0, rfl⟩
  refine w_seqM (fun σ h1 => h1 = h ++ [O.lst []] ∧ σ = [some (.int c), some (.int z), some (.ref h.length), some (.int x), none, none]) ?_ ?_
  · array_get_dec
    refine o_powI (by decide) ?_
    array_get_dec
    refine d_dec (fun hp => ?_) fun hp => ?_
    · refine w_seqM (fun σ h1 => h <+: h1 ∧ σ[2]? = some (some (.ref h.length)) ∧ ∃ l, By l ∧ l.length = k ∧ h1[h.length]? = some (li l)) ?_ ?_
      · array_get_dec
        refine ⟨_, rfl, by unfold smallI; exact decide_eq_true (by omega), ?_⟩
        rw [zt]
        refine w_rng0 (fun i σ h1 => h <+: h1 ∧ ∃ l y u, By l ∧ l.length = i ∧ h1[h.length]? = some (li l) ∧ σ = [some (.int c), some (.int z), some (.ref h.length), some (.int y), u, none]) (lt_fuel' (by omega)) ⟨⟨_, rfl⟩, [], x, none, nofun, rfl, get_new, rfl⟩ ?_ ?_
        · rintro i σ h1 hi ⟨p1, l, y, u, lb, ll, e1, rfl⟩
          refine ⟨_, rfl, ?_⟩
          array_get_dec
          refine ⟨isL_at' e1, ?_⟩
          array_get_dec
          refine o_app e1 (by rw [List.length_map]; omega) ?_
          array_get_dec
          refine o_shrI (by decide) ?_
          refine ⟨pre_set p1 (Nat.le_refl _), l ++ [Builtin.bitAnd y 255], _, _, By.app lb (fun x hx => by rw [List.mem_singleton.mp hx]; exact bitAnd_range (by decide)), by simp [ll], ?_, rfl⟩
          rw [get_set e1]
          unfold li
          rw [List.map_append]
          rfl
        · rintro σ h1 ⟨p1, l, y, u, lb, ll, e1, rfl⟩
          exact ⟨p1, rfl, l, lb, ll, e1⟩
      · rintro σ h1 ⟨p1, e2, l, lb, ll, e1⟩
        refine w_ret ?_
        refine w_var e2 ?_
        exact q l _ _ p1 e1 lb ll (Nat.le_refl _)
    · array_get_dec
      exact ⟨rfl, rfl⟩
  rintro σ h1 ⟨rfl, rfl⟩
  array_get_dec
  refine o_modI (by decide) ?_
  array_get_dec
  have s0 : 0 ≤ x % 2147483629 + 1 ∧ x % 2147483629 + 1 ≤ 2147483647 := by omega
  generalize x % 2147483629 + 1 = s at *
  refine ⟨_, rfl, by unfold smallI; exact decide_eq_true (by omega), ?_⟩
  rw [zt]
  refine w_rng0 (fun i σ h1 => h <+: h1 ∧ ∃ l y u, By l ∧ l.length = i ∧ h1[h.length]? = some (li l) ∧ 0 ≤ y ∧ y ≤ 2147483647 ∧ σ = [some (.int c), some (.int z), some (.ref h.length), some (.int x), u, some (.int y)]) (lt_fuel' (by omega)) ⟨⟨_, rfl⟩, [], s, none, nofun, rfl, get_new, s0.1, s0.2, rfl⟩ ?_ ?_
  · rintro i σ h1 hi ⟨p1, l, y, u, lb, ll, e1, y0, y1, rfl⟩
    refine ⟨_, rfl, ?_⟩
    array_get_dec
    refine o_mulSR (by decide) ?_
    array_get_dec
    refine o_modI (by decide) ?_
    have t0 : 0 ≤ y * 48271 % 2147483647 ∧ y * 48271 % 2147483647 ≤ 2147483647 := by omega
    generalize y * 48271 % 2147483647 = t at *
    array_get_dec
    refine ⟨isL_at' e1, ?_⟩
    array_get_dec
    refine o_fdivI (by decide) ?_
    array_get_dec
    refine o_app e1 (by rw [List.length_map]; omega) ?_
    array_get_dec
    refine ⟨pre_set p1 (Nat.le_refl _), l ++ [Builtin.bitAnd (t / 7 + t) 255], t, _, By.app lb (fun x hx => by rw [List.mem_singleton.mp hx]; exact bitAnd_range (by decide)), by simp [ll], ?_, t0.1, t0.2, rfl⟩
    rw [get_set e1]
    unfold li
    rw [List.map_append]
    rfl
  · rintro σ h1 ⟨p1, l, y, u, lb, ll, e1, y0, y1, rfl⟩
    array_get_dec
    exact q l _ _ p1 e1 lb ll (Nat.le_refl _)
theorem cut_any {l : List Int} {i j : Int} (h0 : 0 ≤ i) (h1 : i ≤ j) : cutW (l.map W.int) (some i) (some j) = ((l.drop i.toNat).take (j.toNat - i.toNat)).map W.int := by
  unfold cutW
  have e1 : HT.sIx (l.map W.int).length 0 (some i) = min i.toNat l.length := by
    show (if i < 0 then _ else min i.toNat _) = _
    rw [if_neg (by omega), List.length_map]
  have e2 : HT.sIx (l.map W.int).length (l.map W.int).length (some j) = min j.toNat l.length := by
    show (if j < 0 then _ else min j.toNat _) = _
    rw [if_neg (by omega), List.length_map]
  rw [e1, e2, ← List.map_drop, ← List.map_take]
  congr 1
  by_cases hi : i.toNat ≤ l.length
  · rw [Nat.min_eq_left hi]
    by_cases hj : j.toNat ≤ l.length
    · rw [Nat.min_eq_left hj]
    · rw [Nat.min_eq_right (by omega), List.take_of_length_le (by rw [List.length_drop]; omega), List.take_of_length_le (by rw [List.length_drop]; omega)]
  · rw [Nat.min_eq_right (by omega : l.length ≤ i.toNat), List.drop_eq_nil_of_le (Nat.le_refl _), List.drop_eq_nil_of_le (by omega : l.length ≤ i.toNat)]
    simp
theorem o_slA {r : Nat} {l : List Int} {i j : Int} (e : h[r]? = some (li l)) (h0 : 0 ≤ i) (h1 : i ≤ j) (q : V (.ref h.length) (h ++ [li ((l.drop i.toNat).take (j.toNat - i.toNat))])) : (ofO (slW (.ref r) (some i) (some j) h)).wp V E := by
  unfold slW
  simp only [e, cut_any h0 h1]
  exact q
theorem o_slNA {r : Nat} {l : List Int} {i : Int} (e : h[r]? = some (li l)) (h0 : 0 ≤ i) (q : V (.ref h.length) (h ++ [li (l.drop i.toNat)])) : (ofO (slW (.ref r) (some i) none h)).wp V E := by
  by_cases h1 : i ≤ l.length
  · exact o_slN e h0 h1 q
  · unfold slW
    have : cutW (l.map W.int) (some i) none = (l.drop i.toNat).map W.int := by
      unfold cutW
      have e1 : HT.sIx (l.map W.int).length 0 (some i) = min i.toNat l.length := by
        show (if i < 0 then _ else min i.toNat _) = _
        rw [if_neg (by omega), List.length_map]
      rw [e1, Nat.min_eq_right (by omega), List.drop_eq_nil_of_le (by rw [List.length_map]; exact Nat.le_refl _), List.drop_eq_nil_of_le (by omega)]
      simp
    simp only [e, this]
    exact q
end
end Z

/-! P36b: pieces, told twice, no such kind, the hashers -/
namespace Z
open PySem PySem.Spec PyProof.Rows L2
open L_curveseal_k36_digests_in_pieces
section
variable {h h' : Hm} {V : W → Hm → Prop} {E : Exn → Hm → Prop} {b : Bool} {r : Nat} {m : List Int} {ns : List Int}
theorem LL.keep {h h' : Hm} : ∀ {rs : List Nat} {ls : List (List Int)}, (∀ y ∈ rs, ∀ xs, h[y]? = some (.lst xs) → h'[y]? = some (.lst xs)) → LL h rs ls → LL h' rs ls
  | [], [], _, _ => trivial
  | y :: rs, l :: ls, k, a => ⟨k y List.mem_cons_self _ a.1, LL.keep (fun z hz => k z (List.mem_cons_of_mem _ hz)) a.2⟩
  | [], _ :: _, _, a => a.elim
  | _ :: _, [], _, a => a.elim
theorem take_app {l : List Int} {i j : Nat} : l.take i ++ (l.drop i).take j = l.take (i + j) := by
  rw [List.take_add]
theorem sp_pieces {x : Nat} (e : h[0]? = some (.frz (ns.map W.int))) (ex : h[x]? = some (li m)) (q : ∀ r rs ls h', h <+: h' → h'[r]? = some (.lst (rs.map W.ref)) → LL h' rs ls → ls.flatten = m → 0 < ls.length → ls.length ≤ 15 → V (.ref r) h') : (F__law_pieces [.ref 0, .ref x] h).wp V E := by
  refine w_mk ?_
  have hx := lt_of_get' ex
  refine w_seqM (fun σ h1 => h1 = h ++ [O.lst []] ∧ σ = [some (.ref 0), some (.ref x), some (.ref h.length), none, none, none]) ?_ ?_
  · array_get_dec
    exact ⟨rfl, rfl⟩
  rintro σ h1 ⟨rfl, rfl⟩
  refine w_seqM (fun σ h1 => h1 = h ++ [O.lst []] ∧ σ = [some (.ref 0), some (.ref x), some (.ref h.length), some (.int 0), none, none]) ?_ ?_
  · array_get_dec
    exact ⟨rfl, rfl⟩
  rintro σ h1 ⟨rfl, rfl⟩
  have P0 : h <+: h ++ [O.lst []] := ⟨_, rfl⟩
  refine w_seqM (fun σ h1 => h <+: h1 ∧ ∃ rs ls at_ u v, h1[h.length]? = some (.lst (rs.map W.ref)) ∧ LL h1 rs ls ∧ (∀ y ∈ rs, h.length < y) ∧ (0 : Int) ≤ at_ ∧ ls.flatten = m.take at_.toNat ∧ ls.length ≤ 14 ∧ σ = [some (.ref 0), some (.ref x), some (.ref h.length), some (.int at_), u, v]) ?_ ?_
  · array_get_dec
    refine o_len (seqC_frz (pre_get P0 e)) ?_
    rw [List.length_map]
    array_get_dec
    have mn : ∃ j : Int, (if (ns.length : Int) < 17 then (ns.length : Int) else 17) = j ∧ 0 ≤ j ∧ j ≤ 17 ∧ j ≤ ns.length := by
      by_cases hq : (ns.length : Int) < 17
      · exact ⟨_, if_pos hq, by omega, by omega, by omega⟩
      · exact ⟨_, if_neg hq, by omega, by omega, by omega⟩
    obtain ⟨j, ej, j0, j1, j2⟩ := mn
    rw [ej]
    refine ⟨_, _, rfl, by decide, by unfold smallI; exact decide_eq_true (by omega), ?_⟩
    refine w_rng (fun i σ h1 => h <+: h1 ∧ ∃ rs ls at_ u v, h1[h.length]? = some (.lst (rs.map W.ref)) ∧ LL h1 rs ls ∧ (∀ y ∈ rs, h.length < y) ∧ (0 : Int) ≤ at_ ∧ ls.flatten = m.take at_.toNat ∧ ls.length = i ∧ σ = [some (.ref 0), some (.ref x), some (.ref h.length), some (.int at_), u, v]) (lt_fuel' (by omega)) ⟨P0, [], [], 0, none, none, get_new, trivial, nofun, Int.le_refl _, rfl, rfl, rfl⟩ ?_ ?_
    · rintro i σ h1 hi ⟨p1, rs, ls, at_, u, v, e1, L1, D1, a0, fl, li1, rfl⟩
      obtain ⟨z, ez⟩ : ∃ z : Int, z = 3 + (i : Int) := ⟨_, rfl⟩
      rw [← ez]
      refine ⟨_, rfl, ?_⟩
      array_get_dec
      have hz : z.toNat < ns.length := by omega
      refine o_ix (w := .int (ns.getD z.toNat 0)) (seqC_frz (pre_get p1 e)) ?_ ?_
      · unfold atI
        rw [ixN_ok (by omega) (by rw [List.length_map]; omega)]
        show (ns.map W.int)[z.toNat]? = _
        rw [List.getElem?_map, List.getElem?_eq_getElem hz, List.getD_eq_getElem?_getD, List.getElem?_eq_getElem hz]
        rfl
      generalize ns.getD z.toNat 0 = c
      array_get_dec
      refine o_modI (by decide) ?_
      have s0 : 0 ≤ (if c < 0 then -c else c) % 61 := Int.emod_nonneg _ (by decide)
      generalize (if c < 0 then -c else c) % 61 = s at *
      array_get_dec
      refine ⟨isL_at' e1, ?_⟩
      array_get_dec
      have exx := pre_get p1 ex
      refine o_slA exx a0 (by omega) ?_
      array_get_dec
      have ll := L1.len
      refine o_app (get_old e1) (by rw [List.length_map]; omega) ?_
      array_get_dec
      have lt1 := lt_of_get' e1
      have st : (at_ + s).toNat - at_.toNat = s.toNat := by omega
      rw [st]
      have keep : ∀ (i : Nat) (o : O), i ≠ h.length → h1[i]? = some o → ((h1 ++ [li ((m.drop at_.toNat).take s.toNat)]).set h.length (.lst (rs.map W.ref ++ [W.ref h1.length])))[i]? = some o := fun i o ne e => by
        rw [List.getElem?_set_ne (Ne.symm ne)]
        exact get_old e
      refine ⟨pre_set (pre_new p1) (Nat.le_refl _), rs ++ [h1.length], ls ++ [(m.drop at_.toNat).take s.toNat], at_ + s, _, _, ?_, ?_, ?_, by omega, ?_, by rw [List.length_append, li1]; rfl, rfl⟩
      · rw [get_set (get_old e1), List.map_append]
        rfl
      · refine LL.app ?_ ?_
        · rw [List.getElem?_set_ne (by omega)]
          exact get_new
        · exact LL.keep (fun y hy xs e => keep y _ (by have := D1 y hy; omega) e) L1
      · intro y hy
        rcases List.mem_append.mp hy with hy | hy
        · exact D1 y hy
        · rw [List.mem_singleton.mp hy]
          exact lt1
      · rw [List.flatten_append, fl, show (at_ + s).toNat = at_.toNat + s.toNat by omega, ← take_app]
        simp
    · rintro σ h1 ⟨p1, rs, ls, at_, u, v, e1, L1, D1, a0, fl, li1, rfl⟩
      exact ⟨p1, rs, ls, at_, u, v, e1, L1, D1, a0, fl, by omega, rfl⟩
  rintro σ h1 ⟨p1, rs, ls, at_, u, v, e1, L1, D1, a0, fl, li1, rfl⟩
  have exx := pre_get p1 ex
  have ll := L1.len
  have lt1 := lt_of_get' e1
  array_get_dec
  refine ⟨isL_at' e1, ?_⟩
  array_get_dec
  refine o_slNA exx a0 ?_
  array_get_dec
  refine o_app (get_old e1) (by rw [List.length_map]; omega) ?_
  array_get_dec
  refine q _ (rs ++ [h1.length]) (ls ++ [m.drop at_.toNat]) _ (pre_set (pre_new p1) (Nat.le_refl _)) ?_ ?_ ?_ (by rw [List.length_append]; show 0 < _ + 1; omega) (by rw [List.length_append]; show _ + 1 ≤ 15; omega)
  · rw [get_set (get_old e1), List.map_append]
    rfl
  · refine LL.app ?_ (LL.keep (fun y hy xs e => ?_) L1)
    · rw [List.getElem?_set_ne (by omega)]
      exact get_new
    · rw [List.getElem?_set_ne (by have := D1 y hy; omega)]
      exact get_old e
  · rw [List.flatten_append, fl]
    simp
theorem sp_law_told {P : Nat → Prop} {x : Nat} (hP : ∀ x, h.length ≤ x → P x) (D : DigP P h r b m) (e : h[x]? = some (li m)) (q : ∀ h', Ext r h h' → DigP P h' r b m → V (.bl true) h') : (F__law_told [.ref r, .str (kn b), .ref x] h).wp V E := by
  have Bm := D.by_
  have lim := D.lim
  refine w_mk ?_
  refine w_seqM (fun σ h1 => Ext r h h1 ∧ DigP P h1 r b m ∧ ∃ u v, σ = [some (.ref r), some (.str (kn b)), some (.ref x), u, v]) ?_ ?_
  · array_get_dec
    refine ⟨_, rfl, by decide, ?_⟩
    refine w_rng0 (fun i σ h1 => Ext r h h1 ∧ DigP P h1 r b m ∧ ∃ u v, σ = [some (.ref r), some (.str (kn b)), some (.ref x), u, v]) (lt_fuel' (by decide)) ⟨.refl, D, none, none, rfl⟩ ?_ ?_
    · rintro i σ h1 hi ⟨x1, D1, u, v, rfl⟩
      obtain ⟨a1, c1, d1, Y1, _⟩ := D1.ex
      obtain ⟨a0, c0, d0, Y0, _⟩ := D.ex
      unfold DigX at Y1 Y0
      have e1 := x1.lst e Y0
      refine ⟨_, rfl, ?_⟩
      generalize (i : Int) = iz at *
      array_get_dec
      refine sp_told' (fun z hz => hP z (Nat.le_trans x1.len hz)) D1 fun y h0 h2 x2 D2 p2 g2 l2 => ?_
      have e2 := pre_get p2 (x2.lst e1 Y1)
      array_get_dec
      refine ⟨true, ?_, ?_⟩
      · unfold isiC tyC
        simp only [g2]
        rfl
      array_get_dec
      refine o_list (seqC_at e2) ?_
      array_get_dec
      refine sp_digest get_new Bm lim fun w h3 p3 g3 l3 => ?_
      have p23 : h2 <+: h3 := List.IsPrefix.trans ⟨_, rfl⟩ p3
      array_get_dec
      have g23 := pre_get p23 g2
      refine o_ne (eqB_li g23 g3) ?_
      array_get_dec
      refine d_decT rfl ?_
      array_get_dec
      refine ⟨isL_at' g23, ?_⟩
      array_get_dec
      refine o_app g23 (by rw [List.length_map, dg_len]; cases b <;> decide) ?_
      array_get_dec
      have p4 : h0 <+: h3.set y (.lst ((dg b m).map W.int ++ [.int 3])) := pre_set (p2.trans p23) l2
      exact ⟨(x1.trans x2).trans (.pre p4), D2.pre p4, _, _, rfl⟩
    · rintro σ h1 ⟨x1, D1, u, v, rfl⟩
      exact ⟨x1, D1, u, v, rfl⟩
  rintro σ h1 ⟨x1, D1, u, v, rfl⟩
  obtain ⟨a0, c0, d0, Y0, _⟩ := D.ex
  obtain ⟨a1, c1, d1, Y1, _⟩ := D1.ex
  unfold DigX at Y0 Y1
  have e1 := x1.lst e Y0
  array_get_dec
  refine sp_dig_length D1 ?_
  array_get_dec
  refine o_len (seqC_at e1) ?_
  rw [List.length_map]
  array_get_dec
  refine d_decT rfl ?_
  array_get_dec
  refine sp_dig_length D1 ?_
  array_get_dec
  refine sp_is_integer ?_
  exact q _ x1 D1
end
end Z

/-! P36c: no such kind, the hashers -/
namespace Z
open PySem PySem.Spec PyProof.Rows L2
open L_curveseal_k36_digests_in_pieces
section
variable {h h' : Hm} {V : W → Hm → Prop} {E : Exn → Hm → Prop} {b : Bool} {r : Nat} {m : List Int} {ns : List Int}
theorem sp_no_kind {k : Str} (hk : kIn d_SIZES (.str k) = some false) (q : ∀ h', h <+: h' → V (.bl true) h') : (F__law_no_kind [.str k] h).wp V E := by
  refine w_mk ?_
  refine w_seq ?_
  refine w_tryAs ?_
  array_get_dec
  refine sp_dig_init_bad hk (get_new (h := h)) fun h1 x1 => ?_
  refine .inr ⟨rfl, rfl, Nat.le_of_ble_eq_true rfl, ?_⟩
  show (sRet (xK (.bl true)) _ h1).wp _ _ _ _ _
  array_get_dec
  exact q _ (ext_pre x1)
theorem sp_digest_size (q : V (.int (dsz b)) h) : (F_digest_size [.str (kn b)] h).wp V E := by
  refine w_mk ?_
  sizeOf_list_dec
  refine sp_check_kind ?_
  sizeOf_list_dec
  refine ⟨_, kget_sizes b, ?_⟩
  sizeOf_list_dec
  exact q
def hc (b : Bool) : Nat := if b then 4 else 3
def HsAt (h : Hm) (r : Nat) (b : Bool) : Prop := h[r]? = some (.ins (hc b) [("name", .str (kn b)), ("size", .int (dsz b)), ("block_size", .int (bsz b))])
theorem sp_sha256_init (e : h[r]? = some (.ins 3 [])) (q : ∀ h', Ext r h h' → HsAt h' r false → V .non h') : (F_Sha256___init__ [.ref r] h).wp V E := by
  refine w_mk ?_
  array_get_dec
  refine ⟨_, setF_at e rfl (Nat.le_of_ble_eq_true rfl), ?_⟩
  have e1 := get_set (o := .ins 3 (putW "name" (.str "sha256") [])) e
  have x1 : Ext r h (h.set r (.ins 3 (putW "name" (.str "sha256") []))) := .set
  generalize h.set r (.ins 3 (putW "name" (.str "sha256") [])) = h1 at *
  array_get_dec
  refine sp_digest_size (b := false) ?_
  array_get_dec
  refine ⟨_, setF_at e1 rfl (Nat.le_of_ble_eq_true rfl), ?_⟩
  have e2 := get_set (o := .ins 3 (putW "size" (.int (dsz false)) (putW "name" (.str "sha256") []))) e1
  have x2 : Ext r h (h1.set r (.ins 3 (putW "size" (.int (dsz false)) (putW "name" (.str "sha256") [])))) := x1.trans .set
  generalize h1.set r (.ins 3 (putW "size" (.int (dsz false)) (putW "name" (.str "sha256") []))) = h2 at *
  array_get_dec
  refine sp_block_size (b := false) ?_
  array_get_dec
  refine ⟨_, setF_at e2 rfl (Nat.le_of_ble_eq_true rfl), ?_⟩
  exact q _ (x2.trans .set) (get_set e2)
theorem sp_sha512_init (e : h[r]? = some (.ins 4 [])) (q : ∀ h', Ext r h h' → HsAt h' r true → V .non h') : (F_Sha512___init__ [.ref r] h).wp V E := by
  refine w_mk ?_
  array_get_dec
  refine ⟨_, setF_at e rfl (Nat.le_of_ble_eq_true rfl), ?_⟩
  have e1 := get_set (o := .ins 4 (putW "name" (.str "sha512") [])) e
  have x1 : Ext r h (h.set r (.ins 4 (putW "name" (.str "sha512") []))) := .set
  generalize h.set r (.ins 4 (putW "name" (.str "sha512") [])) = h1 at *
  array_get_dec
  refine sp_digest_size (b := true) ?_
  array_get_dec
  refine ⟨_, setF_at e1 rfl (Nat.le_of_ble_eq_true rfl), ?_⟩
  have e2 := get_set (o := .ins 4 (putW "size" (.int (dsz true)) (putW "name" (.str "sha512") []))) e1
  have x2 : Ext r h (h1.set r (.ins 4 (putW "size" (.int (dsz true)) (putW "name" (.str "sha512") [])))) := x1.trans .set
  generalize h1.set r (.ins 4 (putW "size" (.int (dsz true)) (putW "name" (.str "sha512") []))) = h2 at *
  array_get_dec
  refine sp_block_size (b := true) ?_
  array_get_dec
  refine ⟨_, setF_at e2 rfl (Nat.le_of_ble_eq_true rfl), ?_⟩
  exact q _ (x2.trans .set) (get_set e2)
def F_pieces (b : Bool) : FnT := if b then F_Sha512_pieces else F_Sha256_pieces
def F_hdigest (b : Bool) : FnT := if b then F_Sha512_digest else F_Sha256_digest
def F_hparts (b : Bool) : FnT := if b then F_Sha512_digest_parts else F_Sha256_digest_parts
theorem sp_h_pieces (q : ∀ h', Ext h.length (h ++ [.ins 2 []]) h' → DigP (h.length ≤ ·) h' h.length b [] → V (.ref h.length) h') : (F_pieces b [.ref r] h).wp V E := by
  cases b with
  | false =>
    refine w_mk ?_
    array_get_dec
    refine sp_dig_init (b := false) (get_new (h := h)) fun h1 x1 D1 => ?_
    refine ⟨rfl, ?_⟩
    exact q _ x1 (D1.imp fun x _ hx => by rw [List.length_append] at hx; exact Nat.le_trans (Nat.le_add_right _ _) hx)
  | true =>
    refine w_mk ?_
    array_get_dec
    refine sp_dig_init (b := true) (get_new (h := h)) fun h1 x1 D1 => ?_
    refine ⟨rfl, ?_⟩
    exact q _ x1 (D1.imp fun x _ hx => by rw [List.length_append] at hx; exact Nat.le_trans (Nat.le_add_right _ _) hx)
theorem sp_h_digest {x : Nat} {d : List Int} (e : h[x]? = some (li d)) (hd : By d) (hl : d.length ≤ 1048576) (q : ∀ y h', h <+: h' → h'[y]? = some (li (dg b d)) → h.length ≤ y → V (.ref y) h') : (F_hdigest b [.ref r, .ref x] h).wp V E := by
  cases b with
  | false =>
    refine w_mk ?_
    array_get_dec
    refine sp_digest (b := false) e hd hl fun y h1 p g l => ?_
    array_get_dec
    exact q _ _ p g l
  | true =>
    refine w_mk ?_
    array_get_dec
    refine sp_digest (b := true) e hd hl fun y h1 p g l => ?_
    array_get_dec
    exact q _ _ p g l
theorem sp_h_parts {x : Nat} {rs : List Nat} {ls : List (List Int)} (e : h[x]? = some (.lst (rs.map W.ref))) (L : LL h rs ls) (hd : ∀ l ∈ ls, By l) (hn : ls.length ≤ 1000) (hl : ls.flatten.length ≤ 1048576) (q : ∀ y h', h <+: h' → h'[y]? = some (li (dg b ls.flatten)) → h.length ≤ y → V (.ref y) h') : (F_hparts b [.ref r, .ref x] h).wp V E := by
  cases b with
  | false =>
    refine w_mk ?_
    array_get_dec
    refine sp_digest_parts (b := false) e L hd hn hl fun y h1 p g l => ?_
    array_get_dec
    exact q _ _ p g l
  | true =>
    refine w_mk ?_
    array_get_dec
    refine sp_digest_parts (b := true) e L hd hn hl fun y h1 p g l => ?_
    array_get_dec
    exact q _ _ p g l
end
end Z

/-! P36d: the law's turns -/
namespace Z
open PySem PySem.Spec PyProof.Rows L2
open L_curveseal_k36_digests_in_pieces
structure St (h : Hm) (ns : List Int) (b : Bool) (rh rm rp : Nat) (m : List Int) (rs : List Nat) (ls : List (List Int)) : Prop where
  s0 : h[0]? = some (.frz (ns.map W.int))
  hs : HsAt h rh b
  ms : h[rm]? = some (li m)
  pc : h[rp]? = some (.lst (rs.map W.ref))
  ll : LL h rs ls
section
variable {h h' : Hm} {V : W → Hm → Prop} {E : Exn → Hm → Prop} {b : Bool} {r : Nat} {m : List Int} {ns : List Int} {rh rm rp : Nat} {rs : List Nat} {ls : List (List Int)}
theorem Ext.setN {g : Nat} {o : O} (x : Ext r h h') (hg : h.length ≤ g) : Ext r h (h'.set g o) := ⟨by rw [List.length_set]; exact x.len, fun i hi ne => by rw [List.getElem?_set_ne (by omega)]; exact x.get i hi ne⟩
theorem St.ext {fs : List (Str × W)} (x : Ext r h h') (er : h[r]? = some (.ins 2 fs)) (s : St h ns b rh rm rp m rs ls) : St h' ns b rh rm rp m rs ls := by
  have hh := s.hs
  unfold HsAt at hh
  refine ⟨x.at s.s0 ?_, x.at hh ?_, x.lst s.ms er, x.lst s.pc er, LL.mono (fun i xs e => x.lst e er) s.ll⟩
  · rintro rfl
    rw [s.s0] at er
    cases er
  · rintro rfl
    rw [hh] at er
    cases b <;> cases er
theorem St.pre (p : h <+: h') (s : St h ns b rh rm rp m rs ls) : St h' ns b rh rm rp m rs ls :=
  ⟨pre_get p s.s0, pre_get p s.hs, pre_get p s.ms, pre_get p s.pc, LL.mono (fun i xs e => pre_get p e) s.ll⟩
/-- what the loop keeps -/
structure Inv36 (h : Hm) (ns : List Int) (b : Bool) (rh rm rp : Nat) (m : List Int) (rs : List Nat) (ls : List (List Int)) (r6 r7 r8 ra rj : Nat) (t : List Int) (i : Nat) : Prop where
  st : St h ns b rh rm rp m rs ls
  d6 : DigAt h r6 b (ls.take i).flatten
  d7 : DigAt h r7 b (ls.take i).flatten
  d8 : DigAt h r8 b t
  ea : h[ra]? = some (li t)
  ej : h[rj]? = some (li (ls.take i).flatten)
  n67 : r6 ≠ r7
  n68 : r6 ≠ r8
  n78 : r7 ≠ r8
  tl : t.length ≤ 300
theorem Inv36.ext6 {r6 r7 r8 ra rj : Nat} {t : List Int} {i : Nat} (I : Inv36 h ns b rh rm rp m rs ls r6 r7 r8 ra rj t i) (x : Ext r6 h h') (D : DigAt h' r6 b (ls.take i).flatten) : Inv36 h' ns b rh rm rp m rs ls r6 r7 r8 ra rj t i := by
  obtain ⟨fs, e6⟩ := I.d6.ins
  exact ⟨I.st.ext x e6, D, I.d7.ext x e6 (Ne.symm I.n67), I.d8.ext x e6 (Ne.symm I.n68), x.lst I.ea e6, x.lst I.ej e6, I.n67, I.n68, I.n78, I.tl⟩
theorem Inv36.pre {r6 r7 r8 ra rj : Nat} {t : List Int} {i : Nat} (I : Inv36 h ns b rh rm rp m rs ls r6 r7 r8 ra rj t i) (p : h <+: h') : Inv36 h' ns b rh rm rp m rs ls r6 r7 r8 ra rj t i :=
  ⟨I.st.pre p, I.d6.pre p, I.d7.pre p, I.d8.pre p, pre_get p I.ea, pre_get p I.ej, I.n67, I.n68, I.n78, I.tl⟩
theorem flat_succ {i : Nat} {l : List Int} (e : ls[i]? = some l) : (ls.take (i + 1)).flatten = (ls.take i).flatten ++ l := by
  rw [List.take_add_one, e, List.flatten_append]
  simp
theorem flat_le {i : Nat} : (ls.take i).flatten.length ≤ ls.flatten.length := by
  have := congrArg (fun l => l.flatten.length) (List.take_append_drop i ls)
  simp only [List.flatten_append, List.length_append] at this
  omega
theorem o_ixR {rp i : Nat} {x : Nat} (e : h[rp]? = some (.lst (rs.map W.ref))) (ex : rs[i]? = some x) (q : V (.ref x) h) : (ofO (ixW (.ref rp) (.int (i : Nat)) h)).wp V E := by
  have lt := (List.getElem?_eq_some_iff.mp ex).1
  refine o_ix (seqC_at e) ?_ q
  unfold atI
  rw [ixN_ok (by omega) (by rw [List.length_map]; omega)]
  show (rs.map W.ref)[(i : Int).toNat]? = _
  rw [Int.toNat_natCast, List.getElem?_map, ex]
  rfl
end
end Z

/-! P36e: the law -/
namespace Z
open PySem PySem.Spec PyProof.Rows L2
open L_curveseal_k36_digests_in_pieces
theorem bad_kinds : (List.range 100).all (fun i => kIn d_SIZES (.str (("sha" : Str) ++ PySem.Str.ofString (toString (i : Int)))) == some false) = true := by decide +kernel
set_option maxHeartbeats 0 in
theorem law_wp (ns : List Int) (hn : ns.length ≤ 63) : (F_law [.ref 0] [.frz (ns.map W.int)]).wp (fun v _ => v = .bl true) nE := by
  refine w_mk ?_
  have z0 : ([.frz (ns.map W.int)] : Hm)[0]? = some (.frz (ns.map W.int)) := rfl
  generalize ([.frz (ns.map W.int)] : Hm) = h at *
  refine w_lit [some (.ref 0), none, none, none, none, none, none, none, none, none, none, none, none, none, none, none, none] rfl ?_
  refine w_seqM (fun σ h1 => h1 = h ∧ ∃ c : Int, 0 ≤ c ∧ σ = [some (.ref 0), some (.int c), none, none, none, none, none, none, none, none, none, none, none, none, none, none, none]) ?_ ?_
  · array_get_dec
    refine sp_cell (k := 0) z0 ?_
    array_get_dec
    exact ⟨rfl, _, by split <;> omega, rfl⟩
  rintro σ h1 ⟨rfl, c, c0, rfl⟩
  obtain ⟨b, eb⟩ : ∃ b : Bool, c % 2 = if b then 1 else 0 := by
    by_cases hc : c % 2 = 1
    · exact ⟨true, hc⟩
    · exact ⟨false, by show c % 2 = 0; omega⟩
  have ab : Builtin.bitAnd c 1 = if b then 1 else 0 := by rw [bitAnd_m1, eb]
  refine w_seqM (fun σ h2 => h1 <+: h2 ∧ σ = [some (.ref 0), some (.int c), some (.str (kn b)), none, none, none, none, none, none, none, none, none, none, none, none, none, none]) ?_ ?_
  · array_get_dec
    rw [ab]
    refine o_ix (w := .str (kn b)) (seqC_at get_new) (by cases b <;> rfl) ?_
    exact ⟨⟨_, rfl⟩, rfl⟩
  rintro σ h2 ⟨p2, rfl⟩
  refine w_seqM (fun σ h3 => h2 <+: h3 ∧ ∃ rh, HsAt h3 rh b ∧ σ = [some (.ref 0), some (.int c), some (.str (kn b)), some (.ref rh), none, none, none, none, none, none, none, none, none, none, none, none, none]) ?_ ?_
  · array_get_dec
    refine sp_sha256_init (get_new (h := h2)) fun h3 x3 H3 => ?_
    refine ⟨rfl, ?_⟩
    array_get_dec
    refine sp_sha512_init (get_new (h := h3)) fun h4 x4 H4 => ?_
    refine ⟨rfl, ?_⟩
    array_get_dec
    have p3 := ext_pre x3
    have p4 := ext_pre x4
    unfold HsAt at H3
    have H34 : HsAt h4 h2.length false := pre_get p4 H3
    rw [ab]
    have lx := ext_len x3
    refine o_ix (w := .ref (if b then h3.length else h2.length)) (seqC_at get_new) (by cases b <;> rfl) ?_
    refine ⟨pre_new (p3.trans p4), _, ?_, rfl⟩
    cases b
    · exact get_old H34
    · exact get_old H4
  rintro σ h3 ⟨p3, rh, H3, rfl⟩
  have z3 := pre_get (p2.trans p3) z0
  obtain ⟨len, el, l0⟩ : ∃ len : Nat, c / 2 % 201 = (len : Int) ∧ len ≤ 200 := ⟨(c / 2 % 201).toNat, by omega, by omega⟩
  refine w_seqM (fun σ h4 => h3 <+: h4 ∧ ∃ rm m, h4[rm]? = some (li m) ∧ By m ∧ m.length ≤ 200 ∧ σ = [some (.ref 0), some (.int c), some (.str (kn b)), some (.ref rh), some (.ref rm), none, none, none, none, none, none, none, none, none, none, none, none]) ?_ ?_
  · array_get_dec
    refine sp_cell (k := 1) z3 ?_
    array_get_dec
    refine o_fdivI (by decide) ?_
    array_get_dec
    refine o_modI (by decide) ?_
    array_get_dec
    rw [el]
    refine sp_row (by omega) fun m rm h4 p4 g4 bm lm l4 => ?_
    exact ⟨p4, rm, m, g4, bm, by omega, rfl⟩
  rintro σ h4 ⟨p4, rm, m, g4, bm, lm, rfl⟩
  refine w_seqM (fun σ h5 => ∃ rp rs ls, St h5 ns b rh rm rp m rs ls ∧ ls.flatten = m ∧ 0 < ls.length ∧ ls.length ≤ 15 ∧ σ = [some (.ref 0), some (.int c), some (.str (kn b)), some (.ref rh), some (.ref rm), some (.ref rp), none, none, none, none, none, none, none, none, none, none, none]) ?_ ?_
  · array_get_dec
    refine sp_pieces (pre_get p4 z3) g4 fun rp rs ls h5 p5 g5 L5 fl l1 l2 => ?_
    exact ⟨rp, rs, ls, ⟨pre_get (p4.trans p5) z3, pre_get (p4.trans p5) H3, pre_get p5 g4, g5, L5⟩, fl, l1, l2, rfl⟩
  rintro σ h5 ⟨rp, rs, ls, S5, fl, l1, l2, rfl⟩
  clear z0 p2 p3 H3 z3 p4 g4
  have T : ∀ {h : Hm} {r : Nat} {Q : Nat → Prop} {m : List Int}, DigP Q h r b m → DigAt h r b m := fun a => a.imp fun _ _ _ => trivial
  refine w_seqM (fun σ h6 => ∃ r6, St h6 ns b rh rm rp m rs ls ∧ DigAt h6 r6 b [] ∧ σ = [some (.ref 0), some (.int c), some (.str (kn b)), some (.ref rh), some (.ref rm), some (.ref rp), some (.ref r6), none, none, none, none, none, none, none, none, none, none]) ?_ ?_
  · array_get_dec
    refine sp_dig_init (get_new (h := h5)) fun h6 x6 D6 => ?_
    refine ⟨rfl, ?_⟩
    exact ⟨_, S5.pre (ext_pre x6), T D6, rfl⟩
  rintro σ h6 ⟨r6, S6, D6, rfl⟩
  refine w_seqM (fun σ h7 => ∃ r7, St h7 ns b rh rm rp m rs ls ∧ DigAt h7 r6 b [] ∧ DigAt h7 r7 b [] ∧ r6 < r7 ∧ σ = [some (.ref 0), some (.int c), some (.str (kn b)), some (.ref rh), some (.ref rm), some (.ref rp), some (.ref r6), some (.ref r7), none, none, none, none, none, none, none, none, none]) ?_ ?_
  · refine w_set ?_
    refine w_Met ?_
    refine w_var rfl ?_
    refine d_met (F := F_pieces b) S6.hs rfl (by cases b <;> rfl) ?_
    array_get_dec
    refine sp_h_pieces fun h7 x7 D7 => ?_
    obtain ⟨fs, e6⟩ := D6.ins
    exact ⟨_, S6.pre (ext_pre x7), D6.pre (ext_pre x7), T D7, lt_of_get' e6, rfl⟩
  rintro σ h7 ⟨r7, S7, D6, D7, l67, rfl⟩
  refine w_seqM (fun σ h8 => ∃ r8, St h8 ns b rh rm rp m rs ls ∧ DigAt h8 r6 b [] ∧ DigAt h8 r7 b [] ∧ DigAt h8 r8 b [] ∧ r7 < r8 ∧ σ = [some (.ref 0), some (.int c), some (.str (kn b)), some (.ref rh), some (.ref rm), some (.ref rp), some (.ref r6), some (.ref r7), some (.ref r8), none, none, none, none, none, none, none, none]) ?_ ?_
  · array_get_dec
    refine sp_dig_init (get_new (h := h7)) fun h8 x8 D8 => ?_
    refine ⟨rfl, ?_⟩
    have p8 := ext_pre x8
    obtain ⟨fs, e7⟩ := D7.ins
    exact ⟨_, S7.pre p8, D6.pre p8, D7.pre p8, T D8, lt_of_get' e7, rfl⟩
  rintro σ h8 ⟨r8, S8, D6, D7, D8, l78, rfl⟩
  refine w_seqM (fun σ h9 => h9 = h8 ++ [O.lst []] ∧ σ = [some (.ref 0), some (.int c), some (.str (kn b)), some (.ref rh), some (.ref rm), some (.ref rp), some (.ref r6), some (.ref r7), some (.ref r8), some (.ref h8.length), none, none, none, none, none, none, none]) ?_ ?_
  · array_get_dec
    exact ⟨rfl, rfl⟩
  rintro σ h9 ⟨e9, rfl⟩
  have p9 : h8 <+: h9 := by rw [e9]; exact ⟨_, rfl⟩
  have g9 : h9[h8.length]? = some (li []) := by rw [e9]; exact get_new
  clear e9
  generalize h8.length = ra at *
  refine w_seqM (fun σ h10 => h10 = h9 ++ [O.lst []] ∧ σ = [some (.ref 0), some (.int c), some (.str (kn b)), some (.ref rh), some (.ref rm), some (.ref rp), some (.ref r6), some (.ref r7), some (.ref r8), some (.ref ra), some (.ref h9.length), none, none, none, none, none, none]) ?_ ?_
  · array_get_dec
    exact ⟨rfl, rfl⟩
  rintro σ h10 ⟨e10, rfl⟩
  have p10 : h8 <+: h10 := by rw [e10]; exact p9.trans ⟨_, rfl⟩
  have g10 : h10[h9.length]? = some (li []) := by rw [e10]; exact get_new
  have g9' : h10[ra]? = some (li []) := by rw [e10]; exact get_old g9
  clear e10
  generalize h9.length = rj at *
  have I0 : Inv36 h10 ns b rh rm rp m rs ls r6 r7 r8 ra rj [] 0 := ⟨S8.pre p10, D6.pre p10, D7.pre p10, D8.pre p10, g9', g10, by omega, by omega, by omega, Nat.zero_le _⟩
  clear S5 S6 S7 S8 D6 D7 D8 p9 p10 g9 g9' g10
  have Ll := I0.st.ll.len
  refine w_seqM (fun σ h11 => h11 = h10 ∧ ∃ u, σ = [some (.ref 0), some (.int c), some (.str (kn b)), some (.ref rh), some (.ref rm), some (.ref rp), some (.ref r6), some (.ref r7), some (.ref r8), some (.ref ra), some (.ref rj), some (.int u), none, none, none, none, none]) ?_ ?_
  · array_get_dec
    refine sp_cell (k := 2) I0.st.s0 ?_
    array_get_dec
    refine o_len (seqC_at I0.st.pc) ?_
    array_get_dec
    refine o_modI (by rw [List.length_map]; omega) ?_
    exact ⟨rfl, _, rfl⟩
  rintro σ h11 ⟨rfl, wh, rfl⟩
  refine w_seqM (fun σ h12 => ∃ r8 ra rj t, Inv36 h12 ns b rh rm rp m rs ls r6 r7 r8 ra rj t ls.length ∧ ∃ u v, σ = [some (.ref 0), some (.int c), some (.str (kn b)), some (.ref rh), some (.ref rm), some (.ref rp), some (.ref r6), some (.ref r7), some (.ref r8), some (.ref ra), some (.ref rj), some (.int wh), u, v, none, none, none]) ?_ ?_
  · array_get_dec
    refine o_len (seqC_at I0.st.pc) ?_
    rw [List.length_map, Ll]
    refine ⟨_, rfl, by unfold smallI; exact decide_eq_true (by omega), ?_⟩
    rw [Int.toNat_natCast]
    refine w_rng0 (fun i σ h12 => ∃ r8 ra rj t, Inv36 h12 ns b rh rm rp m rs ls r6 r7 r8 ra rj t i ∧ ∃ u v, σ = [some (.ref 0), some (.int c), some (.str (kn b)), some (.ref rh), some (.ref rm), some (.ref rp), some (.ref r6), some (.ref r7), some (.ref r8), some (.ref ra), some (.ref rj), some (.int wh), u, v, none, none, none]) (lt_fuel' (by omega)) ⟨r8, ra, rj, [], I0, none, none, rfl⟩ ?_ ?_
    · clear I0
      rintro i σ h0 hi ⟨r8, ra, rj, t, I, u, v, rfl⟩
      have ei : ls[i]? = some ls[i] := List.getElem?_eq_getElem hi
      generalize ls[i] = l at *
      obtain ⟨y, ey, gy⟩ := I.st.ll.get ei
      have bl : By l := fun x hx => bm x (by rw [← fl]; exact List.mem_flatten.mpr ⟨l, List.mem_of_getElem? ei, hx⟩)
      have fs := flat_succ ei
      have fle := flat_le (ls := ls) (i := i + 1)
      rw [fs, fl, List.length_append] at fle
      refine ⟨_, rfl, ?_⟩
      have ix : ∀ {h : Hm} {V : W → Hm → Prop} {E : Exn → Hm → Prop}, h[rp]? = some (.lst (rs.map W.ref)) → V (.ref y) h → (ofO (ixW (.ref rp) (.int (i : Nat)) h)).wp V E := fun e q => o_ixR e ey q
      have iz0 : 0 ≤ (i : Int) := Int.natCast_nonneg _
      generalize (i : Int) = iz at *
      refine w_seqM (fun σ h1 => h1 = h0 ++ [li l] ∧ σ = [some (.ref 0), some (.int c), some (.str (kn b)), some (.ref rh), some (.ref rm), some (.ref rp), some (.ref r6), some (.ref r7), some (.ref r8), some (.ref ra), some (.ref rj), some (.int wh), some (.int iz), some (.ref h0.length), none, none, none]) ?_ ?_
      · array_get_dec
        refine ix I.st.pc ?_
        array_get_dec
        refine o_list (seqC_at gy) ?_
        exact ⟨rfl, rfl⟩
      rintro σ h1 ⟨e1, rfl⟩
      have p1 : h0 <+: h1 := by rw [e1]; exact ⟨_, rfl⟩
      have g1 : h1[h0.length]? = some (li l) := by rw [e1]; exact get_new
      have n1 : h1.length = h0.length + 1 := by rw [e1]; simp
      clear e1
      have I1 := I.pre p1
      have ng : ∀ {r : Nat} {m : List Int}, DigAt h0 r b m → DigP (· ≠ h0.length) h1 r b m := fun a => (a.imp (Q := (· ≠ h0.length)) fun x hx _ => by omega).pre p1
      have G6 := ng I.d6
      have G7 := ng I.d7
      have G8 := ng I.d8
      obtain ⟨f6, i6⟩ := G6.ins
      obtain ⟨f7, i7⟩ := G7.ins
      obtain ⟨f8, i8⟩ := G8.ins
      have b6 : r6 < h0.length := by obtain ⟨_, q⟩ := I.d6.ins; exact lt_of_get' q
      have b7 : r7 < h0.length := by obtain ⟨_, q⟩ := I.d7.ins; exact lt_of_get' q
      have b8 : r8 < h0.length := by obtain ⟨_, q⟩ := I.d8.ins; exact lt_of_get' q
      refine w_seqM (fun σ h2 => Ext r6 h1 h2 ∧ DigP (· ≠ h0.length) h2 r6 b ((ls.take i).flatten ++ l) ∧ σ = [some (.ref 0), some (.int c), some (.str (kn b)), some (.ref rh), some (.ref rm), some (.ref rp), some (.ref r6), some (.ref r7), some (.ref r8), some (.ref ra), some (.ref rj), some (.int wh), some (.int iz), some (.ref h0.length), none, none, none]) ?_ ?_
      · obtain ⟨a, cc, d, X6, _⟩ := G6.ex
        unfold DigX at X6
        array_get_dec
        refine sp_add (fun x hx => by omega) G6 g1 bl (by omega) fun h2 x2 D2 => ?_
        array_get_dec
        refine d_T ?_
        array_get_dec
        refine ix (x2.lst I1.st.pc i6) ?_
        refine o_ne (eqB_li (x2.lst g1 i6) (x2.lst (pre_get p1 gy) i6)) ?_
        array_get_dec
        refine d_decT rfl ?_
        array_get_dec
        exact ⟨x2, D2, rfl⟩
      rintro σ h2 ⟨x2, D6, rfl⟩
      have i7' := x2.at i7 (Ne.symm I.n67)
      have i8' := x2.at i8 (Ne.symm I.n68)
      have G7' := G7.ext x2 i6 (Ne.symm I.n67)
      have G8' := G8.ext x2 i6 (Ne.symm I.n68)
      refine w_seqM (fun σ h4 => Ext r7 h2 h4 ∧ DigP (· ≠ h0.length) h4 r7 b ((ls.take i).flatten ++ l) ∧ σ = [some (.ref 0), some (.int c), some (.str (kn b)), some (.ref rh), some (.ref rm), some (.ref rp), some (.ref r6), some (.ref r7), some (.ref r8), some (.ref ra), some (.ref rj), some (.int wh), some (.int iz), some (.ref h0.length), none, none, none]) ?_ ?_
      · obtain ⟨a, cc, d, X7, _⟩ := G7'.ex
        unfold DigX at X7
        have yy := x2.lst (pre_get p1 gy) i6
        have pc2 := x2.lst I1.st.pc i6
        have len2 := x2.len
        array_get_dec
        refine ix pc2 ?_
        array_get_dec
        refine o_list (seqC_at yy) ?_
        array_get_dec
        have p3 : h2 <+: h2 ++ [li l] := ⟨_, rfl⟩
        refine sp_add (fun x hx => by rw [List.length_append] at hx; omega) (G7'.pre p3) get_new bl (by omega) fun h4 x4 D4 => ?_
        exact ⟨(Ext.pre p3).trans x4, D4, rfl⟩
      rintro σ h4 ⟨x4, D7, rfl⟩
      have D6' := D6.ext x4 i7' I.n67
      have D8' := G8'.ext x4 i7' (Ne.symm I.n78)
      have S4 := (I1.st.ext x2 i6).ext x4 i7'
      have ea4 := x4.lst (x2.lst I1.ea i6) i7'
      have ej4 := x4.lst (x2.lst I1.ej i6) i7'
      have g4 := x4.lst (x2.lst g1 i6) i7'
      have y4 := x4.lst (x2.lst (pre_get p1 gy) i6) i7'
      have la : ra ≠ h0.length := by have := lt_of_get' I.ea; omega
      have lj : rj ≠ h0.length := by have := lt_of_get' I.ej; omega
      have ly : y ≠ h0.length := by have := lt_of_get' gy; omega
      have S5 : ∀ o, St (h4.set h0.length o) ns b rh rm rp m rs ls := fun o => by
        have s0 := I.st
        have k : ∀ {j : Nat} {u w : O}, h0[j]? = some w → h4[j]? = some u → (h4.set h0.length o)[j]? = some u := fun a e => by
          rw [List.getElem?_set_ne (by have := lt_of_get' a; omega)]
          exact e
        exact ⟨k s0.s0 S4.s0, k s0.hs S4.hs, k s0.ms S4.ms, k s0.pc S4.pc, LL.keep (fun z hz xs e => by
          obtain ⟨j, hj, rfl⟩ := List.getElem_of_mem hz
          obtain ⟨z', e1, e2⟩ := s0.ll.get (i := j) (List.getElem?_eq_getElem (by have := s0.ll.len; omega))
          rw [List.getElem?_eq_getElem hj] at e1
          cases e1
          exact k e2 e) S4.ll⟩
      clear G6 G7 G8 G7' G8' i7 i8 i7' i8' D6 x2 x4 S4 I1 g1 gy
      refine w_seqM (fun σ h5 => (∃ o, h5 = h4.set h0.length o) ∧ σ = [some (.ref 0), some (.int c), some (.str (kn b)), some (.ref rh), some (.ref rm), some (.ref rp), some (.ref r6), some (.ref r7), some (.ref r8), some (.ref ra), some (.ref rj), some (.int wh), some (.int iz), some (.ref h0.length), none, none, none]) ?_ ?_
      · array_get_dec
        refine ⟨isL_at' g4, ?_⟩
        array_get_dec
        refine o_app g4 (by rw [List.length_map]; omega) ?_
        exact ⟨⟨_, rfl⟩, rfl⟩
      rintro σ h5 ⟨⟨o, e5⟩, rfl⟩
      have S5 := S5 o
      have D6 := T (D6'.wr (o := o) (by omega))
      have D7 := T (D7.wr (o := o) (by omega))
      have D8 := T (D8'.wr (o := o) (by omega))
      have ea5 : (h4.set h0.length o)[ra]? = some (li t) := by rw [List.getElem?_set_ne (Ne.symm la)]; exact ea4
      have ej5 : (h4.set h0.length o)[rj]? = some (li (ls.take i).flatten) := by rw [List.getElem?_set_ne (Ne.symm lj)]; exact ej4
      have y5 : (h4.set h0.length o)[y]? = some (li l) := by rw [List.getElem?_set_ne (Ne.symm ly)]; exact y4
      rw [← e5] at S5 D6 D7 D8 ea5 ej5 y5
      clear D6' D8' ea4 ej4 y4 g4 e5
      rw [← fs] at D6 D7
      refine w_seqM (fun σ h6 => ∃ rj', Inv36 h6 ns b rh rm rp m rs ls r6 r7 r8 ra rj' t (i + 1) ∧ σ = [some (.ref 0), some (.int c), some (.str (kn b)), some (.ref rh), some (.ref rm), some (.ref rp), some (.ref r6), some (.ref r7), some (.ref r8), some (.ref ra), some (.ref rj'), some (.int wh), some (.int iz), some (.ref h0.length), none, none, none]) ?_ ?_
      · array_get_dec
        refine ix S5.pc ?_
        refine o_addL ej5 y5 (by rw [List.length_map, List.length_map]; omega) ?_
        rw [← List.map_append, ← fs]
        have p6 : h5 <+: h5 ++ [li (ls.take (i + 1)).flatten] := ⟨_, rfl⟩
        exact ⟨_, ⟨S5.pre p6, D6.pre p6, D7.pre p6, D8.pre p6, pre_get p6 ea5, get_new, I.n67, I.n68, I.n78, I.tl⟩, rfl⟩
      have i67 := I.n67
      clear I S5 D6 D7 D8 ea5 ej5 y5
      rintro σ h6 ⟨rj', I, rfl⟩
      refine w_seqM (fun σ h7 => ∃ r8' ra' t', Inv36 h7 ns b rh rm rp m rs ls r6 r7 r8' ra' rj' t' (i + 1) ∧ σ = [some (.ref 0), some (.int c), some (.str (kn b)), some (.ref rh), some (.ref rm), some (.ref rp), some (.ref r6), some (.ref r7), some (.ref r8'), some (.ref ra'), some (.ref rj'), some (.int wh), some (.int iz), some (.ref h0.length), none, none, none]) ?_ ?_
      · array_get_dec
        refine d_dec (fun hp => ?_) fun hp => ?_
        · obtain ⟨a, cc, d, X6, _⟩ := I.d6.ex
          unfold DigX at X6
          have jl : (ls.take (i + 1)).flatten.length ≤ 200 := by rw [fs, List.length_append]; omega
          have k6 : r6 < h6.length := lt_of_get' X6
          have k7 : r7 < h6.length := by obtain ⟨_, q⟩ := I.d7.ins; exact lt_of_get' q
          array_get_dec
          refine sp_twin (P := fun _ => True) (fun _ _ => trivial) I.d6 fun x8 h7 p7 D8 l8 => ?_
          have I7 := I.pre p7
          clear I X6 p7
          obtain ⟨a, cc, d, X8, _⟩ := D8.ex
          unfold DigX at X8
          array_get_dec
          refine o_addL (get_old I7.ej) (by exact get_new (o := li [7, 7])) (by rw [List.length_map]; show _ + 2 ≤ _; omega) ?_
          have p8 : h7 <+: h7 ++ [O.lst [.int 7, .int 7]] ++ [li ((ls.take (i + 1)).flatten ++ [7, 7])] := ⟨[O.lst [.int 7, .int 7], li ((ls.take (i + 1)).flatten ++ [7, 7])], by simp⟩
          have g8 : (h7 ++ [O.lst [.int 7, .int 7]] ++ [li ((ls.take (i + 1)).flatten ++ [7, 7])])[(h7 ++ [O.lst [.int 7, .int 7]]).length]? = some (li ((ls.take (i + 1)).flatten ++ [7, 7])) := get_new
          rw [← List.map_append]
          generalize (h7 ++ [O.lst [.int 7, .int 7]]).length = ra' at *
          generalize h7 ++ [O.lst [.int 7, .int 7]] ++ [li ((ls.take (i + 1)).flatten ++ [7, 7])] = h8 at *
          have I8 := I7.pre p8
          have D8 := D8.pre p8
          have X8 := pre_get p8 X8
          clear I7 p8
          array_get_dec
          have p9 : h8 <+: h8 ++ [li [7]] := ⟨_, rfl⟩
          have b7 : By [7] := fun x hx => by rw [List.mem_singleton.mp hx]; decide
          refine sp_add (P := fun _ => True) (fun _ _ => trivial) (D8.pre p9) (by exact get_new (o := li [7])) b7 (by show _ + 1 ≤ _; omega) fun h9 x9 D9 => ?_
          have x89 : Ext x8 h8 h9 := (Ext.pre p9).trans x9
          obtain ⟨a, cc, d, X9, _⟩ := D9.ex
          unfold DigX at X9
          array_get_dec
          have p10 : h9 <+: h9 ++ [li [7]] := ⟨_, rfl⟩
          refine sp_add (P := fun _ => True) (fun _ _ => trivial) (D9.pre p10) (by exact get_new (o := li [7])) b7 (by rw [List.length_append]; show _ + 1 + 1 ≤ _; omega) fun h10 x10 D10 => ?_
          have x810 : Ext x8 h8 h10 := (x89.trans (.pre p10)).trans x10
          rw [List.append_assoc] at D10
          exact ⟨x8, ra', (ls.take (i + 1)).flatten ++ [7, 7], ⟨I8.st.ext x810 X8, I8.d6.ext x810 X8 (by omega), I8.d7.ext x810 X8 (by omega), D10, x810.lst g8 X8, x810.lst I8.ej X8, i67, by omega, by omega, by rw [List.length_append]; show _ + 2 ≤ 300; omega⟩, rfl⟩
        · array_get_dec
          exact ⟨r8, ra, t, I, rfl⟩
      clear I
      rintro σ h7 ⟨r8', ra', t', I, rfl⟩
      obtain ⟨a, cc, d, X6, _⟩ := I.d6.ex
      array_get_dec
      refine d_dec (fun hp => ?_) fun hp => ?_
      · array_get_dec
        refine sp_law_told (fun _ _ => trivial) I.d6 I.ej fun h8 x8 D8 => ?_
        array_get_dec
        exact ⟨r8', ra', rj', t', I.ext6 x8 D8, _, _, rfl⟩
      · array_get_dec
        exact ⟨r8', ra', rj', t', I, _, _, rfl⟩
    · rintro σ h12 ⟨r8, ra, rj, t, I, u, v, rfl⟩
      exact ⟨r8, ra, rj, t, I, u, v, rfl⟩
  clear I0
  rintro σ h12 ⟨r8, ra, rj, t, I, u, v, rfl⟩
  have tk : (ls.take ls.length).flatten = m := by rw [List.take_length, fl]
  obtain ⟨S, D6, D7, D8, ea, ej, n67, n68, n78, tl⟩ := I
  rw [tk] at D6 D7 ej
  obtain ⟨f6, i6⟩ := D6.ins
  obtain ⟨f8, i8⟩ := D8.ins
  obtain ⟨f7, i7⟩ := D7.ins
  have HK := S.hs
  unfold HsAt at HK
  refine w_seqM (fun σ h1 => St h1 ns b rh rm rp m rs ls ∧ DigAt h1 r7 b m ∧ σ = [some (.ref 0), some (.int c), some (.str (kn b)), some (.ref rh), some (.ref rm), some (.ref rp), some (.ref r6), some (.ref r7), some (.ref r8), some (.ref ra), some (.ref rj), some (.int wh), u, v, none, none, none]) ?_ ?_
  · array_get_dec
    refine o_ne (eqB_li ej S.ms) ?_
    array_get_dec
    refine d_decT rfl ?_
    array_get_dec
    refine sp_law_told (fun _ _ => trivial) D6 S.ms fun h13 x13 D13 => ?_
    array_get_dec
    refine sp_law_told (fun _ _ => trivial) (D8.ext x13 i6 (Ne.symm n68)) (x13.lst ea i6) fun h14 x14 D14 => ?_
    array_get_dec
    have i8' := x13.at i8 (Ne.symm n68)
    exact ⟨(S.ext x13 i6).ext x14 i8', (D7.ext x13 i6 (Ne.symm n67)).ext x14 i8' n78, rfl⟩
  clear S D6 D7 D8 ea ej i6 i7 i8 HK
  rintro σ h1 ⟨S, D7, rfl⟩
  have Lb : ∀ l ∈ ls, By l := fun l hl x hx => bm x (by rw [← fl]; exact List.mem_flatten.mpr ⟨l, hl, hx⟩)
  refine w_seqM (fun σ h2 => h1 <+: h2 ∧ ∃ rq qs, h2[rq]? = some (.lst (qs.map W.ref)) ∧ LL h2 qs ls ∧ σ = [some (.ref 0), some (.int c), some (.str (kn b)), some (.ref rh), some (.ref rm), some (.ref rp), some (.ref r6), some (.ref r7), some (.ref r8), some (.ref ra), some (.ref rj), some (.int wh), u, v, some (.ref rq), none, none]) ?_ ?_
  · array_get_dec
    refine .inl ⟨_, seqC_at S.pc, ?_⟩
    refine w_compL (n := ls.length) (fun i acc h2 => h1 <+: h2 ∧ h2[h1.length]? = some (.lst acc) ∧ ∃ qs, acc = qs.map W.ref ∧ LL h2 qs (ls.take i) ∧ ∀ z ∈ qs, h1.length < z) (lt_fuel' (by omega)) (by omega) ⟨⟨_, rfl⟩, get_new, [], rfl, trivial, nofun⟩ (fun i acc h2 ⟨a1, a2, qs, a3, a4, _⟩ => ⟨a2, by rw [a3, List.length_map, a4.len, List.length_take]; omega⟩) ?_ ?_
    · rintro i acc h2 hi ⟨p2, e2, qs, rfl, LQ, nq⟩
      have ei : ls[i]? = some ls[i] := List.getElem?_eq_getElem hi
      generalize ls[i] = l at *
      obtain ⟨y, ey, gy⟩ := S.ll.get ei
      refine ⟨.ref y, _, ?_, rfl, ?_⟩
      · unfold itSeq
        rw [seqC_at (pre_get p2 S.pc), Option.map_some, List.getElem?_map, ey]
        rfl
      array_get_dec
      refine o_list (seqC_at (pre_get p2 gy)) ?_
      have lt := lt_of_get' e2
      refine ⟨get_old e2, pre_set (pre_new p2) (Nat.le_refl _), get_set (get_old e2), qs ++ [h2.length], by rw [List.map_append]; rfl, ?_, ?_⟩
      · rw [List.take_add_one, ei]
        refine LL.app ?_ (LL.keep (fun z hz xs e => ?_) LQ)
        · rw [List.getElem?_set_ne (by omega)]
          exact get_new
        · rw [List.getElem?_set_ne (by have := nq z hz; omega)]
          exact get_old e
      · intro z hz
        rcases List.mem_append.mp hz with hz | hz
        · exact nq z hz
        · rw [List.mem_singleton.mp hz]
          exact lt
    · rintro acc h2 ⟨p2, e2, qs, rfl, LQ, nq⟩
      refine ⟨?_, ?_⟩
      · unfold itSeq
        rw [seqC_at (pre_get p2 S.pc), Option.map_some, List.getElem?_eq_none (by rw [List.length_map]; omega)]
      rw [List.take_length] at LQ
      exact ⟨p2, _, qs, e2, LQ, rfl⟩
  rintro σ h2 ⟨p2, rq, qs, eq, LQ, rfl⟩
  have S := S.pre p2
  have D7 := D7.pre p2
  refine w_seqM (fun σ h3 => h2 <+: h3 ∧ ∃ rd, h3[rd]? = some (li (dg b m)) ∧ σ = [some (.ref 0), some (.int c), some (.str (kn b)), some (.ref rh), some (.ref rm), some (.ref rp), some (.ref r6), some (.ref r7), some (.ref r8), some (.ref ra), some (.ref rj), some (.int wh), u, v, some (.ref rq), some (.ref rd), none]) ?_ ?_
  · array_get_dec
    refine o_list (seqC_at S.ms) ?_
    array_get_dec
    refine sp_digest get_new bm (by omega) fun y h3 p3 g3 l3 => ?_
    exact ⟨List.IsPrefix.trans ⟨_, rfl⟩ p3, y, g3, rfl⟩
  rintro σ h3 ⟨p3, rd, ed, rfl⟩
  have S := S.pre p3
  have D7 := D7.pre p3
  have eq := pre_get p3 eq
  have LQ := LQ.mono fun i xs e => pre_get p3 e
  refine w_seqM (fun σ h4 => h3 <+: h4 ∧ σ = [some (.ref 0), some (.int c), some (.str (kn b)), some (.ref rh), some (.ref rm), some (.ref rp), some (.ref r6), some (.ref r7), some (.ref r8), some (.ref ra), some (.ref rj), some (.int wh), u, v, some (.ref rq), some (.ref rd), none]) ?_ ?_
  · array_get_dec
    refine sp_digest_parts eq LQ Lb (by omega) (by rw [fl]; omega) fun y h4 p4 g4 l4 => ?_
    array_get_dec
    rw [fl] at g4
    refine o_ne (eqB_li g4 (pre_get p4 ed)) ?_
    array_get_dec
    refine d_decT rfl ?_
    apply w_OrT
    apply w_B
    apply w_bin
    refine w_Met ?_
    refine w_var rfl ?_
    refine d_met (F := F_hparts b) (S.pre p4).hs rfl (by cases b <;> rfl) ?_
    array_get_dec
    refine sp_h_parts (pre_get p4 eq) (LQ.mono fun i xs e => pre_get p4 e) Lb (by omega) (by rw [fl]; omega) fun y5 h5 p5 g5 l5 => ?_
    array_get_dec
    rw [fl] at g5
    refine o_ne (eqB_li g5 (pre_get (p4.trans p5) ed)) ?_
    array_get_dec
    refine d_decT rfl ?_
    array_get_dec
    refine o_ne (eqB_LL (pre_get (p4.trans p5) eq) (pre_get (p4.trans p5) S.pc) (LQ.mono fun i xs e => pre_get (p4.trans p5) e) (S.ll.mono fun i xs e => pre_get (p4.trans p5) e)) ?_
    array_get_dec
    refine d_decT rfl ?_
    array_get_dec
    exact ⟨p4.trans p5, rfl⟩
  rintro σ h4 ⟨p4, rfl⟩
  have S := S.pre p4
  have D7 := D7.pre p4
  have ed := pre_get p4 ed
  obtain ⟨f7, i7⟩ := D7.ins
  refine w_seqM (fun σ h5 => St h5 ns b rh rm rp m rs ls ∧ σ = [some (.ref 0), some (.int c), some (.str (kn b)), some (.ref rh), some (.ref rm), some (.ref rp), some (.ref r6), some (.ref r7), some (.ref r8), some (.ref ra), some (.ref rj), some (.int wh), u, v, some (.ref rq), some (.ref rd), none]) ?_ ?_
  · apply w_if
    apply w_OrT
    apply w_B
    apply w_bin
    refine w_Met ?_
    refine w_var rfl ?_
    refine d_met (F := F_hdigest b) S.hs rfl (by cases b <;> rfl) ?_
    array_get_dec
    refine o_list (seqC_at S.ms) ?_
    array_get_dec
    refine sp_h_digest get_new bm (by omega) fun y h5 p5 g5 l5 => ?_
    have p45 : h4 <+: h5 := List.IsPrefix.trans ⟨_, rfl⟩ p5
    array_get_dec
    refine o_ne (eqB_li g5 (pre_get p45 ed)) ?_
    array_get_dec
    refine d_decT rfl ?_
    have D7' := D7.pre p45
    obtain ⟨a, cc, d, X7, _⟩ := D7'.ex
    unfold DigX at X7
    array_get_dec
    refine sp_told (fun _ _ => trivial) D7' fun y6 h6 x6 D6 g6 l6 => ?_
    array_get_dec
    refine o_ne (eqB_li g6 (x6.lst (pre_get p45 ed) X7)) ?_
    array_get_dec
    refine d_decT rfl ?_
    array_get_dec
    refine o_modI (by decide) ?_
    array_get_dec
    obtain ⟨k, ek, k0⟩ : ∃ k : Nat, c % 100 = (k : Int) ∧ k < 100 := ⟨(c % 100).toNat, by omega, by omega⟩
    have bk := List.all_eq_true.mp bad_kinds k (List.mem_range.mpr k0)
    have bk : kIn d_SIZES (.str (("sha" : Str) ++ PySem.Str.ofString (toString (k : Int)))) = some false := by simpa using bk
    rw [ek]
    refine w_ofO (x := .str (PySem.Str.ofString (toString (k : Int)))) (h1 := h6) ?_ ?_
    · unfold strW
      show (if (k : Int).natAbs.log2 < 1920 then _ else none) = _
      rw [if_pos (Nat.lt_of_le_of_lt (PySem.W.mg_log (k := 7) (by omega)) (by decide))]
    array_get_dec
    have sl : (("sha" : Str).length + (PySem.Str.ofString (toString (k : Int))).length) ≤ 16777216 := by
      have : (List.range 100).all (fun k => decide ((PySem.Str.ofString (toString ((k : Nat) : Int))).length ≤ 10)) = true := by decide +kernel
      have := of_decide_eq_true (List.all_eq_true.mp this k (List.mem_range.mpr k0))
      have : ("sha" : Str).length = 3 := by decide
      omega
    generalize PySem.Str.ofString (toString (k : Int)) = ks at *
    refine w_ofO (x := .str (("sha" : Str) ++ ks)) (h1 := h6) ?_ ?_
    · show (if ("sha" : Str).length + ks.length ≤ 16777216 then _ else none) = _
      rw [if_pos sl]
    array_get_dec
    refine sp_no_kind bk fun h7 p7 => ?_
    array_get_dec
    exact ⟨((S.pre p45).ext x6 X7).pre p7, rfl⟩
  rintro σ h5 ⟨S5, rfl⟩
  have HK := S5.hs
  unfold HsAt at HK
  have fin : ∀ (h : Hm) (hh : HsAt h rh b), eqB (.ref h.length) (.ref (h ++ [O.lst [.str (kn b), .int (dsz b), .int (bsz b)]]).length) (h ++ [O.lst [.str (kn b), .int (dsz b), .int (bsz b)]] ++ [O.lst [.str (kn b), .int (dsz b), .int (bsz b)]]) = some true := fun h hh => by
    have g1 : (h ++ [O.lst [.str (kn b), .int (dsz b), .int (bsz b)]] ++ [O.lst [.str (kn b), .int (dsz b), .int (bsz b)]] : Hm)[h.length]? = some (O.lst [.str (kn b), .int (dsz b), .int (bsz b)]) := get_old get_new
    have g2 : (h ++ [O.lst [.str (kn b), .int (dsz b), .int (bsz b)]] ++ [O.lst [.str (kn b), .int (dsz b), .int (bsz b)]] : Hm)[(h ++ [O.lst [.str (kn b), .int (dsz b), .int (bsz b)]] : Hm).length]? = some (O.lst [.str (kn b), .int (dsz b), .int (bsz b)]) := get_new
    generalize (h ++ [O.lst [.str (kn b), .int (dsz b), .int (bsz b)]] ++ [O.lst [.str (kn b), .int (dsz b), .int (bsz b)]] : Hm) = hh2 at *
    generalize (h ++ [O.lst [.str (kn b), .int (dsz b), .int (bsz b)]] : Hm).length = r2 at *
    have d : ∀ {r : Nat}, hh2[r]? = some (O.lst [.str (kn b), .int (dsz b), .int (bsz b)]) → den hh2 12 (.ref r) = some (.list [.str (kn b), .int (dsz b), .int (bsz b)]) := fun e => by
      unfold den
      simp only [e]
      rfl
    unfold eqB
    rw [if_neg (show ¬ scalW (.ref h.length) (.ref r2) = true from Bool.false_ne_true), d g1, d g2]
    cases b <;> decide +kernel
  apply w_seq
  apply w_if
  array_get_dec
  rw [ab]
  cases b with
  | true =>
    refine d_decT rfl ?_
    array_get_dec
    refine o_eq (fin _ S5.hs) ?_
    rfl
  | false =>
    refine d_decF (by decide) ?_
    array_get_dec
    refine o_eq (fin _ S5.hs) ?_
    rfl
end Z

namespace L_curveseal_k36_digests_in_pieces
open PySem PySem.Spec PyProof.Rows L2 Z
def D_check_kind : He.DefD := ⟨("check_kind", none), "check_kind", "check_kind", defArgs (topS 13), defBody (topS 13), defScope (topS 13), [], []⟩
def D_word_bits : He.DefD := ⟨("word_bits", none), "word_bits", "word_bits", defArgs (topS 14), defBody (topS 14), defScope (topS 14), [], []⟩
def D_to_little : He.DefD := ⟨("to_little", none), "to_little", "to_little", defArgs (topS 6), defBody (topS 6), defScope (topS 6), [], []⟩
def D_to_big : He.DefD := ⟨("to_big", none), "to_big", "to_big", defArgs (topS 7), defBody (topS 7), defScope (topS 7), [], []⟩
def D_compress_with : He.DefD := ⟨("compress_with", none), "compress_with", "compress_with", defArgs (topS 23), defBody (topS 23), defScope (topS 23), [], []⟩
def D_from_big : He.DefD := ⟨("from_big", none), "from_big", "from_big", defArgs (topS 8), defBody (topS 8), defScope (topS 8), [], []⟩
def D_block_size : He.DefD := ⟨("block_size", none), "block_size", "block_size", defArgs (topS 15), defBody (topS 15), defScope (topS 15), [], []⟩
def D_schedule : He.DefD := ⟨("schedule", none), "schedule", "schedule", defArgs (topS 22), defBody (topS 22), defScope (topS 22), [], []⟩
def D_first_primes : He.DefD := ⟨("first_primes", none), "first_primes", "first_primes", defArgs (topS 18), defBody (topS 18), defScope (topS 18), [], []⟩
def D_whole_cube_root : He.DefD := ⟨("whole_cube_root", none), "whole_cube_root", "whole_cube_root", defArgs (topS 19), defBody (topS 19), defScope (topS 19), [], []⟩
def D_round_constants : He.DefD := ⟨("round_constants", none), "round_constants", "round_constants", defArgs (topS 20), defBody (topS 20), defScope (topS 20), [], []⟩
def D_Digester_make_ready : He.DefD := ⟨("Digester", some "make_ready"), "make_ready", "Digester.make_ready", defArgs (inClass (topS 27) 1), defBody (inClass (topS 27) 1), defScope (inClass (topS 27) 1), [], []⟩
def D_length_size : He.DefD := ⟨("length_size", none), "length_size", "length_size", defArgs (topS 16), defBody (topS 16), defScope (topS 16), [], []⟩
def D_padding : He.DefD := ⟨("padding", none), "padding", "padding", defArgs (topS 26), defBody (topS 26), defScope (topS 26), [], []⟩
def D_Digester_told : He.DefD := ⟨("Digester", some "told"), "told", "Digester.told", defArgs (inClass (topS 27) 3), defBody (inClass (topS 27) 3), defScope (inClass (topS 27) 3), [], []⟩
def D_Digester_add : He.DefD := ⟨("Digester", some "add"), "add", "Digester.add", defArgs (inClass (topS 27) 2), defBody (inClass (topS 27) 2), defScope (inClass (topS 27) 2), [], []⟩
def D_start_words : He.DefD := ⟨("start_words", none), "start_words", "start_words", defArgs (topS 21), defBody (topS 21), defScope (topS 21), [], []⟩
def D_Digester___init__ : He.DefD := ⟨("Digester", some "__init__"), "__init__", "Digester.__init__", defArgs (inClass (topS 27) 0), defBody (inClass (topS 27) 0), defScope (inClass (topS 27) 0), [], []⟩
def D_digest : He.DefD := ⟨("digest", none), "digest", "digest", defArgs (topS 28), defBody (topS 28), defScope (topS 28), [], []⟩
def D_Sha512_digest : He.DefD := ⟨("Sha512", some "digest"), "digest", "Sha512.digest", defArgs (inClass (topS 34) 1), defBody (inClass (topS 34) 1), defScope (inClass (topS 34) 1), [], []⟩
def D_Sha256_digest : He.DefD := ⟨("Sha256", some "digest"), "digest", "Sha256.digest", defArgs (inClass (topS 33) 1), defBody (inClass (topS 33) 1), defScope (inClass (topS 33) 1), [], []⟩
def D__law_no_kind : He.DefD := ⟨("_law_no_kind", none), "_law_no_kind", "_law_no_kind", defArgs (topS 42), defBody (topS 42), defScope (topS 42), [], []⟩
def D_digest_parts : He.DefD := ⟨("digest_parts", none), "digest_parts", "digest_parts", defArgs (topS 30), defBody (topS 30), defScope (topS 30), [], []⟩
def D_Sha512_digest_parts : He.DefD := ⟨("Sha512", some "digest_parts"), "digest_parts", "Sha512.digest_parts", defArgs (inClass (topS 34) 2), defBody (inClass (topS 34) 2), defScope (inClass (topS 34) 2), [], []⟩
def D_Sha256_digest_parts : He.DefD := ⟨("Sha256", some "digest_parts"), "digest_parts", "Sha256.digest_parts", defArgs (inClass (topS 33) 2), defBody (inClass (topS 33) 2), defScope (inClass (topS 33) 2), [], []⟩
def D_Digester_length : He.DefD := ⟨("Digester", some "length"), "length", "Digester.length", defArgs (inClass (topS 27) 4), defBody (inClass (topS 27) 4), defScope (inClass (topS 27) 4), [], []⟩
def D__law_is_integer : He.DefD := ⟨("_law_is_integer", none), "_law_is_integer", "_law_is_integer", defArgs (topS 37), defBody (topS 37), defScope (topS 37), [], []⟩
def D__law_told : He.DefD := ⟨("_law_told", none), "_law_told", "_law_told", defArgs (topS 41), defBody (topS 41), defScope (topS 41), [], []⟩
def D_Digester_twin : He.DefD := ⟨("Digester", some "twin"), "twin", "Digester.twin", defArgs (inClass (topS 27) 5), defBody (inClass (topS 27) 5), defScope (inClass (topS 27) 5), [], []⟩
def D__law_cell : He.DefD := ⟨("_law_cell", none), "_law_cell", "_law_cell", defArgs (topS 36), defBody (topS 36), defScope (topS 36), [], []⟩
def D_Sha512_pieces : He.DefD := ⟨("Sha512", some "pieces"), "pieces", "Sha512.pieces", defArgs (inClass (topS 34) 5), defBody (inClass (topS 34) 5), defScope (inClass (topS 34) 5), [], []⟩
def D_Sha256_pieces : He.DefD := ⟨("Sha256", some "pieces"), "pieces", "Sha256.pieces", defArgs (inClass (topS 33) 5), defBody (inClass (topS 33) 5), defScope (inClass (topS 33) 5), [], []⟩
def D__law_pieces : He.DefD := ⟨("_law_pieces", none), "_law_pieces", "_law_pieces", defArgs (topS 40), defBody (topS 40), defScope (topS 40), [], []⟩
def D__law_row : He.DefD := ⟨("_law_row", none), "_law_row", "_law_row", defArgs (topS 38), defBody (topS 38), defScope (topS 38), [], []⟩
def D_digest_size : He.DefD := ⟨("digest_size", none), "digest_size", "digest_size", defArgs (topS 17), defBody (topS 17), defScope (topS 17), [], []⟩
def D_Sha512___init__ : He.DefD := ⟨("Sha512", some "__init__"), "__init__", "Sha512.__init__", defArgs (inClass (topS 34) 0), defBody (inClass (topS 34) 0), defScope (inClass (topS 34) 0), [], []⟩
def D_Sha256___init__ : He.DefD := ⟨("Sha256", some "__init__"), "__init__", "Sha256.__init__", defArgs (inClass (topS 33) 0), defBody (inClass (topS 33) 0), defScope (inClass (topS 33) 0), [], []⟩
def D_law : He.DefD := ⟨("law", none), "law", "law", defArgs (topS 43), defBody (topS 43), defScope (topS 43), [], []⟩
def fnL_0 : List He.DefD := [D_check_kind, D_word_bits, D_to_little, D_to_big, D_compress_with, D_from_big, D_block_size, D_schedule, D_first_primes, D_whole_cube_root, D_round_constants, D_Digester_make_ready, D_length_size, D_padding, D_Digester_told, D_Digester_add, D_start_words, D_Digester___init__, D_digest, D_Sha512_digest, D_Sha256_digest, D__law_no_kind, D_digest_parts, D_Sha512_digest_parts, D_Sha256_digest_parts, D_Digester_length, D__law_is_integer, D__law_told, D_Digester_twin, D__law_cell]
def fnL_1 : List He.DefD := [D_Sha512_pieces, D_Sha256_pieces, D__law_pieces, D__law_row, D_digest_size, D_Sha512___init__, D_Sha256___init__, D_law]
def fnL : List He.DefD := fnL_0 ++ fnL_1
def faL_0 : List FaZ := [freeZ "abs", freeZ "all", freeZ "bool", freeZ "enumerate", freeZ "int", freeZ "isinstance", freeZ "len", freeZ "list", freeZ "max", freeZ "min", freeZ "ord", freeZ "range", freeZ "reversed", freeZ "sorted", freeZ "str", freeZ "sum", freeZ "tuple", freeZ "zip", gloZ "_law_cell", gloZ "_law_is_integer", gloZ "_law_no_kind", gloZ "_law_pieces", gloZ "_law_row", gloZ "_law_told", gloZ "block_size", gloZ "check_kind", gloZ "compress_with", gloZ "digest_size", gloZ "first_primes", gloZ "from_big"]
def faL_1 : List FaZ := [gloZ "law", gloZ "length_size", gloZ "padding", gloZ "round_constants", gloZ "schedule", gloZ "start_words", gloZ "to_big", gloZ "to_little", gloZ "whole_cube_root", gloZ "word_bits", aliasZ "digest_digest" "digest", aliasZ "digest_parts_digest" "digest_parts", fun K => (He.Fa.cls "Digester").ok K, fun K => (He.Fa.cls "Sha256").ok K, fun K => (He.Fa.cls "Sha512").ok K, fun K => (He.Fa.noat "Digester" "_constants").ok K, fun K => (He.Fa.noat "Digester" "_kind").ok K, fun K => (He.Fa.noat "Digester" "_length").ok K, fun K => (He.Fa.noat "Digester" "_rest").ok K, fun K => (He.Fa.noat "Digester" "_words").ok K, fun K => (He.Fa.noat "Sha256" "block_size").ok K, fun K => (He.Fa.noat "Sha256" "name").ok K, fun K => (He.Fa.noat "Sha256" "size").ok K, fun K => (He.Fa.noat "Sha512" "block_size").ok K, fun K => (He.Fa.noat "Sha512" "name").ok K, fun K => (He.Fa.noat "Sha512" "size").ok K, fun K => (He.Fa.meth "Digester" "add").ok K, fun K => (He.Fa.meth "Digester" "length").ok K, fun K => (He.Fa.meth "Digester" "make_ready").ok K, fun K => (He.Fa.meth "Digester" "told").ok K]
def faL_2 : List FaZ := [fun K => (He.Fa.meth "Digester" "twin").ok K, fun K => (He.Fa.meth "Sha256" "digest").ok K, fun K => (He.Fa.meth "Sha256" "digest_parts").ok K, fun K => (He.Fa.meth "Sha256" "pieces").ok K, fun K => (He.Fa.meth "Sha512" "digest").ok K, fun K => (He.Fa.meth "Sha512" "digest_parts").ok K, fun K => (He.Fa.meth "Sha512" "pieces").ok K, fun K => (He.Fa.mkr "Digester").ok K, gloZ "Digester", fun K => (He.Fa.mkr "Sha256").ok K, gloZ "Sha256", fun K => (He.Fa.mkr "Sha512").ok K, gloZ "Sha512", kC "MESSAGE_LIMIT" (.int 1048576), kC "WORDS" (.int 8), dictZ "SIZES" d_SIZES, dictZ "TURNS" d_TURNS, builtZ "isqrt" "math.isqrt", gloZ "CurveError", gloZ "OutOfRange", fun K => (He.Fa.exc "OutOfRange").ok K, exmZ clsN m_CurveError "CurveError", isiZ clsN m_OutOfRange "OutOfRange"]
def faL : List FaZ := faL_0 ++ faL_1 ++ faL_2
def looseL_0 : List PySem.Str := ["isqrt", "_wall", "CurveError", "OutOfRange", "to_little", "to_big", "from_big", "SIZES", "TURNS", "WORDS", "check_kind", "word_bits", "block_size", "length_size", "digest_size", "first_primes", "whole_cube_root", "round_constants", "start_words", "schedule", "compress_with", "MESSAGE_LIMIT", "padding", "Digester", "digest", "digest_digest", "digest_parts", "digest_parts_digest", "Sha256", "Sha512"]
def looseL_1 : List PySem.Str := ["_law_cell", "_law_is_integer", "_law_row", "_law_is_row", "_law_pieces", "_law_told", "_law_no_kind"]
def looseL : List PySem.Str := looseL_0 ++ looseL_1
abbrev R : PySem.W.OpenRow := PySem.W.OpenLaw.row PySem.Challenge.rw_curveseal_k36_digests_in_pieces
def dsL : DsT := [("SIZES", d_SIZES), ("TURNS", d_TURNS)]
abbrev hk : PySem.W.Hook := hookY 5 faL fnL dsL
def ob (s : PySem.W.SharedT) : AlZ := obsY 5 faL fnL dsL (HandSHeadRun.getT s)
theorem ob_eq (s : PySem.W.SharedT) : ob s = hk.obs s.abs := obsY_eq (HandSHeadRun.getT_eq s)
def dp_0 : ZH.DSp := ⟨29, 9, .s ["sha256", "sha512"]⟩
set_option maxHeartbeats 0 in
theorem okd_0 : ZH.OkD R.prog dp_0 := ⟨by intro env; kernel_rfl, by intro env; kernel_rfl, by intro env; kernel_rfl, by decide, by decide, by show List.Nodup (["sha256", "sha512"] : List PySem.Str); decide +kernel⟩
def dp_1 : ZH.DSp := ⟨30, 10, .t [["sha256", "sum_zero"], ["sha256", "sum_one"], ["sha256", "turn_zero"], ["sha256", "turn_one"], ["sha512", "sum_zero"], ["sha512", "sum_one"], ["sha512", "turn_zero"], ["sha512", "turn_one"]]⟩
set_option maxHeartbeats 0 in
theorem okd_1 : ZH.OkD R.prog dp_1 := ⟨by intro env; kernel_rfl, by intro env; kernel_rfl, by intro env; kernel_rfl, by decide, by decide, by show List.Nodup ([["sha256", "sum_zero"], ["sha256", "sum_one"], ["sha256", "turn_zero"], ["sha256", "turn_one"], ["sha512", "sum_zero"], ["sha512", "sum_one"], ["sha512", "turn_zero"], ["sha512", "turn_one"]] : List (List PySem.Str)); decide +kernel⟩
def dpL : List ZH.DSp := [dp_0, dp_1]
set_option maxHeartbeats 0 in
theorem run_a (w : World) (t0 e0 : Nat) (p0 : Pos) (f0 : Nat → Nat) (t1 e1 : Nat) (p1 : Pos) (f1 : Nat → Nat) : (ZH.runD R.prog 20000 29 20000 dpL w [⟨t0, e0, p0, f0⟩, ⟨t1, e1, p1, f1⟩]).map ZH.seeL = (ZH.runD R.prog 20000 29 20000 dpL w [⟨t0, e0, p0, f0⟩, ⟨t1, e1, p1, f1⟩]).map ZH.seeR := by
  kernel_rfl
set_option maxHeartbeats 0 in
theorem run_c (w : World) (t0 e0 : Nat) (p0 : Pos) (f0 : Nat → Nat) (t1 e1 : Nat) (p1 : Pos) (f1 : Nat → Nat) : (ZH.runD R.prog 20000 29 20000 dpL w [⟨t0, e0, p0, f0⟩, ⟨t1, e1, p1, f1⟩]).map (fun r => (HandSHeadRun.looksF R.prog r.1.heap r.2.2.2.2.s.abs, HandSHeadRun.seenQ (PySem.W.view R.prog [43]) looseL (PySem.importedModules R.prog.main.body) (fun s => PySem.W.xlAt (PySem.W.view R.prog [43]) [] s && PySem.W.recOk R.toRowW.records s) r.2.2.2.2.s.abs, ob r.2.2.2.2.s)) = some (true, PySem.W.openGood (PySem.W.view R.prog [43]) looseL, hk.val w) := by
  kernel_rfl
theorem left : ZH.LeftI R.prog (PySem.W.view R.prog [43]) looseL (fun s => PySem.W.xlAt (PySem.W.view R.prog [43]) [] s && PySem.W.recOk R.toRowW.records s) hk.obs hk.val 20000 := ZH.left_of (ds := dpL) ⟨okd_0, okd_1, trivial⟩ (fun w us h => match us, h with | [⟨t0, e0, p0, f0⟩, ⟨t1, e1, p1, f1⟩], _ => run_a w t0 e0 p0 f0 t1 e1 p1 f1) (fun w us h => match us, h with | [⟨t0, e0, p0, f0⟩, ⟨t1, e1, p1, f1⟩], _ => run_c w t0 e0 p0 f0 t1 e1 p1 f1) ob_eq
theorem env_of {P : Program} {w : World} {K : PySem.W.Frag} {base h : Heap} {mg : Str → Option Value} (X : K.In h) (G : h.Ns mainGlobals mg) (c : SaysZ faL fnL K) (cd : hashesZ dsL K = hvals dsL w) : Env ⟨P, w, K, mg, base, clsOf K⟩ where
  B := ⟨He.free_ok X G (c.fact 6), He.free_ok X G (c.fact 11), He.free_ok X G (c.fact 0), He.free_ok X G (c.fact 9), He.free_ok X G (c.fact 8), He.free_ok X G (c.fact 4), He.free_ok X G (c.fact 2), He.free_ok X G (c.fact 14), He.free_ok X G (c.fact 7), He.free_ok X G (c.fact 16), He.free_ok X G (c.fact 10), He.free_ok X G (c.fact 15), He.free_ok X G (c.fact 1), He.free_ok X G (c.fact 13), He.free_ok X G (c.fact 17), He.free_ok X G (c.fact 3), He.free_ok X G (c.fact 12), He.free_ok X G (c.fact 5)⟩
  d_check_kind := c.def_ 0 (d := D_check_kind)
  d_word_bits := c.def_ 1 (d := D_word_bits)
  d_to_little := c.def_ 2 (d := D_to_little)
  d_to_big := c.def_ 3 (d := D_to_big)
  d_compress_with := c.def_ 4 (d := D_compress_with)
  d_from_big := c.def_ 5 (d := D_from_big)
  d_block_size := c.def_ 6 (d := D_block_size)
  d_schedule := c.def_ 7 (d := D_schedule)
  d_first_primes := c.def_ 8 (d := D_first_primes)
  d_whole_cube_root := c.def_ 9 (d := D_whole_cube_root)
  d_round_constants := c.def_ 10 (d := D_round_constants)
  d_Digester_make_ready := c.def_ 11 (d := D_Digester_make_ready)
  d_length_size := c.def_ 12 (d := D_length_size)
  d_padding := c.def_ 13 (d := D_padding)
  d_Digester_told := c.def_ 14 (d := D_Digester_told)
  d_Digester_add := c.def_ 15 (d := D_Digester_add)
  d_start_words := c.def_ 16 (d := D_start_words)
  d_Digester___init__ := c.def_ 17 (d := D_Digester___init__)
  d_digest := c.def_ 18 (d := D_digest)
  d_Sha512_digest := c.def_ 19 (d := D_Sha512_digest)
  d_Sha256_digest := c.def_ 20 (d := D_Sha256_digest)
  d__law_no_kind := c.def_ 21 (d := D__law_no_kind)
  d_digest_parts := c.def_ 22 (d := D_digest_parts)
  d_Sha512_digest_parts := c.def_ 23 (d := D_Sha512_digest_parts)
  d_Sha256_digest_parts := c.def_ 24 (d := D_Sha256_digest_parts)
  d_Digester_length := c.def_ 25 (d := D_Digester_length)
  d__law_is_integer := c.def_ 26 (d := D__law_is_integer)
  d__law_told := c.def_ 27 (d := D__law_told)
  d_Digester_twin := c.def_ 28 (d := D_Digester_twin)
  d__law_cell := c.def_ 29 (d := D__law_cell)
  d_Sha512_pieces := c.def_ 30 (d := D_Sha512_pieces)
  d_Sha256_pieces := c.def_ 31 (d := D_Sha256_pieces)
  d__law_pieces := c.def_ 32 (d := D__law_pieces)
  d__law_row := c.def_ 33 (d := D__law_row)
  d_digest_size := c.def_ 34 (d := D_digest_size)
  d_Sha512___init__ := c.def_ 35 (d := D_Sha512___init__)
  d_Sha256___init__ := c.def_ 36 (d := D_Sha256___init__)
  d_law := c.def_ 37 (d := D_law)
  g__law_cell := He.glo_ok X G (c.fact 18)
  g__law_is_integer := He.glo_ok X G (c.fact 19)
  g__law_no_kind := He.glo_ok X G (c.fact 20)
  g__law_pieces := He.glo_ok X G (c.fact 21)
  g__law_row := He.glo_ok X G (c.fact 22)
  g__law_told := He.glo_ok X G (c.fact 23)
  g_block_size := He.glo_ok X G (c.fact 24)
  g_check_kind := He.glo_ok X G (c.fact 25)
  g_compress_with := He.glo_ok X G (c.fact 26)
  g_digest_size := He.glo_ok X G (c.fact 27)
  g_first_primes := He.glo_ok X G (c.fact 28)
  g_from_big := He.glo_ok X G (c.fact 29)
  g_law := He.glo_ok X G (c.fact 30)
  g_length_size := He.glo_ok X G (c.fact 31)
  g_padding := He.glo_ok X G (c.fact 32)
  g_round_constants := He.glo_ok X G (c.fact 33)
  g_schedule := He.glo_ok X G (c.fact 34)
  g_start_words := He.glo_ok X G (c.fact 35)
  g_to_big := He.glo_ok X G (c.fact 36)
  g_to_little := He.glo_ok X G (c.fact 37)
  g_whole_cube_root := He.glo_ok X G (c.fact 38)
  g_word_bits := He.glo_ok X G (c.fact 39)
  a_digest_digest := alias_ok X G (c.fact 40)
  a_digest_parts_digest := alias_ok X G (c.fact 41)
  c_Digester := He.cls_ok (x := "Digester") (c.fact 42)
  c_Sha256 := He.cls_ok (x := "Sha256") (c.fact 43)
  c_Sha512 := He.cls_ok (x := "Sha512") (c.fact 44)
  n_Digester__constants := He.noat_ok (x := "Digester") (c.fact 45)
  n_Digester__kind := He.noat_ok (x := "Digester") (c.fact 46)
  n_Digester__length := He.noat_ok (x := "Digester") (c.fact 47)
  n_Digester__rest := He.noat_ok (x := "Digester") (c.fact 48)
  n_Digester__words := He.noat_ok (x := "Digester") (c.fact 49)
  n_Sha256_block_size := He.noat_ok (x := "Sha256") (c.fact 50)
  n_Sha256_name := He.noat_ok (x := "Sha256") (c.fact 51)
  n_Sha256_size := He.noat_ok (x := "Sha256") (c.fact 52)
  n_Sha512_block_size := He.noat_ok (x := "Sha512") (c.fact 53)
  n_Sha512_name := He.noat_ok (x := "Sha512") (c.fact 54)
  n_Sha512_size := He.noat_ok (x := "Sha512") (c.fact 55)
  me_Digester_add := He.meth_ok (x := "Digester") (c.fact 56)
  me_Digester_length := He.meth_ok (x := "Digester") (c.fact 57)
  me_Digester_make_ready := He.meth_ok (x := "Digester") (c.fact 58)
  me_Digester_told := He.meth_ok (x := "Digester") (c.fact 59)
  me_Digester_twin := He.meth_ok (x := "Digester") (c.fact 60)
  me_Sha256_digest := He.meth_ok (x := "Sha256") (c.fact 61)
  me_Sha256_digest_parts := He.meth_ok (x := "Sha256") (c.fact 62)
  me_Sha256_pieces := He.meth_ok (x := "Sha256") (c.fact 63)
  me_Sha512_digest := He.meth_ok (x := "Sha512") (c.fact 64)
  me_Sha512_digest_parts := He.meth_ok (x := "Sha512") (c.fact 65)
  me_Sha512_pieces := He.meth_ok (x := "Sha512") (c.fact 66)
  mk_Digester := He.mkr_ok (x := "Digester") (c.fact 67)
  gc_Digester := He.glo_ok (x := "Digester") X G (c.fact 68)
  mk_Sha256 := He.mkr_ok (x := "Sha256") (c.fact 69)
  gc_Sha256 := He.glo_ok (x := "Sha256") X G (c.fact 70)
  mk_Sha512 := He.mkr_ok (x := "Sha512") (c.fact 71)
  gc_Sha512 := He.glo_ok (x := "Sha512") X G (c.fact 72)
  k_MESSAGE_LIMIT := kon_cn (Γ := ⟨P, w, K, mg, base, clsOf K⟩) X G (c.fact 73)
  k_WORDS := kon_cn (Γ := ⟨P, w, K, mg, base, clsOf K⟩) X G (c.fact 74)
  kd_SIZES := konD_of (Γ := ⟨P, w, K, mg, base, clsOf K⟩) X G (c.fact 75) (hash_at cd 0)
  kd_TURNS := konD_of (Γ := ⟨P, w, K, mg, base, clsOf K⟩) X G (c.fact 76) (hash_at cd 1)
  b_isqrt := built_ok (x := "isqrt") X G (c.fact 77)
  xo_OutOfRange := exc_of (N := clsN) (fun _ => rfl) (c.fact 80) (He.glo_ok X G (c.fact 79)) rfl
  gx_CurveError := He.glo_ok (x := "CurveError") X G (c.fact 78)
  gx_OutOfRange := He.glo_ok (x := "OutOfRange") X G (c.fact 79)
  xm_CurveError := exm_of (N := clsN) (y := "CurveError") (fun _ => rfl) (c.fact 81) rfl
  xi_OutOfRange := isi_of (N := clsN) (y := "OutOfRange") (fun _ => rfl) (c.fact 82) rfl
/-- the plain law -/
def LAW : Prop := ∀ ns : List Int, ns.length ≤ 63 → (∀ z ∈ ns, Builtin.Int.intBits z ≤ 1048576) → ∃ h', F_law [.ref 0] [.frz (ns.map .int)] = .ok (.bl true) h'
end L_curveseal_k36_digests_in_pieces

/-! P36f: the plain law -/
namespace Z
open L_curveseal_k36_digests_in_pieces
theorem law_holds : LAW := fun ns hn _ => by
  obtain ⟨v, h', e, rfl⟩ := Out.wp_get (law_wp ns hn)
  exact ⟨h', e⟩
end Z

open PySem PySem.W PySem.Calls PyProof.Rows
set_option maxHeartbeats 0 in
theorem PySem.Challenge.cw_curveseal_k36_digests_in_pieces_holds : PySem.Challenge.rw_curveseal_k36_digests_in_pieces.Holds := by
  w_on; o_law
  refine ZH.holds3 (r := OpenLaw.row PySem.Challenge.rw_curveseal_k36_digests_in_pieces) (q := view (OpenLaw.row PySem.Challenge.rw_curveseal_k36_digests_in_pieces).prog [43]) (H := L_curveseal_k36_digests_in_pieces.hk) (loose := L_curveseal_k36_digests_in_pieces.looseL) (d := HandSHeadRun.topDef (OpenLaw.row PySem.Challenge.rw_curveseal_k36_digests_in_pieces).prog 43) (kw := []) (M := 20000) L_curveseal_k36_digests_in_pieces.left (by kernel_rfl) (by kernel_rfl) (by kernel_rfl) (by rfl) (by first | assumption | decide +kernel) (by decide +kernel) ⟨rfl, rfl, rfl, rfl, rfl, by decide +kernel⟩ ?hw ?hc
  case hw => w_witness2
  case hc =>
    refine Z.walk_z (l := PySem.Challenge.rw_curveseal_k36_digests_in_pieces) (n := 63) (k := 8) (x := "_law_script") (F := L_curveseal_k36_digests_in_pieces.F_law) L_curveseal_k36_digests_in_pieces.clsOf rfl (by decide) (by kernel_rfl) ⟨rfl, by decide, by decide⟩ ?F fun ns a b => Z.law_holds ns a b
    intro w mg fa h Y G hmg0
    obtain ⟨K, KX, c, cd⟩ := Y
    have en : (HandSHeadRun.topDef (OpenLaw.row PySem.Challenge.rw_curveseal_k36_digests_in_pieces).prog 43).name = ("law" : PySem.Str) := by kernel_rfl
    have hmg : mg ("law" : PySem.Str) = some (.ref fa) := by
      rw [← en]
      exact hmg0
    have eg := He.glo_ok KX G (c.fact 30 (f := Z.gloZ "law") rfl)
    have efa : fa = He.ga K "law" := by
      have := hmg.symm.trans eg
      cases this
      rfl
    obtain ⟨fd, FD⟩ := c.def_ 37 (d := L_curveseal_k36_digests_in_pieces.D_law) rfl
    subst efa
    have b := FD.bindsA (ps := ["_law_script"]) L_curveseal_k36_digests_in_pieces.cb_law
    refine ⟨K, KX, by rw [en], fd, fun s u => b s [u] rfl, fun base h1 h2 => ?_⟩
    exact (L_curveseal_k36_digests_in_pieces.ok_law (L_curveseal_k36_digests_in_pieces.env_of (P := (PySem.Challenge.rw_curveseal_k36_digests_in_pieces).prog) (w := w) (base := base) KX G c cd)).at FD

