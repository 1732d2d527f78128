import PyProof.Rows.All
import Wide.All
import OpenK.AllK
import Wide.FinOn
import HandS.ForMost
import HandS.ForExc
import HandS.Wide
import HandS.IsInst
import KE.DataEq
import HandS.TupAny
import HandS.ExcIs
import HandS.ExcOwn
import HandS.CallLocal
import HandS.HeadHook2
import HandS.HeadEnd
import KE.KStateDown
import HandS.More
import HandS.Words
import HandS.WordsExc
import HandS.Defaults
import HandS.Head0
import HandS.Head1
import HandS.Head2
import HandS.HeadHook1
import PySem.Challenge.RW_fullpanes_k28_tables_worn
set_option Elab.async false
set_option linter.all false
set_option maxRecDepth 100000
/-! PL1: data in the heap: what a value stands for, what is owned, what is frozen. -/
namespace PL
open PySem PySem.Spec PyProof.Rows L2

abbrev D := PyData

mutual
/-- lists at most n deep (tuples do not count) -/
def fits : Nat → D → Bool
  | n, .tuple ds => fitsL n ds
  | 0, .list _ => false
  | n + 1, .list ds => fitsL n ds
  | 0, .dict _ => false
  | n + 1, .dict ds => fitsP n ds
  | _, _ => true
def fitsL : Nat → List D → Bool
  | _, [] => true
  | n, d :: ds => fits n d && fitsL n ds
def fitsP : Nat → List (D × D) → Bool
  | _, [] => true
  | n, d :: ds => fits n d.2 && fitsP n ds
end

/-- a key of a dict as data -/
def keyD : Key → D
  | .inl i => .int i
  | .inr x => .str x

mutual
/-- v stands for d: tuples lie in H; n levels of lists are owned (they lie in H, their addresses are A), those below are frozen (they lie in G) -/
def Rp (K : PySem.W.Frag) (G H : Hp) : Nat → D → V → List Addr → Prop
  | _, .none, v, A => v = .non ∧ A = []
  | _, .bool b, v, A => v = .bl b ∧ A = []
  | _, .int i, v, A => v = .int i ∧ A = []
  | _, .str x, v, A => v = .str x ∧ A = []
  | n, .tuple ds, v, A => ∃ a vs, v = .ref a ∧ SqT K H a vs ∧ Rps K G H n ds vs A
  | 0, .list ds, v, A => A = [] ∧ ∃ a vs, v = .ref a ∧ SqL K G a vs ∧ Rps K G H 0 ds vs []
  | n + 1, .list ds, v, A => ∃ a vs B, v = .ref a ∧ H a = some (.lst vs) ∧ Rps K G H n ds vs B ∧ A = a :: B
  | 0, .dict kvs, v, A => A = [] ∧ ∃ a, v = .ref a ∧ ((kvs = [(.none, .none)] ∧ ∃ u, G a = some (.dK u)) ∨ ∃ ws, G a = some (.dT ws) ∧ Rpd K G H 0 kvs ws [])
  | n + 1, .dict kvs, v, A => ∃ a ws B, v = .ref a ∧ H a = some (.dT ws) ∧ Rpd K G H n kvs ws B ∧ A = a :: B
def Rps (K : PySem.W.Frag) (G H : Hp) : Nat → List D → List V → List Addr → Prop
  | _, [], vs, A => vs = [] ∧ A = []
  | n, d :: ds, vs, A => ∃ v r A1 A2, vs = v :: r ∧ Rp K G H n d v A1 ∧ Rps K G H n ds r A2 ∧ A = A1 ++ A2
def Rpd (K : PySem.W.Frag) (G H : Hp) : Nat → List (D × D) → List (List Key × V) → List Addr → Prop
  | _, [], ws, A => ws = [] ∧ A = []
  | n, p :: ps, ws, A => ∃ ks v r A1 A2, ws = (ks, v) :: r ∧ p.1 = .tuple (ks.map keyD) ∧ Rp K G H n p.2 v A1 ∧ Rpd K G H n ps r A2 ∧ A = A1 ++ A2
end

/-- tuples stay -/
def Tups (H H' : Hp) : Prop := ∀ a xs, Rd H a (.tup xs) → Rd H' a (.tup xs)
theorem Tups.refl (H : Hp) : Tups H H := fun _ _ h => h
theorem Tups.trans {H H1 H2 : Hp} (a : Tups H H1) (b : Tups H1 H2) : Tups H H2 := fun c o h => b c o (a c o h)
theorem _root_.L2.Same.rd {H H' : Hp} (s : Same H H') {a : Addr} {u : HO} (h : Rd H a u) : Rd H' a u := by
  rcases h with h | ⟨o, h⟩
  · exact .inl (s _ _ h)
  · exact .inr ⟨o, s _ _ h⟩
theorem _root_.L2.Same.tups {H H' : Hp} (s : Same H H') : Tups H H' := fun _ _ h => s.rd h
theorem Tups.sq {K : PySem.W.Frag} {H H' : Hp} (t : Tups H H') {a : Addr} {xs : List V} (h : SqT K H a xs) : SqT K H' a xs := by
  rcases h with h | h
  · exact .inl (t _ _ h)
  · exact .inr h
/-- what is at A stays -/
def Stays (A : List Addr) (H H' : Hp) : Prop := ∀ a ∈ A, ∀ o, H a = some o → H' a = some o
theorem Stays.of_same {A : List Addr} {H H' : Hp} (s : Same H H') : Stays A H H' := fun a _ o h => s a o h
theorem Stays.left {A B : List Addr} {H H' : Hp} (s : Stays (A ++ B) H H') : Stays A H H' := fun a h => s a (List.mem_append_left _ h)
theorem Stays.right {A B : List Addr} {H H' : Hp} (s : Stays (A ++ B) H H') : Stays B H H' := fun a h => s a (List.mem_append_right _ h)

section
variable {K : PySem.W.Frag} {G G' H H' : Hp}
mutual
theorem Rp.mono (t : Tups H H') (g : Same G G') : ∀ (d : D) {n : Nat} {v : V} {A : List Addr}, Stays A H H' → Rp K G H n d v A → Rp K G' H' n d v A
  | .none, n, v, A, s, h => by simpa only [Rp] using h
  | .bool b, n, v, A, s, h => by simpa only [Rp] using h
  | .int i, n, v, A, s, h => by simpa only [Rp] using h
  | .str x, n, v, A, s, h => by simpa only [Rp] using h
  | .tuple ds, n, v, A, s, h => by
    simp only [Rp] at h ⊢
    obtain ⟨a, vs, e, q, r⟩ := h
    exact ⟨a, vs, e, t.sq q, Rps.mono t g ds s r⟩
  | .list ds, 0, v, A, s, h => by
    simp only [Rp] at h ⊢
    obtain ⟨eA, a, vs, e, q, r⟩ := h
    exact ⟨eA, a, vs, e, g.seq q, Rps.mono t g ds (fun a h => by simp at h) r⟩
  | .list ds, n + 1, v, A, s, h => by
    simp only [Rp] at h ⊢
    obtain ⟨a, vs, B, e, q, r, eA⟩ := h
    subst eA
    exact ⟨a, vs, B, e, s a (by simp) _ q, Rps.mono t g ds (fun b hb => s b (by simp [hb])) r, rfl⟩
  | .dict ds, 0, v, A, s, h => by
    simp only [Rp] at h ⊢
    obtain ⟨eA, a, e, q⟩ := h
    refine ⟨eA, a, e, ?_⟩
    rcases q with ⟨q, u, q2⟩ | ⟨ws, q, r⟩
    · exact .inl ⟨q, u, g _ _ q2⟩
    · exact .inr ⟨ws, g _ _ q, Rpd.mono t g ds (fun a h => by simp at h) r⟩
  | .dict ds, n + 1, v, A, s, h => by
    simp only [Rp] at h ⊢
    obtain ⟨a, vs, B, e, q, r, eA⟩ := h
    subst eA
    exact ⟨a, vs, B, e, s a (by simp) _ q, Rpd.mono t g ds (fun b hb => s b (by simp [hb])) r, rfl⟩
theorem Rps.mono (t : Tups H H') (g : Same G G') : ∀ (ds : List D) {n : Nat} {vs : List V} {A : List Addr}, Stays A H H' → Rps K G H n ds vs A → Rps K G' H' n ds vs A
  | [], n, vs, A, s, h => by simpa only [Rps] using h
  | d :: ds, n, vs, A, s, h => by
    simp only [Rps] at h ⊢
    obtain ⟨v, r, A1, A2, e, h1, h2, eA⟩ := h
    subst eA
    exact ⟨v, r, A1, A2, e, Rp.mono t g d s.left h1, Rps.mono t g ds s.right h2, rfl⟩
theorem Rpd.mono (t : Tups H H') (g : Same G G') : ∀ (ds : List (D × D)) {n : Nat} {vs : List (List Key × V)} {A : List Addr}, Stays A H H' → Rpd K G H n ds vs A → Rpd K G' H' n ds vs A
  | [], n, vs, A, s, h => by simpa only [Rpd] using h
  | (k, d) :: ds, n, vs, A, s, h => by
    simp only [Rpd] at h ⊢
    obtain ⟨ks, v, r, A1, A2, e, ek, h1, h2, eA⟩ := h
    subst eA
    exact ⟨ks, v, r, A1, A2, e, ek, Rp.mono t g d s.left h1, Rpd.mono t g ds s.right h2, rfl⟩
end

/-- a list or a dict, which may be changed -/
def IsOwn (H : Hp) (a : Addr) : Prop := (∃ vs, H a = some (.lst vs)) ∨ ∃ ws, H a = some (.dT ws)
mutual
theorem Rp.own : ∀ (d : D) {n : Nat} {v : V} {A : List Addr}, Rp K G H n d v A → ∀ a ∈ A, IsOwn H a
  | .none, n, v, A, h => by simp only [Rp] at h; intro a ha; rw [h.2] at ha; simp at ha
  | .bool b, n, v, A, h => by simp only [Rp] at h; intro a ha; rw [h.2] at ha; simp at ha
  | .int i, n, v, A, h => by simp only [Rp] at h; intro a ha; rw [h.2] at ha; simp at ha
  | .str x, n, v, A, h => by simp only [Rp] at h; intro a ha; rw [h.2] at ha; simp at ha
  | .tuple ds, n, v, A, h => by
    simp only [Rp] at h
    obtain ⟨a, vs, e, q, r⟩ := h
    exact Rps.own ds r
  | .list ds, 0, v, A, h => by simp only [Rp] at h; intro a ha; rw [h.1] at ha; simp at ha
  | .list ds, n + 1, v, A, h => by
    simp only [Rp] at h
    obtain ⟨a, vs, B, e, q, r, eA⟩ := h
    subst eA
    intro b hb
    rcases List.mem_cons.mp hb with rfl | hb
    · exact .inl ⟨_, q⟩
    · exact Rps.own ds r b hb
  | .dict ds, 0, v, A, h => by simp only [Rp] at h; intro a ha; rw [h.1] at ha; simp at ha
  | .dict ds, n + 1, v, A, h => by
    simp only [Rp] at h
    obtain ⟨a, vs, B, e, q, r, eA⟩ := h
    subst eA
    intro b hb
    rcases List.mem_cons.mp hb with rfl | hb
    · exact .inr ⟨_, q⟩
    · exact Rpd.own ds r b hb
theorem Rps.own : ∀ (ds : List D) {n : Nat} {vs : List V} {A : List Addr}, Rps K G H n ds vs A → ∀ a ∈ A, IsOwn H a
  | [], n, vs, A, h => by simp only [Rps] at h; intro a ha; rw [h.2] at ha; simp at ha
  | d :: ds, n, vs, A, h => by
    simp only [Rps] at h
    obtain ⟨v, r, A1, A2, e, h1, h2, eA⟩ := h
    subst eA
    intro b hb
    rcases List.mem_append.mp hb with hb | hb
    · exact Rp.own d h1 b hb
    · exact Rps.own ds h2 b hb
theorem Rpd.own : ∀ (ds : List (D × D)) {n : Nat} {vs : List (List Key × V)} {A : List Addr}, Rpd K G H n ds vs A → ∀ a ∈ A, IsOwn H a
  | [], n, vs, A, h => by simp only [Rpd] at h; intro a ha; rw [h.2] at ha; simp at ha
  | (k, d) :: ds, n, vs, A, h => by
    simp only [Rpd] at h
    obtain ⟨ks, v, r, A1, A2, e, ek, h1, h2, eA⟩ := h
    subst eA
    intro b hb
    rcases List.mem_append.mp hb with hb | hb
    · exact Rp.own d h1 b hb
    · exact Rpd.own ds h2 b hb
end

mutual
/-- all that is owned is frozen: in a heap that holds both -/
theorem Rp.view (g : Same G G') : ∀ (d : D) {n : Nat} {v : V} {A : List Addr}, Stays A H G' → Rp K G H n d v A → Rp K G' H 0 d v []
  | .none, n, v, A, s, h => by simp only [Rp] at h ⊢; exact ⟨h.1, by trivial⟩
  | .bool b, n, v, A, s, h => by simp only [Rp] at h ⊢; exact ⟨h.1, by trivial⟩
  | .int i, n, v, A, s, h => by simp only [Rp] at h ⊢; exact ⟨h.1, by trivial⟩
  | .str x, n, v, A, s, h => by simp only [Rp] at h ⊢; exact ⟨h.1, by trivial⟩
  | .tuple ds, n, v, A, s, h => by
    simp only [Rp] at h ⊢
    obtain ⟨a, vs, e, q, r⟩ := h
    exact ⟨a, vs, e, q, Rps.view g ds s r⟩
  | .list ds, 0, v, A, s, h => by
    simp only [Rp] at h ⊢
    obtain ⟨eA, a, vs, e, q, r⟩ := h
    exact ⟨by trivial, a, vs, e, g.seq q, Rps.view g ds (fun a h => by simp at h) r⟩
  | .list ds, n + 1, v, A, s, h => by
    simp only [Rp] at h ⊢
    obtain ⟨a, vs, B, e, q, r, eA⟩ := h
    subst eA
    exact ⟨by trivial, a, vs, e, .of (s a (by simp) _ q), Rps.view g ds (fun b hb => s b (by simp [hb])) r⟩
  | .dict ds, 0, v, A, s, h => by
    simp only [Rp] at h ⊢
    obtain ⟨eA, a, e, q⟩ := h
    refine ⟨by trivial, a, e, ?_⟩
    rcases q with ⟨q, u, q2⟩ | ⟨ws, q, r⟩
    · exact .inl ⟨q, u, g _ _ q2⟩
    · exact .inr ⟨ws, g _ _ q, Rpd.view g ds (fun a h => by simp at h) r⟩
  | .dict ds, n + 1, v, A, s, h => by
    simp only [Rp] at h ⊢
    obtain ⟨a, ws, B, e, q, r, eA⟩ := h
    subst eA
    exact ⟨by trivial, a, e, .inr ⟨ws, s a (by simp) _ q, Rpd.view g ds (fun b hb => s b (by simp [hb])) r⟩⟩
theorem Rps.view (g : Same G G') : ∀ (ds : List D) {n : Nat} {vs : List V} {A : List Addr}, Stays A H G' → Rps K G H n ds vs A → Rps K G' H 0 ds vs []
  | [], n, vs, A, s, h => by simp only [Rps] at h ⊢; exact ⟨h.1, by trivial⟩
  | d :: ds, n, vs, A, s, h => by
    simp only [Rps] at h ⊢
    obtain ⟨v, r, A1, A2, e, h1, h2, eA⟩ := h
    subst eA
    exact ⟨v, r, [], [], e, Rp.view g d s.left h1, Rps.view g ds s.right h2, rfl⟩
theorem Rpd.view (g : Same G G') : ∀ (ds : List (D × D)) {n : Nat} {vs : List (List Key × V)} {A : List Addr}, Stays A H G' → Rpd K G H n ds vs A → Rpd K G' H 0 ds vs []
  | [], n, vs, A, s, h => by simp only [Rpd] at h ⊢; exact ⟨h.1, by trivial⟩
  | (k, d) :: ds, n, vs, A, s, h => by
    simp only [Rpd] at h ⊢
    obtain ⟨ks, v, r, A1, A2, e, ek, h1, h2, eA⟩ := h
    subst eA
    exact ⟨ks, v, r, [], [], e, ek, Rp.view g d s.left h1, Rpd.view g ds s.right h2, rfl⟩
end

mutual
/-- nothing frozen within: whatever is frozen -/
theorem Rp.fit : ∀ (d : D) {n : Nat} {v : V} {A : List Addr}, fits n d = true → Rp K G H n d v A → Rp K G' H n d v A
  | .none, n, v, A, s, h => by simpa only [Rp] using h
  | .bool b, n, v, A, s, h => by simpa only [Rp] using h
  | .int i, n, v, A, s, h => by simpa only [Rp] using h
  | .str x, n, v, A, s, h => by simpa only [Rp] using h
  | .tuple ds, n, v, A, s, h => by
    simp only [Rp, fits] at h s ⊢
    obtain ⟨a, vs, e, q, r⟩ := h
    exact ⟨a, vs, e, q, Rps.fit ds s r⟩
  | .list ds, 0, v, A, s, h => by simp only [fits] at s; cases s
  | .list ds, n + 1, v, A, s, h => by
    simp only [Rp, fits] at h s ⊢
    obtain ⟨a, vs, B, e, q, r, eA⟩ := h
    exact ⟨a, vs, B, e, q, Rps.fit ds s r, eA⟩
  | .dict ds, 0, v, A, s, h => by simp only [fits] at s; cases s
  | .dict ds, n + 1, v, A, s, h => by
    simp only [Rp, fits] at h s ⊢
    obtain ⟨a, vs, B, e, q, r, eA⟩ := h
    exact ⟨a, vs, B, e, q, Rpd.fit ds s r, eA⟩
theorem Rps.fit : ∀ (ds : List D) {n : Nat} {vs : List V} {A : List Addr}, fitsL n ds = true → Rps K G H n ds vs A → Rps K G' H n ds vs A
  | [], n, vs, A, s, h => by simpa only [Rps] using h
  | d :: ds, n, vs, A, s, h => by
    simp only [Rps, fitsL, Bool.and_eq_true] at h s ⊢
    obtain ⟨v, r, A1, A2, e, h1, h2, eA⟩ := h
    exact ⟨v, r, A1, A2, e, Rp.fit d s.1 h1, Rps.fit ds s.2 h2, eA⟩
theorem Rpd.fit : ∀ (ds : List (D × D)) {n : Nat} {vs : List (List Key × V)} {A : List Addr}, fitsP n ds = true → Rpd K G H n ds vs A → Rpd K G' H n ds vs A
  | [], n, vs, A, s, h => by simpa only [Rpd] using h
  | (k, d) :: ds, n, vs, A, s, h => by
    simp only [Rpd, fitsP, Bool.and_eq_true] at h s ⊢
    obtain ⟨ks, v, r, A1, A2, e, ek, h1, h2, eA⟩ := h
    exact ⟨ks, v, r, A1, A2, e, ek, Rp.fit d s.1 h1, Rpd.fit ds s.2 h2, eA⟩
end
mutual
/-- no list within: nothing owned, nothing frozen -/
theorem Rp.flat : ∀ (d : D) {n m : Nat} {v : V} {A : List Addr}, fits 0 d = true → Rp K G H n d v A → A = [] ∧ Rp K G' H m d v []
  | .none, n, m, v, A, s, h => by simp only [Rp] at h ⊢; exact ⟨h.2, h.1, by trivial⟩
  | .bool b, n, m, v, A, s, h => by simp only [Rp] at h ⊢; exact ⟨h.2, h.1, by trivial⟩
  | .int i, n, m, v, A, s, h => by simp only [Rp] at h ⊢; exact ⟨h.2, h.1, by trivial⟩
  | .str x, n, m, v, A, s, h => by simp only [Rp] at h ⊢; exact ⟨h.2, h.1, by trivial⟩
  | .tuple ds, n, m, v, A, s, h => by
    simp only [Rp, fits] at h s ⊢
    obtain ⟨a, vs, e, q, r⟩ := h
    obtain ⟨eA, r'⟩ := Rps.flat ds s r
    exact ⟨eA, a, vs, e, q, r'⟩
  | .list ds, n, m, v, A, s, h => by simp only [fits] at s; cases s
  | .dict ds, n, m, v, A, s, h => by simp only [fits] at s; cases s
theorem Rps.flat : ∀ (ds : List D) {n m : Nat} {vs : List V} {A : List Addr}, fitsL 0 ds = true → Rps K G H n ds vs A → A = [] ∧ Rps K G' H m ds vs []
  | [], n, m, vs, A, s, h => by simp only [Rps] at h ⊢; exact ⟨h.2, h.1, by trivial⟩
  | d :: ds, n, m, vs, A, s, h => by
    simp only [Rps, fitsL, Bool.and_eq_true] at h s ⊢
    obtain ⟨v, r, A1, A2, e, h1, h2, eA⟩ := h
    obtain ⟨e1, r1⟩ := Rp.flat (m := m) d s.1 h1
    obtain ⟨e2, r2⟩ := Rps.flat (m := m) ds s.2 h2
    subst e1 e2
    exact ⟨eA, v, r, [], [], e, r1, r2, rfl⟩
end

theorem Rps.length : ∀ {ds : List D} {n : Nat} {vs : List V} {A : List Addr}, Rps K G H n ds vs A → ds.length = vs.length
  | [], n, vs, A, h => by simp only [Rps] at h; rw [h.1]; rfl
  | d :: ds, n, vs, A, h => by
    simp only [Rps] at h
    obtain ⟨v, r, A1, A2, e, h1, h2, eA⟩ := h
    rw [e, List.length_cons, List.length_cons, Rps.length h2]
mutual
theorem Rp.nil : ∀ (d : D) {v : V} {A : List Addr}, Rp K G H 0 d v A → A = []
  | .none, v, A, h => by simp only [Rp] at h; exact h.2
  | .bool b, v, A, h => by simp only [Rp] at h; exact h.2
  | .int i, v, A, h => by simp only [Rp] at h; exact h.2
  | .str x, v, A, h => by simp only [Rp] at h; exact h.2
  | .list ds, v, A, h => by simp only [Rp] at h; exact h.1
  | .dict ds, v, A, h => by simp only [Rp] at h; exact h.1
  | .tuple ds, v, A, h => by
    simp only [Rp] at h
    obtain ⟨a, vs, e, q, r⟩ := h
    exact Rps.nil ds r
theorem Rps.nil : ∀ (ds : List D) {vs : List V} {A : List Addr}, Rps K G H 0 ds vs A → A = []
  | [], vs, A, h => by simp only [Rps] at h; exact h.2
  | d :: ds, vs, A, h => by
    simp only [Rps] at h
    obtain ⟨v, r, A1, A2, e, h1, h2, eA⟩ := h
    rw [eA, Rp.nil d h1, Rps.nil ds h2]
    rfl
end
end
end PL

set_option maxRecDepth 100000
/-! PL2: expressions that change nothing: what they tell as data. -/
namespace PL
open PySem PySem.Spec PyProof.Rows L2

/-- what comes: nothing known, an own error of the class so named, a value -/
inductive Rs (α : Type) where
  | no
  | ex (c : Str)
  | ok (a : α)
def Rs.bind {α β : Type} : Rs α → (α → Rs β) → Rs β
  | .no, _ => .no
  | .ex c, _ => .ex c
  | .ok a, f => f a
theorem Rs.bind_ok {α β : Type} (a : α) (f : α → Rs β) : (Rs.ok a).bind f = f a := rfl
theorem Rs.bind_ex {α β : Type} (c : Str) (f : α → Rs β) : (Rs.ex c).bind f = .ex c := rfl
theorem Rs.bind_no {α β : Type} (f : α → Rs β) : Rs.no.bind f = .no := rfl

abbrev VS := List (Option D)
def SV (K : PySem.W.Frag) (G H : Hp) (s : VS) (σ : L2.St) : Prop := s.length = σ.length ∧ ∀ (i : Nat) (d : D), s[i]? = some (some d) → ∃ v, σ[i]? = some (some v) ∧ Rp K G H 0 d v []

structure Evl (G H G' H' : Hp) : Prop where
  hh : Same H H'
  gg : Same G G'
  gh : Same G' H'
  nw : ∀ a, G' a ≠ none → G a ≠ none ∨ H a = none
theorem Evl.refl {G H : Hp} (g : Same G H) : Evl G H G H := ⟨Same.refl _, Same.refl _, g, fun a h => .inl h⟩
theorem Evl.trans {G H G1 H1 G2 H2 : Hp} (a : Evl G H G1 H1) (b : Evl G1 H1 G2 H2) : Evl G H G2 H2 :=
  ⟨a.hh.trans b.hh, a.gg.trans b.gg, b.gh, fun c h => by
    rcases b.nw c h with q | q
    · exact a.nw c q
    · exact .inr (a.hh.free q)⟩
/-- new objects, none frozen -/
structure Fr (H G' : Hp) (A : List Addr) : Prop where
  nd : A.Nodup
  nw : ∀ a ∈ A, H a = none ∧ G' a = none
theorem Fr.nil {H G : Hp} : Fr H G [] := ⟨List.nodup_nil, fun a h => by simp at h⟩

/-- what is wanted of a value r that comes -/
def VP (K : PySem.W.Frag) (G H : Hp) (n : Nat) (r : D) (Q : VK) : Prop := ∀ v H' G' A, Evl G H G' H' → Rp K G' H' n r v A → Fr H G' A → Q v H'
def vPost (K : PySem.W.Frag) (ρ : Str → Addr) (E : XK) (G H : Hp) (n : Nat) (Q : VK) : Rs D → Prop
  | .no => False
  | .ex c => ∀ H', Same H H' → E (.ref (ρ c)) none H'
  | .ok r => VP K G H n r Q
/-- the reading of an expression that tells d s, of the slots' data s -/
def TV (K : PySem.W.Frag) (ρ : Str → Addr) (E : XK) (n : Nat) (d : VS → Rs D) : TE := fun σ H Q => ∃ G s, Same G H ∧ SV K G H s σ ∧ vPost K ρ E G H n Q (d s)
/-- .. of a test -/
def TVt (K : PySem.W.Frag) (ρ : Str → Addr) (E : XK) (d : VS → Rs D) : TT := fun σ H Q => ∃ G s, Same G H ∧ SV K G H s σ ∧
  match d s with
  | .no => False
  | .ex c => ∀ H', Same H H' → E (.ref (ρ c)) none H'
  | .ok (.bool b) => ∀ H' G', Evl G H G' H' → Q b H'
  | .ok _ => False
/-- .. of arguments -/
def TVa (K : PySem.W.Frag) (ρ : Str → Addr) (E : XK) (n : Nat) (d : VS → Rs (List D)) : TA := fun σ H Q => ∃ G s, Same G H ∧ SV K G H s σ ∧
  match d s with
  | .no => False
  | .ex c => ∀ H', Same H H' → E (.ref (ρ c)) none H'
  | .ok r => ∀ vs H' G' A, Evl G H G' H' → Rps K G' H' n r vs A → Fr H G' A → Q vs H'

theorem SV.evl {K : PySem.W.Frag} {G H G' H' : Hp} {s : VS} {σ : L2.St} (h : SV K G H s σ) (e : Evl G H G' H') : SV K G' H' s σ :=
  ⟨h.1, fun i d hi => by
    obtain ⟨v, e1, r⟩ := h.2 i d hi
    exact ⟨v, e1, Rp.mono e.hh.tups e.gg d (fun a h => by simp at h) r⟩⟩

theorem Fr.app {G1 H H1 G2 : Hp} {A B : List Addr} (a : Fr H G1 A) (b : Fr H1 G2 B) (hh : Same H H1) (own : ∀ x ∈ A, H1 x ≠ none) (e : ∀ x, G2 x ≠ none → G1 x ≠ none ∨ H1 x = none) : Fr H G2 (A ++ B) := by
  refine ⟨List.nodup_append.mpr ⟨a.nd, b.nd, fun x hx y hy => ?_⟩, fun x hx => ?_⟩
  · rintro rfl
    exact own x hx (b.nw x hy).1
  · rcases List.mem_append.mp hx with hx | hx
    · refine ⟨(a.nw x hx).1, ?_⟩
      cases q : G2 x with
      | none => rfl
      | some o =>
        rcases e x (by rw [q]; intro z; cases z) with z | z
        · exact absurd (a.nw x hx).2 z
        · exact absurd z (own x hx)
    · exact ⟨hh.free (b.nw x hx).1, (b.nw x hx).2⟩
theorem IsOwn.some {H : Hp} {a : Addr} (h : IsOwn H a) : H a ≠ none := by
  rcases h with ⟨_, h⟩ | ⟨_, h⟩ <;> rw [h] <;> intro z <;> cases z

theorem PE.of {X : Cx} {e : Expr} {t t' : TE} (h : PE X e t) (i : ∀ σ H Q, t' σ H Q → t σ H Q) : PE X e t' := ⟨fun pins s σ H Q I q => h.run pins s σ H Q I (i _ _ _ q)⟩
theorem PT.of {X : Cx} {e : Expr} {t t' : TT} (h : PT X e t) (i : ∀ σ H Q, t' σ H Q → t σ H Q) : PT X e t' := ⟨fun pins s σ H Q I q => h.run pins s σ H Q I (i _ _ _ q)⟩
theorem PW.of {X : Cx} {e : Expr} {t t' : TT} (h : PW X e t) (i : ∀ σ H Q, t' σ H Q → t σ H Q) : PW X e t' := ⟨fun wh pins s σ H Q I q => h.run wh pins s σ H Q I (i _ _ _ q)⟩
theorem PA.of {X : Cx} {e : List Expr} {t t' : TA} (h : PA X e t) (i : ∀ σ H Q, t' σ H Q → t σ H Q) : PA X e t' := ⟨fun pos pins s σ H Q I q => h.run pos pins s σ H Q I (i _ _ _ q)⟩
theorem PE.or {X : Cx} {e : Expr} {t t' : TE} (h : PE X e t) (h' : PE X e t') : PE X e (fun σ H Q => t σ H Q ∨ t' σ H Q) := ⟨fun pins s σ H Q I q => by
  rcases q with q | q
  · exact h.run pins s σ H Q I q
  · exact h'.run pins s σ H Q I q⟩
theorem OpR.of {X : Cx} {f : Value → Value → Sem Value} {r r' : R2} (h : OpR X f r) (i : ∀ x y H Q, r' x y H Q → r x y H Q) : OpR X f r' := fun pins s σ H x y v u Q I rx ry q => h pins s σ H x y v u Q I rx ry (i _ _ _ _ q)
theorem UnR.of {X : Cx} {f : Value → Sem Value} {r r' : V → Hp → VK → Prop} (h : UnR X f r) (i : ∀ x H Q, r' x H Q → r x H Q) : UnR X f r' := fun pins s σ H x v Q I rx q => h pins s σ H x v Q I rx (i _ _ _ q)
theorem CallR.of {X : Cx} {f : Value} {r r' : List V → Hp → VK → Prop} (h : CallR X f r) (i : ∀ x H Q, r' x H Q → r x H Q) : CallR X f r' := fun pins s σ H x v Q I rx q => h pins s σ H x v Q I rx (i _ _ _ q)

section
variable {K : PySem.W.Frag} {ρ : Str → Addr} {E : XK} {G H : Hp} {σ : L2.St} {Q : VK} {n : Nat}
/-! ### a fresh value is frozen -/
/-- G with what H holds at A -/
def plus (G H : Hp) (A : List Addr) : Hp := fun a => if a ∈ A then H a else G a
theorem plus_in {G H : Hp} {A : List Addr} {a : Addr} (h : a ∈ A) : plus G H A a = H a := by unfold plus; rw [if_pos h]
theorem plus_out {G H : Hp} {A : List Addr} {a : Addr} (h : a ∉ A) : plus G H A a = G a := by unfold plus; rw [if_neg h]
theorem plus_same {G H : Hp} {A : List Addr} (g : Same G H) : Same (plus G H A) H := fun a o h => by
  by_cases q : a ∈ A
  · rw [plus_in q] at h; exact h
  · rw [plus_out q] at h; exact g a o h
theorem same_plus {G H : Hp} {A : List Addr} (n : ∀ a ∈ A, G a = none) : Same G (plus G H A) := fun a o h => by
  have q : a ∉ A := fun z => by rw [n a z] at h; cases h
  rw [plus_out q]; exact h
theorem VP.weak {r : D} {m : Nat} (h : VP K G H 0 r Q) : VP K G H m r Q := fun v H' G' A e rp fr => by
  refine h v H' (plus G' H' A) [] ⟨e.hh, e.gg.trans (same_plus fun a ha => (fr.nw a ha).2), plus_same e.gh, fun a ha => ?_⟩ ?_ Fr.nil
  · by_cases q : a ∈ A
    · exact .inr (fr.nw a q).1
    · rw [plus_out q] at ha; exact e.nw a ha
  · exact Rp.view (same_plus fun a ha => (fr.nw a ha).2) r (fun a ha o ho => by rw [plus_in ha]; exact ho) rp
theorem tv_weak {m : Nat} {d : VS → Rs D} (h : TV K ρ E 0 d σ H Q) : TV K ρ E m d σ H Q := by
  obtain ⟨G, s, g, sv, p⟩ := h
  refine ⟨G, s, g, sv, ?_⟩
  cases q : d s with
  | no => rw [q] at p; exact p
  | ex c => rw [q] at p; exact p
  | ok r => rw [q] at p; exact VP.weak p
theorem pv_weak {X : Cx} {e : Expr} {m : Nat} {d : VS → Rs D} (h : PE X e (TV X.K ρ E m d)) : PE X e (TV X.K ρ E 0 d) := PE.of h fun _ _ _ q => tv_weak q
/-- data without lists is fresh and owned as one likes -/
def vFlat (d : VS → Rs D) : VS → Rs D := fun s => (d s).bind fun r => if fits 0 r = true then .ok r else .no
theorem VP.flat {r : D} {m k : Nat} (f : fits 0 r = true) (h : VP K G H m r Q) : VP K G H k r Q := fun v H' G' A e rp fr => by
  obtain ⟨_, q⟩ := Rp.flat (G' := G') (m := m) r f rp
  exact h v H' G' [] e q Fr.nil
theorem tv_flat {m k : Nat} {d : VS → Rs D} (h : TV K ρ E m (vFlat d) σ H Q) : TV K ρ E k d σ H Q := by
  obtain ⟨G, s, g, sv, p⟩ := h
  refine ⟨G, s, g, sv, ?_⟩
  unfold vFlat at p
  cases q : d s with
  | no => rw [q] at p; exact p
  | ex c => rw [q] at p; exact p
  | ok r =>
    rw [q] at p
    dsimp only [Rs.bind] at p
    by_cases f : fits 0 r = true
    · rw [if_pos f] at p; exact VP.flat f p
    · rw [if_neg f] at p; exact p.elim
theorem pv_flat {X : Cx} {e : Expr} {m k : Nat} {d : VS → Rs D} (h : PE X e (TV X.K ρ E m d)) : PE X e (TV X.K ρ E k (vFlat d)) := PE.of h fun _ _ _ q => tv_flat q

/-! ### names and constants -/
def vName (i : Nat) : VS → Rs D := fun s => match s[i]? with | some (some d) => .ok d | _ => .no
def vC (d : D) : VS → Rs D := fun _ => .ok d
theorem pv_name {X : Cx} {x : Str} {pos : Pos} (i : Nat) (hN : X.N[i]? = some x := by rfl) (hv : Vis X.env.scope x := by first | exact Or.inl rfl | exact Or.inr (Or.inl rfl) | exact Or.inr (Or.inr rfl)) (hd : (x == ("__debug__" : Str)) = false := by decide)
    (hcd : (x == ("__classdict__" : Str)) = false := by decide) : PE X (.Name x pos) (TV X.K ρ E 0 (vName i)) := PE.of (pe_var hN hv hd hcd) fun σ H Q h => by
  obtain ⟨G, s, g, sv, p⟩ := h
  unfold vName at p
  cases q : s[i]? with
  | none => rw [q] at p; exact p.elim
  | some o =>
    rw [q] at p
    cases o with
    | none => exact p.elim
    | some d =>
      obtain ⟨v, e, r⟩ := sv.2 i d q
      exact ⟨v, e, p v H G [] (Evl.refl g) r Fr.nil⟩
theorem tv_c {v : V} {d : D} (r : ∀ G H, Rp K G H n d v []) (h : TV K ρ E n (vC d) σ H Q) : tC v σ H Q := by
  obtain ⟨G, s, g, sv, p⟩ := h
  exact p v H G [] (Evl.refl g) (r _ _) Fr.nil
theorem rp_int (i : Int) (G H : Hp) : Rp K G H n (.int i) (.int i) [] := by simp only [Rp]; exact ⟨by trivial, by trivial⟩
theorem rp_bool (i : Bool) (G H : Hp) : Rp K G H n (.bool i) (.bl i) [] := by simp only [Rp]; exact ⟨by trivial, by trivial⟩
theorem rp_str (i : Str) (G H : Hp) : Rp K G H n (.str i) (.str i) [] := by simp only [Rp]; exact ⟨by trivial, by trivial⟩
theorem rp_none (G H : Hp) : Rp K G H n .none .non [] := by simp only [Rp]; exact ⟨by trivial, by trivial⟩
theorem pv_int {X : Cx} {i j pos} : PE X (.Constant (.int i) j pos) (TV X.K ρ E n (vC (.int i))) := PE.of pe_int fun _ _ _ h => tv_c (rp_int i) h
theorem pv_bool {X : Cx} {i j pos} : PE X (.Constant (.bool i) j pos) (TV X.K ρ E n (vC (.bool i))) := PE.of pe_bl fun _ _ _ h => tv_c (rp_bool i) h
theorem pv_str {X : Cx} {i j pos} : PE X (.Constant (.str i) j pos) (TV X.K ρ E n (vC (.str i))) := PE.of pe_str fun _ _ _ h => tv_c (rp_str i) h
theorem pv_none {X : Cx} {j pos} : PE X (.Constant .none j pos) (TV X.K ρ E n (vC .none)) := PE.of pe_non fun _ _ _ h => tv_c (fun G H => rp_none G H) h
/-- a module's whole number -/
theorem pv_gint {X : Cx} {x : Str} {i : Int} {t : Tok} {pos : Pos} (hg : Gl X x) (hm : X.mg x = some (.int i t)) (hd : (x == ("__debug__" : Str)) = false := by decide) : PE X (.Name x pos) (TV X.K ρ E n (vC (.int i))) :=
  PE.of (pe_glob hg hm (v := .int i) ⟨_, rfl⟩ hd) fun _ _ _ h => tv_c (rp_int i) h

/-! ### operations by data -/
/-- the reading of an operation on two pieces of data -/
def r2 (K : PySem.W.Frag) (n : Nat) (op : D → D → Rs D) : R2 := fun x y H Q => ∃ G dx dy, Same G H ∧ Rp K G H 0 dx x [] ∧ Rp K G H 0 dy y [] ∧ match op dx dy with | .ok r => VP K G H n r Q | _ => False
def vOp (op : D → D → Rs D) (da db : VS → Rs D) : VS → Rs D := fun s => (da s).bind fun x => (db s).bind fun y => op x y
/-- ops raise nothing -/
def Calm2 (op : D → D → Rs D) : Prop := ∀ x y c, op x y ≠ .ex c
theorem tv_op {op : D → D → Rs D} {da db : VS → Rs D} (hc : Calm2 op) (h : TV K ρ E n (vOp op da db) σ H Q) : tOp (r2 K n op) (TV K ρ E 0 da) (TV K ρ E 0 db) σ H Q := by
  obtain ⟨G, s, g, sv, p⟩ := h
  refine ⟨G, s, g, sv, ?_⟩
  unfold vOp at p
  cases q : da s with
  | no => rw [q] at p; exact p
  | ex c => rw [q] at p; exact p
  | ok x =>
    rw [q] at p
    intro v H1 G1 A e1 r1 f1
    obtain rfl := Rp.nil x r1
    refine ⟨G1, s, e1.gh, sv.evl e1, ?_⟩
    dsimp only [Rs.bind] at p
    cases q2 : db s with
    | no => rw [q2] at p; exact p
    | ex c => rw [q2] at p; exact fun H' s' => p H' (e1.hh.trans s')
    | ok y =>
      rw [q2] at p
      dsimp only [Rs.bind] at p
      intro w H2 G2 A2 e2 r2' f2
      obtain rfl := Rp.nil y r2'
      refine ⟨G2, x, y, e2.gh, Rp.mono e2.hh.tups e2.gg x (fun a h => by simp at h) r1, r2', ?_⟩
      cases q3 : op x y with
      | no => rw [q3] at p; exact p
      | ex c => exact absurd q3 (hc x y c)
      | ok r =>
        rw [q3] at p
        intro u H3 G3 A3 e3 r3 f3
        exact p u H3 G3 A3 (e1.trans (e2.trans e3)) r3 ⟨f3.nd, fun a ha => ⟨e1.hh.free (e2.hh.free (f3.nw a ha).1), (f3.nw a ha).2⟩⟩
theorem pv_op {X : Cx} {a b : Expr} {op : Operator} {pos : Pos} {f : D → D → Rs D} {da db : VS → Rs D} (ho : OpR X (binaryOp op) (r2 X.K n f)) (hc : Calm2 f) (ha : PE X a (TV X.K ρ E 0 da)) (hb : PE X b (TV X.K ρ E 0 db)) :
    PE X (.BinOp a op b pos) (TV X.K ρ E n (vOp f da db)) := PE.of (pe_op ho ha hb) fun _ _ _ h => tv_op hc h
theorem pv_cmp {X : Cx} {a b : Expr} {op : CmpOp} {pos : Pos} {f : D → D → Rs D} {da db : VS → Rs D} (ho : OpR X (compareOp op) (r2 X.K n f)) (hc : Calm2 f) (ha : PE X a (TV X.K ρ E 0 da)) (hb : PE X b (TV X.K ρ E 0 db)) (hm : behindInMarks op b = false) :
    PE X (.Compare a [op] [b] pos) (TV X.K ρ E n (vOp f da db)) := PE.of (pe_cmpR ho ha hb hm) fun _ _ _ h => tv_op hc h
/-- a test by its value -/
theorem tv_test {d : VS → Rs D} {Q : Bool → Hp → Prop} (h : TVt K ρ E d σ H Q) : TV K ρ E n d σ H (fun x H' => ∃ k, x = .bl k ∧ Q k H') := by
  obtain ⟨G, s, g, sv, p⟩ := h
  refine ⟨G, s, g, sv, ?_⟩
  cases q : d s with
  | no => rw [q] at p; exact p
  | ex c => rw [q] at p; exact p
  | ok r =>
    rw [q] at p
    cases r with
    | bool b =>
      intro v H' G' A e r f
      simp only [Rp] at r
      exact ⟨b, r.1, p H' G' e⟩
    | _ => exact p.elim
theorem ptv_val {X : Cx} {e : Expr} {d : VS → Rs D} (h : PE X e (TV X.K ρ E n d)) (he : ∀ whole, isTrue e X.env whole = (do let v ← whole; standAt e.pos; holding [v] (truthy v)) := by intro _; rfl) : PT X e (TVt X.K ρ E d) :=
  PT.of (pt_val h he) fun _ _ _ q => tv_test q
theorem ptv_cmp {X : Cx} {a b : Expr} {op : CmpOp} {pos : Pos} {f : D → D → Rs D} {da db : VS → Rs D} (ho : OpR X (compareOp op) (r2 X.K 0 f)) (hc : Calm2 f) (ha : PE X a (TV X.K ρ E 0 da)) (hb : PE X b (TV X.K ρ E 0 db)) (hm : behindInMarks op b = false) :
    PT X (.Compare a [op] [b] pos) (TVt X.K ρ E (vOp f da db)) := PT.of (pt_cmpR ho ha hb hm) fun _ _ _ h => tv_op hc (tv_test h)

/-! ### and, or, not, if -/
def vAnd (da db : VS → Rs D) : VS → Rs D := fun s => (da s).bind fun x => match x with | .bool true => db s | .bool false => .ok (.bool false) | _ => .no
def vOr (da db : VS → Rs D) : VS → Rs D := fun s => (da s).bind fun x => match x with | .bool false => db s | .bool true => .ok (.bool true) | _ => .no
def vNot (da : VS → Rs D) : VS → Rs D := fun s => (da s).bind fun x => match x with | .bool b => .ok (.bool (!b)) | _ => .no
def vIf (dc da db : VS → Rs D) : VS → Rs D := fun s => (dc s).bind fun x => match x with | .bool true => da s | .bool false => db s | _ => .no
theorem vPost.evl {G H G1 H1 : Hp} {r : Rs D} (h : vPost K ρ E G H n Q r) (e : Evl G H G1 H1) : vPost K ρ E G1 H1 n Q r := by
  cases r with
  | no => exact h
  | ex c => exact fun H' s => h H' (e.hh.trans s)
  | ok r => exact fun v H' G' A e' r f => h v H' G' A (e.trans e') r ⟨f.nd, fun a ha => ⟨e.hh.free (f.nw a ha).1, (f.nw a ha).2⟩⟩
/-- a test's own way on -/
theorem tvt_then {dc : VS → Rs D} {k : Bool → VS → Rs D} {R : Bool → Hp → Prop} (P : Hp → Hp → VS → Rs D → Prop) 
    (h : ∃ G s, Same G H ∧ SV K G H s σ ∧ P G H s ((dc s).bind fun x => match x with | .bool b => k b s | _ => .no))
    (hno : ∀ G s, ¬ P G H s .no) (hex : ∀ G s c, P G H s (.ex c) → ∀ H', Same H H' → E (.ref (ρ c)) none H')
    (hok : ∀ G s b G' H', SV K G H s σ → Evl G H G' H' → P G H s (k b s) → R b H') : TVt K ρ E dc σ H R := by
  obtain ⟨G, s, g, sv, p⟩ := h
  refine ⟨G, s, g, sv, ?_⟩
  cases q : dc s with
  | no => rw [q] at p; exact hno _ _ p
  | ex c => rw [q] at p; exact hex _ _ _ p
  | ok r =>
    rw [q] at p
    cases r with
    | bool b => exact fun H' G' e => hok G s b G' H' sv e p
    | _ => exact hno _ _ p
theorem vAnd_eq {da db : VS → Rs D} {s : VS} : vAnd da db s = (da s).bind fun x => match x with | .bool b => (fun (b : Bool) s => if b = true then db s else .ok (.bool false)) b s | _ => .no := by
  unfold vAnd
  congr 1
  funext x
  cases x with
  | bool b => cases b <;> rfl
  | _ => rfl
theorem vOr_eq {da db : VS → Rs D} {s : VS} : vOr da db s = (da s).bind fun x => match x with | .bool b => (fun (b : Bool) s => if b = true then .ok (.bool true) else db s) b s | _ => .no := by
  unfold vOr
  congr 1
  funext x
  cases x with
  | bool b => cases b <;> rfl
  | _ => rfl
theorem vIf_eq {dc da db : VS → Rs D} {s : VS} : vIf dc da db s = (dc s).bind fun x => match x with | .bool b => (fun (b : Bool) s => if b = true then da s else db s) b s | _ => .no := by
  unfold vIf
  congr 1
  funext x
  cases x with
  | bool b => cases b <;> rfl
  | _ => rfl
theorem vNot_eq {dc : VS → Rs D} {s : VS} : vNot dc s = (dc s).bind fun x => match x with | .bool b => (fun (b : Bool) s => .ok (.bool (!b))) b s | _ => .no := rfl
/-- the wish about a test, as a predicate -/
def tPost (K : PySem.W.Frag) (ρ : Str → Addr) (E : XK) (G H : Hp) (Q : Bool → Hp → Prop) : Rs D → Prop
  | .no => False
  | .ex c => ∀ H', Same H H' → E (.ref (ρ c)) none H'
  | .ok (.bool b) => ∀ H' G', Evl G H G' H' → Q b H'
  | .ok _ => False
theorem TVt_eq {d : VS → Rs D} {Q : Bool → Hp → Prop} : TVt K ρ E d σ H Q ↔ ∃ G s, Same G H ∧ SV K G H s σ ∧ tPost K ρ E G H Q (d s) := by
  unfold TVt
  constructor
  · rintro ⟨G, s, g, sv, p⟩
    refine ⟨G, s, g, sv, ?_⟩
    cases q : d s with
    | no => rw [q] at p; exact p
    | ex c => rw [q] at p; exact p
    | ok r => rw [q] at p; cases r <;> exact p
  · rintro ⟨G, s, g, sv, p⟩
    refine ⟨G, s, g, sv, ?_⟩
    cases q : d s with
    | no => rw [q] at p; exact p
    | ex c => rw [q] at p; exact p
    | ok r => rw [q] at p; cases r <;> exact p
theorem tPost.evl {G H G1 H1 : Hp} {Q : Bool → Hp → Prop} {r : Rs D} (h : tPost K ρ E G H Q r) (e : Evl G H G1 H1) : tPost K ρ E G1 H1 Q r := by
  cases r with
  | no => exact h
  | ex c => exact fun H' s => h H' (e.hh.trans s)
  | ok r =>
    cases r with
    | bool b => exact fun H' G' e' => h H' G' (e.trans e')
    | _ => exact h
theorem tvt_and {da db : VS → Rs D} {Q : Bool → Hp → Prop} (h : TVt K ρ E (vAnd da db) σ H Q) : tAnd (TVt K ρ E da) (TVt K ρ E db) σ H Q := by
  obtain ⟨G, s, g, sv, p⟩ := TVt_eq.mp h
  rw [vAnd_eq] at p
  refine tvt_then (k := fun b s => if b = true then db s else .ok (.bool false)) (fun G H s r => Same G H ∧ tPost K ρ E G H Q r) ⟨G, s, g, sv, g, p⟩ (fun _ _ z => z.2) (fun _ _ _ z => z.2) fun G s b G' H' sv e p => ?_
  cases b with
  | true =>
    rw [if_pos rfl] at p ⊢
    exact TVt_eq.mpr ⟨G', s, e.gh, sv.evl e, p.2.evl e⟩
  | false =>
    rw [if_neg Bool.false_ne_true] at p ⊢
    exact p.2 H' G' e
theorem tvt_or {da db : VS → Rs D} {Q : Bool → Hp → Prop} (h : TVt K ρ E (vOr da db) σ H Q) : tOr (TVt K ρ E da) (TVt K ρ E db) σ H Q := by
  obtain ⟨G, s, g, sv, p⟩ := TVt_eq.mp h
  rw [vOr_eq] at p
  refine tvt_then (k := fun b s => if b = true then .ok (.bool true) else db s) (fun G H s r => Same G H ∧ tPost K ρ E G H Q r) ⟨G, s, g, sv, g, p⟩ (fun _ _ z => z.2) (fun _ _ _ z => z.2) fun G s b G' H' sv e p => ?_
  cases b with
  | false =>
    rw [if_neg Bool.false_ne_true] at p ⊢
    exact TVt_eq.mpr ⟨G', s, e.gh, sv.evl e, p.2.evl e⟩
  | true =>
    rw [if_pos rfl] at p ⊢
    exact p.2 H' G' e
theorem tvt_not {da : VS → Rs D} {Q : Bool → Hp → Prop} (h : TVt K ρ E (vNot da) σ H Q) : tNot (TVt K ρ E da) σ H Q := by
  obtain ⟨G, s, g, sv, p⟩ := TVt_eq.mp h
  rw [vNot_eq] at p
  refine tvt_then (k := fun b s => .ok (.bool (!b))) (fun G H s r => Same G H ∧ tPost K ρ E G H Q r) ⟨G, s, g, sv, g, p⟩ (fun _ _ z => z.2) (fun _ _ _ z => z.2) fun G s b G' H' sv e p => ?_
  exact p.2 H' G' e
theorem pwv_and1 {X : Cx} {a : Expr} {pos : Pos} {d : VS → Rs D} (h : PT X a (TVt X.K ρ E d)) : PW X (.BoolOp .And [a] pos) (TVt X.K ρ E d) := pw_and1 h
theorem pwv_or1 {X : Cx} {a : Expr} {pos : Pos} {d : VS → Rs D} (h : PT X a (TVt X.K ρ E d)) : PW X (.BoolOp .Or [a] pos) (TVt X.K ρ E d) := pw_or1 h
theorem pwv_and {X : Cx} {a b : Expr} {r : List Expr} {pos : Pos} {d d' : VS → Rs D} (h : PT X a (TVt X.K ρ E d)) (h' : PW X (.BoolOp .And (b :: r) pos) (TVt X.K ρ E d')) : PW X (.BoolOp .And (a :: b :: r) pos) (TVt X.K ρ E (vAnd d d')) := PW.of (pw_and h h') fun _ _ _ q => tvt_and q
theorem pwv_or {X : Cx} {a b : Expr} {r : List Expr} {pos : Pos} {d d' : VS → Rs D} (h : PT X a (TVt X.K ρ E d)) (h' : PW X (.BoolOp .Or (b :: r) pos) (TVt X.K ρ E d')) : PW X (.BoolOp .Or (a :: b :: r) pos) (TVt X.K ρ E (vOr d d')) := PW.of (pw_or h h') fun _ _ _ q => tvt_or q
theorem ptv_not {X : Cx} {a : Expr} {pos : Pos} {d : VS → Rs D} (h : PT X a (TVt X.K ρ E d)) : PT X (.UnaryOp .Not a pos) (TVt X.K ρ E (vNot d)) := PT.of (pt_not h) fun _ _ _ q => tvt_not q
/-- a bool that comes, then the rest, as values -/
theorem tv_then {da : VS → Rs D} {k : Bool → VS → Rs D} {R : Bool → Hp → Prop} (h : ∃ G s, Same G H ∧ SV K G H s σ ∧ vPost K ρ E G H n Q ((da s).bind fun x => match x with | .bool b => k b s | _ => .no))
    (hok : ∀ (s : VS) (b : Bool) (G' H' : Hp), Same G' H' → SV K G' H' s σ → vPost K ρ E G' H' n Q (k b s) → R b H') : TV K ρ E 0 da σ H (fun x H1 => ∃ c, x = .bl c ∧ R c H1) := by
  refine tv_test (tvt_then (k := k) (fun G H s r => Same G H ∧ vPost K ρ E G H n Q r) ?_ (fun _ _ z => z.2) (fun _ _ _ z => z.2) fun G s b G' H' sv e p => hok s b G' H' e.gh (sv.evl e) (p.2.evl e))
  obtain ⟨G, s, g, sv, p⟩ := h
  exact ⟨G, s, g, sv, g, p⟩
theorem pv_one {X : Cx} {a : Expr} {op} {pos : Pos} {d : VS → Rs D} (h : PE X a (TV X.K ρ E n d)) : PE X (.BoolOp op [a] pos) (TV X.K ρ E n d) := pe_one h
theorem vp_bool {b : Bool} {G' H' : Hp} (g : Same G' H') (p : vPost K ρ E G' H' n Q (.ok (.bool b))) : Q (.bl b) H' := p _ H' G' [] (Evl.refl g) (rp_bool b G' H') Fr.nil
theorem pv_and {X : Cx} {a b : Expr} {r : List Expr} {pos : Pos} {d d' : VS → Rs D} (h : PE X a (TV X.K ρ E 0 d)) (h' : PE X (.BoolOp .And (b :: r) pos) (TV X.K ρ E n d')) : PE X (.BoolOp .And (a :: b :: r) pos) (TV X.K ρ E n (vAnd d d')) :=
  PE.of (pe_and h h') fun σ H Q q => by
    obtain ⟨G, s, g, sv, p⟩ := q
    rw [vAnd_eq] at p
    refine tv_then (k := fun b s => if b = true then d' s else .ok (.bool false)) ⟨G, s, g, sv, p⟩ fun s b G' H' g' sv p => ?_
    cases b with
    | true => rw [if_pos rfl] at p ⊢; exact ⟨G', s, g', sv, p⟩
    | false => rw [if_neg Bool.false_ne_true] at p ⊢; exact vp_bool g' p
theorem pv_or {X : Cx} {a b : Expr} {r : List Expr} {pos : Pos} {d d' : VS → Rs D} (h : PE X a (TV X.K ρ E 0 d)) (h' : PE X (.BoolOp .Or (b :: r) pos) (TV X.K ρ E n d')) : PE X (.BoolOp .Or (a :: b :: r) pos) (TV X.K ρ E n (vOr d d')) :=
  PE.of (pe_or h h') fun σ H Q q => by
    obtain ⟨G, s, g, sv, p⟩ := q
    rw [vOr_eq] at p
    refine tv_then (k := fun b s => if b = true then .ok (.bool true) else d' s) ⟨G, s, g, sv, p⟩ fun s b G' H' g' sv p => ?_
    cases b with
    | false => rw [if_neg Bool.false_ne_true] at p ⊢; exact ⟨G', s, g', sv, p⟩
    | true => rw [if_pos rfl] at p ⊢; exact vp_bool g' p
theorem pv_not {X : Cx} {a : Expr} {pos : Pos} {d : VS → Rs D} (h : PE X a (TV X.K ρ E 0 d)) : PE X (.UnaryOp .Not a pos) (TV X.K ρ E n (vNot d)) :=
  PE.of (pe_not h) fun σ H Q q => by
    obtain ⟨G, s, g, sv, p⟩ := q
    rw [vNot_eq] at p
    exact tv_then (k := fun b s => .ok (.bool (!b))) ⟨G, s, g, sv, p⟩ fun s b G' H' g' sv p => vp_bool g' p
theorem pv_if {X : Cx} {c a b : Expr} {pos : Pos} {dc da db : VS → Rs D} (hc : PT X c (TVt X.K ρ E dc)) (ha : PE X a (TV X.K ρ E n da)) (hb : PE X b (TV X.K ρ E n db)) : PE X (.IfExp c a b pos) (TV X.K ρ E n (vIf dc da db)) :=
  PE.of (pe_ifExp hc ha hb) fun σ H Q q => by
    obtain ⟨G, s, g, sv, p⟩ := q
    rw [vIf_eq] at p
    refine tvt_then (k := fun b s => if b = true then da s else db s) (fun G H s r => Same G H ∧ vPost X.K ρ E G H n Q r) ⟨G, s, g, sv, g, p⟩ (fun _ _ z => z.2) (fun _ _ _ z => z.2) fun G s b G' H' sv e p => ?_
    cases b with
    | true => rw [if_pos rfl] at p ⊢; exact ⟨G', s, e.gh, sv.evl e, p.2.evl e⟩
    | false => rw [if_neg Bool.false_ne_true] at p ⊢; exact ⟨G', s, e.gh, sv.evl e, p.2.evl e⟩
end
end PL

set_option maxRecDepth 100000
/-! PL3: operations on data. -/
namespace PL
open PySem PySem.Spec PyProof.Rows L2

/-! ### data reads -/
section
variable {K : PySem.W.Frag} {G H : Hp}
mutual
theorem Rp.dp (g : Same G H) : ∀ (d : D) {v : V}, d.plain = true → Rp K G H 0 d v [] → Dp K H v d
  | .none, v, p, h => by simp only [Rp] at h; rw [h.1]; exact .non
  | .bool b, v, p, h => by simp only [Rp] at h; rw [h.1]; exact .bl b
  | .int i, v, p, h => by simp only [Rp] at h; rw [h.1]; exact .int i
  | .str x, v, p, h => by simp only [Rp] at h; rw [h.1]; exact .str x
  | .tuple ds, v, p, h => by
    simp only [Rp, PyData.plain] at h p
    obtain ⟨a, vs, rfl, q, r⟩ := h
    exact .tup q (Rps.dp g ds p r)
  | .list ds, v, p, h => by
    simp only [Rp, PyData.plain] at h p
    obtain ⟨_, a, vs, rfl, q, r⟩ := h
    exact .lst (g.seq q) (Rps.dp g ds p r)
  | .dict ds, v, p, h => by simp only [PyData.plain] at p; cases p
theorem Rps.dp (g : Same G H) : ∀ (ds : List D) {vs : List V}, PyData.plainAll ds = true → Rps K G H 0 ds vs [] → DpAll K H vs ds
  | [], vs, p, h => by simp only [Rps] at h; rw [h.1]; exact .nil
  | d :: ds, vs, p, h => by
    simp only [Rps, PyData.plainAll, Bool.and_eq_true] at h p
    obtain ⟨v, r, A1, A2, rfl, h1, h2, eA⟩ := h
    have e1 := Rp.nil d h1
    have e2 := Rps.nil ds h2
    subst e1 e2
    exact .cons (Rp.dp g d p.1 h1) (Rps.dp g ds p.2 h2)
end
end

/-- the wish of an operation, for scalars -/
theorem vp_same {K : PySem.W.Frag} {G H : Hp} {n : Nat} {r : D} {v : V} {Q : VK} (p : VP K G H n r Q) (g : Same G H) (rp : Rp K G H n r v []) : Q v H := p v H G [] (Evl.refl g) rp Fr.nil
theorem same_upd {H : Hp} {p : Addr} {o : HO} (h : H p = none) : Same H (upd H p o) := fun b x e => by
  rw [upd_ne (ne_of_none e h)]
  exact e
theorem evl_upd {G H : Hp} {p : Addr} {o : HO} (g : Same G H) (h : H p = none) : Evl G H G (upd H p o) := ⟨same_upd h, Same.refl _, g.trans (same_upd h), fun a q => .inl q⟩
theorem tup_upd {K : PySem.W.Frag} {H : Hp} {p : Addr} {xs : List V} : SqT K (upd H p (.tup xs)) p xs := .inl (.inl upd_same)
theorem st_upd {A : List Addr} {H : Hp} {p : Addr} {o : HO} (h : H p = none) : Stays A H (upd H p o) := .of_same (same_upd h)
/-- a new tuple of known things -/
theorem vp_tup {K : PySem.W.Frag} {G H : Hp} {n : Nat} {ds : List D} {vs : List V} {Q : VK} (p : VP K G H n (.tuple ds) Q) (g : Same G H) (r : Rps K G H n ds vs []) : ∀ a, H a = none → Q (.ref a) (upd H a (.tup vs)) := fun a h =>
  p _ _ G [] (evl_upd g h) (by
    simp only [Rp]
    exact ⟨a, vs, rfl, tup_upd, Rps.mono (same_upd h).tups (Same.refl _) ds (st_upd h) r⟩) Fr.nil
/-- a new list of known things -/
theorem vp_lst {K : PySem.W.Frag} {G H : Hp} {n : Nat} {ds : List D} {vs : List V} {Q : VK} (p : VP K G H (n + 1) (.list ds) Q) (g : Same G H) (r : Rps K G H n ds vs []) : ∀ a, H a = none → Q (.ref a) (upd H a (.lst vs)) := fun a h =>
  p _ _ G [a] (evl_upd g h) (by
    simp only [Rp]
    exact ⟨a, vs, [], rfl, upd_same, Rps.mono (same_upd h).tups (Same.refl _) ds (st_upd h) r, rfl⟩) ⟨by simp, fun b hb => by
      obtain rfl : b = a := by simpa using hb
      refine ⟨h, ?_⟩
      cases q : G b with
      | none => rfl
      | some o => rw [g b o q] at h; cases h⟩
theorem vp_lst0 {K : PySem.W.Frag} {G H : Hp} {ds : List D} {vs : List V} {Q : VK} (p : VP K G H 0 (.list ds) Q) (g : Same G H) (r : Rps K G H 0 ds vs []) : ∀ a, H a = none → Q (.ref a) (upd H a (.lst vs)) :=
  vp_lst (VP.weak (m := 1) p) g r

/-! ### lists added, whatever stands there -/
section
variable {X : Cx}
def rCatS (K : PySem.W.Frag) : R2 := fun x y H Q => ∃ l b xs zs, x = .ref l ∧ y = .ref b ∧ SqL K H l xs ∧ SqL K H b zs ∧ xs.length + zs.length ≤ sizeLine ∧
  ∀ p, H p = none → Q (.ref p) (upd H p (.lst (xs ++ zs)))
theorem op_catS : OpR X (binaryOp .Add) (rCatS X.K) := by
  intro pins s σ H x y v u Q I rx ry h
  obtain ⟨l, b, xs, zs, rfl, rfl, hl, hb, hz, q⟩ := h
  cases rx; cases ry
  obtain ⟨its, r, ⟨⟨c1, d1, t1, s1⟩, n, e, hc, hd, hi⟩, _⟩ := I.list hl
  obtain ⟨its2, r2, ⟨⟨c2, d2, t2, s2⟩, n2, e2, hc2, hd2, hi2⟩, _⟩ := I.list hb
  simp only at hc hi hc2 hi2
  subst hc hi hc2 hi2
  have q1 := r.length
  have q2 := r2.length
  refine concat_meets ⟨_, e, rfl⟩ ⟨_, e2, rfl⟩ noFill_list_add seq_list_add PySem.F.slot_list_add PySem.F.entry_list_add (PySem.F.args_list_add_2 _ _)
    (list_addW l b its.toArray its2.toArray n n2 d1 d2 s1 s2 (by simp only [List.size_toArray]; omega)) ⟨e, e2, ?_⟩
  rw [show its.toArray ++ its2.toArray = (its ++ its2).toArray by simp]
  exact ⟨.ref _, _, I.lnew (t' := s.toks) (r.append r2) (by rw [List.length_append]; omega), rfl, q _ I.fresh⟩

/-! ### arithmetic -/
def mulOk (i j : Int) : Bool := decide (-(2 ^ 64) < i ∧ i < 2 ^ 64) || decide (-(2 ^ 64) < j ∧ j < 2 ^ 64)
def divOk (j : Int) : Bool := decide (0 < j ∧ j < 2 ^ 1000)
def powOk (i j : Int) : Bool := decide (0 ≤ j ∧ j ≤ 1000000) && decide (i.natAbs < 2 ^ 64)
def dAdd : D → D → Rs D
  | .int i, .int j => .ok (.int (i + j))
  | .list xs, .list ys => if xs.length + ys.length ≤ sizeLine then .ok (.list (xs ++ ys)) else .no
  | .tuple xs, .tuple ys => if xs ≠ [] ∧ ys ≠ [] ∧ xs.length + ys.length ≤ sizeLine then .ok (.tuple (xs ++ ys)) else .no
  | _, _ => .no
def dSub : D → D → Rs D
  | .int i, .int j => .ok (.int (i - j))
  | _, _ => .no
def dMul : D → D → Rs D
  | .int i, .int j => if mulOk i j = true then .ok (.int (i * j)) else .no
  | _, _ => .no
def dDiv : D → D → Rs D
  | .int i, .int j => if divOk j = true then .ok (.int (i / j)) else .no
  | _, _ => .no
def dMod : D → D → Rs D
  | .int i, .int j => if 0 < j then .ok (.int (i % j)) else .no
  | _, _ => .no
def dPow : D → D → Rs D
  | .int i, .int j => if powOk i j = true then .ok (.int (i ^ j.toNat)) else .no
  | _, _ => .no
theorem Rps.app {K : PySem.W.Frag} {G H : Hp} : ∀ {xs ys : List D} {vs ws : List V}, Rps K G H 0 xs vs [] → Rps K G H 0 ys ws [] → Rps K G H 0 (xs ++ ys) (vs ++ ws) []
  | [], ys, vs, ws, h, h' => by simp only [Rps] at h; rw [h.1]; exact h'
  | x :: xs, ys, vs, ws, h, h' => by
    simp only [Rps, List.cons_append] at h ⊢
    obtain ⟨v, r, A1, A2, rfl, h1, h2, eA⟩ := h
    have e1 := Rp.nil x h1
    have e2 := Rps.nil xs h2
    subst e1 e2
    exact ⟨v, r ++ ws, [], [], rfl, h1, Rps.app h2 h', rfl⟩
theorem Rps.rep {K : PySem.W.Frag} {G H : Hp} {xs : List D} {vs : List V} (h : Rps K G H 0 xs vs []) : ∀ k : Nat, Rps K G H 0 (List.replicate k xs).flatten (List.replicate k vs).flatten []
  | 0 => by simp [Rps]
  | k + 1 => by
    rw [List.replicate_succ, List.replicate_succ, List.flatten_cons, List.flatten_cons]
    exact Rps.app h (Rps.rep h k)
theorem Rps.nil_iff {K : PySem.W.Frag} {G H : Hp} {n : Nat} {xs : List D} {vs : List V} {A : List Addr} (h : Rps K G H n xs vs A) : vs = [] ↔ xs = [] := by
  have e := Rps.length h
  constructor
  · intro z; rw [z] at e; exact List.eq_nil_of_length_eq_zero e
  · intro z; rw [z] at e; exact List.eq_nil_of_length_eq_zero e.symm
/-- the parts of a two-place reading -/
theorem r2_int {K : PySem.W.Frag} {n : Nat} {op : D → D → Rs D} {x y : V} {H : Hp} {Q : VK} (h : r2 K n op x y H Q) : ∃ G dx dy, Same G H ∧ Rp K G H 0 dx x [] ∧ Rp K G H 0 dy y [] ∧ ∃ r, op dx dy = .ok r ∧ VP K G H n r Q := by
  obtain ⟨G, dx, dy, g, h1, h2, p⟩ := h
  refine ⟨G, dx, dy, g, h1, h2, ?_⟩
  cases q : op dx dy with
  | no => rw [q] at p; exact p.elim
  | ex c => rw [q] at p; exact p.elim
  | ok r => rw [q] at p; exact ⟨r, rfl, p⟩
theorem opAdd : OpR X (binaryOp .Add) (r2 X.K 0 dAdd) := OpR.of ((op_add.or op_catS).or op_catT) fun x y H Q h => by
  obtain ⟨G, dx, dy, g, h1, h2, r, e, p⟩ := r2_int h
  unfold dAdd at e
  split at e
  · cases e
    simp only [Rp] at h1 h2
    exact .inl (.inl ⟨_, _, h1.1, h2.1, vp_same p g (rp_int _ _ _)⟩)
  · rename_i xs ys
    split at e
    · cases e
      simp only [Rp] at h1 h2
      obtain ⟨_, a, vs, e1, q1, r1⟩ := h1
      obtain ⟨_, b, ws, e2, q2, r2⟩ := h2
      refine .inl (.inr ⟨a, b, vs, ws, e1, e2, g.seq q1, g.seq q2, by rw [← Rps.length r1, ← Rps.length r2]; assumption, vp_lst0 p g (Rps.app r1 r2)⟩)
    · cases e
  · rename_i xs ys
    split at e
    · rename_i hx
      cases e
      simp only [Rp] at h1 h2
      obtain ⟨a, vs, e1, q1, r1⟩ := h1
      obtain ⟨b, ws, e2, q2, r2⟩ := h2
      refine .inr ⟨a, b, vs, ws, e1, e2, q1, q2, fun z => hx.1 ((Rps.nil_iff r1).mp z), by rw [← Rps.length r1, ← Rps.length r2]; exact hx.2.2, fun z => absurd ((Rps.nil_iff r2).mp z) hx.2.1, fun _ => vp_tup p g (Rps.app r1 r2)⟩
    · cases e
  · cases e
theorem calmAdd : Calm2 dAdd := fun x y c z => by unfold dAdd at z; split at z <;> first | cases z | (split at z <;> cases z)
theorem opSub {n : Nat} : OpR X (binaryOp .Sub) (r2 X.K n dSub) := OpR.of op_sub fun x y H Q h => by
  obtain ⟨G, dx, dy, g, h1, h2, r, e, p⟩ := r2_int h
  unfold dSub at e
  split at e
  · cases e
    simp only [Rp] at h1 h2
    exact ⟨_, _, h1.1, h2.1, vp_same p g (rp_int _ _ _)⟩
  · cases e
theorem calmSub : Calm2 dSub := fun x y c z => by unfold dSub at z; split at z <;> cases z
theorem calmI {f : Int → Int → Rs D} {op : D → D → Rs D} (h : ∀ x y, (∃ i j, x = .int i ∧ y = .int j ∧ op x y = f i j) ∨ op x y = .no) (hf : ∀ i j c, f i j ≠ .ex c) : Calm2 op := fun x y c z => by
  rcases h x y with ⟨i, j, _, _, e⟩ | e
  · rw [e] at z; exact hf i j c z
  · rw [e] at z; cases z
theorem opMul {n : Nat} : OpR X (binaryOp .Mult) (r2 X.K n dMul) := OpR.of op_mul fun x y H Q h => by
  obtain ⟨G, dx, dy, g, h1, h2, r, e, p⟩ := r2_int h
  unfold dMul at e
  split at e
  · split at e
    · rename_i hm
      cases e
      simp only [Rp] at h1 h2
      refine ⟨_, _, h1.1, h2.1, ?_, vp_same p g (rp_int _ _ _)⟩
      unfold mulOk at hm
      rcases (Bool.or_eq_true _ _).mp hm with z | z
      · exact .inl (of_decide_eq_true z)
      · exact .inr (of_decide_eq_true z)
    · cases e
  · cases e
theorem calmMul : Calm2 dMul := fun x y c z => by unfold dMul at z; split at z <;> first | cases z | (split at z <;> cases z)
theorem divOk_log {j : Int} (h : divOk j = true) : CDivW 0 j := by
  obtain ⟨h1, h2⟩ := of_decide_eq_true h
  refine wide_div (b := 1000) h1 ?_ (by decide) (by decide)
  have : (j.natAbs : Int) < 2 ^ 1000 := by omega
  exact_mod_cast this
theorem opDiv {n : Nat} : OpR X (binaryOp .FloorDiv) (r2 X.K n dDiv) := OpR.of op_fdivW fun x y H Q h => by
  obtain ⟨G, dx, dy, g, h1, h2, r, e, p⟩ := r2_int h
  unfold dDiv at e
  split at e
  · split at e
    · rename_i hm
      cases e
      simp only [Rp] at h1 h2
      exact ⟨_, _, h1.1, h2.1, divOk_log hm, vp_same p g (rp_int _ _ _)⟩
    · cases e
  · cases e
theorem calmDiv : Calm2 dDiv := fun x y c z => by unfold dDiv at z; split at z <;> first | cases z | (split at z <;> cases z)
theorem opMod {n : Nat} : OpR X (binaryOp .Mod) (r2 X.K n dMod) := OpR.of op_mod fun x y H Q h => by
  obtain ⟨G, dx, dy, g, h1, h2, r, e, p⟩ := r2_int h
  unfold dMod at e
  split at e
  · split at e
    · rename_i hm
      cases e
      simp only [Rp] at h1 h2
      exact ⟨_, _, h1.1, h2.1, hm, vp_same p g (rp_int _ _ _)⟩
    · cases e
  · cases e
theorem calmMod : Calm2 dMod := fun x y c z => by unfold dMod at z; split at z <;> first | cases z | (split at z <;> cases z)
theorem opPow {n : Nat} : OpR X (binaryOp .Pow) (r2 X.K n dPow) := OpR.of op_pow fun x y H Q h => by
  obtain ⟨G, dx, dy, g, h1, h2, r, e, p⟩ := r2_int h
  unfold dPow at e
  split at e
  · split at e
    · rename_i hm
      cases e
      simp only [Rp] at h1 h2
      unfold powOk at hm
      rw [Bool.and_eq_true, decide_eq_true_eq, decide_eq_true_eq] at hm
      exact ⟨_, _, h1.1, h2.1, ⟨hm.1.1, hm.1.2, hm.2⟩, vp_same p g (rp_int _ _ _)⟩
    · cases e
  · cases e
theorem calmPow : Calm2 dPow := fun x y c z => by unfold dPow at z; split at z <;> first | cases z | (split at z <;> cases z)

/-! ### comparisons -/
/-- data that == reads: no dict, not too deep for both -/
def eqOk (x y : D) : Bool := x.plain && y.plain && decide (min x.depth y.depth ≤ 180)
def dEq (x y : D) : Rs D := if eqOk x y = true then .ok (.bool (PyData.eqv x y)) else .no
def dNe (x y : D) : Rs D := if eqOk x y = true then .ok (.bool (!PyData.eqv x y)) else .no
def inOk (ys : List D) (x : D) : Bool := x.plain && PyData.plainAll ys && decide (min (PyData.depthAll ys) x.depth ≤ 180)
/-- x in ys, a list or a tuple -/
def dIn (x : D) : D → Rs D
  | .list ys => if inOk ys x = true then .ok (.bool (ys.any fun y => PyData.eqv y x)) else .no
  | .tuple ys => if inOk ys x = true then .ok (.bool (ys.any fun y => PyData.eqv y x)) else .no
  | _ => .no
def dNotIn (x : D) : D → Rs D
  | .list ys => if inOk ys x = true then .ok (.bool (!ys.any fun y => PyData.eqv y x)) else .no
  | .tuple ys => if inOk ys x = true then .ok (.bool (!ys.any fun y => PyData.eqv y x)) else .no
  | _ => .no
theorem calmEq : Calm2 dEq := fun x y c z => by unfold dEq at z; split at z <;> cases z
theorem calmNe : Calm2 dNe := fun x y c z => by unfold dNe at z; split at z <;> cases z
theorem calmIn : Calm2 dIn := fun x y c z => by unfold dIn at z; split at z <;> first | cases z | (split at z <;> cases z)
theorem calmNotIn : Calm2 dNotIn := fun x y c z => by unfold dNotIn at z; split at z <;> first | cases z | (split at z <;> cases z)
theorem opEq {n : Nat} (hu : X.A.units + 200 < cLine) : OpR X (compareOp .Eq) (r2 X.K n dEq) := fun pins s σ H x y v u Q I rx ry h => by
  obtain ⟨G, dx, dy, g, h1, h2, r, e, p⟩ := r2_int h
  unfold dEq at e
  split at e
  · rename_i hm
    cases e
    unfold eqOk at hm
    rw [Bool.and_eq_true, Bool.and_eq_true, decide_eq_true_eq] at hm
    obtain ⟨as, r1⟩ := Dp.reads I dx x v (Rp.dp g dx hm.1.1 h1) rx
    obtain ⟨bs, r2⟩ := Dp.reads I dy y u (Rp.dp g dy hm.1.2 h2) ry
    exact SeqAt.eq_plain r1 r2 hm.1.1 hm.1.2 (by omega) ⟨.bl _, H, I, rfl, vp_same p g (rp_bool _ _ _)⟩
  · cases e
theorem opNe {n : Nat} (hu : X.A.units + 200 < cLine) : OpR X (compareOp .NotEq) (r2 X.K n dNe) := fun pins s σ H x y v u Q I rx ry h => by
  obtain ⟨G, dx, dy, g, h1, h2, r, e, p⟩ := r2_int h
  unfold dNe at e
  split at e
  · rename_i hm
    cases e
    unfold eqOk at hm
    rw [Bool.and_eq_true, Bool.and_eq_true, decide_eq_true_eq] at hm
    obtain ⟨as, r1⟩ := Dp.reads I dx x v (Rp.dp g dx hm.1.1 h1) rx
    obtain ⟨bs, r2⟩ := Dp.reads I dy y u (Rp.dp g dy hm.1.2 h2) ry
    exact SeqAt.ne_plain r1 r2 hm.1.1 hm.1.2 (by omega) ⟨.bl _, H, I, rfl, vp_same p g (rp_bool _ _ _)⟩
  · cases e
theorem plain_list {ds : List D} : (PyData.list ds).plain = PyData.plainAll ds := by simp only [PyData.plain]
theorem plain_tuple {ds : List D} : (PyData.tuple ds).plain = PyData.plainAll ds := by simp only [PyData.plain]
theorem opIn {n : Nat} (hu : X.A.units + 200 < cLine) : OpR X (compareOp .In) (r2 X.K n dIn) := fun pins s σ H x y v u Q I rx ry h => by
  obtain ⟨G, dx, dy, g, h1, h2, r, e, p⟩ := r2_int h
  unfold dIn at e
  split at e
  · split at e
    · rename_i hm
      cases e
      unfold inOk at hm
      rw [Bool.and_eq_true, Bool.and_eq_true, decide_eq_true_eq] at hm
      obtain ⟨as, r1⟩ := Dp.reads I dx x v (Rp.dp g dx hm.1.1 h1) rx
      obtain ⟨bs, r2⟩ := Dp.reads I _ y u (Rp.dp g _ (plain_list.trans hm.1.2) h2) ry
      exact SeqAt.in_list_data r2 r1 hm.1.2 hm.1.1 (by omega) ⟨.bl _, H, I, rfl, vp_same p g (rp_bool _ _ _)⟩
    · cases e
  · split at e
    · rename_i hm
      cases e
      unfold inOk at hm
      rw [Bool.and_eq_true, Bool.and_eq_true, decide_eq_true_eq] at hm
      obtain ⟨as, r1⟩ := Dp.reads I dx x v (Rp.dp g dx hm.1.1 h1) rx
      obtain ⟨bs, r2⟩ := Dp.reads I _ y u (Rp.dp g _ (plain_tuple.trans hm.1.2) h2) ry
      exact SeqAt.in_tuple_data r2 r1 hm.1.2 hm.1.1 (by omega) ⟨.bl _, H, I, rfl, vp_same p g (rp_bool _ _ _)⟩
    · cases e
  · cases e
theorem opNotIn {n : Nat} (hu : X.A.units + 200 < cLine) : OpR X (compareOp .NotIn) (r2 X.K n dNotIn) := fun pins s σ H x y v u Q I rx ry h => by
  obtain ⟨G, dx, dy, g, h1, h2, r, e, p⟩ := r2_int h
  unfold dNotIn at e
  split at e
  · split at e
    · rename_i hm
      cases e
      unfold inOk at hm
      rw [Bool.and_eq_true, Bool.and_eq_true, decide_eq_true_eq] at hm
      obtain ⟨as, r1⟩ := Dp.reads I dx x v (Rp.dp g dx hm.1.1 h1) rx
      obtain ⟨bs, r2⟩ := Dp.reads I _ y u (Rp.dp g _ (plain_list.trans hm.1.2) h2) ry
      exact SeqAt.notIn_list_data r2 r1 hm.1.2 hm.1.1 (by omega) ⟨.bl _, H, I, rfl, vp_same p g (rp_bool _ _ _)⟩
    · cases e
  · split at e
    · rename_i hm
      cases e
      unfold inOk at hm
      rw [Bool.and_eq_true, Bool.and_eq_true, decide_eq_true_eq] at hm
      obtain ⟨as, r1⟩ := Dp.reads I dx x v (Rp.dp g dx hm.1.1 h1) rx
      obtain ⟨bs, r2⟩ := Dp.reads I _ y u (Rp.dp g _ (plain_tuple.trans hm.1.2) h2) ry
      exact SeqAt.notIn_tuple_data r2 r1 hm.1.2 hm.1.1 (by omega) ⟨.bl _, H, I, rfl, vp_same p g (rp_bool _ _ _)⟩
    · cases e
  · cases e
def dLt : D → D → Rs D
  | .int i, .int j => .ok (.bool (decide (i < j)))
  | _, _ => .no
def dLe : D → D → Rs D
  | .int i, .int j => .ok (.bool (decide (i ≤ j)))
  | _, _ => .no
def dGt : D → D → Rs D
  | .int i, .int j => .ok (.bool (decide (j < i)))
  | _, _ => .no
def dGe : D → D → Rs D
  | .int i, .int j => .ok (.bool (decide (j ≤ i)))
  | _, _ => .no
theorem calmLt : Calm2 dLt := fun x y c z => by unfold dLt at z; split at z <;> cases z
theorem calmLe : Calm2 dLe := fun x y c z => by unfold dLe at z; split at z <;> cases z
theorem calmGt : Calm2 dGt := fun x y c z => by unfold dGt at z; split at z <;> cases z
theorem calmGe : Calm2 dGe := fun x y c z => by unfold dGe at z; split at z <;> cases z
theorem opLt {n : Nat} : OpR X (compareOp .Lt) (r2 X.K n dLt) := OpR.of op_lt fun x y H Q h => by
  obtain ⟨G, dx, dy, g, h1, h2, r, e, p⟩ := r2_int h
  unfold dLt at e
  split at e
  · cases e
    simp only [Rp] at h1 h2
    exact ⟨_, _, h1.1, h2.1, vp_same p g (rp_bool _ _ _)⟩
  · cases e
theorem opLe {n : Nat} : OpR X (compareOp .LtE) (r2 X.K n dLe) := OpR.of op_le fun x y H Q h => by
  obtain ⟨G, dx, dy, g, h1, h2, r, e, p⟩ := r2_int h
  unfold dLe at e
  split at e
  · cases e
    simp only [Rp] at h1 h2
    exact ⟨_, _, h1.1, h2.1, vp_same p g (rp_bool _ _ _)⟩
  · cases e
theorem opGt {n : Nat} : OpR X (compareOp .Gt) (r2 X.K n dGt) := OpR.of op_gt fun x y H Q h => by
  obtain ⟨G, dx, dy, g, h1, h2, r, e, p⟩ := r2_int h
  unfold dGt at e
  split at e
  · cases e
    simp only [Rp] at h1 h2
    exact ⟨_, _, h1.1, h2.1, vp_same p g (rp_bool _ _ _)⟩
  · cases e
theorem opGe {n : Nat} : OpR X (compareOp .GtE) (r2 X.K n dGe) := OpR.of op_ge fun x y H Q h => by
  obtain ⟨G, dx, dy, g, h1, h2, r, e, p⟩ := r2_int h
  unfold dGe at e
  split at e
  · cases e
    simp only [Rp] at h1 h2
    exact ⟨_, _, h1.1, h2.1, vp_same p g (rp_bool _ _ _)⟩
  · cases e
/-- x is y, y being None -/
def isNone : D → Bool
  | .none => true
  | _ => false
def dIs (x : D) : D → Rs D
  | .none => .ok (.bool (isNone x))
  | _ => .no
def dIsNot (x : D) : D → Rs D
  | .none => .ok (.bool (!isNone x))
  | _ => .no
theorem calmIs : Calm2 dIs := fun x y c z => by unfold dIs at z; split at z <;> cases z
theorem calmIsNot : Calm2 dIsNot := fun x y c z => by unfold dIsNot at z; split at z <;> cases z
theorem isNone_v {K : PySem.W.Frag} {G H : Hp} {d : D} {v : V} (h : Rp K G H 0 d v []) : decide (v = .non) = isNone d := by
  cases d <;> simp only [Rp] at h
  case none => rw [h.1]; rfl
  case bool => rw [h.1]; rfl
  case int => rw [h.1]; rfl
  case str => rw [h.1]; rfl
  case list => obtain ⟨_, a, vs, rfl, _⟩ := h; rfl
  case tuple => obtain ⟨a, vs, rfl, _⟩ := h; rfl
  case dict => obtain ⟨_, a, rfl, _⟩ := h; rfl
theorem opIs {n : Nat} : OpR X (compareOp .Is) (r2 X.K n dIs) := OpR.of op_isN fun x y H Q h => by
  obtain ⟨G, dx, dy, g, h1, h2, r, e, p⟩ := r2_int h
  unfold dIs at e
  split at e
  · cases e
    simp only [Rp] at h2
    exact ⟨h2.1, by rw [isNone_v h1]; exact vp_same p g (rp_bool _ _ _)⟩
  · cases e
theorem opIsNot {n : Nat} : OpR X (compareOp .IsNot) (r2 X.K n dIsNot) := OpR.of op_notN fun x y H Q h => by
  obtain ⟨G, dx, dy, g, h1, h2, r, e, p⟩ := r2_int h
  unfold dIsNot at e
  split at e
  · cases e
    simp only [Rp] at h2
    exact ⟨h2.1, by rw [isNone_v h1]; exact vp_same p g (rp_bool _ _ _)⟩
  · cases e
end
end PL

set_option maxRecDepth 100000
/-! PL4: arguments, displays, built-in calls, calls of defs, places, slices, isinstance. -/
namespace PL
open PySem PySem.Spec PyProof.Rows L2

def vArgs : List (VS → Rs D) → VS → Rs (List D)
  | [], _ => .ok []
  | d :: ds, s => (d s).bind fun x => (vArgs ds s).bind fun xs => .ok (x :: xs)
theorem vArgs_nil (s : VS) : vArgs [] s = .ok [] := rfl
theorem vArgs_cons (d : VS → Rs D) (ds : List (VS → Rs D)) (s : VS) : vArgs (d :: ds) s = (d s).bind fun x => (vArgs ds s).bind fun xs => .ok (x :: xs) := rfl
theorem vArgs_len : ∀ {ds : List (VS → Rs D)} {s : VS} {r : List D}, vArgs ds s = .ok r → r.length = ds.length
  | [], s, r, h => by cases h; rfl
  | d :: ds, s, r, h => by
    rw [vArgs_cons] at h
    cases q : d s with
    | no => rw [q] at h; cases h
    | ex c => rw [q] at h; cases h
    | ok x =>
      rw [q] at h
      dsimp only [Rs.bind] at h
      cases q2 : vArgs ds s with
      | no => rw [q2] at h; cases h
      | ex c => rw [q2] at h; cases h
      | ok xs =>
        rw [q2] at h
        dsimp only [Rs.bind] at h
        cases h
        rw [List.length_cons, List.length_cons, vArgs_len q2]
theorem line1000 {n : Nat} (h : n ≤ 1000) : n ≤ sizeLine := Nat.le_of_lt (small1000 h)
section
variable {K : PySem.W.Frag} {ρ : Str → Addr} {E : XK} {G H : Hp} {σ : L2.St} {n : Nat}
/-- the wish about arguments -/
def aPost (K : PySem.W.Frag) (ρ : Str → Addr) (E : XK) (G H : Hp) (n : Nat) (Q : List V → Hp → Prop) : Rs (List D) → Prop
  | .no => False
  | .ex c => ∀ H', Same H H' → E (.ref (ρ c)) none H'
  | .ok r => ∀ vs H' G' A, Evl G H G' H' → Rps K G' H' n r vs A → Fr H G' A → Q vs H'
theorem TVa_eq {d : VS → Rs (List D)} {Q : List V → Hp → Prop} : TVa K ρ E n d σ H Q ↔ ∃ G s, Same G H ∧ SV K G H s σ ∧ aPost K ρ E G H n Q (d s) := by
  unfold TVa
  constructor
  · rintro ⟨G, s, g, sv, p⟩
    refine ⟨G, s, g, sv, ?_⟩
    cases q : d s <;> rw [q] at p <;> exact p
  · rintro ⟨G, s, g, sv, p⟩
    refine ⟨G, s, g, sv, ?_⟩
    cases q : d s <;> rw [q] at p <;> exact p
theorem pva_nil {X : Cx} : PA X [] (TVa X.K ρ E n (vArgs [])) := PA.of pa_nil fun σ H Q h => by
  obtain ⟨G, s, g, sv, p⟩ := TVa_eq.mp h
  exact p [] H G [] (Evl.refl g) (by simp [Rps]) Fr.nil
theorem pva_cons {X : Cx} {e : Expr} {es : List Expr} {d : VS → Rs D} {ds : List (VS → Rs D)} (h : PE X e (TV X.K ρ E n d)) (hr : PA X es (TVa X.K ρ E n (vArgs ds))) (hs : starEach (e :: es) X.env = (false, eval e X.env) :: starEach es X.env := by rfl) :
    PA X (e :: es) (TVa X.K ρ E n (vArgs (d :: ds))) := PA.of (pa_cons h hr hs) fun σ H Q h => by
  obtain ⟨G, s, g, sv, p⟩ := TVa_eq.mp h
  rw [vArgs_cons] at p
  refine ⟨G, s, g, sv, ?_⟩
  cases q : d s with
  | no => rw [q] at p; exact p
  | ex c => rw [q] at p; exact p
  | ok x =>
    rw [q] at p
    dsimp only [Rs.bind] at p
    intro v H1 G1 A1 e1 r1 f1
    refine TVa_eq.mpr ⟨G1, s, e1.gh, sv.evl e1, ?_⟩
    cases q2 : vArgs ds s with
    | no => rw [q2] at p; exact p
    | ex c => rw [q2] at p; exact fun H' s' => p H' (e1.hh.trans s')
    | ok xs =>
      rw [q2] at p
      dsimp only [Rs.bind] at p
      intro vs H2 G2 A2 e2 r2 f2
      refine p (v :: vs) H2 G2 (A1 ++ A2) (e1.trans e2) ?_ (Fr.app f1 f2 e1.hh (fun a ha => (Rp.own x r1 a ha).some) e2.nw)
      simp only [Rps]
      exact ⟨v, vs, A1, A2, rfl, Rp.mono e2.hh.tups e2.gg x (.of_same e2.hh) r1, r2, rfl⟩

/-! ### displays -/
def vTup (ds : List (VS → Rs D)) : VS → Rs D := fun s => (vArgs ds s).bind fun xs => .ok (.tuple xs)
def vLst (ds : List (VS → Rs D)) : VS → Rs D := fun s => (vArgs ds s).bind fun xs => .ok (.list xs)
theorem Fr.upd {G H H1 : Hp} {A : List Addr} (f : Fr H G A) (p : Addr) : Fr H G A := f
theorem pv_tup {X : Cx} {es : List Expr} {k : Nat} {pos : Pos} {ds : List (VS → Rs D)} (h : PA X es (TVa X.K ρ E n (vArgs ds))) (hl : ds.length ≤ 1000 := by decide) : PE X (.Tuple es k pos) (TV X.K ρ E n (vTup ds)) :=
  PE.of (pe_tup h) fun σ H Q q => by
    obtain ⟨G, s, g, sv, p⟩ := q
    refine TVa_eq.mpr ⟨G, s, g, sv, ?_⟩
    unfold vTup at p
    cases q2 : vArgs ds s with
    | no => rw [q2] at p; exact p
    | ex c => rw [q2] at p; exact p
    | ok xs =>
      rw [q2] at p
      dsimp only [Rs.bind] at p
      intro vs H' G' A e r f
      refine ⟨line1000 (by rw [← Rps.length r, vArgs_len q2]; exact hl), fun a ha => ?_⟩
      refine p (.ref a) _ G' A (e.trans (evl_upd e.gh ha)) ?_ f
      simp only [Rp]
      exact ⟨a, vs, rfl, tup_upd, Rps.mono (same_upd ha).tups (Same.refl _) xs (st_upd ha) r⟩
theorem pv_lst {X : Cx} {es : List Expr} {pos : Pos} {ds : List (VS → Rs D)} (h : PA X es (TVa X.K ρ E n (vArgs ds))) (hl : ds.length ≤ 1000 := by decide) : PE X (.List es pos) (TV X.K ρ E (n + 1) (vLst ds)) :=
  PE.of (pe_lst h) fun σ H Q q => by
    obtain ⟨G, s, g, sv, p⟩ := q
    refine TVa_eq.mpr ⟨G, s, g, sv, ?_⟩
    unfold vLst at p
    cases q2 : vArgs ds s with
    | no => rw [q2] at p; exact p
    | ex c => rw [q2] at p; exact p
    | ok xs =>
      rw [q2] at p
      dsimp only [Rs.bind] at p
      intro vs H' G' A e r f
      refine ⟨line1000 (by rw [← Rps.length r, vArgs_len q2]; exact hl), fun a ha => ?_⟩
      refine p (.ref a) _ G' (a :: A) (e.trans (evl_upd e.gh ha)) ?_ ⟨List.nodup_cons.mpr ⟨fun z => ?_, f.nd⟩, fun b hb => ?_⟩
      · simp only [Rp]
        exact ⟨a, vs, A, rfl, upd_same, Rps.mono (same_upd ha).tups (Same.refl _) xs (st_upd ha) r, rfl⟩
      · exact (Rps.own xs r a z).some ha
      · rcases List.mem_cons.mp hb with rfl | hb
        · refine ⟨e.hh.free ha, ?_⟩
          cases q3 : G' b with
          | none => rfl
          | some o => rw [e.gh b o q3] at ha; cases ha
        · exact f.nw b hb
/-- [e, ..] * k -/
def vRep (ds : List (VS → Rs D)) (dk : VS → Rs D) : VS → Rs D := fun s => (vArgs ds s).bind fun xs => (dk s).bind fun k =>
  match k with
  | .int k => if fitsL 0 xs = true ∧ k < 2 ^ 60 ∧ -(2 ^ 60) < k ∧ xs.length * k.toNat ≤ sizeLine then .ok (.list (List.replicate k.toNat xs).flatten) else .no
  | _ => .no
theorem pv_rep {X : Cx} {es : List Expr} {b : Expr} {lpos pos : Pos} {ds : List (VS → Rs D)} {dk : VS → Rs D} (h : PA X es (TVa X.K ρ E 0 (vArgs ds))) (hb : PE X b (TV X.K ρ E 0 dk)) (hl : ds.length ≤ 1000 := by decide) :
    PE X (.BinOp (.List es lpos) .Mult b pos) (TV X.K ρ E 1 (vRep ds dk)) :=
  PE.of (pe_op op_rep (pe_lst h) hb) fun σ H Q q => by
    obtain ⟨G, s, g, sv, p⟩ := q
    refine TVa_eq.mpr ⟨G, s, g, sv, ?_⟩
    unfold vRep at p
    cases q2 : vArgs ds s with
    | no => rw [q2] at p; exact p
    | ex c => rw [q2] at p; exact p
    | ok xs =>
      rw [q2] at p
      dsimp only [Rs.bind] at p
      intro vs H1 G1 A e1 r1 f1
      obtain rfl := Rps.nil xs r1
      refine ⟨line1000 (by rw [← Rps.length r1, vArgs_len q2]; exact hl), fun a ha => ?_⟩
      have e2 : Evl G1 H1 G1 (upd H1 a (.lst vs)) := evl_upd e1.gh ha
      refine ⟨G1, s, e2.gh, (sv.evl e1).evl e2, ?_⟩
      cases q3 : dk s with
      | no => rw [q3] at p; exact p
      | ex c => rw [q3] at p; exact fun H' s' => p H' (e1.hh.trans (e2.hh.trans s'))
      | ok k =>
        rw [q3] at p
        dsimp only [Rs.bind] at p
        cases k with
        | int k =>
          dsimp only at p
          split at p
          · rename_i hk
            intro v H3 G3 A3 e3 r3 f3
            simp only [Rp] at r3
            have r4 : Rps X.K G3 H3 0 xs vs [] := Rps.mono (e2.hh.trans e3.hh).tups e3.gg xs (fun _ z => by simp at z) r1
            refine ⟨a, k, vs, rfl, r3.1, e3.hh _ _ upd_same, ?_, ?_, ?_, ?_⟩
            · have := hk.2.2.1
              omega
            · have := hk.2.1
              omega
            · rw [← Rps.length r1]; exact hk.2.2.2
            · refine vp_lst (n := 0) (G := G3) (fun v' H' G' A' e' r' f' => ?_) e3.gh (Rps.rep r4 k.toNat)
              exact p v' H' G' A' (e1.trans (e2.trans (e3.trans e'))) r' ⟨f'.nd, fun b hb => ⟨e1.hh.free (e2.hh.free (e3.hh.free (f'.nw b hb).1)), (f'.nw b hb).2⟩⟩
          · exact p.elim
        | _ => exact p.elim

/-! ### calls -/
/-- the reading of a call by data -/
def rc (K : PySem.W.Frag) (n : Nat) (op : List D → Rs D) : List V → Hp → VK → Prop := fun vs H Q => ∃ G ds, Same G H ∧ Rps K G H 0 ds vs [] ∧ ∃ r, op ds = .ok r ∧ VP K G H n r Q
def vCall (op : List D → Rs D) (ds : List (VS → Rs D)) : VS → Rs D := fun s => (vArgs ds s).bind op
def Calm1 (op : List D → Rs D) : Prop := ∀ xs c, op xs ≠ .ex c
theorem tv_cb {op : List D → Rs D} {ds : List (VS → Rs D)} {Q : VK} (hc : Calm1 op) (h : TV K ρ E n (vCall op ds) σ H Q) : tCB (rc K n op) (TVa K ρ E 0 (vArgs ds)) σ H Q := by
  obtain ⟨G, s, g, sv, p⟩ := h
  refine TVa_eq.mpr ⟨G, s, g, sv, ?_⟩
  unfold vCall at p
  cases q2 : vArgs ds s with
  | no => rw [q2] at p; exact p
  | ex c => rw [q2] at p; exact p
  | ok xs =>
    rw [q2] at p
    dsimp only [Rs.bind] at p
    intro vs H' G' A e r f
    obtain rfl := Rps.nil xs r
    refine ⟨G', xs, e.gh, r, ?_⟩
    cases q3 : op xs with
    | no => rw [q3] at p; exact p.elim
    | ex c => exact absurd q3 (hc xs c)
    | ok r3 =>
      rw [q3] at p
      exact ⟨r3, rfl, fun v H3 G3 A3 e3 r3 f3 => p v H3 G3 A3 (e.trans e3) r3 ⟨f3.nd, fun a ha => ⟨e.hh.free (f3.nw a ha).1, (f3.nw a ha).2⟩⟩⟩
theorem pv_callB {X : Cx} {op : List D → Rs D} {id : String} {x : Str} {p pos : Pos} {e : Expr} {es : List Expr} {ds : List (VS → Rs D)} (hc : CallR X (.builtin id) (rc X.K n op)) (hk : Calm1 op) (hm : X.mg x = none) (hv : bootBuiltins x = some (.builtin id))
    (ha : PA X (e :: es) (TVa X.K ρ E 0 (vArgs ds))) (hg : Gl X x := by rfl) (hn : x ≠ "__name__" := by decide) (hdb : (x == ("__debug__" : Str)) = false := by decide) (hs : starEach (e :: es) X.env = (false, eval e X.env) :: starEach es X.env := by rfl)
    (hpl : (backTo pos (starEach es X.env)).any (·.1) = false := by rfl) :
    PE X (.Call (.Name x p) (e :: es) [] pos) (TV X.K ρ E n (vCall op ds)) :=
  PE.of (pe_callB hc hg hm hv ha hn hdb hs hpl) fun _ _ _ q => tv_cb hk q
theorem pv_callTy {X : Cx} {op : List D → Rs D} {T : String} {x : Str} {p pos : Pos} {e : Expr} {es : List Expr} {ds : List (VS → Rs D)} (hc : CallR X (.type T) (rc X.K n op)) (hk : Calm1 op) (hm : X.mg x = none) (hv : bootBuiltins x = some (.type T))
    (ha : PA X (e :: es) (TVa X.K ρ E 0 (vArgs ds))) (hg : Gl X x := by rfl) (hn : x ≠ "__name__" := by decide) (hdb : (x == ("__debug__" : Str)) = false := by decide) (hs : starEach (e :: es) X.env = (false, eval e X.env) :: starEach es X.env := by rfl)
    (hpl : (backTo pos (starEach es X.env)).any (·.1) = false := by rfl) :
    PE X (.Call (.Name x p) (e :: es) [] pos) (TV X.K ρ E n (vCall op ds)) :=
  PE.of (pe_callTy hc hg hm hv ha hn hdb hs hpl) fun _ _ _ q => tv_cb hk q
/-- the promise of a def that changes nothing: it tells f of its arguments -/
def spV (K : PySem.W.Frag) (ρ : Str → Addr) (k n : Nat) (f : List D → Rs D) : Sp := fun vs H Q E => vs.length = k ∧ ∃ G ds, Same G H ∧ Rps K G H 0 ds vs [] ∧ vPost K ρ E G H n Q (f ds)
theorem tv_call {f : List D → Rs D} {k : Nat} {ds : List (VS → Rs D)} {Q : VK} (hl : ds.length = k) (h : TV K ρ E n (vCall f ds) σ H Q) : tCall (spV K ρ k n f) [] E (TVa K ρ E 0 (vArgs ds)) σ H Q := by
  obtain ⟨G, s, g, sv, p⟩ := h
  refine TVa_eq.mpr ⟨G, s, g, sv, ?_⟩
  unfold vCall at p
  cases q2 : vArgs ds s with
  | no => rw [q2] at p; exact p
  | ex c => rw [q2] at p; exact p
  | ok xs =>
    rw [q2] at p
    dsimp only [Rs.bind] at p
    intro vs H' G' A e r f
    obtain rfl := Rps.nil xs r
    rw [List.append_nil]
    exact ⟨by rw [← Rps.length r, vArgs_len q2, hl], G', xs, e.gh, r, vPost.evl p e⟩
theorem pv_call {X : Cx} {CX : CXT} {k m : Nat} {f : Addr} {fd : FuncData} {ps : List Str} {op : List D → Rs D} {x : Str} {p pos : Pos} {e : Expr} {es : List Expr} {ds : List (VS → Rs D)}
    (F : FnOk X.prog X.w X.K X.mg X.base CX m f fd ps (spV X.K ρ k n op)) (hr : Room m X.A) (hm : X.mg x = some (.ref f)) (hk : PySem.W.keepIn X.K (.ref f) = true) (hb : Binds X.K fd ps []) (hx : Passes CX X E)
    (ha : PA X (e :: es) (TVa X.K ρ E 0 (vArgs ds))) (hg : Gl X x := by rfl) (hl : ds.length = k := by rfl) (hdb : (x == ("__debug__" : Str)) = false := by decide) (hs : starEach (e :: es) X.env = (false, eval e X.env) :: starEach es X.env := by rfl)
    (hpl : (backTo pos (starEach es X.env)).any (·.1) = false := by rfl) :
    PE X (.Call (.Name x p) (e :: es) [] pos) (TV X.K ρ E n (vCall op ds)) :=
  PE.of (pe_call F hr hg hm hk hb .nil hx ha hdb hs hpl) fun _ _ _ q => tv_call hl q
theorem pv_call0 {X : Cx} {CX : CXT} {m : Nat} {f : Addr} {fd : FuncData} {ps : List Str} {op : List D → Rs D} {x : Str} {p pos : Pos}
    (F : FnOk X.prog X.w X.K X.mg X.base CX m f fd ps (spV X.K ρ 0 n op)) (hr : Room m X.A) (hm : X.mg x = some (.ref f)) (hk : PySem.W.keepIn X.K (.ref f) = true) (hb : Binds X.K fd ps []) (hx : Passes CX X E)
    (hg : Gl X x := by rfl) (hdb : (x == ("__debug__" : Str)) = false := by decide) : PE X (.Call (.Name x p) [] [] pos) (TV X.K ρ E n (vCall op [])) :=
  PE.of (pe_call0 F hr hg hm hk hb .nil hx hdb) fun σ H Q q => by
    obtain ⟨G, s, g, sv, p⟩ := q
    exact ⟨rfl, G, [], g, by simp [Rps], p⟩

/-! ### places -/
/-- the item at a place, from behind where it is below nought -/
def dItem : D → D → Rs D
  | .list xs, .int i => match atI xs i with | some d => .ok d | none => .no
  | .tuple xs, .int i => match atI xs i with | some d => .ok d | none => .no
  | _, _ => .no
theorem calmItem : Calm2 dItem := fun x y c z => by unfold dItem at z; split at z <;> first | cases z | (split at z <;> cases z)
theorem Rps.get {G H : Hp} : ∀ {ds : List D} {vs : List V} {i : Nat} {d : D}, Rps K G H 0 ds vs [] → ds[i]? = some d → ∃ v, vs[i]? = some v ∧ Rp K G H 0 d v []
  | [], vs, i, d, h, e => by simp at e
  | x :: ds, vs, 0, d, h, e => by
    simp only [Rps] at h
    obtain ⟨v, r, A1, A2, rfl, h1, h2, eA⟩ := h
    obtain rfl : x = d := by simpa using e
    have e1 := Rp.nil x h1
    subst e1
    exact ⟨v, rfl, h1⟩
  | x :: ds, vs, i + 1, d, h, e => by
    simp only [Rps] at h
    obtain ⟨v, r, A1, A2, rfl, h1, h2, eA⟩ := h
    have e2 := Rps.nil ds h2
    subst e2
    obtain ⟨v', e', r'⟩ := Rps.get (i := i) (d := d) h2 (by simpa using e)
    exact ⟨v', by simpa using e', r'⟩
theorem Rps.atI {G H : Hp} {ds : List D} {vs : List V} {i : Int} {d : D} (h : Rps K G H 0 ds vs []) (e : L2.atI ds i = some d) : ∃ v, L2.atI vs i = some v ∧ Rp K G H 0 d v [] := by
  unfold L2.atI at e ⊢
  rw [← Rps.length h]
  cases q : ixN ds.length i with
  | none => rw [q] at e; cases e
  | some j =>
    rw [q] at e
    exact Rps.get h e
theorem IxR.of {X : Cx} {r r' : R2} (h : IxR X r) (i : ∀ x y H Q, r' x y H Q → r x y H Q) : IxR X r' := by
  intro a b c d e f g j k l m n o p q z
  exact h a b c d e f g j k l m n o p (i _ _ _ _ q) z
theorem ixItem {X : Cx} : IxR X (r2 X.K 0 dItem) := IxR.of (ix_list.or ix_tup) fun x y H Q h => by
  obtain ⟨G, dx, dy, g, h1, h2, r, e, p⟩ := r2_int h
  unfold dItem at e
  split at e
  · rename_i xs i
    cases q : atI xs i with
    | none => rw [q] at e; cases e
    | some d =>
      rw [q] at e
      cases e
      simp only [Rp] at h1 h2
      obtain ⟨_, a, vs, rfl, q1, r1⟩ := h1
      obtain ⟨w, q2, r2⟩ := Rps.atI r1 q
      exact .inl ⟨a, vs, i, w, rfl, h2.1, g.seq q1, q2, vp_same p g r2⟩
  · rename_i xs i
    cases q : atI xs i with
    | none => rw [q] at e; cases e
    | some d =>
      rw [q] at e
      cases e
      simp only [Rp] at h1 h2
      obtain ⟨a, vs, rfl, q1, r1⟩ := h1
      obtain ⟨w, q2, r2⟩ := Rps.atI r1 q
      exact .inr ⟨a, vs, i, w, rfl, h2.1, q1, q2, vp_same p g r2⟩
  · cases e
theorem pv_ix {X : Cx} {a b : Expr} {pos : Pos} {da db : VS → Rs D} (ha : PE X a (TV X.K ρ E 0 da)) (hb : PE X b (TV X.K ρ E 0 db)) (hs : PlainIx b := by exact fun _ _ => rfl) : PE X (.Subscript a b pos) (TV X.K ρ E 0 (vOp dItem da db)) :=
  PE.of (pe_ix ixItem ha hb hs) fun _ _ _ q => tv_op calmItem q
end
end PL

set_option maxRecDepth 100000
/-! PL5: built-in functions by data. -/
namespace PL
open PySem PySem.Spec PyProof.Rows L2
section
variable {X : Cx} {n : Nat}

def asInts : List D → Option (List Int)
  | [] => some []
  | .int i :: r => (asInts r).map fun l => i :: l
  | _ :: _ => none
def asBools : List D → Option (List Bool)
  | [] => some []
  | .bool i :: r => (asBools r).map fun l => i :: l
  | _ :: _ => none
theorem asInts_map : ∀ l : List Int, asInts (l.map PyData.int) = some l
  | [] => rfl
  | i :: r => by simp only [List.map_cons, asInts, asInts_map r, Option.map_some]
theorem asBools_map : ∀ l : List Bool, asBools (l.map PyData.bool) = some l
  | [] => rfl
  | i :: r => by simp only [List.map_cons, asBools, asBools_map r, Option.map_some]
theorem Rps.ints {K : PySem.W.Frag} {G H : Hp} : ∀ {ds : List D} {vs : List V} {l : List Int}, Rps K G H 0 ds vs [] → asInts ds = some l → vs = l.map V.int
  | [], vs, l, h, e => by simp only [Rps] at h; cases e; exact h.1
  | .int i :: r, vs, l, h, e => by
    simp only [Rps, Rp, asInts] at h e
    obtain ⟨v, w, A1, A2, rfl, h1, h2, eA⟩ := h
    have e2 := Rps.nil r h2
    subst e2
    cases q : asInts r with
    | none => rw [q] at e; cases e
    | some l' =>
      rw [q] at e
      cases e
      rw [h1.1, Rps.ints h2 q]
      rfl
  | .none :: r, vs, l, h, e => by cases e
  | .bool _ :: r, vs, l, h, e => by cases e
  | .str _ :: r, vs, l, h, e => by cases e
  | .list _ :: r, vs, l, h, e => by cases e
  | .tuple _ :: r, vs, l, h, e => by cases e
  | .dict _ :: r, vs, l, h, e => by cases e
theorem Rps.bools {K : PySem.W.Frag} {G H : Hp} : ∀ {ds : List D} {vs : List V} {l : List Bool}, Rps K G H 0 ds vs [] → asBools ds = some l → vs = l.map V.bl
  | [], vs, l, h, e => by simp only [Rps] at h; cases e; exact h.1
  | .bool i :: r, vs, l, h, e => by
    simp only [Rps, Rp, asBools] at h e
    obtain ⟨v, w, A1, A2, rfl, h1, h2, eA⟩ := h
    have e2 := Rps.nil r h2
    subst e2
    cases q : asBools r with
    | none => rw [q] at e; cases e
    | some l' =>
      rw [q] at e
      cases e
      rw [h1.1, Rps.bools h2 q]
      rfl
  | .none :: r, vs, l, h, e => by cases e
  | .int _ :: r, vs, l, h, e => by cases e
  | .str _ :: r, vs, l, h, e => by cases e
  | .list _ :: r, vs, l, h, e => by cases e
  | .tuple _ :: r, vs, l, h, e => by cases e
  | .dict _ :: r, vs, l, h, e => by cases e
theorem Rps.one {K : PySem.W.Frag} {G H : Hp} {d : D} {vs : List V} (h : Rps K G H 0 [d] vs []) : ∃ v, vs = [v] ∧ Rp K G H 0 d v [] := by
  simp only [Rps] at h
  obtain ⟨v, w, A1, A2, rfl, h1, ⟨rfl, e2⟩, eA⟩ := h
  have e1 := Rp.nil d h1
  subst e1
  exact ⟨v, rfl, h1⟩
theorem Rps.two {K : PySem.W.Frag} {G H : Hp} {d e : D} {vs : List V} (h : Rps K G H 0 [d, e] vs []) : ∃ v w, vs = [v, w] ∧ Rp K G H 0 d v [] ∧ Rp K G H 0 e w [] := by
  have h' := h
  simp only [Rps] at h
  obtain ⟨v, w, A1, A2, rfl, h1, h2, eA⟩ := h
  have e1 := Rp.nil d h1
  subst e1
  obtain ⟨w', r', B1, B2, rfl, h3, ⟨rfl, e2⟩, eB⟩ := h2
  have e3 := Rp.nil e h3
  subst e3
  exact ⟨v, w', rfl, h1, h3⟩

def dLen : List D → Rs D
  | [.list xs] => .ok (.int xs.length)
  | [.tuple xs] => .ok (.int xs.length)
  | _ => .no
theorem calmLen : Calm1 dLen := fun x c z => by unfold dLen at z; split at z <;> cases z
theorem cLen : CallR X (.builtin "len") (rc X.K n dLen) := CallR.of call_len_seq fun vs H Q h => by
  obtain ⟨G, ds, g, h1, r, e, p⟩ := h
  unfold dLen at e
  split at e
  · cases e
    obtain ⟨v, rfl, h2⟩ := Rps.one h1
    simp only [Rp] at h2
    obtain ⟨_, a, ws, rfl, q, r⟩ := h2
    exact ⟨a, ws, rfl, .inl (g.seq q), by rw [← Rps.length r]; exact vp_same p g (rp_int _ _ _)⟩
  · cases e
    obtain ⟨v, rfl, h2⟩ := Rps.one h1
    simp only [Rp] at h2
    obtain ⟨a, ws, rfl, q, r⟩ := h2
    exact ⟨a, ws, rfl, .inr q, by rw [← Rps.length r]; exact vp_same p g (rp_int _ _ _)⟩
  · cases e
def dAll : List D → Rs D
  | [.list xs] => match asBools xs with | some l => .ok (.bool (l.all id)) | none => .no
  | _ => .no
def dAny : List D → Rs D
  | [.list xs] => match asBools xs with | some l => .ok (.bool (l.any id)) | none => .no
  | _ => .no
def dSum : List D → Rs D
  | [.list xs] => match asInts xs with | some l => .ok (.int l.sum) | none => .no
  | _ => .no
theorem calmAll : Calm1 dAll := fun x c z => by unfold dAll at z; split at z <;> first | cases z | (split at z <;> cases z)
theorem calmAny : Calm1 dAny := fun x c z => by unfold dAny at z; split at z <;> first | cases z | (split at z <;> cases z)
theorem calmSum : Calm1 dSum := fun x c z => by unfold dSum at z; split at z <;> first | cases z | (split at z <;> cases z)
theorem cAll (hc : X.calm = true) : CallR X (.builtin "all") (rc X.K n dAll) := CallR.of (cr_all hc) fun vs H Q h => by
  obtain ⟨G, ds, g, h1, r, e, p⟩ := h
  unfold dAll at e
  split at e
  · rename_i xs
    cases q : asBools xs with
    | none => rw [q] at e; cases e
    | some l =>
      rw [q] at e
      cases e
      obtain ⟨v, rfl, h2⟩ := Rps.one h1
      simp only [Rp] at h2
      obtain ⟨_, a, ws, rfl, q1, r⟩ := h2
      have e3 := Rps.bools r q
      subst e3
      exact ⟨a, l, rfl, g.seq q1, vp_same p g (rp_bool _ _ _)⟩
  · cases e
theorem cAny (hc : X.calm = true) : CallR X (.builtin "any") (rc X.K n dAny) := CallR.of (cr_any hc) fun vs H Q h => by
  obtain ⟨G, ds, g, h1, r, e, p⟩ := h
  unfold dAny at e
  split at e
  · rename_i xs
    cases q : asBools xs with
    | none => rw [q] at e; cases e
    | some l =>
      rw [q] at e
      cases e
      obtain ⟨v, rfl, h2⟩ := Rps.one h1
      simp only [Rp] at h2
      obtain ⟨_, a, ws, rfl, q1, r⟩ := h2
      have e3 := Rps.bools r q
      subst e3
      exact ⟨a, l, rfl, g.seq q1, vp_same p g (rp_bool _ _ _)⟩
  · cases e
theorem cSum (hc : X.calm = true) : CallR X (.builtin "sum") (rc X.K n dSum) := CallR.of (cr_sum hc) fun vs H Q h => by
  obtain ⟨G, ds, g, h1, r, e, p⟩ := h
  unfold dSum at e
  split at e
  · rename_i xs
    cases q : asInts xs with
    | none => rw [q] at e; cases e
    | some l =>
      rw [q] at e
      cases e
      obtain ⟨v, rfl, h2⟩ := Rps.one h1
      simp only [Rp] at h2
      obtain ⟨_, a, ws, rfl, q1, r⟩ := h2
      have e3 := Rps.ints r q
      subst e3
      exact ⟨a, l, rfl, g.seq q1, vp_same p g (rp_int _ _ _)⟩
  · cases e
/-- least, greatest of a list of whole numbers -/
def minL : List Int → Option Int
  | [] => none
  | i :: r => some (r.foldl min i)
def maxL : List Int → Option Int
  | [] => none
  | i :: r => some (r.foldl max i)
theorem foldl_min (l : List Int) : ∀ i : Int, (l.foldl min i = i ∨ l.foldl min i ∈ l) ∧ l.foldl min i ≤ i ∧ ∀ y ∈ l, l.foldl min i ≤ y := by
  induction l with
  | nil => intro i; simp
  | cons a r ih =>
    intro i
    obtain ⟨h1, h2, h3⟩ := ih (min i a)
    rw [List.foldl_cons]
    refine ⟨?_, by omega, fun y hy => ?_⟩
    · rcases h1 with h1 | h1
      · rw [h1]
        by_cases q : i ≤ a
        · left; omega
        · right; rw [show min i a = a by omega]; simp
      · right; simp [h1]
    · rcases List.mem_cons.mp hy with rfl | hy
      · omega
      · exact h3 y hy
theorem foldl_max (l : List Int) : ∀ i : Int, (l.foldl max i = i ∨ l.foldl max i ∈ l) ∧ i ≤ l.foldl max i ∧ ∀ y ∈ l, y ≤ l.foldl max i := by
  induction l with
  | nil => intro i; simp
  | cons a r ih =>
    intro i
    obtain ⟨h1, h2, h3⟩ := ih (max i a)
    rw [List.foldl_cons]
    refine ⟨?_, by omega, fun y hy => ?_⟩
    · rcases h1 with h1 | h1
      · rw [h1]
        by_cases q : a ≤ i
        · left; omega
        · right; rw [show max i a = a by omega]; simp
      · right; simp [h1]
    · rcases List.mem_cons.mp hy with rfl | hy
      · omega
      · exact h3 y hy
theorem minL_mem {l : List Int} {m : Int} (h : minL l = some m) : m ∈ l ∧ ∀ y ∈ l, m ≤ y := by
  cases l with
  | nil => cases h
  | cons i r =>
    cases h
    obtain ⟨h1, h2, h3⟩ := foldl_min r i
    refine ⟨?_, fun y hy => ?_⟩
    · rcases h1 with h1 | h1
      · rw [h1]; simp
      · simp [h1]
    · rcases List.mem_cons.mp hy with rfl | hy
      · exact h2
      · exact h3 y hy
theorem maxL_mem {l : List Int} {m : Int} (h : maxL l = some m) : m ∈ l ∧ ∀ y ∈ l, y ≤ m := by
  cases l with
  | nil => cases h
  | cons i r =>
    cases h
    obtain ⟨h1, h2, h3⟩ := foldl_max r i
    refine ⟨?_, fun y hy => ?_⟩
    · rcases h1 with h1 | h1
      · rw [h1]; simp
      · simp [h1]
    · rcases List.mem_cons.mp hy with rfl | hy
      · exact h2
      · exact h3 y hy
def dMin : List D → Rs D
  | [.int i, .int j] => .ok (.int (min i j))
  | [.list xs] => match (asInts xs).bind minL with | some m => .ok (.int m) | none => .no
  | _ => .no
def dMax : List D → Rs D
  | [.int i, .int j] => .ok (.int (max i j))
  | [.list xs] => match (asInts xs).bind maxL with | some m => .ok (.int m) | none => .no
  | _ => .no
theorem calmMin : Calm1 dMin := fun x c z => by unfold dMin at z; split at z <;> first | cases z | (split at z <;> cases z)
theorem calmMax : Calm1 dMax := fun x c z => by unfold dMax at z; split at z <;> first | cases z | (split at z <;> cases z)
theorem cMin (hc : X.calm = true) : CallR X (.builtin "min") (rc X.K n dMin) := CallR.of ((call_min2 hc).or (cr_min hc)) fun vs H Q h => by
  obtain ⟨G, ds, g, h1, r, e, p⟩ := h
  unfold dMin at e
  split at e
  · rename_i i j
    cases e
    obtain ⟨v, w, rfl, h2, h3⟩ := Rps.two h1
    simp only [Rp] at h2 h3
    refine .inl ⟨i, j, by rw [h2.1, h3.1], ?_⟩
    have : (if j < i then j else i) = min i j := by split <;> omega
    rw [this]
    exact vp_same p g (rp_int _ _ _)
  · rename_i xs
    cases q : asInts xs with
    | none => rw [q] at e; cases e
    | some l =>
      rw [q] at e
      obtain ⟨v, rfl, h2⟩ := Rps.one h1
      simp only [Rp] at h2
      obtain ⟨_, a, ws, rfl, q1, r1⟩ := h2
      have e3 := Rps.ints r1 q
      subst e3
      cases q2 : minL l with
      | none => simp only [Option.bind_some, q2] at e; cases e
      | some m =>
        simp only [Option.bind_some, q2] at e
        cases e
        obtain ⟨k1, k2⟩ := minL_mem q2
        refine .inr ⟨a, l, rfl, g.seq q1, List.length_pos_of_mem k1, fun m' hm hle => ?_⟩
        have : m' = m := by have a1 := hle m k1; have a2 := k2 m' hm; omega
        subst this
        exact vp_same p g (rp_int _ _ _)
  · cases e
theorem cMax (hc : X.calm = true) : CallR X (.builtin "max") (rc X.K n dMax) := CallR.of ((call_max2 hc).or (cr_max hc)) fun vs H Q h => by
  obtain ⟨G, ds, g, h1, r, e, p⟩ := h
  unfold dMax at e
  split at e
  · rename_i i j
    cases e
    obtain ⟨v, w, rfl, h2, h3⟩ := Rps.two h1
    simp only [Rp] at h2 h3
    refine .inl ⟨i, j, by rw [h2.1, h3.1], ?_⟩
    have : (if j > i then j else i) = max i j := by split <;> omega
    rw [this]
    exact vp_same p g (rp_int _ _ _)
  · rename_i xs
    cases q : asInts xs with
    | none => rw [q] at e; cases e
    | some l =>
      rw [q] at e
      obtain ⟨v, rfl, h2⟩ := Rps.one h1
      simp only [Rp] at h2
      obtain ⟨_, a, ws, rfl, q1, r1⟩ := h2
      have e3 := Rps.ints r1 q
      subst e3
      cases q2 : maxL l with
      | none => simp only [Option.bind_some, q2] at e; cases e
      | some m =>
        simp only [Option.bind_some, q2] at e
        cases e
        obtain ⟨k1, k2⟩ := maxL_mem q2
        refine .inr ⟨a, l, rfl, g.seq q1, List.length_pos_of_mem k1, fun m' hm hle => ?_⟩
        have : m' = m := by have a1 := hle m k1; have a2 := k2 m' hm; omega
        subst this
        exact vp_same p g (rp_int _ _ _)
  · cases e
def dAbs : List D → Rs D
  | [.int i] => .ok (.int (if i < 0 then -i else i))
  | _ => .no
def dInt : List D → Rs D
  | [.int i] => .ok (.int i)
  | [.bool b] => .ok (.int (if b then 1 else 0))
  | _ => .no
theorem calmAbs : Calm1 dAbs := fun x c z => by unfold dAbs at z; split at z <;> cases z
theorem calmInt : Calm1 dInt := fun x c z => by unfold dInt at z; split at z <;> cases z
theorem cAbs : CallR X (.builtin "abs") (rc X.K n dAbs) := CallR.of call_abs fun vs H Q h => by
  obtain ⟨G, ds, g, h1, r, e, p⟩ := h
  unfold dAbs at e
  split at e
  · cases e
    obtain ⟨v, rfl, h2⟩ := Rps.one h1
    simp only [Rp] at h2
    exact ⟨_, by rw [h2.1], vp_same p g (rp_int _ _ _)⟩
  · cases e
theorem cInt : CallR X (.type "int") (rc X.K n dInt) := CallR.of call_int1 fun vs H Q h => by
  obtain ⟨G, ds, g, h1, r, e, p⟩ := h
  unfold dInt at e
  split at e
  · cases e
    obtain ⟨v, rfl, h2⟩ := Rps.one h1
    simp only [Rp] at h2
    exact .inl ⟨_, by rw [h2.1], vp_same p g (rp_int _ _ _)⟩
  · cases e
    obtain ⟨v, rfl, h2⟩ := Rps.one h1
    simp only [Rp] at h2
    exact .inr ⟨_, by rw [h2.1], vp_same p g (rp_int _ _ _)⟩
  · cases e
def dTuple : List D → Rs D
  | [.list xs] => .ok (.tuple xs)
  | [.tuple xs] => .ok (.tuple xs)
  | _ => .no
theorem calmTuple : Calm1 dTuple := fun x c z => by unfold dTuple at z; split at z <;> cases z
theorem cTuple : CallR X (.type "tuple") (rc X.K 0 dTuple) := CallR.of call_tuple_of fun vs H Q h => by
  obtain ⟨G, ds, g, h1, r, e, p⟩ := h
  unfold dTuple at e
  split at e
  · cases e
    obtain ⟨v, rfl, h2⟩ := Rps.one h1
    simp only [Rp] at h2
    obtain ⟨_, a, ws, rfl, q, r⟩ := h2
    exact ⟨a, ws, rfl, .inl ⟨g.seq q, vp_tup p g r⟩⟩
  · cases e
    obtain ⟨v, rfl, h2⟩ := Rps.one h1
    have h3 := h2
    simp only [Rp] at h2
    obtain ⟨a, ws, rfl, q, r⟩ := h2
    exact ⟨a, ws, rfl, .inr ⟨q, vp_same p g h3⟩⟩
  · cases e
def dList : List D → Rs D
  | [.list xs] => .ok (.list xs)
  | [.tuple xs] => .ok (.list xs)
  | _ => .no
theorem calmList : Calm1 dList := fun x c z => by unfold dList at z; split at z <;> cases z
theorem cList0 : CallR X (.type "list") (rc X.K 0 dList) := CallR.of call_list_of fun vs H Q h => by
  obtain ⟨G, ds, g, h1, r, e, p⟩ := h
  unfold dList at e
  split at e
  · cases e
    obtain ⟨v, rfl, h2⟩ := Rps.one h1
    simp only [Rp] at h2
    obtain ⟨_, a, ws, rfl, q, r⟩ := h2
    exact ⟨a, ws, rfl, .inl (g.seq q), vp_lst0 p g r⟩
  · cases e
    obtain ⟨v, rfl, h2⟩ := Rps.one h1
    simp only [Rp] at h2
    obtain ⟨a, ws, rfl, q, r⟩ := h2
    exact ⟨a, ws, rfl, .inr q, vp_lst0 p g r⟩
  · cases e
/-- .. a new list of things without lists -/
def dList1 : List D → Rs D
  | [.list xs] => if fitsL 0 xs = true then .ok (.list xs) else .no
  | [.tuple xs] => if fitsL 0 xs = true then .ok (.list xs) else .no
  | _ => .no
theorem calmList1 : Calm1 dList1 := fun x c z => by unfold dList1 at z; split at z <;> first | cases z | (split at z <;> cases z)
theorem Rps.to1 {K : PySem.W.Frag} {G H : Hp} {xs : List D} {vs : List V} (f : fitsL 0 xs = true) (h : Rps K G H 0 xs vs []) (m : Nat) : Rps K G H m xs vs [] := (Rps.flat (m := m) xs f h).2
theorem cList1 : CallR X (.type "list") (rc X.K 1 dList1) := CallR.of call_list_of fun vs H Q h => by
  obtain ⟨G, ds, g, h1, r, e, p⟩ := h
  unfold dList1 at e
  split at e
  · split at e
    · rename_i f
      cases e
      obtain ⟨v, rfl, h2⟩ := Rps.one h1
      simp only [Rp] at h2
      obtain ⟨_, a, ws, rfl, q, r⟩ := h2
      exact ⟨a, ws, rfl, .inl (g.seq q), vp_lst p g (Rps.to1 f r 0)⟩
    · cases e
  · split at e
    · rename_i f
      cases e
      obtain ⟨v, rfl, h2⟩ := Rps.one h1
      simp only [Rp] at h2
      obtain ⟨a, ws, rfl, q, r⟩ := h2
      exact ⟨a, ws, rfl, .inr q, vp_lst p g (Rps.to1 f r 0)⟩
    · cases e
  · cases e
/-- - x -/
def vNeg (da : VS → Rs D) : VS → Rs D := fun s => (da s).bind fun x => match x with | .int i => .ok (.int (-i)) | _ => .no
theorem pv_neg {ρ : Str → Addr} {E : XK} {a : Expr} {pos : Pos} {da : VS → Rs D} (ha : PE X a (TV X.K ρ E 0 da)) : PE X (.UnaryOp .USub a pos) (TV X.K ρ E n (vNeg da)) :=
  PE.of (pe_un un_neg ha) fun σ H Q q => by
    obtain ⟨G, s, g, sv, p⟩ := q
    refine ⟨G, s, g, sv, ?_⟩
    unfold vNeg at p
    cases q : da s with
    | no => rw [q] at p; exact p
    | ex c => rw [q] at p; exact p
    | ok x =>
      rw [q] at p
      dsimp only [Rs.bind] at p
      cases x with
      | int i =>
        intro v H' G' A e r f
        simp only [Rp] at r
        exact ⟨i, r.1, p _ H' G' [] e (rp_int _ _ _) Fr.nil⟩
      | _ => exact p.elim
end
end PL

set_option maxRecDepth 100000
/-! PL6: chains, isinstance, slices. -/
namespace PL
open PySem PySem.Spec PyProof.Rows L2
section
variable {X : Cx} {n : Nat} {ρ : Str → Addr} {E : XK}

/-- a op b op' c -/
def vChain (f f' : D → D → Rs D) (da db dc : VS → Rs D) : VS → Rs D := fun s => (da s).bind fun x => (db s).bind fun y => (f x y).bind fun z =>
  match z with
  | .bool true => (dc s).bind fun w => f' y w
  | .bool false => .ok (.bool false)
  | _ => .no
theorem tv_chain {K : PySem.W.Frag} {σ : L2.St} {H : Hp} {Q : VK} {f f' : D → D → Rs D} {da db dc : VS → Rs D} (hc : Calm2 f) (hc' : Calm2 f') (h : TV K ρ E n (vChain f f' da db dc) σ H Q) :
    tChain (r2 K 0 f) (r2 K n f') (TV K ρ E 0 da) (TV K ρ E 0 db) (TV K ρ E 0 dc) σ H Q := by
  obtain ⟨G, s, g, sv, p⟩ := h
  refine ⟨G, s, g, sv, ?_⟩
  unfold vChain at p
  cases q1 : da s with
  | no => rw [q1] at p; exact p
  | ex c => rw [q1] at p; exact p
  | ok x =>
    rw [q1] at p
    dsimp only [Rs.bind] at p
    intro v H1 G1 A e1 r1 f1
    obtain rfl := Rp.nil x r1
    refine ⟨G1, s, e1.gh, sv.evl e1, ?_⟩
    cases q2 : db s with
    | no => rw [q2] at p; exact p
    | ex c => rw [q2] at p; exact fun H' s' => p H' (e1.hh.trans s')
    | ok y =>
      rw [q2] at p
      dsimp only [Rs.bind] at p
      intro w H2 G2 A2 e2 r2' f2
      obtain rfl := Rp.nil y r2'
      refine ⟨G2, x, y, e2.gh, Rp.mono e2.hh.tups e2.gg x (fun a h => by simp at h) r1, r2', ?_⟩
      cases q3 : f x y with
      | no => rw [q3] at p; exact p
      | ex c => exact absurd q3 (hc x y c)
      | ok r =>
        rw [q3] at p
        dsimp only [Rs.bind] at p
        intro u H3 G3 A3 e3 r3 f3
        have e13 := e1.trans (e2.trans e3)
        cases r with
        | bool b =>
          simp only [Rp] at r3
          refine ⟨b, r3.1, ?_⟩
          cases b with
          | false =>
            rw [if_neg Bool.false_ne_true]
            exact p _ H3 G3 [] e13 (rp_bool _ _ _) Fr.nil
          | true =>
            rw [if_pos rfl]
            refine ⟨G3, s, e3.gh, sv.evl e13, ?_⟩
            dsimp only at p
            cases q4 : dc s with
            | no => rw [q4] at p; exact p
            | ex c => rw [q4] at p; exact fun H' s' => p H' (e13.hh.trans s')
            | ok z =>
              rw [q4] at p
              dsimp only [Rs.bind] at p
              intro w4 H4 G4 A4 e4 r4 f4
              obtain rfl := Rp.nil z r4
              refine ⟨G4, y, z, e4.gh, Rp.mono (e3.trans e4).hh.tups (e3.trans e4).gg y (fun a h => by simp at h) r2', r4, ?_⟩
              cases q5 : f' y z with
              | no => rw [q5] at p; exact p
              | ex c => exact absurd q5 (hc' y z c)
              | ok r5 =>
                rw [q5] at p
                exact fun u5 H5 G5 A5 e5 r5 f5 => p u5 H5 G5 A5 (e13.trans (e4.trans e5)) r5 ⟨f5.nd, fun a ha => ⟨(e13.trans e4).hh.free (f5.nw a ha).1, (f5.nw a ha).2⟩⟩
        | _ => exact p.elim
theorem pv_chain {a b c : Expr} {op op' : CmpOp} {pos : Pos} {f f' : D → D → Rs D} {da db dc : VS → Rs D} (ho : OpR X (compareOp op) (r2 X.K 0 f)) (hk : Calm2 f) (ho' : OpR X (compareOp op') (r2 X.K n f')) (hk' : Calm2 f')
    (ha : PE X a (TV X.K ρ E 0 da)) (hb : PE X b (TV X.K ρ E 0 db)) (hc : PE X c (TV X.K ρ E 0 dc)) (hm : lastMarks [op, op'] [b, c] = false := by with_unfolding_all rfl) :
    PE X (.Compare a [op, op'] [b, c] pos) (TV X.K ρ E n (vChain f f' da db dc)) := PE.of (pe_chain ho ho' ha hb hc hm) fun _ _ _ q => tv_chain hk hk' q
theorem ptv_chain {a b c : Expr} {op op' : CmpOp} {pos : Pos} {f f' : D → D → Rs D} {da db dc : VS → Rs D} (ho : OpR X (compareOp op) (r2 X.K 0 f)) (hk : Calm2 f) (ho' : OpR X (compareOp op') (r2 X.K 0 f')) (hk' : Calm2 f')
    (ha : PE X a (TV X.K ρ E 0 da)) (hb : PE X b (TV X.K ρ E 0 db)) (hc : PE X c (TV X.K ρ E 0 dc)) (hm : lastMarks [op, op'] [b, c] = false := by with_unfolding_all rfl) :
    PT X (.Compare a [op, op'] [b, c] pos) (TVt X.K ρ E (vChain f f' da db dc)) := PT.of (pt_chain ho ho' ha hb hc hm) fun _ _ _ q => tv_chain hk hk' (tv_test q)

/-! ### isinstance -/
def tyName : D → String
  | .none => "NoneType"
  | .bool _ => "bool"
  | .int _ => "int"
  | .str _ => "str"
  | .list _ => "list"
  | .tuple _ => "tuple"
  | .dict _ => "dict"
def isiB (T : String) (d : D) : Bool := tyName d == T || (tyName d == "bool" && T == "int")
/-- the types that isinstance is asked of here -/
def tyKnown (T : String) : Bool := T == "int" || T == "bool" || T == "tuple" || T == "list" || T == "str"
theorem rp_ty {K : PySem.W.Frag} {G H : Hp} {d : D} {v : V} (g : Same G H) (h : Rp K G H 0 d v []) : TyX K H v (.type (tyName d)) := by
  cases d <;> simp only [Rp] at h
  case none => rw [h.1]; exact .base .non
  case bool b => rw [h.1]; exact .base (.bl b)
  case int b => rw [h.1]; exact .base (.int b)
  case str b => rw [h.1]; exact .base (.str b)
  case list =>
    obtain ⟨_, a, vs, rfl, q, _⟩ := h
    rcases g.seq q with (q | ⟨o, q⟩) | ⟨o, its, m, q, c, _⟩
    · exact .base (.lst q)
    · exact .base (.frz q)
    · exact .kList q c
  case tuple =>
    obtain ⟨a, vs, rfl, q, _⟩ := h
    rcases q with (q | ⟨o, q⟩) | ⟨o, its, m, q, c, _⟩
    · exact .base (.tup q)
    · exact .fTuple q
    · exact .kTuple q c
  case dict =>
    obtain ⟨_, a, rfl, q⟩ := h
    rcases q with ⟨_, u, q⟩ | ⟨ws, q, _⟩
    · exact .base (.dK (g _ _ q))
    · exact .base (.dT (g _ _ q))
def isiS (t T : String) : Bool := t == T || (t == "bool" && T == "int")
theorem kit_all : (["NoneType", "bool", "int", "str", "list", "tuple", "dict"].all fun t => ["int", "bool", "tuple", "list", "str"].all fun T => kitB t T == some (isiS t T)) = true := by decide +kernel
theorem tyName_mem (d : D) : tyName d ∈ ["NoneType", "bool", "int", "str", "list", "tuple", "dict"] := by cases d <;> simp [tyName]
theorem kit_d {K : PySem.W.Frag} (d : D) {T : String} (h : tyKnown T = true) : PySem.W.kitOne K (.type (tyName d)) (.type T) = some (isiB T d) := by
  have hT : T ∈ ["int", "bool", "tuple", "list", "str"] := by
    unfold tyKnown at h
    simp only [Bool.or_eq_true, beq_iff_eq] at h
    rcases h with (((h | h) | h) | h) | h <;> simp [h]
  have k := List.all_eq_true.mp (List.all_eq_true.mp kit_all _ (tyName_mem d)) _ hT
  exact kit_ty (eq_of_beq k)
def vIsi (T : String) (da : VS → Rs D) : VS → Rs D := fun s => (da s).bind fun d => .ok (.bool (isiB T d))
theorem tv_isi {K : PySem.W.Frag} {σ : L2.St} {H : Hp} {Q : VK} {T : String} {da : VS → Rs D} (hT : tyKnown T = true) (h : TV K ρ E n (vIsi T da) σ H Q) : tCB (rIsi K) (tCons (TV K ρ E 0 da) (tCons (tC (.ty T)) tNil)) σ H Q := by
  obtain ⟨G, s, g, sv, p⟩ := h
  refine ⟨G, s, g, sv, ?_⟩
  unfold vIsi at p
  cases q1 : da s with
  | no => rw [q1] at p; exact p
  | ex c => rw [q1] at p; exact p
  | ok x =>
    rw [q1] at p
    dsimp only [Rs.bind] at p
    intro v H1 G1 A e1 r1 f1
    obtain rfl := Rp.nil x r1
    exact ⟨v, .ty T, _, _, _, rfl, .ty T, rp_ty e1.gh r1, kit_d x hT, p _ H1 G1 [] e1 (rp_bool _ _ _) Fr.nil⟩
theorem pv_isi {T : String} {tn : Str} {p pos p2 : Pos} {e : Expr} {da : VS → Rs D} (ha : PE X e (TV X.K ρ E 0 da)) (hm : X.mg "isinstance" = none) (hmT : X.mg tn = none) (hv : bootBuiltins tn = some (.type T)) (hT : tyKnown T = true)
    (hg : Gl X "isinstance" := by rfl) (hgT : Gl X tn := by rfl) (hnT : tn ≠ "__name__" := by decide) (hdT : (tn == ("__debug__" : Str)) = false := by decide)
    (hs : starEach [e, .Name tn p2] X.env = (false, eval e X.env) :: starEach [.Name tn p2] X.env := by rfl) (hs2 : starEach [.Name tn p2] X.env = (false, eval (.Name tn p2) X.env) :: starEach [] X.env := by rfl)
    (hpl : (backTo pos (starEach [.Name tn p2] X.env)).any (·.1) = false := by rfl) :
    PE X (.Call (.Name "isinstance" p) [e, .Name tn p2] [] pos) (TV X.K ρ E n (vIsi T da)) :=
  PE.of (pe_callB call_isi hg hm (by decide +kernel) (pa_cons ha (pa_cons (pe_bltn (v := .ty T) hgT hmT hv rfl hnT hdT) pa_nil hs2) hs) (by decide) (by decide) hs hpl) fun _ _ _ q => tv_isi hT q
/-- isinstance(x, (S, T)) -/
def vIsi2 (S T : String) (da : VS → Rs D) : VS → Rs D := fun s => (da s).bind fun d => .ok (.bool (isiB S d || isiB T d))
theorem tv_isi2 {K : PySem.W.Frag} {σ : L2.St} {H : Hp} {Q : VK} {S T : String} {da : VS → Rs D} (hS : tyKnown S = true) (hT : tyKnown T = true) (h : TV K ρ E n (vIsi2 S T da) σ H Q) :
    tCB (rIsiT K) (tCons (TV K ρ E 0 da) (tCons (tTup (tCons (tC (.ty S)) (tCons (tC (.ty T)) tNil))) tNil)) σ H Q := by
  obtain ⟨G, s, g, sv, p⟩ := h
  refine ⟨G, s, g, sv, ?_⟩
  unfold vIsi2 at p
  cases q1 : da s with
  | no => rw [q1] at p; exact p
  | ex c => rw [q1] at p; exact p
  | ok x =>
    rw [q1] at p
    dsimp only [Rs.bind] at p
    intro v H1 G1 A e1 r1 f1
    obtain rfl := Rp.nil x r1
    refine ⟨line1000 (by show 2 ≤ 1000; decide), fun a ha => ?_⟩
    have e2 : Evl G1 H1 G1 (upd H1 a (.tup [.ty S, .ty T])) := evl_upd e1.gh ha
    refine ⟨v, a, _, _, _, _, rfl, upd_same, .cons (.ty S) (.cons (.ty T) .nil), rp_ty e2.gh (Rp.mono e2.hh.tups e2.gg x (fun _ z => by simp at z) r1), ?_, p _ _ G1 [] (e1.trans e2) (rp_bool _ _ _) Fr.nil⟩
    refine kitAny_cons (kit_d x hS) (fun z => ?_) (fun z => by rw [z]; rfl)
    refine kitAny_cons (kit_d x hT) (fun z2 => ?_) (fun z2 => by rw [z2, Bool.or_true])
    rw [z, z2]
    rfl
theorem pv_isi2 {S T : String} {sn tn : Str} {k : Nat} {p pos p1 p2 pt : Pos} {e : Expr} {da : VS → Rs D} (ha : PE X e (TV X.K ρ E 0 da)) (hm : X.mg "isinstance" = none) (hmS : X.mg sn = none) (hvS : bootBuiltins sn = some (.type S)) (hS : tyKnown S = true)
    (hmT : X.mg tn = none) (hv : bootBuiltins tn = some (.type T)) (hT : tyKnown T = true)
    (hg : Gl X "isinstance" := by rfl) (hgS : Gl X sn := by rfl) (hgT : Gl X tn := by rfl) (hnS : sn ≠ "__name__" := by decide) (hdS : (sn == ("__debug__" : Str)) = false := by decide) (hnT : tn ≠ "__name__" := by decide) (hdT : (tn == ("__debug__" : Str)) = false := by decide)
    (hs : starEach [e, .Tuple [.Name sn p1, .Name tn p2] k pt] X.env = (false, eval e X.env) :: starEach [.Tuple [.Name sn p1, .Name tn p2] k pt] X.env := by rfl)
    (hs2 : starEach [.Tuple [.Name sn p1, .Name tn p2] k pt] X.env = (false, eval (.Tuple [.Name sn p1, .Name tn p2] k pt) X.env) :: starEach [] X.env := by rfl)
    (hpl : (backTo pos (starEach [.Tuple [.Name sn p1, .Name tn p2] k pt] X.env)).any (·.1) = false := by rfl) :
    PE X (.Call (.Name "isinstance" p) [e, .Tuple [.Name sn p1, .Name tn p2] k pt] [] pos) (TV X.K ρ E n (vIsi2 S T da)) :=
  PE.of (pe_callB call_isiT hg hm (by decide +kernel) (pa_cons ha (pa_cons (pe_tup (pa_cons (pe_bltn (v := .ty S) hgS hmS hvS rfl hnS hdS) (pa_cons (pe_bltn (v := .ty T) hgT hmT hv rfl hnT hdT) pa_nil (by rfl)) (by rfl))) pa_nil hs2) hs) (by decide) (by decide) hs hpl)
    fun _ _ _ q => tv_isi2 hS hT q

/-! ### slices -/
def cutD (xs : List D) (lo hi : Option Int) : List D := (xs.drop (HT.sIx xs.length 0 lo)).take (HT.sIx xs.length xs.length hi - HT.sIx xs.length 0 lo)
def dCut (lo hi : Option Int) : D → Rs D
  | .list xs => .ok (.list (cutD xs lo hi))
  | .tuple xs => .ok (.tuple (cutD xs lo hi))
  | _ => .no
theorem Rps.take {K : PySem.W.Frag} {G H : Hp} : ∀ {ds : List D} {vs : List V} (k : Nat), Rps K G H 0 ds vs [] → Rps K G H 0 (ds.take k) (vs.take k) []
  | ds, vs, 0, h => by simp [Rps]
  | [], vs, k + 1, h => by simp only [Rps] at h; rw [h.1]; simp [Rps]
  | d :: ds, vs, k + 1, h => by
    simp only [Rps] at h
    obtain ⟨v, w, A1, A2, rfl, h1, h2, eA⟩ := h
    have e1 := Rp.nil d h1
    have e2 := Rps.nil ds h2
    subst e1 e2
    simp only [List.take_succ_cons, Rps]
    exact ⟨v, _, [], [], rfl, h1, Rps.take k h2, rfl⟩
theorem Rps.drop {K : PySem.W.Frag} {G H : Hp} : ∀ {ds : List D} {vs : List V} (k : Nat), Rps K G H 0 ds vs [] → Rps K G H 0 (ds.drop k) (vs.drop k) []
  | ds, vs, 0, h => h
  | [], vs, k + 1, h => by simp only [Rps] at h; rw [h.1]; simp [Rps]
  | d :: ds, vs, k + 1, h => by
    simp only [Rps] at h
    obtain ⟨v, w, A1, A2, rfl, h1, h2, eA⟩ := h
    have e1 := Rp.nil d h1
    have e2 := Rps.nil ds h2
    subst e1 e2
    exact Rps.drop k h2
theorem Rps.cut {K : PySem.W.Frag} {G H : Hp} {ds : List D} {vs : List V} (lo hi : Option Int) (h : Rps K G H 0 ds vs []) : Rps K G H 0 (cutD ds lo hi) (cutV vs lo hi) [] := by
  unfold cutD cutV
  rw [Rps.length h]
  exact Rps.take _ (Rps.drop _ h)
theorem cut_whole {xs : List D} {lo hi : Option Int} (h : HT.sIx xs.length 0 lo = 0 ∧ HT.sIx xs.length xs.length hi = xs.length) : cutD xs lo hi = xs := by
  unfold cutD
  rw [h.1, h.2]
  simp
/-- a part of a slice: left out, or a whole number -/
abbrev VO := Option (VS → Rs D)
def vPart (o : VO) (s : VS) : Rs (Option Int) := match o with
  | none => .ok none
  | some d => (d s).bind fun x => match x with | .int i => .ok (some i) | _ => .no
def vCut (da : VS → Rs D) (lo hi : VO) : VS → Rs D := fun s => (da s).bind fun x => (vPart lo s).bind fun l => (vPart hi s).bind fun u => dCut l u x
/-- a slice's part and its reading -/
structure PVO (X : Cx) (ρ : Str → Addr) (E : XK) (e : Option Expr) (o : VO) : Prop where
  run : ∃ t : TO, PO X e t ∧ ∀ (G : Hp) (s : VS) (σ : L2.St) (H : Hp) (Q : Option Int → Hp → Prop), Same G H → SV X.K G H s σ →
    (match vPart o s with | .no => False | .ex c => ∀ H', Same H H' → E (.ref (ρ c)) none H' | .ok i => ∀ H' G', Evl G H G' H' → Q i H') → t σ H Q
theorem pvo_none : PVO X ρ E none none := ⟨_, po_none, fun G s σ H Q g sv p => p H G (Evl.refl g)⟩
theorem pvo_some {e : Expr} {d : VS → Rs D} (h : PE X e (TV X.K ρ E 0 d)) : PVO X ρ E (some e) (some d) := ⟨_, po_some h, fun G s σ H Q g sv p => by
  refine ⟨G, s, g, sv, ?_⟩
  unfold vPart at p
  dsimp only at p
  cases q : d s with
  | no => rw [q] at p; exact p
  | ex c => rw [q] at p; exact p
  | ok x =>
    rw [q] at p
    dsimp only [Rs.bind] at p
    cases x with
    | int i =>
      intro v H' G' A e r f
      simp only [Rp] at r
      exact ⟨i, r.1, p H' G' e⟩
    | _ => exact p.elim⟩
theorem pv_slice {e : Expr} {lo hi : Option Expr} {pos p2 : Pos} {da : VS → Rs D} {l u : VO} (he : PE X e (TV X.K ρ E 0 da)) (hl : PVO X ρ E lo l) (hu : PVO X ρ E hi u) : PE X (.Subscript e (.Slice lo hi none p2) pos) (TV X.K ρ E 0 (vCut da l u)) := by
  obtain ⟨tl, ol, rl⟩ := hl.run
  obtain ⟨tu, ou, ru⟩ := hu.run
  refine PE.of (pe_slice (sl_list.or sl_tupA) he ol ou) fun σ H Q h => ?_
  obtain ⟨G, s, g, sv, p⟩ := h
  refine ⟨G, s, g, sv, ?_⟩
  unfold vCut at p
  cases q1 : da s with
  | no => rw [q1] at p; exact p
  | ex c => rw [q1] at p; exact p
  | ok x =>
    rw [q1] at p
    dsimp only [Rs.bind] at p
    intro v H1 G1 A e1 r1 f1
    obtain rfl := Rp.nil x r1
    refine rl G1 s σ H1 _ e1.gh (sv.evl e1) ?_
    cases q2 : vPart l s with
    | no => rw [q2] at p; exact p
    | ex c => rw [q2] at p; exact fun H' s' => p H' (e1.hh.trans s')
    | ok i =>
      rw [q2] at p
      dsimp only at p
      intro H2 G2 e2
      have e12 := e1.trans e2
      refine ru G2 s σ H2 _ e2.gh (sv.evl e12) ?_
      cases q3 : vPart u s with
      | no => rw [q3] at p; exact p
      | ex c => rw [q3] at p; exact fun H' s' => p H' (e12.hh.trans s')
      | ok j =>
        rw [q3] at p
        dsimp only at p
        intro H3 G3 e3
        have e13 := e12.trans e3
        have r3 := Rp.mono (e2.trans e3).hh.tups (e2.trans e3).gg x (fun _ z => by simp at z) r1
        have fin : ∀ {r : D}, VP X.K G H 0 r Q → VP X.K G3 H3 0 r Q := fun {r} p v' H' G' A' e' r' f' => p v' H' G' A' (e13.trans e') r' ⟨f'.nd, fun b hb => ⟨e13.hh.free (f'.nw b hb).1, (f'.nw b hb).2⟩⟩
        unfold dCut at p
        split at p
        · rename_i xs
          simp only [Rp] at r3
          obtain ⟨_, a, ws, rfl, k, r4⟩ := r3
          exact .inl ⟨a, ws, rfl, e3.gh.seq k, vp_lst0 (fin p) e3.gh (Rps.cut i j r4)⟩
        · rename_i xs
          have r5 := r3
          simp only [Rp] at r3
          obtain ⟨a, ws, rfl, k, r4⟩ := r3
          refine .inr ⟨a, ws, rfl, k, fun z => ?_, fun _ => vp_tup (fin p) e3.gh (Rps.cut i j r4)⟩
          rw [← Rps.length r4] at z
          rw [cut_whole z] at p
          exact vp_same (fin p) e3.gh r5
        · exact p.elim
end
end PL

set_option maxRecDepth 100000
/-! PL7: what is walked, targets, comprehensions that change nothing. -/
namespace PL
open PySem PySem.Spec PyProof.Rows L2

/-- J walks things that stand for ds, wherever C holds -/
structure Iters (K : PySem.W.Frag) (G H : Hp) (J : It) (ds : List D) (C : Hp → Prop) : Prop where
  c0 : C H
  stab : ∀ H2, Tups H H2 → Same G H2 → C H2
  go : ∀ i H2, C H2 → i < ds.length → J.go i H2
  st : ∀ i H2, C H2 → ds.length ≤ i → J.stop i H2
  yl : ∀ i H2 x H3, C H2 → J.yld i H2 x H3 → Same H2 H3 ∧ (∀ a, H2 a = none → H3 a ≠ none → ∃ vs, H3 a = some (.tup vs)) ∧ ∀ d, ds[i]? = some d → ∀ G2, Tups H H3 → Same G G2 → Rp K G2 H3 0 d x []
/-- what is walked, by data -/
structure PIV (X : Cx) (ρ : Str → Addr) (E : XK) (tg e : Expr) (d : VS → Rs (List D)) : Prop where
  run : ∃ wi : TI, PI X tg e wi ∧ ∀ (G : Hp) (s : VS) (σ : L2.St) (H : Hp) (R : It → Hp → Prop), Same G H → SV X.K G H s σ →
    (match d s with | .no => False | .ex c => ∀ H', Same H H' → E (.ref (ρ c)) none H' | .ok ds => ∀ J H' G' C, Evl G H G' H' → Iters X.K G' H' J ds C → R J H') → wi σ H R
section
variable {X : Cx} {ρ : Str → Addr} {E : XK} {tg : Expr}
/-- a list's items -/
def asList : D → Rs (List D)
  | .list xs => .ok xs
  | _ => .no
def asTuple : D → Rs (List D)
  | .tuple xs => .ok xs
  | _ => .no
def vItL (d : VS → Rs D) : VS → Rs (List D) := fun s => (d s).bind asList
def vItT (d : VS → Rs D) : VS → Rs (List D) := fun s => (d s).bind asTuple
theorem same_self (H : Hp) : Same H H := Same.refl H
theorem seqT_same {K : PySem.W.Frag} {H H' : Hp} (s : Same H H') {a : Addr} {xs : List V} (h : SqT K H a xs) : SqT K H' a xs := (Same.tups s).sq h
theorem iters_list {K : PySem.W.Frag} {G H : Hp} {a : Addr} {ds : List D} {vs : List V} (g : Same G H) (qG : SqL K G a vs) (r : Rps K G H 0 ds vs []) : Iters K G H (Itl K a) ds (fun H2 => SqL K H2 a vs) where
  c0 := g.seq qG
  stab := fun H2 _ g2 => g2.seq qG
  go := fun i H2 c hi => by
    have : i < vs.length := by rw [← Rps.length r]; exact hi
    exact ⟨vs, vs[i], c, List.getElem?_eq_getElem this⟩
  st := fun i H2 c hi => ⟨vs, c, by rw [← Rps.length r]; exact hi⟩
  yl := fun i H2 x H3 c y => by
    obtain ⟨rfl, y⟩ := y
    refine ⟨Same.refl _, fun b h1 h2 => absurd h1 h2, fun d hd G2 t gg => ?_⟩
    obtain ⟨v, e, rv⟩ := Rps.get r hd
    have := y vs c
    rw [e] at this
    cases this
    exact Rp.mono t gg d (fun _ z => by simp at z) rv
theorem iters_tup {K : PySem.W.Frag} {G H : Hp} {a : Addr} {ds : List D} {vs : List V} (g : Same G H) (q : SqT K H a vs) (r : Rps K G H 0 ds vs []) : Iters K G H (Itt K a) ds (fun H2 => SqT K H2 a vs) where
  c0 := q
  stab := fun H2 t _ => t.sq q
  go := fun i H2 c hi => by
    have : i < vs.length := by rw [← Rps.length r]; exact hi
    exact ⟨vs, vs[i], c, List.getElem?_eq_getElem this⟩
  st := fun i H2 c hi => ⟨vs, c, by rw [← Rps.length r]; exact hi⟩
  yl := fun i H2 x H3 c y => by
    obtain ⟨rfl, y⟩ := y
    refine ⟨Same.refl _, fun b h1 h2 => absurd h1 h2, fun d hd G2 t gg => ?_⟩
    obtain ⟨v, e, rv⟩ := Rps.get r hd
    have := y vs c
    rw [e] at this
    cases this
    exact Rp.mono t gg d (fun _ z => by simp at z) rv
def rngD (lo : Int) (n : Nat) : List D := (List.range n).map fun (i : Nat) => .int (lo + (i : Int))
theorem rngD_len (lo : Int) (n : Nat) : (rngD lo n).length = n := by simp [rngD]
theorem iters_rng {K : PySem.W.Frag} {G H : Hp} (lo : Int) (n : Nat) : Iters K G H (Itr lo n) (rngD lo n) (fun _ => True) where
  c0 := trivial
  stab := fun _ _ _ => trivial
  go := fun i H2 _ hi => by rw [rngD_len] at hi; exact hi
  st := fun i H2 _ hi => by rw [rngD_len] at hi; exact hi
  yl := fun i H2 x H3 _ y => by
    obtain ⟨rfl, rfl⟩ := y
    refine ⟨Same.refl _, fun b h1 h2 => absurd h1 h2, fun d hd G2 t gg => ?_⟩
    unfold rngD at hd
    rw [List.getElem?_map, List.getElem?_range] at hd
    · cases hd; exact rp_int _ _ _
    · by_cases q : i < n
      · exact q
      · rw [List.getElem?_eq_none (by simp; omega)] at hd; cases hd
theorem tv_it {K : PySem.W.Frag} {σ : L2.St} {H G : Hp} {s : VS} {d : VS → Rs D} {f : D → Rs (List D)} {Q : VK} (hf : ∀ x c, f x ≠ .ex c) (g : Same G H) (sv : SV K G H s σ)
    (p : match (d s).bind f with | .no => False | .ex c => ∀ H', Same H H' → E (.ref (ρ c)) none H' | .ok ds => ∀ x v H' G', (d s) = .ok x → f x = .ok ds → Evl G H G' H' → Rp K G' H' 0 x v [] → Q v H') : TV K ρ E 0 d σ H Q := by
  refine ⟨G, s, g, sv, ?_⟩
  cases q : d s with
  | no => rw [q] at p; exact p
  | ex c => rw [q] at p; exact p
  | ok x =>
    rw [q] at p
    dsimp only [Rs.bind] at p
    intro v H' G' A e r fr
    obtain rfl := Rp.nil x r
    cases q2 : f x with
    | no => rw [q2] at p; exact p.elim
    | ex c => exact absurd q2 (hf x c)
    | ok ds => rw [q2] at p; exact p x v H' G' rfl q2 e r
theorem piv_list {e : Expr} {d : VS → Rs D} (h : PE X e (TV X.K ρ E 0 d)) : PIV X ρ E tg e (vItL d) := ⟨_, pi_list h, fun G s σ H R g sv p => by
  refine tv_it (f := asList) (fun x c z => by unfold asList at z; split at z <;> cases z) g sv ?_
  unfold vItL at p
  cases q : (d s).bind asList with
  | no => rw [q] at p; exact p
  | ex c => rw [q] at p; exact p
  | ok ds =>
    rw [q] at p
    intro x v H' G' e1 e2 ev r
    unfold asList at e2
    split at e2
    · cases e2
      simp only [Rp] at r
      obtain ⟨_, a, vs, rfl, k, r⟩ := r
      exact ⟨a, rfl, ⟨vs, ev.gh.seq k⟩, p _ _ _ _ ev (iters_list ev.gh k r)⟩
    · cases e2⟩
theorem piv_tup {e : Expr} {d : VS → Rs D} (h : PE X e (TV X.K ρ E 0 d)) : PIV X ρ E tg e (vItT d) := ⟨_, pi_tup h, fun G s σ H R g sv p => by
  refine tv_it (f := asTuple) (fun x c z => by unfold asTuple at z; split at z <;> cases z) g sv ?_
  unfold vItT at p
  cases q : (d s).bind asTuple with
  | no => rw [q] at p; exact p
  | ex c => rw [q] at p; exact p
  | ok ds =>
    rw [q] at p
    intro x v H' G' e1 e2 ev r
    unfold asTuple at e2
    split at e2
    · cases e2
      simp only [Rp] at r
      obtain ⟨a, vs, rfl, k, r⟩ := r
      exact ⟨a, rfl, ⟨vs, k⟩, p _ _ _ _ ev (iters_tup ev.gh k r)⟩
    · cases e2⟩
def rngOk (i : Int) : Bool := decide (-(2 ^ 62) ≤ i ∧ i < 2 ^ 62)
def dRng : List D → Rs (List D)
  | [.int j] => if rngOk j = true then .ok (rngD 0 j.toNat) else .no
  | [.int i, .int j] => if rngOk i = true ∧ rngOk j = true then .ok (rngD i (j - i).toNat) else .no
  | _ => .no
def vItR (ds : List (VS → Rs D)) : VS → Rs (List D) := fun s => (vArgs ds s).bind dRng
theorem piv_rng1 {a : Expr} {p pos : Pos} {d : VS → Rs D} (h : PE X a (TV X.K ρ E 0 d)) (hm : X.mg "range" = none) (hg : Gl X "range" := by rfl) (hs : starEach [a] X.env = (false, eval a X.env) :: starEach [] X.env := by rfl)
    (hs' : starEach [a] X.env = [(false, eval a X.env)] := by rfl) :
    PIV X ρ E tg (.Call (.Name "range" p) [a] [] pos) (vItR [d]) := ⟨_, pi_range1 hg hm (pva_cons h pva_nil hs) hs', fun G s σ H R g sv p => by
  refine TVa_eq.mpr ⟨G, s, g, sv, ?_⟩
  unfold vItR at p
  cases q : vArgs [d] s with
  | no => rw [q] at p; exact p
  | ex c => rw [q] at p; exact p
  | ok xs =>
    rw [q] at p
    dsimp only [Rs.bind] at p
    intro vs H' G' A e r f
    obtain rfl := Rps.nil xs r
    cases q3 : dRng xs with
    | no => rw [q3] at p; exact p.elim
    | ex c => unfold dRng at q3; split at q3 <;> first | cases q3 | (split at q3 <;> cases q3)
    | ok ds =>
      rw [q3] at p
      unfold dRng at q3
      split at q3
      · split at q3
        · rename_i j hj
          cases q3
          obtain ⟨v, rfl, r2⟩ := Rps.one r
          simp only [Rp] at r2
          obtain ⟨h1, h2⟩ := of_decide_eq_true hj
          exact ⟨j, by rw [r2.1], h1, h2, p _ _ _ _ e (iters_rng _ _)⟩
        · cases q3
      · have := vArgs_len q
        simp at this
      · cases q3⟩
theorem piv_rng2 {a b : Expr} {p pos : Pos} {d d' : VS → Rs D} (h : PE X a (TV X.K ρ E 0 d)) (h' : PE X b (TV X.K ρ E 0 d')) (hm : X.mg "range" = none) (hg : Gl X "range" := by rfl)
    (hs : starEach [a, b] X.env = (false, eval a X.env) :: starEach [b] X.env := by rfl) (hs2 : starEach [b] X.env = (false, eval b X.env) :: starEach [] X.env := by rfl)
    (hs' : starEach [a, b] X.env = [(false, eval a X.env), (false, eval b X.env)] := by rfl) (hs2' : starEach [b] X.env = [(false, eval b X.env)] := by rfl) :
    PIV X ρ E tg (.Call (.Name "range" p) [a, b] [] pos) (vItR [d, d']) := ⟨_, pi_range2 hg hm (pva_cons h (pva_cons h' pva_nil hs2) hs) hs' hs2', fun G s σ H R g sv p => by
  refine TVa_eq.mpr ⟨G, s, g, sv, ?_⟩
  unfold vItR at p
  cases q : vArgs [d, d'] s with
  | no => rw [q] at p; exact p
  | ex c => rw [q] at p; exact p
  | ok xs =>
    rw [q] at p
    dsimp only [Rs.bind] at p
    intro vs H' G' A e r f
    obtain rfl := Rps.nil xs r
    cases q3 : dRng xs with
    | no => rw [q3] at p; exact p.elim
    | ex c => unfold dRng at q3; split at q3 <;> first | cases q3 | (split at q3 <;> cases q3)
    | ok ds =>
      rw [q3] at p
      unfold dRng at q3
      split at q3
      · have := vArgs_len q
        simp at this
      · split at q3
        · rename_i i j hj
          cases q3
          obtain ⟨v, w, rfl, r2, r3⟩ := Rps.two r
          simp only [Rp] at r2 r3
          obtain ⟨h1, h2⟩ := of_decide_eq_true hj.1
          obtain ⟨h3, h4⟩ := of_decide_eq_true hj.2
          exact ⟨i, j, by rw [r2.1, r3.1], ⟨h1, h2, h3, h4⟩, p _ _ _ _ e (iters_rng _ _)⟩
        · cases q3
      · cases q3⟩

/-! ### targets -/
/-- a target stores d: t d s is what the slots hold then; own: the slots that it may touch -/
structure PGV (X : Cx) (tg : Expr) (own : List Nat) (g : TG) (t : D → VS → Rs VS) : Prop where
  pg : PG X tg g
  rd : ∀ (G H : Hp) (s : VS) (σ : L2.St) (d : D) (v : V) (Q : L2.St → Hp → Prop), Same G H → SV X.K G H s σ → Rp X.K G H 0 d v [] →
    (match t d s with | .ok s' => ∀ σ', SV X.K G H s' σ' → wipe σ' own = wipe σ own → Q σ' H | _ => False) → g v σ H Q
theorem SV.set {K : PySem.W.Frag} {G H : Hp} {s : VS} {σ : L2.St} {d : D} {v : V} (h : SV K G H s σ) (i : Nat) (r : Rp K G H 0 d v []) : SV K G H (s.set i (some d)) (σ.set i (some v)) := by
  refine ⟨by simp [h.1], fun j e hj => ?_⟩
  by_cases q : j = i
  · subst q
    by_cases l : j < s.length
    · rw [List.getElem?_set_self l] at hj
      cases hj
      exact ⟨v, List.getElem?_set_self (by rw [← h.1]; exact l), r⟩
    · rw [List.getElem?_eq_none (by simp; omega)] at hj
      cases hj
  · rw [List.getElem?_set_ne (Ne.symm q)] at hj
    obtain ⟨w, e1, r1⟩ := h.2 j e hj
    exact ⟨w, by rw [List.getElem?_set_ne (Ne.symm q)]; exact e1, r1⟩
theorem wipe_set_out {σ : L2.St} {i : Nat} {x : Option V} : ∀ {vs : List Nat}, i ∉ vs → wipe (σ.set i x) vs = (wipe σ vs).set i x
  | [], _ => rfl
  | v :: vs, h => by
    have h1 : i ≠ v := fun z => h (by simp [z])
    have h2 : i ∉ vs := fun z => h (by simp [z])
    show (wipe (σ.set i x) vs).set v none = ((wipe σ vs).set v none).set i x
    rw [wipe_set_out h2, List.set_comm _ _ h1]
theorem wipe_set_in {σ : L2.St} {i : Nat} {x : Option V} : ∀ {vs : List Nat}, i ∈ vs → wipe (σ.set i x) vs = wipe σ vs
  | v :: vs, h => by
    show (wipe (σ.set i x) vs).set v none = (wipe σ vs).set v none
    by_cases h2 : i ∈ vs
    · rw [wipe_set_in h2]
    · have : i = v := by simpa [h2] using h
      subst this
      rw [wipe_set_out h2, List.set_set]
def tgName (i : Nat) : D → VS → Rs VS := fun d s => .ok (s.set i (some d))
theorem pgv_name {i : Nat} {x : Str} {pos : Pos} {own : List Nat} (hN : X.N.Nodup) (hi : X.N[i]? = some x) (hx : Loc X.env.scope x) (hf : X.fn x = true ∨ X.env.scope.names.lookup x = some .local) (ho : i ∈ own) : PGV X (.Name x pos) own (gName i) (tgName i) where
  pg := pg_name hN hi hx hf
  rd := fun G H s σ d v Q g sv r p => p _ (sv.set i r) (wipe_set_in ho)
/-- several names, a tuple -/
def tgSets : List Nat → List D → VS → Rs VS
  | [], [], s => .ok s
  | i :: is, d :: ds, s => tgSets is ds (s.set i (some d))
  | _, _, _ => .no
def tgTup (is : List Nat) : D → VS → Rs VS
  | .tuple ds, s => tgSets is ds s
  | _, _ => .no
def gNames : List Nat → TGs
  | [] => gNil
  | i :: is => gCons (gName i) (gNames is)
/-- several names as targets -/
structure PGN (X : Cx) (es : List Expr) (is : List Nat) : Prop where
  pgs : PGs X es (gNames is)
theorem pgn_nil : PGN X [] [] := ⟨pgs_nil⟩
theorem pgn_cons {i : Nat} {x : Str} {pos : Pos} {es : List Expr} {is : List Nat} (hN : X.N.Nodup) (hi : X.N[i]? = some x) (hx : Loc X.env.scope x) (hf : X.fn x = true ∨ X.env.scope.names.lookup x = some .local) (h : PGN X es is)
    (hs : (assignEach (.Name x pos :: es) X.env).map (·.2) = assign (.Name x pos) X.env :: (assignEach es X.env).map (·.2) := by rfl) : PGN X (.Name x pos :: es) (i :: is) := ⟨pgs_cons (pg_name hN hi hx hf) h.pgs hs⟩
theorem gNames_rd {K : PySem.W.Frag} {own : List Nat} : ∀ {is : List Nat} {ds : List D} {vs : List V} {G H : Hp} {s : VS} {σ : L2.St} {Q : L2.St → Hp → Prop}, (∀ i ∈ is, i ∈ own) → Same G H → SV K G H s σ → Rps K G H 0 ds vs [] →
    (match tgSets is ds s with | .ok s' => ∀ σ', SV K G H s' σ' → wipe σ' own = wipe σ own → Q σ' H | _ => False) → gNames is vs σ H Q
  | [], [], vs, G, H, s, σ, Q, ho, g, sv, r, p => by
    simp only [Rps] at r
    exact ⟨r.1, p σ sv rfl⟩
  | i :: is, d :: ds, vs, G, H, s, σ, Q, ho, g, sv, r, p => by
    simp only [Rps] at r
    obtain ⟨v, w, A1, A2, rfl, h1, h2, eA⟩ := r
    have e1 := Rp.nil d h1
    have e2 := Rps.nil ds h2
    subst e1 e2
    refine ⟨v, w, rfl, gNames_rd (own := own) (fun j hj => ho j (by simp [hj])) g (sv.set i h1) h2 ?_⟩
    rw [show tgSets (i :: is) (d :: ds) s = tgSets is ds (s.set i (some d)) from rfl] at p
    cases q : tgSets is ds (s.set i (some d)) with
    | no => rw [q] at p; exact p
    | ex c => rw [q] at p; exact p
    | ok s' =>
      rw [q] at p
      exact fun σ' sv' w' => p σ' sv' (by rw [w', wipe_set_in (ho i (by simp))])
  | [], d :: ds, vs, G, H, s, σ, Q, ho, g, sv, r, p => p.elim
  | i :: is, [], vs, G, H, s, σ, Q, ho, g, sv, r, p => p.elim
theorem pgv_tup {es : List Expr} {k n : Nat} {pos : Pos} {is own : List Nat} (hc : X.calm = true) (h : PGN X es is) (ho : ∀ i ∈ is, i ∈ own) (hl : is.length = n) (hn : (assignEach es X.env).length = n := by rfl) (hst : (assignEach es X.env).findIdx? (·.1) = none := by rfl) :
    PGV X (.Tuple es k pos) own (gTup X.K n (gNames is)) (tgTup is) where
  pg := pg_tup hc h.pgs hn hst
  rd := fun G H s σ d v Q g sv r p => by
    unfold tgTup at p
    split at p
    · rename_i s' hs'
      split at hs'
      · rename_i ds
        simp only [Rp] at r
        obtain ⟨a, vs, rfl, q, r⟩ := r
        have len : ∀ {is : List Nat} {ds : List D} {s s' : VS}, tgSets is ds s = .ok s' → ds.length = is.length := by
          intro is
          induction is with
          | nil => intro ds s s' h; cases ds with
            | nil => rfl
            | cons _ _ => cases h
          | cons i is ih => intro ds s s' h; cases ds with
            | nil => cases h
            | cons d ds => simp only [List.length_cons]; rw [ih h]
        exact ⟨a, vs, rfl, q, by rw [← Rps.length r, len hs', hl], gNames_rd ho g sv r (by rw [hs']; exact p)⟩
      · cases hs'
    all_goals first | exact p.elim | (rename_i z; split at z <;> first | cases z)
end
end PL

set_option maxRecDepth 100000
/-! PL8: comprehensions that change nothing. -/
namespace PL
open PySem PySem.Spec PyProof.Rows L2

def wipeV (s : VS) : List Nat → VS
  | [] => s
  | v :: vs => (wipeV s vs).set v none
def vCol (tg : D → VS → Rs VS) (tt elt : VS → Rs D) (s : VS) : List D → Rs (List D)
  | [] => .ok []
  | d :: r => (tg d s).bind fun s1 => (tt s1).bind fun b => match b with
    | .bool true => (elt s1).bind fun y => (vCol tg tt elt s r).bind fun ys => .ok (y :: ys)
    | .bool false => vCol tg tt elt s r
    | _ => .no
/-- [elt for tg in it if tt] -/
def vComp (it : VS → Rs (List D)) (tg : D → VS → Rs VS) (own : List Nat) (tt elt : VS → Rs D) : VS → Rs D := fun s => (it s).bind fun ds =>
  if ds.length ≤ sizeLine then (match vCol tg tt elt (wipeV s own) ds with | .ok ys => .ok (.list ys) | _ => .no) else .no
def vYes : VS → Rs D := fun _ => .ok (.bool true)
section
variable {K : PySem.W.Frag} {G H : Hp} {σ : L2.St} {ρ : Str → Addr} {E : XK} {n : Nat}
theorem SV.wipe {s : VS} (h : SV K G H s σ) : ∀ own : List Nat, SV K G H (wipeV s own) (wipe σ own)
  | [] => h
  | v :: vs => by
    have ih := SV.wipe h vs
    show SV K G H ((wipeV s vs).set v none) ((L2.wipe σ vs).set v none)
    refine ⟨by simp [ih.1], fun j e hj => ?_⟩
    by_cases q : j = v
    · subst q
      by_cases l : j < (wipeV s vs).length
      · rw [List.getElem?_set_self l] at hj
        cases hj
      · rw [List.getElem?_eq_none (by simp; omega)] at hj
        cases hj
    · rw [List.getElem?_set_ne (Ne.symm q)] at hj
      obtain ⟨w, e1, r1⟩ := ih.2 j e hj
      exact ⟨w, by rw [List.getElem?_set_ne (Ne.symm q)]; exact e1, r1⟩
theorem wipe_wipe (own : List Nat) : ∀ (l : List Nat) (σ : L2.St), (∀ i ∈ l, i ∈ own) → L2.wipe (L2.wipe σ l) own = L2.wipe σ own
  | [], σ, _ => rfl
  | v :: vs, σ, h => by
    show L2.wipe ((L2.wipe σ vs).set v none) own = _
    rw [wipe_set_in (h v (by simp)), wipe_wipe own vs σ fun i hi => h i (by simp [hi])]
theorem Rps.snoc : ∀ {xs : List D} {vs : List V} {d : D} {v : V} {A B : List Addr}, Rps K G H n xs vs A → Rp K G H n d v B → Rps K G H n (xs ++ [d]) (vs ++ [v]) (A ++ B)
  | [], vs, d, v, A, B, h, h' => by
    simp only [Rps] at h
    rw [h.1, h.2]
    simp only [List.nil_append, Rps]
    exact ⟨v, [], B, [], rfl, h', ⟨by trivial, by trivial⟩, by simp⟩
  | x :: xs, vs, d, v, A, B, h, h' => by
    simp only [Rps, List.cons_append] at h ⊢
    obtain ⟨w, r, A1, A2, rfl, h1, h2, rfl⟩ := h
    exact ⟨w, r ++ [v], A1, A2 ++ B, rfl, h1, Rps.snoc h2 h', by rw [List.append_assoc]⟩
theorem Fr.app2 {G1 H1 G2 : Hp} {A B : List Addr} (a : Fr H G1 A) (b : Fr H1 G2 B) (hh : Same H H1) (own : ∀ x ∈ A, H1 x ≠ none) (e : ∀ x ∈ A, G2 x = none) : Fr H G2 (A ++ B) := by
  refine ⟨List.nodup_append.mpr ⟨a.nd, b.nd, fun x hx y hy => ?_⟩, fun x hx => ?_⟩
  · rintro rfl
    exact own x hx (b.nw x hy).1
  · rcases List.mem_append.mp hx with hx | hx
    · exact ⟨(a.nw x hx).1, e x hx⟩
    · exact ⟨hh.free (b.nw x hx).1, (b.nw x hx).2⟩
theorem tups_lst {H : Hp} {a : Addr} {vs : List V} {o : HO} (h : H a = some (.lst vs)) : Tups H (upd H a o) := fun b xs q => by
  have ne : b ≠ a := fun z => by
    subst z
    rcases q with q | ⟨u, q⟩ <;> rw [h] at q <;> cases q
  rcases q with q | ⟨u, q⟩
  · exact .inl (by rw [upd_ne ne]; exact q)
  · exact .inr ⟨u, by rw [upd_ne ne]; exact q⟩
theorem none_of {f : Hp} {a : Addr} (h : f a ≠ none → False) : f a = none := by
  cases q : f a with
  | none => rfl
  | some o => exact (h (by rw [q]; intro z; cases z)).elim

/-- the reading of a comprehension from its data -/
theorem tv_lc {wi : TI} {g : TG} {tt : TT} {te : TE} {own : List Nat} {di : VS → Rs (List D)} {t : D → VS → Rs VS} {dt de : VS → Rs D} {Q : VK}
    (hi : ∀ (G : Hp) (s : VS) (σ : L2.St) (H : Hp) (R : It → Hp → Prop), Same G H → SV K G H s σ → (match di s with | .no => False | .ex c => ∀ H', Same H H' → E (.ref (ρ c)) none H' | .ok ds => ∀ J H' G' C, Evl G H G' H' → Iters K G' H' J ds C → R J H') → wi σ H R)
    (hg : ∀ (G H : Hp) (s : VS) (σ : L2.St) (d : D) (v : V) (Q : L2.St → Hp → Prop), Same G H → SV K G H s σ → Rp K G H 0 d v [] → (match t d s with | .ok s' => ∀ σ', SV K G H s' σ' → L2.wipe σ' own = L2.wipe σ own → Q σ' H | _ => False) → g v σ H Q)
    (ht : ∀ σ H Q, TVt K ρ E0 dt σ H Q → tt σ H Q) (he : ∀ σ H Q, TV K ρ E0 n de σ H Q → te σ H Q)
    (h : TV K ρ E (n + 1) (vComp di t own dt de) σ H Q) : tLc wi g tt te own σ H Q := by
  obtain ⟨G, s, gh, sv, p⟩ := h
  refine hi G s σ H _ gh sv ?_
  unfold vComp at p
  cases q1 : di s with
  | no => rw [q1] at p; exact p
  | ex c => rw [q1] at p; exact p
  | ok ds =>
    rw [q1] at p
    dsimp only [Rs.bind] at p ⊢
    intro J H1 G1 C e1 it
    by_cases hlen : ds.length ≤ sizeLine
    · rw [if_pos hlen] at p
      cases q2 : vCol t dt de (wipeV s own) ds with
      | no => rw [q2] at p; exact p.elim
      | ex c => rw [q2] at p; exact p.elim
      | ok rs =>
        rw [q2] at p
        dsimp only at p
        intro Dn hD
        refine ⟨fun i m Hc => i ≤ ds.length ∧ m = ds.length - i ∧ ∃ G2 vs A sofar rest, Evl G1 H1 G2 Hc ∧ Hc Dn = some (.lst vs) ∧ Rps K G2 Hc n sofar vs A ∧ Dn ∉ A ∧ Fr H1 G2 A ∧ G2 Dn = none ∧ rs = sofar ++ rest ∧
          vCol t dt de (wipeV s own) (ds.drop i) = .ok rest ∧ vs.length ≤ i, ⟨ds.length, Nat.zero_le _, rfl, G1, [], [], [], rs, evl_upd e1.gh hD, upd_same, by simp [Rps], by simp, Fr.nil, ?_, rfl, q2, Nat.le_refl _⟩, ?_⟩
        · exact none_of fun z => by
            rcases hq : G1 Dn with _ | o
            · exact z hq
            · rw [e1.gh _ _ hq] at hD; cases hD
        · rintro i m Hc ⟨hil, rfl, G2, vs, A, sofar, rest, e2, hDc, rp, nA, fr, gD, ers, hcol, hvl⟩
          have cC : C Hc := it.stab _ e2.hh.tups (e2.gg.trans e2.gh)
          by_cases hlt : i < ds.length
          · refine .inr ⟨it.go i Hc cC hlt, fun H' => ∃ m', m' < ds.length - i ∧ (i + 1 ≤ ds.length ∧ m' = ds.length - (i + 1) ∧ ∃ G2 vs A sofar rest, Evl G1 H1 G2 H' ∧ H' Dn = some (.lst vs) ∧ Rps K G2 H' n sofar vs A ∧ Dn ∉ A ∧ Fr H1 G2 A ∧ G2 Dn = none ∧ rs = sofar ++ rest ∧
              vCol t dt de (wipeV s own) (ds.drop (i + 1)) = .ok rest ∧ vs.length ≤ i + 1), fun H' h' => h', fun x H' hy => ?_⟩
            obtain ⟨s2, nt, ry⟩ := it.yl i Hc x H' cC hy
            have hd : ds[i]? = some ds[i] := List.getElem?_eq_getElem hlt
            have rx := ry _ hd G2 (e2.hh.trans s2).tups e2.gg
            have e3 : Evl G2 Hc G2 H' := ⟨s2, Same.refl _, e2.gh.trans s2, fun a h => .inl h⟩
            have ed : ds.drop i = ds[i] :: ds.drop (i + 1) := List.drop_eq_getElem_cons hlt
            rw [ed] at hcol
            refine hg G2 H' (wipeV s own) (L2.wipe σ own) ds[i] x _ e3.gh ((sv.evl (e1.trans (e2.trans e3))).wipe own) rx ?_
            unfold vCol at hcol
            cases q3 : t ds[i] (wipeV s own) with
            | no => rw [q3] at hcol; cases hcol
            | ex c => rw [q3] at hcol; cases hcol
            | ok s1 =>
              rw [q3] at hcol
              dsimp only [Rs.bind] at hcol ⊢
              intro σ2 sv2 hw
              refine ⟨by rw [hw, wipe_wipe own own σ fun _ h => h], ht _ _ _ ⟨G2, s1, e3.gh, sv2, ?_⟩⟩
              -- what stands behind a turn
              have nxt : ∀ (H3 G3 : Hp), Evl G2 H' G3 H3 → H3 Dn = some (.lst vs) ∧ Rps K G3 H3 n sofar vs A ∧ G3 Dn = none ∧ Evl G1 H1 G3 H3 ∧ (∀ a ∈ A, G3 a = none) ∧ ∀ a ∈ A, H3 a ≠ none := fun H3 G3 e4 => by
                have hh : Same Hc H3 := s2.trans e4.hh
                refine ⟨hh _ _ hDc, Rps.mono hh.tups e4.gg sofar (.of_same hh) rp, none_of fun z => ?_, e2.trans (e3.trans e4), fun a ha => none_of fun z => ?_, fun a ha z => ?_⟩
                · rcases e4.nw Dn z with z | z
                  · exact z gD
                  · rw [s2 _ _ hDc] at z; cases z
                · rcases (e3.trans e4).nw a z with z | z
                  · exact z (fr.nw a ha).2
                  · exact (Rps.own sofar rp a ha).some z
                · have := hh.free z
                  exact (Rps.own sofar rp a ha).some this
              cases q4 : dt s1 with
              | no => rw [q4] at hcol; cases hcol
              | ex c => rw [q4] at hcol; cases hcol
              | ok b =>
                rw [q4] at hcol
                dsimp only at hcol
                cases b with
                | bool b =>
                  intro H3 G3 e4
                  obtain ⟨k1, k2, k3, k4, k5, k6⟩ := nxt H3 G3 e4
                  cases b with
                  | false =>
                    rw [if_neg Bool.false_ne_true]
                    exact ⟨_, by omega, by omega, rfl, G3, vs, A, sofar, rest, k4, k1, k2, nA, ⟨fr.nd, fun a ha => ⟨(fr.nw a ha).1, k5 a ha⟩⟩, k3, ers, hcol, by omega⟩
                  | true =>
                    rw [if_pos rfl]
                    refine he _ _ _ ⟨G3, s1, e4.gh, sv2.evl e4, ?_⟩
                    dsimp only at hcol
                    cases q5 : de s1 with
                    | no => rw [q5] at hcol; cases hcol
                    | ex c => rw [q5] at hcol; cases hcol
                    | ok y =>
                      rw [q5] at hcol
                      dsimp only [Rs.bind] at hcol
                      cases q6 : vCol t dt de (wipeV s own) (ds.drop (i + 1)) with
                      | no => rw [q6] at hcol; cases hcol
                      | ex c => rw [q6] at hcol; cases hcol
                      | ok ys =>
                        rw [q6] at hcol
                        dsimp only at hcol
                        cases hcol
                        intro w H4 G4 A4 e5 r5 f5
                        have h4D : H4 Dn = some (.lst vs) := e5.hh _ _ k1
                        have g4D : G4 Dn = none := none_of fun z => by
                          rcases e5.nw Dn z with z | z
                          · exact z k3
                          · rw [k1] at z; cases z
                        have nA4 : Dn ∉ A4 := fun z => by
                          have := (f5.nw Dn z).1
                          rw [k1] at this; cases this
                        have tu : Tups H4 (upd H4 Dn (.lst (vs ++ [w]))) := tups_lst h4D
                        have stay : ∀ B : List Addr, Dn ∉ B → Stays B H4 (upd H4 Dn (.lst (vs ++ [w]))) := fun B hB a ha o ho => by
                          have ne : a ≠ Dn := fun z => hB (by rw [← z]; exact ha)
                          rw [upd_ne ne]; exact ho
                        refine ⟨vs, h4D, Nat.lt_of_lt_of_le (Nat.lt_of_le_of_lt hvl hlt) hlen, _, by omega, by omega, rfl, G4, vs ++ [w], A ++ A4, sofar ++ [y], ys, ⟨fun a o ho => ?_, e2.gg.trans (e4.gg.trans e5.gg), fun a o ho => ?_, (k4.trans e5).nw⟩, upd_same,
                          Rps.snoc (Rps.mono (e5.hh.tups.trans tu) e5.gg sofar (fun a ha o ho => stay A nA a ha o (e5.hh _ _ ho)) k2) (Rp.mono tu (Same.refl _) y (stay A4 nA4) r5), ?_,
                          Fr.app2 ⟨fr.nd, fun a ha => ⟨(fr.nw a ha).1, k5 a ha⟩⟩ f5 k4.hh k6 (fun a ha => none_of fun z => ?_), g4D, by rw [ers]; simp, rfl, by simp; omega⟩
                        · rw [upd_ne (fun z => by rw [z, hD] at ho; cases ho)]
                          exact e5.hh _ _ (k4.hh _ _ ho)
                        · rw [upd_ne (fun z => by rw [z, g4D] at ho; cases ho)]
                          exact e5.gh _ _ ho
                        · simp [nA, nA4]
                        · rcases e5.nw a z with z | z
                          · exact z (k5 a ha)
                          · exact k6 a ha z
                | _ => cases hcol
          · have ei : i = ds.length := by omega
            subst ei
            rw [List.drop_length] at hcol
            cases hcol
            rw [List.append_nil] at ers
            subst ers
            refine .inl ⟨it.st _ Hc cC (Nat.le_refl _), p (.ref Dn) Hc G2 (Dn :: A) (e1.trans e2) ?_ ⟨List.nodup_cons.mpr ⟨nA, fr.nd⟩, fun a ha => ?_⟩⟩
            · simp only [Rp]
              exact ⟨Dn, vs, A, rfl, hDc, rp, rfl⟩
            · rcases List.mem_cons.mp ha with rfl | ha
              · exact ⟨e1.hh.free hD, gD⟩
              · exact ⟨e1.hh.free (fr.nw a ha).1, (fr.nw a ha).2⟩
    · rw [if_neg hlen] at p
      exact p.elim
/-- a test, or none -/
theorem pts_yes {X : Cx} : PTs X [] (TVt X.K ρ E0 vYes) := ⟨fun pins s σ H Q I h => pts_nil.run pins s σ H Q I (by
  obtain ⟨G, s', g, sv, p⟩ := h
  exact p H G (Evl.refl g))⟩
theorem ptsv_one {X : Cx} {c : Expr} {d : VS → Rs D} (h : PT X c (TVt X.K ρ E0 d)) : PTs X [c] (TVt X.K ρ E0 d) := pts_one h
theorem pv_comp {X : Cx} {elt tg iter : Expr} {ifs : List Expr} {scope : Scope} {own : List (Str × Nat)} {pos : Pos} {g : TG} {di : VS → Rs (List D)} {t : D → VS → Rs VS} {dt de : VS → Rs D} (hc : X.calm = true) (hN : X.N.Nodup) (hi : PIV X ρ E tg iter di)
    (ok : BlkOk X.N X.env.scope scope own) (hg : ∀ (s : Shared) (H : Hp) (C : Addr) (cl : List (Str × Addr)) (fp : List Addr), PGV (X.blk s H scope (compEnvC scope cl C X.env) fp) tg (own.map (·.2)) g t)
    (ht : ∀ (s : Shared) (H : Hp) (C : Addr) (cl : List (Str × Addr)) (fp : List Addr), PTs (X.blk s H scope (compEnvC scope cl C X.env) fp) ifs (TVt X.K ρ E0 dt))
    (he : ∀ (s : Shared) (H : Hp) (C : Addr) (cl : List (Str × Addr)) (fp : List Addr), PE (X.blk s H scope (compEnvC scope cl C X.env) fp) elt (TV X.K ρ E0 n de)) (hs : ∀ x, foldedSetIterable iter X.env x = pure x := by intro _; rfl) :
    PE X (.ListComp elt [⟨tg, iter, ifs, 0⟩] scope pos) (TV X.K ρ E (n + 1) (vComp di t (own.map (·.2)) dt de)) := by
  obtain ⟨wi, pi, ri⟩ := hi.run
  exact PE.of (pe_lc hc hN pi ok (fun s H C cl fp => (hg s H C cl fp).pg) ht he hs) fun σ H Q q => tv_lc ri (hg {} (fun _ => none) 0 [] []).rd (fun _ _ _ z => z) (fun _ _ _ z => z) q
end
end PL

set_option maxRecDepth 100000
/-! PL9: slots: what a def's names hold: owned things, frozen things, views of what another name owns. -/
namespace PL
open PySem PySem.Spec PyProof.Rows L2

inductive Slot where
  | bot
  | dat (n : Nat) (d : D)
  | vw (i : Nat) (d : D)
def viewOf : Slot → Option D
  | .bot => none
  | .dat _ d => some d
  | .vw _ d => some d
/-- slot i changes: what was seen of it is forgotten -/
def tch (i : Nat) : Slot → Slot
  | .vw j d => if j = i then .bot else .vw j d
  | x => x
abbrev SS := List Slot
/-- slot i is given x -/
def put (s : SS) (i : Nat) (x : Slot) : SS := (s.map (tch i)).set i x
structure Bs where
  K : PySem.W.Frag
  ρ : Str → Addr
  E : XK
  F0 : Hp
  H0 : Hp
  A0 : Addr → Prop
  N : Nat
  P : List Nat
  pv : Nat → V
def Keep (B : Bs) (H : Hp) : Prop := ∀ a o, B.H0 a = some o → ¬ B.A0 a → H a = some o
theorem Keep.same {B : Bs} {H H' : Hp} (k : Keep B H) (s : Same H H') : Keep B H' := fun a o h n => s a o (k a o h n)
def SlotR (K : PySem.W.Frag) (F H : Hp) (As : Nat → List Addr) : Slot → Option V → List Addr → Prop
  | .bot, _, A => True
  | .dat n d, ov, A => ∃ v, ov = some v ∧ Rp K F H n d v A
  | .vw i d, ov, A => ∃ v, ov = some v ∧ Rp K (plus F H (As i)) H 0 d v []
abbrev Es := List (Slot × Option V)
structure SimC (B : Bs) (F : Hp) (As : Nat → List Addr) (es : Es) (H : Hp) : Prop where
  rel : ∀ (i : Nat) (x : Slot) (ov : Option V), es[i]? = some (x, ov) → SlotR B.K F H As x ov (As i)
  vw : ∀ (i : Nat) (j : Nat) (d : D) (ov : Option V), es[i]? = some (.vw j d, ov) → j < B.N
  nd : ∀ i, (As i).Nodup
  dj : ∀ i j, i ≠ j → ∀ a ∈ As i, a ∉ As j
  fz : ∀ i, ∀ a ∈ As i, F a = none
  ow : ∀ i, ∀ a ∈ As i, IsOwn H a
  same : Same F H
  keep : Keep B H
  f0 : Same B.F0 F
  fn : ∀ a, F a ≠ none → B.F0 a ≠ none ∨ B.A0 a ∨ B.H0 a = none
  an : ∀ i, ∀ a ∈ As i, B.A0 a ∨ B.H0 a = none
def SimE (B : Bs) (es : Es) (H : Hp) : Prop := ∃ F As, SimC B F As es H
section
variable {B : Bs} {F H H' : Hp} {As : Nat → List Addr} {es : Es}
theorem IsOwn.same {a : Addr} (h : IsOwn H a) (s : Same H H') : IsOwn H' a := by
  rcases h with ⟨_, h⟩ | ⟨_, h⟩
  · exact .inl ⟨_, s _ _ h⟩
  · exact .inr ⟨_, s _ _ h⟩
theorem plus_mono {A : List Addr} (s : Stays A H H') (o : ∀ a ∈ A, H a ≠ none) : Same (plus F H A) (plus F H' A) := fun a u h => by
  by_cases q : a ∈ A
  · rw [plus_in q] at h ⊢; exact s a q u h
  · rw [plus_out q] at h ⊢; exact h
/-- the heap grows -/
theorem SimC.grow (h : SimC B F As es H) (s : Same H H') : SimC B F As es H' where
  rel := fun i x ov e => by
    have r := h.rel i x ov e
    cases x with
    | bot => trivial
    | dat n d => obtain ⟨v, e1, r⟩ := r; exact ⟨v, e1, Rp.mono s.tups (Same.refl _) d (.of_same s) r⟩
    | vw j d =>
      obtain ⟨v, e1, r⟩ := r
      exact ⟨v, e1, Rp.mono s.tups (plus_mono (.of_same s) fun a ha => (h.ow j a ha).some) d (.of_same s) r⟩
  vw := h.vw
  nd := h.nd
  dj := h.dj
  fz := h.fz
  ow := fun i a ha => (h.ow i a ha).same s
  same := h.same.trans s
  keep := h.keep.same s
  f0 := h.f0
  fn := h.fn
  an := h.an
theorem SimE.grow (h : SimE B es H) (s : Same H H') : SimE B es H' := let ⟨F, As, c⟩ := h; ⟨F, As, c.grow s⟩
theorem SimE.keep (h : SimE B es H) : Keep B H := let ⟨F, As, c⟩ := h; c.keep
/-- all is seen at once -/
theorem SlotR.view {x : Slot} {ov : Option V} {A : List Addr} (g : Same F H) (r : SlotR B.K F H As x ov A) {d : D} (e : viewOf x = some d) : ∃ v, ov = some v ∧ Rp B.K H H 0 d v [] := by
  cases x with
  | bot => cases e
  | dat n d' => cases e; obtain ⟨v, e1, r⟩ := r; exact ⟨v, e1, Rp.view g _ (fun a _ o h => h) r⟩
  | vw j d' =>
    cases e
    obtain ⟨v, e1, r⟩ := r
    exact ⟨v, e1, Rp.mono (Tups.refl _) (plus_same g) _ (fun _ z => by simp at z) r⟩
/-- the last is dropped -/
theorem SimE.pop {e : Slot × Option V} (h : SimE B (es ++ [e]) H) : SimE B es H := by
  obtain ⟨F, As, c⟩ := h
  have up : ∀ (i : Nat) (y : Slot × Option V), es[i]? = some y → (es ++ [e])[i]? = some y := fun i y q => by
    rw [List.getElem?_append_left]
    · exact q
    · exact (List.getElem?_eq_some_iff.mp q).1
  exact ⟨F, As, fun i x ov q => c.rel i x ov (up i _ q), fun i j d ov q => c.vw i j d ov (up i _ q), c.nd, c.dj, c.fz, c.ow, c.same, c.keep, c.f0, c.fn, c.an⟩
/-- As with A at i -/
def ups (As : Nat → List Addr) (i : Nat) (A : List Addr) : Nat → List Addr := fun j => if j = i then A else As j
theorem ups_same {i : Nat} {A : List Addr} : ups As i A i = A := if_pos rfl
theorem ups_ne {i j : Nat} {A : List Addr} (h : j ≠ i) : ups As i A j = As j := if_neg h
/-- a fresh value is pushed -/
theorem SimE.push {G' : Hp} {n : Nat} {r : D} {v : V} {A : List Addr} (hN : B.N ≤ es.length) (h : SimE B es H) (s : Same H H') (rp : Rp B.K G' H' n r v A) (f : fits n r = true) (nd : A.Nodup) (nw : ∀ a ∈ A, H a = none) : SimE B (es ++ [(.dat n r, some v)]) H' := by
  obtain ⟨F, As, c⟩ := h
  have c' := c.grow s
  have fA : ∀ a ∈ A, F a = none := fun a ha => c.same.free (nw a ha)
  have out : ∀ i, ∀ a ∈ As i, a ∉ A := fun i a ha z => (c.ow i a ha).some (nw a z)
  refine ⟨F, ups As es.length A, fun i x ov e => ?_, fun i j d ov e => ?_, fun i => ?_, fun i j hij a ha => ?_, fun i a ha => ?_, fun i a ha => ?_, c'.same, c'.keep, c.f0, c.fn, fun i a ha => ?_⟩
  · by_cases q : i < es.length
    · rw [List.getElem?_append_left q] at e
      rw [ups_ne (by omega)]
      have r1 := c'.rel i x ov e
      cases x with
      | bot => trivial
      | dat n d => exact r1
      | vw j d =>
        have hj := c.vw i j d ov e
        show ∃ w, _ ∧ _
        rw [ups_ne (by omega)]
        exact r1
    · rw [List.getElem?_append_right (by omega)] at e
      have e0 : i - es.length = 0 := by
        by_cases z : i - es.length = 0
        · exact z
        · rw [List.getElem?_eq_none (by simp; omega)] at e; cases e
      rw [e0] at e
      cases e
      have ei : i = es.length := by omega
      subst ei
      rw [ups_same]
      exact ⟨v, rfl, Rp.fit r f rp⟩
  · by_cases q : i < es.length
    · rw [List.getElem?_append_left q] at e
      exact c.vw i j d ov e
    · rw [List.getElem?_append_right (by omega)] at e
      by_cases z : i - es.length = 0
      · rw [z] at e; cases e
      · rw [List.getElem?_eq_none (by simp; omega)] at e; cases e
  · unfold ups; split
    · exact nd
    · exact c.nd i
  · unfold ups at ha ⊢
    by_cases q : i = es.length
    · rw [if_pos q] at ha
      rw [if_neg (by omega)]
      exact fun z => out j a z ha
    · rw [if_neg q] at ha
      split
      · exact out i a ha
      · exact c.dj i j hij a ha
  · unfold ups at ha
    split at ha
    · exact fA a ha
    · exact c.fz i a ha
  · unfold ups at ha
    split at ha
    · exact Rp.own r rp a ha
    · exact c'.ow i a ha
  · unfold ups at ha
    split at ha
    · by_cases q : B.A0 a
      · exact .inl q
      · refine .inr ?_
        cases z : B.H0 a with
        | none => rfl
        | some o => have := c.keep a o z q; rw [nw a ha] at this; cases this
    · exact c.an i a ha
/-- .. and frozen at once -/
theorem SimE.freeze (h : SimE B es H) {n : Nat} {d : D} {ov : Option V} {k : Nat} (e : es[k]? = some (.dat n d, ov)) : SimE B (es.set k (.dat 0 d, ov)) H := by
  obtain ⟨F, As, c⟩ := h
  have r := c.rel k _ _ e
  obtain ⟨v, rfl, r⟩ := r
  have nf : ∀ a ∈ As k, F a = none := c.fz k
  have hk : k < es.length := (List.getElem?_eq_some_iff.mp e).1
  refine ⟨plus F H (As k), ups As k [], fun i x ov' e' => ?_, fun i j d' ov' e' => ?_, fun i => ?_, fun i j hij a ha => ?_, fun i a ha => ?_, fun i a ha => ?_, plus_same c.same, c.keep, c.f0.trans (same_plus nf), fun a ha => ?_, fun i a ha => ?_⟩
  · by_cases q : i = k
    · subst q
      rw [List.getElem?_set_self hk] at e'
      cases e'
      rw [ups_same]
      exact ⟨v, rfl, Rp.view (same_plus nf) d (fun a ha o ho => by rw [plus_in ha]; exact ho) r⟩
    · rw [List.getElem?_set_ne (Ne.symm q)] at e'
      rw [ups_ne q]
      have r1 := c.rel i x ov' e'
      cases x with
      | bot => trivial
      | dat m d' => obtain ⟨w, e1, r1⟩ := r1; exact ⟨w, e1, Rp.mono (Tups.refl _) (same_plus nf) d' (fun a _ o h => h) r1⟩
      | vw j d' =>
        obtain ⟨w, e1, r1⟩ := r1
        refine ⟨w, e1, Rp.mono (Tups.refl _) (fun a o ho => ?_) d' (fun a _ o h => h) r1⟩
        by_cases z : j = k
        · subst z
          rw [ups_same]
          by_cases y : a ∈ As j
          · rw [plus_out (by simp), plus_in y]; rw [plus_in y] at ho; exact ho
          · rw [plus_out (by simp), plus_out y]; rw [plus_out y] at ho; exact ho
        · rw [ups_ne z]
          by_cases y : a ∈ As j
          · rw [plus_in y] at ho ⊢; exact ho
          · rw [plus_out y] at ho ⊢; exact same_plus nf a o ho
  · by_cases q : i = k
    · subst q
      rw [List.getElem?_set_self hk] at e'
      cases e'
    · rw [List.getElem?_set_ne (Ne.symm q)] at e'
      exact c.vw i j d' ov' e'
  · unfold ups; split
    · exact List.nodup_nil
    · exact c.nd i
  · unfold ups at ha ⊢
    split at ha
    · simp at ha
    · split
      · simp
      · exact c.dj i j hij a ha
  · unfold ups at ha
    split at ha
    · simp at ha
    · rename_i q
      rw [plus_out (c.dj i k q a ha)]
      exact c.fz i a ha
  · unfold ups at ha
    split at ha
    · simp at ha
    · exact c.ow i a ha
  · by_cases q : a ∈ As k
    · exact .inr (c.an k a q)
    · rw [plus_out q] at ha; exact c.fn a ha
  · unfold ups at ha
    split at ha
    · simp at ha
    · exact c.an i a ha
/-- the last is put into slot i -/
theorem tch_bot {i : Nat} {x : Slot} {F H : Hp} {As As' : Nat → List Addr} {ov : Option V} {A : List Addr} (h : SlotR B.K F H As x ov A) (e : ∀ j, j ≠ i → ∀ d, x = .vw j d → As' j = As j) : SlotR B.K F H As' (tch i x) ov A := by
  cases x with
  | bot => trivial
  | dat n d => exact h
  | vw j d =>
    unfold tch
    dsimp only
    split
    · trivial
    · rename_i q
      obtain ⟨v, e1, r⟩ := h
      refine ⟨v, e1, ?_⟩
      rw [e j q d rfl]
      exact r
def tchE (i : Nat) (es : Es) : Es := es.map fun p => (tch i p.1, p.2)
theorem tchE_get {i k : Nat} {x : Slot} {ov : Option V} (h : (tchE i es)[k]? = some (x, ov)) : ∃ y, es[k]? = some (y, ov) ∧ x = tch i y := by
  unfold tchE at h
  rw [List.getElem?_map] at h
  cases q : es[k]? with
  | none => rw [q] at h; cases h
  | some p => rw [q] at h; cases h; exact ⟨p.1, rfl, rfl⟩
theorem tch_vw {i j : Nat} {x : Slot} {d : D} (h : tch i x = .vw j d) : x = .vw j d ∧ j ≠ i := by
  cases x with
  | bot => cases h
  | dat n d => cases h
  | vw k d' =>
    unfold tch at h
    dsimp only at h
    split at h
    · cases h
    · rename_i q; cases h; exact ⟨rfl, q⟩
theorem SimE.store {i n : Nat} {d : D} {ov : Option V} (hN : B.N ≤ es.length) (hi : i < B.N) (h : SimE B (es ++ [(.dat n d, ov)]) H) : SimE B ((tchE i es).set i (.dat n d, ov)) H := by
  obtain ⟨F, As, c⟩ := h
  have hlast : (es ++ [(Slot.dat n d, ov)])[es.length]? = some (.dat n d, ov) := by simp
  have up : ∀ (k : Nat) (y : Slot × Option V), es[k]? = some y → (es ++ [(Slot.dat n d, ov)])[k]? = some y := fun k y q => by
    rw [List.getElem?_append_left]
    · exact q
    · exact (List.getElem?_eq_some_iff.mp q).1
  let L := es.length
  have hL : i ≠ L := by show i ≠ es.length; omega
  let As' := ups (ups As i (As L)) L []
  have aI : As' i = As L := by show ups (ups As i (As L)) L [] i = _; rw [ups_ne hL, ups_same]
  have aL : As' L = [] := ups_same
  have aO : ∀ k, k ≠ i → k ≠ L → As' k = As k := fun k h1 h2 => by show ups (ups As i (As L)) L [] k = _; rw [ups_ne h2, ups_ne h1]
  have mem : ∀ k a, a ∈ As' k → ∃ m, a ∈ As m ∧ (k = i → m = L) ∧ (k ≠ i → m = k) := fun k a ha => by
    by_cases q : k = i
    · subst q; rw [aI] at ha; exact ⟨L, ha, fun _ => rfl, fun z => absurd rfl z⟩
    · by_cases q2 : k = L
      · rw [q2, aL] at ha; simp at ha
      · rw [aO k q q2] at ha; exact ⟨k, ha, fun z => absurd z q, fun _ => rfl⟩
  refine ⟨F, As', fun k x ov' e => ?_, fun k j d' ov' e => ?_, fun k => ?_, fun k j hkj a ha => ?_, fun k a ha => ?_, fun k a ha => ?_, c.same, c.keep, c.f0, c.fn, fun k a ha => ?_⟩
  · by_cases q : k = i
    · subst q
      rw [List.getElem?_set_self (by unfold tchE; simp; omega)] at e
      cases e
      rw [aI]
      exact c.rel L _ _ hlast
    · rw [List.getElem?_set_ne (Ne.symm q)] at e
      obtain ⟨y, e2, rfl⟩ := tchE_get e
      have hk : k < es.length := (List.getElem?_eq_some_iff.mp e2).1
      rw [aO k q (by show k ≠ es.length; omega)]
      refine tch_bot (c.rel k y ov' (up k _ e2)) fun j hj d'' ey => aO j hj ?_
      subst ey
      have := c.vw k j d'' ov' (up k _ e2)
      show j ≠ es.length
      omega
  · by_cases q : k = i
    · subst q
      rw [List.getElem?_set_self (by unfold tchE; simp; omega)] at e
      cases e
    · rw [List.getElem?_set_ne (Ne.symm q)] at e
      obtain ⟨y, e2, e3⟩ := tchE_get e
      obtain ⟨rfl, _⟩ := tch_vw e3.symm
      exact c.vw k j d' ov' (up k _ e2)
  · by_cases q : k = i
    · subst q; rw [aI]; exact c.nd L
    · by_cases q2 : k = L
      · rw [q2, aL]; exact List.nodup_nil
      · rw [aO k q q2]; exact c.nd k
  · intro z
    obtain ⟨m1, h1, h2, h3⟩ := mem k a ha
    obtain ⟨m2, k1, k2, k3⟩ := mem j a z
    by_cases e : m1 = m2
    · subst e
      by_cases q : k = i
      · have := h2 q
        by_cases q' : j = i
        · omega
        · have := k3 q'
          rw [show j = L by omega, aL] at z; simp at z
      · have := h3 q
        by_cases q' : j = i
        · have := k2 q'
          rw [show k = L by omega, aL] at ha; simp at ha
        · have := k3 q'; omega
    · exact c.dj m1 m2 e a h1 k1
  · obtain ⟨m, h1, _⟩ := mem k a ha; exact c.fz m a h1
  · obtain ⟨m, h1, _⟩ := mem k a ha; exact c.ow m a h1
  · obtain ⟨m, h1, _⟩ := mem k a ha; exact c.an m a h1
end
end PL

set_option maxRecDepth 100000
/-! PL10: expressions that may change slots; statements. -/
namespace PL
open PySem PySem.Spec PyProof.Rows L2

abbrev Tm := List (Nat × D × V)
def tE (T : Tm) : Es := T.map fun p => (.dat p.1 p.2.1, some p.2.2)
structure Sm (B : Bs) (T : Tm) (s : SS) (σ : L2.St) (H : Hp) : Prop where
  ls : s.length = B.N
  lσ : σ.length = B.N
  pin : ∀ i, i ∈ B.P → σ[i]? = some (some (B.pv i))
  sim : SimE B (s.zip σ ++ tE T) H
section
variable {B : Bs} {T : Tm} {s : SS} {σ : L2.St} {H H' : Hp}
theorem tE_app (T T' : Tm) : tE (T ++ T') = tE T ++ tE T' := by simp [tE]
theorem Sm.zl (h : Sm B T s σ H) : (s.zip σ).length = B.N := by rw [List.length_zip, h.ls, h.lσ]; omega
theorem Sm.grow (h : Sm B T s σ H) (g : Same H H') : Sm B T s σ H' := ⟨h.ls, h.lσ, h.pin, h.sim.grow g⟩
theorem Sm.keep (h : Sm B T s σ H) : Keep B H := h.sim.keep
theorem zip_get {s : SS} {σ : L2.St} {i : Nat} {x : Slot} (h : s[i]? = some x) (hl : s.length = σ.length) : ∃ ov, σ[i]? = some ov ∧ (s.zip σ)[i]? = some (x, ov) := by
  have h1 := (List.getElem?_eq_some_iff.mp h).1
  have h2 : i < σ.length := by omega
  refine ⟨σ[i], List.getElem?_eq_getElem h2, ?_⟩
  rw [List.getElem?_zip_eq_some]
  exact ⟨h, List.getElem?_eq_getElem h2⟩
theorem Sm.view (h : Sm B T s σ H) : SV B.K H H (s.map viewOf) σ := by
  refine ⟨by rw [List.length_map, h.ls, h.lσ], fun i d hi => ?_⟩
  obtain ⟨F, As, c⟩ := h.sim
  rw [List.getElem?_map] at hi
  cases q : s[i]? with
  | none => rw [q] at hi; cases hi
  | some x =>
    rw [q] at hi
    have hi' : viewOf x = some d := Option.some.inj hi
    obtain ⟨ov, e1, e2⟩ := zip_get q (h.ls.trans h.lσ.symm)
    have e3 : (s.zip σ ++ tE T)[i]? = some (x, ov) := by
      rw [List.getElem?_append_left (List.getElem?_eq_some_iff.mp e2).1]
      exact e2
    obtain ⟨v, rfl, r⟩ := (c.rel i x ov e3).view c.same hi'
    exact ⟨v, e1, r⟩
theorem Sm.push {G' : Hp} {n : Nat} {r : D} {v : V} {A : List Addr} (h : Sm B T s σ H) (g : Same H H') (rp : Rp B.K G' H' n r v A) (f : fits n r = true) (nd : A.Nodup) (nw : ∀ a ∈ A, H a = none) : Sm B (T ++ [(n, r, v)]) s σ H' := by
  refine ⟨h.ls, h.lσ, h.pin, ?_⟩
  rw [tE_app, ← List.append_assoc]
  exact SimE.push (by rw [List.length_append, h.zl]; omega) h.sim g rp f nd nw
theorem Sm.pop {x : Nat × D × V} (h : Sm B (T ++ [x]) s σ H) : Sm B T s σ H := by
  refine ⟨h.ls, h.lσ, h.pin, ?_⟩
  have q := h.sim
  rw [tE_app, ← List.append_assoc] at q
  exact q.pop
theorem Sm.frz {n : Nat} {r : D} {v : V} (h : Sm B (T ++ [(n, r, v)]) s σ H) : Sm B (T ++ [(0, r, v)]) s σ H := by
  refine ⟨h.ls, h.lσ, h.pin, ?_⟩
  have q := h.sim
  rw [tE_app, ← List.append_assoc] at q ⊢
  have e : (s.zip σ ++ tE T ++ tE [(n, r, v)])[(s.zip σ ++ tE T).length]? = some (.dat n r, some v) := by simp [tE]
  have q2 := q.freeze e
  rw [List.set_append_right _ _ (Nat.le_refl _), Nat.sub_self] at q2
  exact q2
theorem tchE_tE {i : Nat} : tchE i (tE T) = tE T := by
  unfold tchE tE
  rw [List.map_map]
  rfl
theorem tchE_zip {i : Nat} : ∀ {s : SS} {σ : L2.St}, tchE i (s.zip σ) = (s.map (tch i)).zip σ
  | [], σ => rfl
  | x :: s, [] => rfl
  | x :: s, o :: σ => by
    show (tch i x, o) :: tchE i (s.zip σ) = (tch i x, o) :: ((s.map (tch i)).zip σ)
    rw [tchE_zip]
theorem zip_set : ∀ {s : SS} {σ : L2.St} {i : Nat} {x : Slot} {ov : Option V}, (s.set i x).zip (σ.set i ov) = (s.zip σ).set i (x, ov)
  | [], σ, i, x, ov => by simp
  | y :: s, [], i, x, ov => by simp
  | y :: s, o :: σ, 0, x, ov => rfl
  | y :: s, o :: σ, i + 1, x, ov => by simp [zip_set]
theorem Sm.store {n i : Nat} {r : D} {v : V} (hi : i < B.N) (hp : i ∉ B.P) (h : Sm B (T ++ [(n, r, v)]) s σ H) : Sm B T (PL.put s i (.dat n r)) (σ.set i (some v)) H := by
  refine ⟨by simp [PL.put, h.ls], by simp [h.lσ], fun j hj => by rw [List.getElem?_set_ne (fun z => hp (by rw [z]; exact hj))]; exact h.pin j hj, ?_⟩
  have q := h.sim
  rw [tE_app, ← List.append_assoc] at q
  have q2 := SimE.store (es := s.zip σ ++ tE T) (by rw [List.length_append, h.zl]; omega) hi q
  have e1 : tchE i (s.zip σ ++ tE T) = tchE i (s.zip σ) ++ tchE i (tE T) := by simp only [tchE, List.map_append]
  rw [e1, tchE_zip, tchE_tE] at q2
  rw [List.set_append_left _ _ (by rw [List.length_zip, List.length_map, h.ls, h.lσ]; omega), ← zip_set] at q2
  exact q2
/-- a slot is forgotten -/
theorem SimE.forget {es : Es} {i : Nat} {x : Slot} {ov : Option V} (e : es[i]? = some (x, ov)) (h : SimE B es H) : SimE B (es.set i (.bot, ov)) H := by
  obtain ⟨F, As, c⟩ := h
  have hi := (List.getElem?_eq_some_iff.mp e).1
  refine ⟨F, As, fun k y ov' e' => ?_, fun k j d ov' e' => ?_, c.nd, c.dj, c.fz, c.ow, c.same, c.keep, c.f0, c.fn, c.an⟩
  · by_cases q : k = i
    · subst q
      rw [List.getElem?_set_self hi] at e'
      cases e'
      trivial
    · rw [List.getElem?_set_ne (Ne.symm q)] at e'
      exact c.rel k y ov' e'
  · by_cases q : k = i
    · subst q
      rw [List.getElem?_set_self hi] at e'
      cases e'
    · rw [List.getElem?_set_ne (Ne.symm q)] at e'
      exact c.vw k j d ov' e'
def forget : List Nat → SS → SS
  | [], s => s
  | i :: is, s => forget is (s.set i .bot)
theorem Sm.forget1 (h : Sm B T s σ H) (i : Nat) : Sm B T (s.set i .bot) σ H := by
  refine ⟨by simp [h.ls], h.lσ, h.pin, ?_⟩
  by_cases hi : i < s.length
  · obtain ⟨ov, e1, e2⟩ := zip_get (List.getElem?_eq_getElem hi) (h.ls.trans h.lσ.symm)
    have hz := (List.getElem?_eq_some_iff.mp e2).1
    have e3 : (s.zip σ ++ tE T)[i]? = some (s[i], ov) := by rw [List.getElem?_append_left hz]; exact e2
    have q := SimE.forget e3 h.sim
    rw [List.set_append_left _ _ hz, ← zip_set] at q
    rwa [show σ.set i ov = σ from by
      obtain ⟨h1, h2⟩ := List.getElem?_eq_some_iff.mp e1
      rw [← h2, List.set_getElem_self]] at q
  · rw [List.set_eq_of_length_le (by omega)]
    exact h.sim
theorem Sm.forget (h : Sm B T s σ H) : ∀ is : List Nat, Sm B T (PL.forget is s) σ H := by
  intro is
  induction is generalizing s with
  | nil => exact h
  | cons i is ih => exact ih (h.forget1 i)
theorem Sm.temp {n : Nat} {r : D} {v : V} (h : Sm B (T ++ [(n, r, v)]) s σ H) : Rp B.K H H 0 r v [] := by
  obtain ⟨F, As, c⟩ := h.sim
  rw [tE_app, ← List.append_assoc] at c
  have e : (s.zip σ ++ tE T ++ tE [(n, r, v)])[(s.zip σ ++ tE T).length]? = some (.dat n r, some v) := by simp [tE]
  obtain ⟨w, e1, q⟩ := (c.rel _ _ _ e).view c.same rfl
  cases e1
  exact q
/-- the temps under the last -/
theorem Sm.temp2 {n m : Nat} {r r' : D} {v v' : V} (h : Sm B (T ++ [(n, r, v)] ++ [(m, r', v')]) s σ H) : Rp B.K H H 0 r v [] := h.pop.temp
end

/-! ### expressions -/
def raises (B : Bs) (c : Str) : Prop := ∀ H', Keep B H' → B.E (.ref (B.ρ c)) none H'
def xPost (B : Bs) (T : Tm) (σ : L2.St) (n : Nat) (Q : VK) : Rs (D × SS) → Prop
  | .no => False
  | .ex c => raises B c
  | .ok (r, s') => ∀ v H', Sm B (T ++ [(n, r, v)]) s' σ H' → Q v H'
def TX (B : Bs) (n : Nat) (dx : SS → Rs (D × SS)) : TE := fun σ H Q => ∃ T s, Sm B T s σ H ∧ xPost B T σ n Q (dx s)
def tPostX (B : Bs) (T : Tm) (σ : L2.St) (Q : Bool → Hp → Prop) : Rs (D × SS) → Prop
  | .no => False
  | .ex c => raises B c
  | .ok (.bool b, s') => ∀ H', Sm B T s' σ H' → Q b H'
  | .ok _ => False
def TXt (B : Bs) (dx : SS → Rs (D × SS)) : TT := fun σ H Q => ∃ T s, Sm B T s σ H ∧ tPostX B T σ Q (dx s)
/-- what is told changes nothing -/
def xV (n : Nat) (dv : VS → Rs D) : SS → Rs (D × SS) := fun s => (dv (s.map viewOf)).bind fun r => if fits n r = true then .ok (r, s) else .no
def xT (dv : VS → Rs D) : SS → Rs (D × SS) := fun s => (dv (s.map viewOf)).bind fun r => .ok (r, s)
section
variable {X : Cx} {B : Bs} {n : Nat}
theorem px_view {e : Expr} {dv : VS → Rs D} (h : PE X e (TV B.K B.ρ B.E n dv)) : PE X e (TX B n (xV n dv)) := PE.of h fun σ H Q q => by
  obtain ⟨T, s, sm, p⟩ := q
  refine ⟨H, s.map viewOf, Same.refl _, sm.view, ?_⟩
  unfold xV at p
  cases q : dv (s.map viewOf) with
  | no => rw [q] at p; exact p
  | ex c => rw [q] at p; exact fun H' g => p H' (sm.keep.same g)
  | ok r =>
    rw [q] at p
    dsimp only [Rs.bind] at p
    split at p
    · rename_i f
      exact fun v H' G' A e r fr => p v H' (sm.push e.hh r f fr.nd fun a ha => (fr.nw a ha).1)
    · exact p.elim
theorem ptx_view {e : Expr} {dv : VS → Rs D} (h : PT X e (TVt B.K B.ρ B.E dv)) : PT X e (TXt B (xT dv)) := PT.of h fun σ H Q q => by
  obtain ⟨T, s, sm, p⟩ := q
  refine TVt_eq.mpr ⟨H, s.map viewOf, Same.refl _, sm.view, ?_⟩
  unfold xT at p
  cases q : dv (s.map viewOf) with
  | no => rw [q] at p; exact p
  | ex c => rw [q] at p; exact fun H' g => p H' (sm.keep.same g)
  | ok r =>
    rw [q] at p
    dsimp only [Rs.bind] at p
    cases r with
    | bool b => exact fun H' G' e => p H' (sm.grow e.hh)
    | _ => exact p.elim
/-- .. frozen -/
theorem px_frz {e : Expr} {dx : SS → Rs (D × SS)} (h : PE X e (TX B n dx)) : PE X e (TX B 0 dx) := PE.of h fun σ H Q q => by
  obtain ⟨T, s, sm, p⟩ := q
  refine ⟨T, s, sm, ?_⟩
  cases q : dx s with
  | no => rw [q] at p; exact p
  | ex c => rw [q] at p; exact p
  | ok r => rw [q] at p; exact fun v H' sm' => p v H' sm'.frz
/-- a value as a test -/
theorem ptx_val {e : Expr} {dx : SS → Rs (D × SS)} (h : PE X e (TX B n dx)) (he : ∀ whole, isTrue e X.env whole = (do let v ← whole; standAt e.pos; holding [v] (truthy v)) := by intro _; rfl) : PT X e (TXt B dx) :=
  PT.of (pt_val h he) fun σ H Q q => by
    obtain ⟨T, s, sm, p⟩ := q
    refine ⟨T, s, sm, ?_⟩
    cases q : dx s with
    | no => rw [q] at p; exact p
    | ex c => rw [q] at p; exact p
    | ok r =>
      rw [q] at p
      obtain ⟨r, s'⟩ := r
      cases r with
      | bool b =>
        intro v H' sm'
        have rp := sm'.temp
        simp only [Rp] at rp
        exact ⟨b, rp.1, p H' sm'.pop⟩
      | _ => exact p.elim

/-! ### statements -/
inductive Oc where
  | no
  | ex (c : Str)
  | nx (s : SS)
  | rt (d : D) (s : SS)
  | bk (s : SS)
  | ct (s : SS)
def oPost (B : Bs) (T : Tm) (n : Nat) (Dn : Ends) : Oc → Prop
  | .no => False
  | .ex c => raises B c
  | .nx s' => ∀ σ' H', Sm B T s' σ' H' → Dn.nx σ' H'
  | .rt r s' => ∀ v σ' H', Sm B (T ++ [(n, r, v)]) s' σ' H' → Dn.rt v H'
  | .bk s' => ∀ σ' H', Sm B T s' σ' H' → Dn.bk σ' H'
  | .ct s' => ∀ σ' H', Sm B T s' σ' H' → Dn.ct σ' H'
def TSt (B : Bs) (n : Nat) (d : SS → Oc) : TS := fun Dn σ H => ∃ T s, Sm B T s σ H ∧ oPost B T n Dn (d s)
theorem PS.of {st : Stmt} {t t' : TS} (h : PS X st t) (i : ∀ Dn σ H, t' Dn σ H → t Dn σ H) : PS X st t' := ⟨fun pins s σ H D I q => h.run pins s σ H D I (i _ _ _ q)⟩
theorem PSs.of {st : List Stmt} {t t' : TS} (h : PSs X st t) (i : ∀ Dn σ H, t' Dn σ H → t Dn σ H) : PSs X st t' := ⟨fun pins s σ H D I q => h.run pins s σ H D I (i _ _ _ q)⟩
def oNil : SS → Oc := fun s => .nx s
def oSeq (a b : SS → Oc) : SS → Oc := fun s => match a s with | .nx s' => b s' | o => o
theorem so_nil : PSs X [] (TSt B n oNil) := PSs.of pss_nil fun Dn σ H q => by
  obtain ⟨T, s, sm, p⟩ := q
  exact p σ H sm
theorem so_cons {st : Stmt} {r : List Stmt} {a b : SS → Oc} (h : PS X st (TSt B n a)) (h' : PSs X r (TSt B n b)) : PSs X (st :: r) (TSt B n (oSeq a b)) := PSs.of (pss_cons h h') fun Dn σ H q => by
  obtain ⟨T, s, sm, p⟩ := q
  refine ⟨T, s, sm, ?_⟩
  unfold oSeq at p
  cases q : a s <;> rw [q] at p
  case nx s' => exact fun σ' H' sm' => ⟨T, s', sm', p⟩
  all_goals exact p
theorem so_one {st : Stmt} {a : SS → Oc} (h : PS X st (TSt B n a)) : PSs X [st] (TSt B n a) := pss_one h
theorem so_doc {x j pos pos'} : PS X (.Expr (.Constant (.str x) j pos) pos') (TSt B n oNil) := PS.of ps_doc fun Dn σ H q => by
  obtain ⟨T, s, sm, p⟩ := q
  exact p σ H sm
theorem so_pass {pos} : PS X (.Pass pos) (TSt B n oNil) := PS.of ps_pass fun Dn σ H q => by
  obtain ⟨T, s, sm, p⟩ := q
  exact p σ H sm
theorem so_break {pos} : PS X (.Break pos) (TSt B n .bk) := PS.of ps_break fun Dn σ H q => by
  obtain ⟨T, s, sm, p⟩ := q
  exact p σ H sm
/-- name = e -/
def oSet (i m : Nat) (dx : SS → Rs (D × SS)) : SS → Oc := fun s => match dx s with | .ok (r, s') => .nx (put s' i (.dat m r)) | .ex c => .ex c | .no => .no
theorem asg_rd {i m : Nat} {te : TE} {dx : SS → Rs (D × SS)} (hi : i < B.N) (hp : i ∉ B.P) (he : ∀ σ H Q, TX B m dx σ H Q → te σ H Q) : ∀ Dn σ H, TSt B n (oSet i m dx) Dn σ H → tAsg te (gName i) Dn σ H := fun Dn σ H q => by
  obtain ⟨T, s, sm, p⟩ := q
  refine he _ _ _ ⟨T, s, sm, ?_⟩
  unfold oSet at p
  cases q : dx s with
  | no => rw [q] at p; exact p
  | ex c => rw [q] at p; exact p
  | ok r => rw [q] at p; exact fun v H' sm' => p _ H' (sm'.store hi hp)
theorem so_set {i m : Nat} {x : Str} {e : Expr} {dx : SS → Rs (D × SS)} {pos pos' : Pos} (hN : X.N.Nodup) (hi : X.N[i]? = some x) (hx : Loc X.env.scope x) (he : PE X e (TX B m dx)) (hb : i < B.N := by exact of_decide_eq_true rfl) (hp : i ∉ B.P := by exact of_decide_eq_true rfl)
    (hs : swapsWith e (some (.Name x pos')) pos.line X.env = pure false := by rfl) (hf : X.fn x = true ∨ X.env.scope.names.lookup x = some .local := by first | exact .inl rfl | exact .inr rfl | assumption) :
    PS X (.Assign [.Name x pos'] e pos) (TSt B n (oSet i m dx)) := PS.of (ps_set hN hi hx he hs hf) (asg_rd hb hp fun _ _ _ z => z)
/-- an expression by itself -/
def oDrop (dx : SS → Rs (D × SS)) : SS → Oc := fun s => match dx s with | .ok (_, s') => .nx s' | .ex c => .ex c | .no => .no
theorem so_expr {m : Nat} {e : Expr} {dx : SS → Rs (D × SS)} {pos : Pos} (he : PE X e (TX B m dx)) (hs : swapsWith e none pos.line X.env = pure false := by rfl) : PS X (.Expr e pos) (TSt B n (oDrop dx)) := PS.of (ps_expr he hs) fun Dn σ H q => by
  obtain ⟨T, s, sm, p⟩ := q
  refine ⟨T, s, sm, ?_⟩
  unfold oDrop at p
  cases q : dx s with
  | no => rw [q] at p; exact p
  | ex c => rw [q] at p; exact p
  | ok r => rw [q] at p; exact fun v H' sm' => p σ H' sm'.pop
def oRet (dx : SS → Rs (D × SS)) : SS → Oc := fun s => match dx s with | .ok (r, s') => .rt r s' | .ex c => .ex c | .no => .no
theorem so_ret {e : Expr} {dx : SS → Rs (D × SS)} {pos : Pos} (he : PE X e (TX B n dx)) : PS X (.Return (some e) pos) (TSt B n (oRet dx)) := PS.of (ps_ret he) fun Dn σ H q => by
  obtain ⟨T, s, sm, p⟩ := q
  refine ⟨T, s, sm, ?_⟩
  unfold oRet at p
  cases q : dx s with
  | no => rw [q] at p; exact p
  | ex c => rw [q] at p; exact p
  | ok r => rw [q] at p; exact fun v H' sm' => p v σ H' sm'
def oIf (dc : SS → Rs (D × SS)) (a b : SS → Oc) : SS → Oc := fun s => match dc s with
  | .ok (.bool true, s') => a s'
  | .ok (.bool false, s') => b s'
  | .ex c => .ex c
  | _ => .no
theorem so_if {c : Expr} {sa sb : List Stmt} {pos : Pos} {dc : SS → Rs (D × SS)} {a b : SS → Oc} (hc : PT X c (TXt B dc)) (ha : PSs X sa (TSt B n a)) (hb : PSs X sb (TSt B n b)) : PS X (.If c sa sb pos) (TSt B n (oIf dc a b)) := PS.of (ps_if hc ha hb) fun Dn σ H q => by
  obtain ⟨T, s, sm, p⟩ := q
  refine ⟨T, s, sm, ?_⟩
  unfold oIf at p
  cases q : dc s with
  | no => rw [q] at p; exact p
  | ex c => rw [q] at p; exact p
  | ok r =>
    rw [q] at p
    obtain ⟨r, s'⟩ := r
    cases r with
    | bool k =>
      cases k with
      | true => exact fun H' sm' => ⟨T, s', sm', p⟩
      | false => exact fun H' sm' => ⟨T, s', sm', p⟩
    | _ => exact p.elim
/-! ### while -/
def oWhile (dc : SS → Rs (D × SS)) (a : SS → Oc) (fg : List Nat) : Nat → SS → Oc
  | 0, _ => .no
  | k + 1, s => match dc s with
    | .ok (.bool false, s') => .nx s'
    | .ok (.bool true, s') => match a s' with
      | .nx s2 => oWhile dc a fg k (forget fg s2)
      | .ct s2 => oWhile dc a fg k (forget fg s2)
      | .bk s2 => .nx (forget fg s2)
      | o => o
    | .ex c => .ex c
    | _ => .no
theorem so_while {c : Expr} {sa : List Stmt} {pos : Pos} {dc : SS → Rs (D × SS)} {a : SS → Oc} {fg : List Nat} (k : Nat) (hp : PassesOwn (model X.prog X.w) X.A X.env X.xe) (hc : PT X c (TXt B dc)) (ha : PSs X sa (TSt B n a)) :
    PS X (.While c sa [] pos) (TSt B n (fun s => oWhile dc a fg k (forget fg s))) := PS.of (ps_while hp hc ha) fun Dn σ H q => by
  obtain ⟨T, s, sm, p⟩ := q
  refine ⟨fun m σ H => ∃ s, Sm B T s σ H ∧ oPost B T n Dn (oWhile dc a fg m s), ⟨k, _, sm.forget fg, p⟩, ?_⟩
  rintro m σ H ⟨s, sm, p⟩
  refine ⟨T, s, sm, ?_⟩
  cases m with
  | zero => exact p.elim
  | succ m =>
    unfold oWhile at p
    cases q : dc s with
    | no => rw [q] at p; exact p
    | ex c => rw [q] at p; exact p
    | ok r =>
      rw [q] at p
      obtain ⟨r, s'⟩ := r
      cases r with
      | bool b =>
        intro H' sm'
        cases b with
        | false =>
          rw [if_neg Bool.false_ne_true]
          exact p σ H' sm'
        | true =>
          rw [if_pos rfl]
          refine ⟨fun σ' H' => ∃ s, Sm B T s σ' H' ∧ oPost B T n Dn (oWhile dc a fg m s), fun σ' H' z => ⟨m, Nat.lt_succ_self m, z⟩, T, s', sm', ?_⟩
          dsimp only at p
          cases q2 : a s' <;> rw [q2] at p
          case nx s2 => exact fun σ' H' sm2 => ⟨_, sm2.forget fg, p⟩
          case ct s2 => exact fun σ' H' sm2 => ⟨_, sm2.forget fg, p⟩
          case bk s2 => exact fun σ' H' sm2 => p σ' H' (sm2.forget fg)
          all_goals exact p
      | _ => exact p.elim
end
end PL

set_option maxRecDepth 100000
/-! PL11: a def that changes nothing; loops. -/
namespace PL
open PySem PySem.Spec PyProof.Rows L2

def init (N : Nat) (ds : List D) : SS := ds.map (Slot.dat 0) ++ List.replicate (N - ds.length) .bot
def fnV (N : Nat) (body : SS → Oc) : List D → Rs D := fun ds => match body (init N ds) with
  | .rt r _ => .ok r
  | .nx _ => .ok .none
  | .ex c => .ex c
  | _ => .no
def fnV0 (N : Nat) (body : SS → Oc) : List D → Rs D := fun ds => match body (init N ds) with
  | .rt r _ => .ok r
  | .nx _ => .ok .none
  | _ => .no
theorem Rps.all {K : PySem.W.Frag} {G H : Hp} : ∀ {ds : List D} {vs : List V} {i : Nat} {d : D}, Rps K G H 0 ds vs [] → ds[i]? = some d → ∃ v, vs[i]? = some v ∧ Rp K G H 0 d v [] := Rps.get
/-- the start of a body -/
theorem sm_init {K : PySem.W.Frag} {ρ : Str → Addr} {E : XK} {G H : Hp} {Nm : List Str} {ds : List D} {vs : List V} {pv : Nat → V} (g : Same G H) (r : Rps K G H 0 ds vs []) (hl : vs.length ≤ Nm.length) :
    Sm ⟨K, ρ, E, G, H, fun _ => False, Nm.length, [], pv⟩ [] (init Nm.length ds) (L2.start Nm vs) H := by
  have e := Rps.length r
  refine ⟨?_, ?_, fun i hi => by simp at hi, G, fun _ => [], fun i x ov hi => ?_, fun i j d ov hi => ?_, fun _ => List.nodup_nil, fun _ _ _ a ha => by simp at ha, fun _ a ha => by simp at ha, fun _ a ha => by simp at ha, g, fun a o h _ => h, Same.refl _, fun a h => .inl h, fun _ a ha => by simp at ha⟩
  · show (init Nm.length ds).length = Nm.length
    unfold init
    simp only [List.length_append, List.length_map, List.length_replicate]
    omega
  · show (L2.start Nm vs).length = Nm.length
    unfold L2.start
    simp only [List.length_append, List.length_map, List.length_replicate]
    omega
  all_goals
    simp only [tE, List.map_nil, List.append_nil] at hi
    rw [List.getElem?_zip_eq_some] at hi
    obtain ⟨h1, h2⟩ := hi
    unfold init at h1
    unfold L2.start at h2
    by_cases q : i < ds.length
    · rw [List.getElem?_append_left (by simpa using q), List.getElem?_map, List.getElem?_eq_getElem q] at h1
      have h1' := Option.some.inj h1
      first
        | (subst h1'
           obtain ⟨v, e1, r1⟩ := Rps.get r (List.getElem?_eq_getElem q)
           rw [List.getElem?_append_left (by simp; omega), List.getElem?_map, e1] at h2
           have h2' := Option.some.inj h2
           subst h2'
           exact ⟨v, rfl, r1⟩)
        | cases h1'
    · rw [List.getElem?_append_right (by simpa using q)] at h1
      have h1' := List.eq_of_mem_replicate (List.mem_of_getElem? h1)
      first
        | (subst h1'; trivial)
        | cases h1'
/-- the end of a body -/
theorem sm_end {K : PySem.W.Frag} {ρ : Str → Addr} {E : XK} {G H H' : Hp} {N n : Nat} {r : D} {v : V} {pv : Nat → V} {s : SS} {σ : L2.St} {Q : VK} (p : VP K G H n r Q) (sm : Sm ⟨K, ρ, E, G, H, fun _ => False, N, [], pv⟩ [(n, r, v)] s σ H') : Q v H' := by
  obtain ⟨F, As, c⟩ := sm.sim
  have e : (s.zip σ ++ tE [(n, r, v)])[(s.zip σ).length]? = some (.dat n r, some v) := by simp [tE]
  obtain ⟨w, e1, rp⟩ := c.rel _ _ _ e
  cases e1
  refine p v H' F (As (s.zip σ).length) ⟨fun a o h => c.keep a o h (fun z => z), c.f0, c.same, fun a ha => ?_⟩ rp ⟨c.nd _, fun a ha => ⟨?_, c.fz _ a ha⟩⟩
  · rcases c.fn a ha with z | z | z
    · exact .inl z
    · exact z.elim
    · exact .inr z
  · rcases c.an _ a ha with z | z
    · exact z.elim
    · exact z
theorem sm_end0 {K : PySem.W.Frag} {ρ : Str → Addr} {E : XK} {G H H' : Hp} {N n : Nat} {pv : Nat → V} {s : SS} {σ : L2.St} {Q : VK} (p : VP K G H n .none Q) (sm : Sm ⟨K, ρ, E, G, H, fun _ => False, N, [], pv⟩ [] s σ H') : Q .non H' :=
  sm_end (r := .none) p (by
    have := Sm.push (n := n) (r := PyData.none) (v := .non) (A := []) (G' := H') sm (Same.refl _) (rp_none _ _) (by simp [fits]) List.nodup_nil (fun _ z => by simp at z)
    simpa using this)
section
variable {P : Program} {w : World} {K : PySem.W.Frag} {mg : Str → Option Value} {base : Heap} {ρ : Str → Addr}
/-- a def that raises nothing -/
theorem fn_v0 {x qual : Str} {st : Stmt} {f : Addr} {fd : FuncData} {N ps : List Str} {k n : Nat} {body : SS → Oc} (F : Fun K x qual st f fd) (S : FnScope N ps (defScope st)) (hp : ps.length ≤ N.length)
    (der : ∀ (cdv : Value) (A : Around) (outer : List Env) (s : Shared) (H : Hp) (E : XK) (G : Hp), Room k (A.deeper (envOfC qual (defScope st) s.heap.objs.size f cdv)) →
      PSs (cxOf CX0 P w K mg base N qual (defScope st) f cdv A outer s H E).nox (defBody st) (TSt ⟨K, ρ, E0, G, H, fun _ => False, N.length, [], fun _ => .non⟩ n body)) :
    FnOk P w K mg base CX0 (k + 1) f fd ps (spV K ρ ps.length n (fnV0 N.length body)) := by
  refine F.ok S (fun vs H Q E h => h.1) (fun cdv A outer s H vs Q E hr h => ?_)
  obtain ⟨hl, G, ds, g, r, p⟩ := h
  refine ⟨_, der cdv A outer s H E G hr, [], _, sm_init g r (by omega), ?_⟩
  unfold fnV0 at p
  cases q : body (init N.length ds) <;> rw [q] at p
  case rt r s' => exact fun v σ' H' sm => sm_end p sm
  case nx s' => exact fun σ' H' sm => sm_end0 p sm
  all_goals exact p.elim
/-- a def that may raise -/
theorem fn_v {x qual : Str} {st : Stmt} {f : Addr} {fd : FuncData} {N ps : List Str} {k n : Nat} {body : SS → Oc} (F : Fun K x qual st f fd) (S : FnScope N ps (defScope st)) (hp : ps.length ≤ N.length)
    (der : ∀ (cdv : Value) (A : Around) (outer : List Env) (s : Shared) (H : Hp) (E : XK) (G : Hp), Room k (A.deeper (envOfC qual (defScope st) s.heap.objs.size f cdv)) →
      PSs (cxOf (L2.CX P w) P w K mg base N qual (defScope st) f cdv A outer s H E) (defBody st) (TSt ⟨K, ρ, E, G, H, fun _ => False, N.length, [], fun _ => .non⟩ n body)) :
    FnOk P w K mg base (L2.CX P w) (k + 1) f fd ps (spV K ρ ps.length n (fnV N.length body)) := by
  refine F.okX S (fun vs H Q E h => h.1) (fun cdv A outer s H vs Q E hr h => ?_)
  obtain ⟨hl, G, ds, g, r, p⟩ := h
  refine ⟨_, der cdv A outer s H E G hr, [], _, sm_init g r (by omega), ?_⟩
  unfold fnV at p
  cases q : body (init N.length ds) <;> rw [q] at p
  case rt r s' => exact fun v σ' H' sm => sm_end p sm
  case nx s' => exact fun σ' H' sm => sm_end0 p sm
  case ex c => exact fun H' kp => p H' fun a o h => kp a o h fun z => z
  all_goals exact p.elim
end
/-- no exception comes out of a def of the calm kind -/
theorem passN {X : Cx} {E : XK} : Passes CX0 X E := fun _ _ _ _ _ _ _ h => h.elim

/-! ### for -/
/-- a target: what the slots hold once d is stored -/
abbrev Tgx := D → SS → Rs SS
def xName (i : Nat) : Tgx := fun d s => .ok (put s i (.dat 0 d))
def xSets : List Nat → List D → SS → Rs SS
  | [], [], s => .ok s
  | i :: is, d :: ds, s => xSets is ds (put s i (.dat 0 d))
  | _, _, _ => .no
def xTup (is : List Nat) : Tgx
  | .tuple ds, s => xSets is ds s
  | _, _ => .no
section
variable {X : Cx} {B : Bs} {T : Tm} {s : SS} {σ : L2.St} {H H' : Hp} {n : Nat}
theorem SimC.pushZ {F : Hp} {As : Nat → List Addr} {es : Es} {d : D} {x : V} (hN : B.N ≤ es.length) (c : SimC B F As es H) (rp : Rp B.K F H 0 d x []) : SimC B F (ups As es.length []) (es ++ [(.dat 0 d, some x)]) H := by
  refine ⟨fun i y ov e => ?_, fun i j d ov e => ?_, fun i => ?_, fun i j hij a ha => ?_, fun i a ha => ?_, fun i a ha => ?_, c.same, c.keep, c.f0, c.fn, fun i a ha => ?_⟩
  · by_cases q : i < es.length
    · rw [List.getElem?_append_left q] at e
      rw [ups_ne (by omega)]
      have r1 := c.rel i y ov e
      cases y with
      | bot => trivial
      | dat n d => exact r1
      | vw j d =>
        have hj := c.vw i j d ov e
        show ∃ w, _ ∧ _
        rw [ups_ne (by omega)]
        exact r1
    · rw [List.getElem?_append_right (by omega)] at e
      have e0 : i - es.length = 0 := by
        by_cases z : i - es.length = 0
        · exact z
        · rw [List.getElem?_eq_none (by simp; omega)] at e; cases e
      rw [e0] at e
      cases e
      rw [show i = es.length by omega, ups_same]
      exact ⟨x, rfl, rp⟩
  · by_cases q : i < es.length
    · rw [List.getElem?_append_left q] at e
      exact c.vw i j d ov e
    · rw [List.getElem?_append_right (by omega)] at e
      by_cases z : i - es.length = 0
      · rw [z] at e; cases e
      · rw [List.getElem?_eq_none (by simp; omega)] at e; cases e
  · unfold ups; split
    · exact List.nodup_nil
    · exact c.nd i
  · unfold ups at ha ⊢
    split at ha
    · simp at ha
    · split
      · simp
      · exact c.dj i j hij a ha
  · unfold ups at ha
    split at ha
    · simp at ha
    · exact c.fz i a ha
  · unfold ups at ha
    split at ha
    · simp at ha
    · exact c.ow i a ha
  · unfold ups at ha
    split at ha
    · simp at ha
    · exact c.an i a ha
theorem SimE.pushZ {es : Es} {d : D} {x : V} (hN : B.N ≤ es.length) (h : ∃ F As, SimC B F As es H ∧ Rp B.K F H 0 d x []) : SimE B (es ++ [(.dat 0 d, some x)]) H := by
  obtain ⟨F, As, c, rp⟩ := h
  exact ⟨F, _, c.pushZ hN rp⟩
/-- items, the first on top -/
def Zt (ds : List D) (vs : List V) : Tm := ((ds.zip vs).map fun p => (0, p.1, p.2)).reverse
theorem SimC.pushAll {F : Hp} {es : Es} (hN : B.N ≤ es.length) : ∀ {ds : List D} {vs : List V} {As : Nat → List Addr}, SimC B F As es H → Rps B.K F H 0 ds vs [] → ∃ As', SimC B F As' (es ++ tE (Zt ds vs)) H
  | [], vs, As, c, r => ⟨As, by simpa [Zt, tE] using c⟩
  | d :: ds, vs, As, c, r => by
    simp only [Rps] at r
    obtain ⟨v, w, A1, A2, rfl, r1, r2, eA⟩ := r
    have e1 := Rp.nil d r1
    have e2 := Rps.nil ds r2
    subst e1 e2
    obtain ⟨As', c'⟩ := SimC.pushAll hN c r2
    have c2 := c'.pushZ (by rw [List.length_append]; omega) r1
    refine ⟨ups As' (es ++ tE (Zt ds w)).length [], ?_⟩
    have e : Zt (d :: ds) (v :: w) = Zt ds w ++ [(0, d, v)] := by simp [Zt]
    rw [e, tE_app, ← List.append_assoc]
    exact c2
theorem Sm.pushZ {d : D} {x : V} (h : Sm B T s σ H) (hz : ∃ F As, SimC B F As (s.zip σ ++ tE T) H ∧ Rp B.K F H 0 d x []) : Sm B (T ++ [(0, d, x)]) s σ H := by
  refine ⟨h.ls, h.lσ, h.pin, ?_⟩
  rw [tE_app, ← List.append_assoc]
  exact SimE.pushZ (by rw [List.length_append, h.zl]; omega) hz
theorem Sm.tempC {r : D} {v : V} (h : Sm B (T ++ [(0, r, v)]) s σ H) : ∃ F As, SimC B F As (s.zip σ ++ tE (T ++ [(0, r, v)])) H ∧ Rp B.K F H 0 r v [] := by
  obtain ⟨F, As, c⟩ := h.sim
  refine ⟨F, As, c, ?_⟩
  have e : (s.zip σ ++ tE (T ++ [(0, r, v)]))[(s.zip σ ++ tE T).length]? = some (.dat 0 r, some v) := by
    rw [tE_app, ← List.append_assoc]
    simp [tE]
  obtain ⟨w, e1, rp⟩ := c.rel _ _ _ e
  cases e1
  have := Rp.nil r rp
  rw [this] at rp
  exact rp
/-- an item of the last temp is pushed -/
theorem Sm.item {ds : List D} {v : V} {i : Nat} {d : D} (h : Sm B (T ++ [(0, .list ds, v)]) s σ H) (hd : ds[i]? = some d) : ∃ a vs x, v = .ref a ∧ SqL B.K H a vs ∧ vs.length = ds.length ∧ vs[i]? = some x ∧ Sm B (T ++ [(0, .list ds, v)] ++ [(0, d, x)]) s σ H := by
  obtain ⟨F, As, c, rp⟩ := h.tempC
  simp only [Rp] at rp
  obtain ⟨_, a, vs, e, q, r⟩ := rp
  obtain ⟨x, ex, rx⟩ := Rps.get r hd
  exact ⟨a, vs, x, e, c.same.seq q, (Rps.length r).symm, ex, h.pushZ ⟨F, As, c, rx⟩⟩
theorem Sm.seq {ds : List D} {v : V} (h : Sm B (T ++ [(0, .list ds, v)]) s σ H) : ∃ a vs, v = .ref a ∧ SqL B.K H a vs ∧ vs.length = ds.length := by
  have rp := h.temp
  simp only [Rp] at rp
  obtain ⟨_, a, vs, e, q, r⟩ := rp
  exact ⟨a, vs, e, q, (Rps.length r).symm⟩
theorem Sm.itemT {ds : List D} {v : V} {i : Nat} {d : D} (h : Sm B (T ++ [(0, .tuple ds, v)]) s σ H) (hd : ds[i]? = some d) : ∃ a vs x, v = .ref a ∧ SqT B.K H a vs ∧ vs.length = ds.length ∧ vs[i]? = some x ∧ Sm B (T ++ [(0, .tuple ds, v)] ++ [(0, d, x)]) s σ H := by
  obtain ⟨F, As, c, rp⟩ := h.tempC
  simp only [Rp] at rp
  obtain ⟨a, vs, e, q, r⟩ := rp
  obtain ⟨x, ex, rx⟩ := Rps.get r hd
  exact ⟨a, vs, x, e, q, (Rps.length r).symm, ex, h.pushZ ⟨F, As, c, rx⟩⟩
theorem Sm.seqT {ds : List D} {v : V} (h : Sm B (T ++ [(0, .tuple ds, v)]) s σ H) : ∃ a vs, v = .ref a ∧ SqT B.K H a vs ∧ vs.length = ds.length := by
  have rp := h.temp
  simp only [Rp] at rp
  obtain ⟨a, vs, e, q, r⟩ := rp
  exact ⟨a, vs, e, q, (Rps.length r).symm⟩
/-- a target and its reading: the thing to be stored is the last temp -/
structure PGX (X : Cx) (B : Bs) (tg : Expr) (g : TG) (t : Tgx) : Prop where
  pg : PG X tg g
  rd : ∀ (T : Tm) (s : SS) (σ : L2.St) (H : Hp) (d : D) (v : V) (Q : L2.St → Hp → Prop), Sm B (T ++ [(0, d, v)]) s σ H → (match t d s with | .ok s' => ∀ σ', Sm B T s' σ' H → Q σ' H | _ => False) → g v σ H Q
theorem pgx_name {i : Nat} {x : Str} {pos : Pos} (hN : X.N.Nodup) (hi : X.N[i]? = some x) (hx : Loc X.env.scope x) (hb : i < B.N := by exact of_decide_eq_true rfl) (hp : i ∉ B.P := by exact of_decide_eq_true rfl)
    (hf : X.fn x = true ∨ X.env.scope.names.lookup x = some .local := by first | exact .inl rfl | exact .inr rfl | assumption) : PGX X B (.Name x pos) (gName i) (xName i) where
  pg := pg_name hN hi hx hf
  rd := fun T s σ H d v Q sm p => p _ (sm.store hb hp)
theorem Sm.items {ds : List D} {vs : List V} : ∀ {is : List Nat} {T : Tm} {s : SS} {σ : L2.St} {Q : L2.St → Hp → Prop}, ds.length = vs.length → (∀ i ∈ is, i < B.N ∧ i ∉ B.P) → Sm B (T ++ Zt ds vs) s σ H →
    (match xSets is ds s with | .ok s' => ∀ σ', Sm B T s' σ' H → Q σ' H | _ => False) → gNames is vs σ H Q := by
  induction ds generalizing vs with
  | nil =>
    intro is T s σ Q hl hi sm p
    cases vs with
    | cons _ _ => simp at hl
    | nil =>
      cases is with
      | nil => exact ⟨rfl, p σ (by simpa [Zt] using sm)⟩
      | cons i is => exact p.elim
  | cons d ds ih =>
    intro is T s σ Q hl hi sm p
    cases vs with
    | nil => simp at hl
    | cons v vs =>
      cases is with
      | nil => exact p.elim
      | cons i is =>
        have e : Zt (d :: ds) (v :: vs) = Zt ds vs ++ [(0, d, v)] := by simp [Zt]
        rw [e, ← List.append_assoc] at sm
        have hi' := hi i (by simp)
        exact ⟨v, vs, rfl, ih (by simpa using hl) (fun j hj => hi j (by simp [hj])) (sm.store hi'.1 hi'.2) p⟩
theorem Sm.pushAll {ds : List D} {vs : List V} (h : Sm B T s σ H) (hz : ∃ F As, SimC B F As (s.zip σ ++ tE T) H ∧ Rps B.K F H 0 ds vs []) : Sm B (T ++ Zt ds vs) s σ H := by
  obtain ⟨F, As, c, r⟩ := hz
  obtain ⟨As', c'⟩ := SimC.pushAll (by rw [List.length_append, h.zl]; omega) c r
  refine ⟨h.ls, h.lσ, h.pin, F, As', ?_⟩
  rw [tE_app, ← List.append_assoc]
  exact c'
theorem SimC.pop {F : Hp} {As : Nat → List Addr} {es : Es} {e : Slot × Option V} (c : SimC B F As (es ++ [e]) H) : SimC B F As es H := by
  have up : ∀ (i : Nat) (y : Slot × Option V), es[i]? = some y → (es ++ [e])[i]? = some y := fun i y q => by
    rw [List.getElem?_append_left]
    · exact q
    · exact (List.getElem?_eq_some_iff.mp q).1
  exact ⟨fun i x ov q => c.rel i x ov (up i _ q), fun i j d ov q => c.vw i j d ov (up i _ q), c.nd, c.dj, c.fz, c.ow, c.same, c.keep, c.f0, c.fn, c.an⟩
theorem xSets_len : ∀ {is : List Nat} {ds : List D} {s s' : SS}, xSets is ds s = .ok s' → ds.length = is.length
  | [], [], _, _, _ => rfl
  | [], _ :: _, _, _, h => by cases h
  | _ :: _, [], _, _, h => by cases h
  | i :: is, d :: ds, s, s', h => by simp only [List.length_cons]; rw [xSets_len (is := is) (ds := ds) h]
theorem pgx_tup {es : List Expr} {k m : Nat} {pos : Pos} {is : List Nat} (hc : X.calm = true) (hK : X.K = B.K) (h : PGN X es is) (hi : ∀ i ∈ is, i < B.N ∧ i ∉ B.P) (hl : is.length = m) (hn : (assignEach es X.env).length = m := by rfl) (hst : (assignEach es X.env).findIdx? (·.1) = none := by rfl) :
    PGX X B (.Tuple es k pos) (gTup X.K m (gNames is)) (xTup is) where
  pg := pg_tup hc h.pgs hn hst
  rd := fun T s σ H d v Q sm p => by
    cases d with
    | tuple ds =>
      rw [show xTup is (.tuple ds) s = xSets is ds s from rfl] at p
      obtain ⟨F, As, c, rp⟩ := sm.tempC
      simp only [Rp] at rp
      obtain ⟨a, vs, e, q, r⟩ := rp
      rw [hK]
      have c0 : SimC B F As (s.zip σ ++ tE T) H := by
        rw [tE_app, ← List.append_assoc] at c
        exact c.pop
      refine ⟨a, vs, e, q, ?_, Sm.items (Rps.length r) hi (sm.pop.pushAll ⟨F, As, c0, r⟩) p⟩
      rw [← Rps.length r]
      cases q2 : xSets is ds s with
      | no => rw [q2] at p; exact p.elim
      | ex c => rw [q2] at p; exact p.elim
      | ok s' => rw [xSets_len q2, hl]
    | _ => exact p.elim

/-- a temp in the middle is dropped -/
theorem SimE.drop {e1 e2 : Es} {e : Slot × Option V} (hN : B.N ≤ e1.length) (h : SimE B (e1 ++ e :: e2) H) : SimE B (e1 ++ e2) H := by
  obtain ⟨F, As, c⟩ := h
  have get : ∀ (i : Nat) (y : Slot × Option V), (e1 ++ e2)[i]? = some y → (e1 ++ e :: e2)[if i < e1.length then i else i + 1]? = some y := fun i y q => by
    by_cases z : i < e1.length
    · rw [if_pos z, List.getElem?_append_left z]
      rw [List.getElem?_append_left z] at q
      exact q
    · rw [if_neg z, List.getElem?_append_right (by omega)]
      rw [List.getElem?_append_right (by omega)] at q
      rw [show i + 1 - e1.length = (i - e1.length) + 1 by omega]
      simpa using q
  refine ⟨F, fun i => As (if i < e1.length then i else i + 1), fun i x ov q => ?_, fun i j d ov q => c.vw _ j d ov (get i _ q), fun i => c.nd _, fun i j hij => c.dj _ _ ?_, fun i => c.fz _, fun i => c.ow _, c.same, c.keep, c.f0, c.fn, fun i => c.an _⟩
  · have r := c.rel _ x ov (get i _ q)
    cases x with
    | bot => trivial
    | dat n d => exact r
    | vw j d =>
      have hj := c.vw _ j d ov (get i _ q)
      obtain ⟨v, e', rp⟩ := r
      refine ⟨v, e', ?_⟩
      dsimp only
      rw [if_pos (show j < e1.length by omega)]
      exact rp
  · by_cases z1 : i < e1.length <;> by_cases z2 : j < e1.length <;> simp only [z1, z2, if_true, if_false] <;> omega
theorem Sm.drop {U : Tm} {x : Nat × D × V} (h : Sm B (T ++ U ++ [x]) s σ H) : Sm B (T ++ [x]) s σ H := by
  induction U generalizing T with
  | nil => simpa using h
  | cons u U ih =>
    refine ih ?_
    refine ⟨h.ls, h.lσ, h.pin, ?_⟩
    have q := h.sim
    rw [show T ++ u :: U ++ [x] = T ++ u :: (U ++ [x]) by simp, tE_app, ← List.append_assoc] at q
    rw [show T ++ U ++ [x] = T ++ (U ++ [x]) by simp, tE_app, ← List.append_assoc]
    exact SimE.drop (by rw [List.length_append, h.zl]; omega) q
theorem Sm.pops {U : Tm} (h : Sm B (T ++ U) s σ H) : Sm B T s σ H := by
  have go : ∀ (k : Nat) (U : Tm), U.length = k → Sm B (T ++ U) s σ H → Sm B T s σ H := by
    intro k
    induction k with
    | zero => intro U e h; rw [List.eq_nil_of_length_eq_zero e] at h; simpa using h
    | succ k ih =>
      intro U e h
      rcases List.eq_nil_or_concat U with rfl | ⟨L, b, rfl⟩
      · simp at e
      · rw [List.concat_eq_append, ← List.append_assoc] at h
        exact ih L (by simpa using e) h.pop
  exact go _ U rfl h

/-- a temp anywhere -/
theorem Sm.tempAt {t : Nat × D × V} (h : Sm B T s σ H) (ht : t ∈ T) (h0 : t.1 = 0) : ∃ F As, SimC B F As (s.zip σ ++ tE T) H ∧ Rp B.K F H 0 t.2.1 t.2.2 [] := by
  obtain ⟨F, As, c⟩ := h.sim
  refine ⟨F, As, c, ?_⟩
  obtain ⟨k, hk⟩ := List.getElem?_of_mem ht
  have e : (s.zip σ ++ tE T)[(s.zip σ).length + k]? = some (.dat t.1 t.2.1, some t.2.2) := by
    rw [List.getElem?_append_right (by omega), show (s.zip σ).length + k - (s.zip σ).length = k by omega]
    unfold tE
    rw [List.getElem?_map, hk]
    rfl
  obtain ⟨w, e1, rp⟩ := c.rel _ _ _ e
  cases e1
  rw [h0] at rp
  have := Rp.nil _ rp
  rw [this] at rp
  exact rp
theorem Sm.itemAt {ds : List D} {v : V} {i : Nat} {d : D} (h : Sm B T s σ H) (ht : (0, PyData.list ds, v) ∈ T) (hd : ds[i]? = some d) : ∃ a vs x, v = .ref a ∧ SqL B.K H a vs ∧ vs.length = ds.length ∧ vs[i]? = some x ∧ Sm B (T ++ [(0, d, x)]) s σ H := by
  obtain ⟨F, As, c, rp⟩ := h.tempAt ht rfl
  simp only [Rp] at rp
  obtain ⟨_, a, vs, e, q, r⟩ := rp
  obtain ⟨x, ex, rx⟩ := Rps.get r hd
  exact ⟨a, vs, x, e, c.same.seq q, (Rps.length r).symm, ex, h.pushZ ⟨F, As, c, rx⟩⟩
theorem Sm.seqAt {ds : List D} {v : V} (h : Sm B T s σ H) (ht : (0, PyData.list ds, v) ∈ T) : ∃ a vs, v = .ref a ∧ SqL B.K H a vs ∧ vs.length = ds.length := by
  obtain ⟨F, As, c, rp⟩ := h.tempAt ht rfl
  simp only [Rp] at rp
  obtain ⟨_, a, vs, e, q, r⟩ := rp
  exact ⟨a, vs, e, c.same.seq q, (Rps.length r).symm⟩
theorem Sm.itemTAt {ds : List D} {v : V} {i : Nat} {d : D} (h : Sm B T s σ H) (ht : (0, PyData.tuple ds, v) ∈ T) (hd : ds[i]? = some d) : ∃ a vs x, v = .ref a ∧ SqT B.K H a vs ∧ vs.length = ds.length ∧ vs[i]? = some x ∧ Sm B (T ++ [(0, d, x)]) s σ H := by
  obtain ⟨F, As, c, rp⟩ := h.tempAt ht rfl
  simp only [Rp] at rp
  obtain ⟨a, vs, e, q, r⟩ := rp
  obtain ⟨x, ex, rx⟩ := Rps.get r hd
  exact ⟨a, vs, x, e, q, (Rps.length r).symm, ex, h.pushZ ⟨F, As, c, rx⟩⟩
theorem Sm.seqTAt {ds : List D} {v : V} (h : Sm B T s σ H) (ht : (0, PyData.tuple ds, v) ∈ T) : ∃ a vs, v = .ref a ∧ SqT B.K H a vs ∧ vs.length = ds.length := by
  obtain ⟨F, As, c, rp⟩ := h.tempAt ht rfl
  simp only [Rp] at rp
  obtain ⟨a, vs, e, q, r⟩ := rp
  exact ⟨a, vs, e, q, (Rps.length r).symm⟩
/-- J walks ds wherever the temps stand -/
def Walk (B : Bs) (T : Tm) (J : It) (ds : List D) : Prop := ∀ (T2 : Tm) (i : Nat) (s : SS) (σ : L2.St) (H : Hp), Sm B (T ++ T2) s σ H →
  (∀ d, ds[i]? = some d → J.go i H ∧ ∀ x H3, J.yld i H x H3 → Sm B (T ++ T2 ++ [(0, d, x)]) s σ H3) ∧ (ds.length ≤ i → J.stop i H)
structure PIX (X : Cx) (B : Bs) (tg e : Expr) (dI : SS → Rs (List D × SS)) : Prop where
  run : ∃ wi : TI, PI X tg e wi ∧ ∀ (T : Tm) (s : SS) (σ : L2.St) (H : Hp) (R : It → Hp → Prop), Sm B T s σ H →
    (match dI s with | .no => False | .ex c => raises B c | .ok (ds, s') => ∀ J U H', Sm B (T ++ U) s' σ H' → Walk B (T ++ U) J ds → R J H') → wi σ H R
def xItL (dx : SS → Rs (D × SS)) : SS → Rs (List D × SS) := fun s => (dx s).bind fun p => match p with | (.list ds, s') => .ok (ds, s') | _ => .no
def xItT (dx : SS → Rs (D × SS)) : SS → Rs (List D × SS) := fun s => (dx s).bind fun p => match p with | (.tuple ds, s') => .ok (ds, s') | _ => .no
theorem pix_list {tg e : Expr} {dx : SS → Rs (D × SS)} (hK : X.K = B.K) (h : PE X e (TX B 0 dx)) : PIX X B tg e (xItL dx) := ⟨_, pi_list h, fun T s σ H R sm p => by
  refine ⟨T, s, sm, ?_⟩
  unfold xItL at p
  cases q : dx s with
  | no => rw [q] at p; exact p
  | ex c => rw [q] at p; exact p
  | ok r =>
    rw [q] at p
    obtain ⟨r, s'⟩ := r
    dsimp only [Rs.bind] at p
    cases r with
    | list ds =>
      intro v H' sm'
      obtain ⟨a, vs, rfl, q1, l1⟩ := sm'.seq
      rw [hK]
      refine ⟨a, rfl, ⟨vs, q1⟩, p _ [(0, .list ds, .ref a)] H' sm' fun T2 i s2 σ2 H2 sm2 => ⟨fun d hd => ?_, fun hi => ?_⟩⟩
      · obtain ⟨a', vs', x, ea, q2, l2, hx, sm3⟩ := sm2.itemAt (v := .ref a) (by simp) hd
        cases ea
        refine ⟨⟨vs', x, q2, hx⟩, fun y H3 hy => ?_⟩
        obtain ⟨rfl, hy⟩ := hy
        have := hy vs' q2
        rw [hx] at this
        cases this
        exact sm3
      · obtain ⟨a', vs', ea, q2, l2⟩ := sm2.seqAt (ds := ds) (v := .ref a) (by simp)
        cases ea
        exact ⟨vs', q2, by omega⟩
    | _ => exact p.elim⟩
theorem pix_tup {tg e : Expr} {dx : SS → Rs (D × SS)} (hK : X.K = B.K) (h : PE X e (TX B 0 dx)) : PIX X B tg e (xItT dx) := ⟨_, pi_tup h, fun T s σ H R sm p => by
  refine ⟨T, s, sm, ?_⟩
  unfold xItT at p
  cases q : dx s with
  | no => rw [q] at p; exact p
  | ex c => rw [q] at p; exact p
  | ok r =>
    rw [q] at p
    obtain ⟨r, s'⟩ := r
    dsimp only [Rs.bind] at p
    cases r with
    | tuple ds =>
      intro v H' sm'
      obtain ⟨a, vs, rfl, q1, l1⟩ := sm'.seqT
      rw [hK]
      refine ⟨a, rfl, ⟨vs, q1⟩, p _ [(0, .tuple ds, .ref a)] H' sm' fun T2 i s2 σ2 H2 sm2 => ⟨fun d hd => ?_, fun hi => ?_⟩⟩
      · obtain ⟨a', vs', x, ea, q2, l2, hx, sm3⟩ := sm2.itemTAt (v := .ref a) (by simp) hd
        cases ea
        refine ⟨⟨vs', x, q2, hx⟩, fun y H3 hy => ?_⟩
        obtain ⟨rfl, hy⟩ := hy
        have := hy vs' q2
        rw [hx] at this
        cases this
        exact sm3
      · obtain ⟨a', vs', ea, q2, l2⟩ := sm2.seqTAt (ds := ds) (v := .ref a) (by simp)
        cases ea
        exact ⟨vs', q2, by omega⟩
    | _ => exact p.elim⟩
/-- .. as the things that a view tells: nothing changes -/
theorem walk_rng {T : Tm} (lo : Int) (m : Nat) : Walk B T (Itr lo m) (rngD lo m) := fun T2 i s σ H sm => ⟨fun d hd => by
  have hi : i < m := by
    have := (List.getElem?_eq_some_iff.mp hd).1
    rwa [rngD_len] at this
  refine ⟨hi, fun x H3 hy => ?_⟩
  obtain ⟨rfl, rfl⟩ := hy
  unfold rngD at hd
  rw [List.getElem?_map, List.getElem?_range hi] at hd
  cases hd
  exact sm.push (G' := H3) (Same.refl _) (rp_int _ _ _) (by simp [fits]) List.nodup_nil (fun _ z => by simp at z), fun hi => by rw [rngD_len] at hi; exact hi⟩
def xRng1 (dx : SS → Rs (D × SS)) : SS → Rs (List D × SS) := fun s => (dx s).bind fun p => match p with | (.int j, s') => if rngOk j = true then .ok (rngD 0 j.toNat, s') else .no | _ => .no
theorem pix_rng1 {tg a : Expr} {p pos : Pos} {m : Nat} {dx : SS → Rs (D × SS)} (h : PE X a (TX B m dx)) (hm : X.mg "range" = none) (hg : Gl X "range" := by rfl) (hs : starEach [a] X.env = (false, eval a X.env) :: starEach [] X.env := by rfl)
    (hs' : starEach [a] X.env = [(false, eval a X.env)] := by rfl) : PIX X B tg (.Call (.Name "range" p) [a] [] pos) (xRng1 dx) := ⟨_, pi_range1 hg hm (pa_cons h pa_nil hs) hs', fun T s σ H R sm p => by
  refine ⟨T, s, sm, ?_⟩
  unfold xRng1 at p
  cases q : dx s with
  | no => rw [q] at p; exact p
  | ex c => rw [q] at p; exact p
  | ok r =>
    rw [q] at p
    obtain ⟨r, s'⟩ := r
    dsimp only [Rs.bind] at p
    cases r with
    | int j =>
      intro v H' sm'
      have rp := sm'.temp
      simp only [Rp] at rp
      dsimp only at p
      by_cases hj : rngOk j = true
      · rw [if_pos hj] at p
        obtain ⟨h1, h2⟩ := of_decide_eq_true hj
        exact ⟨j, by rw [rp.1], h1, h2, p _ [] H' (by simpa using sm'.pop) (walk_rng _ _)⟩
      · rw [if_neg hj] at p; exact p.elim
    | _ => exact p.elim⟩
def xRng2 (dx dy : SS → Rs (D × SS)) : SS → Rs (List D × SS) := fun s => (dx s).bind fun p => match p with
  | (.int i, s1) => (dy s1).bind fun p => match p with | (.int j, s') => if rngOk i = true ∧ rngOk j = true then .ok (rngD i (j - i).toNat, s') else .no | _ => .no
  | _ => .no
theorem pix_rng2 {tg a b : Expr} {p pos : Pos} {m m' : Nat} {dx dy : SS → Rs (D × SS)} (h : PE X a (TX B m dx)) (h' : PE X b (TX B m' dy)) (hm : X.mg "range" = none) (hg : Gl X "range" := by rfl)
    (hs : starEach [a, b] X.env = (false, eval a X.env) :: starEach [b] X.env := by rfl) (hs2 : starEach [b] X.env = (false, eval b X.env) :: starEach [] X.env := by rfl)
    (hs' : starEach [a, b] X.env = [(false, eval a X.env), (false, eval b X.env)] := by rfl) (hs2' : starEach [b] X.env = [(false, eval b X.env)] := by rfl) :
    PIX X B tg (.Call (.Name "range" p) [a, b] [] pos) (xRng2 dx dy) := ⟨_, pi_range2 hg hm (pa_cons h (pa_cons h' pa_nil hs2) hs) hs' hs2', fun T s σ H R sm p => by
  refine ⟨T, s, sm, ?_⟩
  unfold xRng2 at p
  cases q : dx s with
  | no => rw [q] at p; exact p
  | ex c => rw [q] at p; exact p
  | ok r =>
    rw [q] at p
    obtain ⟨r, s1⟩ := r
    dsimp only [Rs.bind] at p
    cases r with
    | int i =>
      intro v H1 sm1
      have rp := sm1.temp
      simp only [Rp] at rp
      refine ⟨T, s1, sm1.pop, ?_⟩
      dsimp only at p
      cases q2 : dy s1 with
      | no => rw [q2] at p; exact p
      | ex c => rw [q2] at p; exact p
      | ok r =>
        rw [q2] at p
        obtain ⟨r, s'⟩ := r
        dsimp only at p
        cases r with
        | int j =>
          intro w H' sm'
          have rp2 := sm'.temp
          simp only [Rp] at rp2
          dsimp only at p
          by_cases hj : rngOk i = true ∧ rngOk j = true
          · rw [if_pos hj] at p
            obtain ⟨h1, h2⟩ := of_decide_eq_true hj.1
            obtain ⟨h3, h4⟩ := of_decide_eq_true hj.2
            exact ⟨i, j, by rw [rp.1, rp2.1], ⟨h1, h2, h3, h4⟩, p _ [] H' (by simpa using sm'.pop) (walk_rng _ _)⟩
          · rw [if_neg hj] at p; exact p.elim
        | _ => exact p.elim
    | _ => exact p.elim⟩

def forS (t : Tgx) (a : SS → Oc) (fg : List Nat) : List D → SS → Oc
  | [], s => .nx s
  | d :: r, s => match t d s with
    | .ok s1 => (match a s1 with
      | .nx s2 => forS t a fg r (forget fg s2)
      | .ct s2 => forS t a fg r (forget fg s2)
      | .bk s2 => .nx (forget fg s2)
      | o => o)
    | _ => .no
def oFor (dI : SS → Rs (List D × SS)) (t : Tgx) (a : SS → Oc) (fg : List Nat) : SS → Oc := fun s => match dI s with
  | .ok (ds, s') => forS t a fg ds (forget fg s')
  | .ex c => .ex c
  | .no => .no
theorem oPost.drop {U : Tm} {Dn : Ends} {o : Oc} (h : oPost B T n Dn o) : oPost B (T ++ U) n Dn o := by
  cases o with
  | no => exact h
  | ex c => exact h
  | nx s' => exact fun σ' H' sm => h σ' H' sm.pops
  | rt r s' => exact fun v σ' H' sm => h v σ' H' sm.drop
  | bk s' => exact fun σ' H' sm => h σ' H' sm.pops
  | ct s' => exact fun σ' H' sm => h σ' H' sm.pops
theorem so_for {tg iter : Expr} {body : List Stmt} {pos : Pos} {g : TG} {t : Tgx} {dI : SS → Rs (List D × SS)} {a : SS → Oc} {fg : List Nat} (hp : PassesOwn (model X.prog X.w) X.A X.env X.xe) (hc : X.calm = true) (hi : PIX X B tg iter dI) (hg : PGX X B tg g t)
    (hb : PSs X body (TSt B n a)) (hs : ∀ x, foldedSetIterable iter X.env x = pure x := by intro _; rfl) : PS X (.For tg iter body [] pos) (TSt B n (oFor dI t a fg)) := by
  obtain ⟨wi, pi, ri⟩ := hi.run
  refine PS.of (ps_for hp hc pi hg.pg hb hs) fun Dn σ H q => ?_
  obtain ⟨T, s, sm, p⟩ := q
  refine ri T s σ H _ sm ?_
  unfold oFor at p
  cases q : dI s with
  | no => rw [q] at p; exact p
  | ex c => rw [q] at p; exact p
  | ok r =>
    rw [q] at p
    obtain ⟨ds, s'⟩ := r
    intro J U H1 sm1 wk
    refine ⟨fun i m σ H => i ≤ ds.length ∧ m = ds.length - i ∧ ∃ s, Sm B (T ++ U) s σ H ∧ oPost B T n Dn (forS t a fg (ds.drop i) s), ⟨_, Nat.zero_le _, rfl, _, sm1.forget fg, p⟩, ?_⟩
    rintro i m σ H ⟨hi, rfl, s, sm, p⟩
    obtain ⟨w1, w2⟩ := wk [] i s σ H (by simpa using sm)
    by_cases hlt : i < ds.length
    · obtain ⟨go, yl⟩ := w1 ds[i] (List.getElem?_eq_getElem hlt)
      rw [List.drop_eq_getElem_cons hlt] at p
      unfold forS at p
      refine .inr ⟨go, fun σ' H' => ∃ m', m' < ds.length - i ∧ (i + 1 ≤ ds.length ∧ m' = ds.length - (i + 1) ∧ ∃ s, Sm B (T ++ U) s σ' H' ∧ oPost B T n Dn (forS t a fg (ds.drop (i + 1)) s)), fun _ _ z => z, fun x H3 hy => ?_⟩
      refine hg.rd (T ++ U) s σ H3 ds[i] x _ (by simpa using yl x H3 hy) ?_
      cases q2 : t ds[i] s with
      | no => rw [q2] at p; exact p
      | ex c => rw [q2] at p; exact p
      | ok s1 =>
        rw [q2] at p
        dsimp only at p ⊢
        intro σ2 sm2
        refine ⟨T ++ U, s1, sm2, ?_⟩
        cases q3 : a s1 <;> rw [q3] at p
        case nx s2 => exact fun σ' H' sm3 => ⟨_, by omega, by omega, rfl, _, sm3.forget fg, p⟩
        case ct s2 => exact fun σ' H' sm3 => ⟨_, by omega, by omega, rfl, _, sm3.forget fg, p⟩
        case bk s2 => exact fun σ' H' sm3 => p σ' H' (sm3.forget fg).pops
        case rt r s2 => exact oPost.drop (o := .rt r s2) p
        case no => exact p
        case ex c => exact p
    · have e : i = ds.length := by omega
      subst e
      rw [List.drop_length] at p
      exact .inl ⟨w2 (Nat.le_refl _), p σ H sm.pops⟩
end
end PL

set_option maxRecDepth 100000
/-! PL12: what slots own, changed in place. -/
namespace PL
open PySem PySem.Spec PyProof.Rows L2
section
variable {X : Cx} {B : Bs} {T : Tm} {s : SS} {σ : L2.St} {H H' : Hp} {n : Nat} {F : Hp} {As : Nat → List Addr} {es : Es}
theorem tups_own {a : Addr} {o : HO} (h : IsOwn H a) : Tups H (upd H a o) := fun b xs q => by
  have ne : b ≠ a := fun z => by
    subst z
    rcases h with ⟨_, h⟩ | ⟨_, h⟩ <;> rcases q with q | ⟨u, q⟩ <;> rw [h] at q <;> cases q
  rcases q with q | ⟨u, q⟩
  · exact .inl (by rw [upd_ne ne]; exact q)
  · exact .inr ⟨u, by rw [upd_ne ne]; exact q⟩
theorem stays_upd {A : List Addr} {a : Addr} {o : HO} (h : a ∉ A) : Stays A H (upd H a o) := fun b hb u hu => by
  have ne : b ≠ a := fun z => h (by rw [← z]; exact hb)
  rw [upd_ne ne]; exact hu
def HoOwn : HO → Prop
  | .lst _ => True
  | .dT _ => True
  | _ => False
theorem HoOwn.own {a : Addr} {o : HO} (h : HoOwn o) : IsOwn (upd H a o) a := by
  cases o with
  | lst xs => exact .inl ⟨xs, upd_same⟩
  | dT xs => exact .inr ⟨xs, upd_same⟩
  | _ => exact h.elim
/-- slot i's thing is changed at a; what the last temp owns may go into it -/
theorem SimE.mut {e : Slot × Option V} {i m : Nat} {a : Addr} {o : HO} {d : D} {v : V} {A : List Addr} (c : SimC B F As (es ++ [e]) H) (hN : B.N ≤ es.length) (hi : i < es.length) (ha : a ∈ As i) (ho : HoOwn o)
    (rp : Rp B.K F (upd H a o) m d v A) (nd : A.Nodup) (sub : ∀ x ∈ A, x ∈ As i ∨ x ∈ As es.length) : SimE B ((tchE i es).set i (.dat m d, some v)) (upd H a o) := by
  let L := es.length
  have hL : i ≠ L := by show i ≠ es.length; omega
  let As' := ups (ups As i A) L []
  have aI : As' i = A := by show ups (ups As i A) L [] i = _; rw [ups_ne hL, ups_same]
  have aL : As' L = [] := ups_same
  have aO : ∀ k, k ≠ i → k ≠ L → As' k = As k := fun k h1 h2 => by show ups (ups As i A) L [] k = _; rw [ups_ne h2, ups_ne h1]
  have mem : ∀ k x, x ∈ As' k → ∃ j, x ∈ As j ∧ (k = i → j = i ∨ j = L) ∧ (k ≠ i → j = k ∧ k ≠ L) := fun k x hx => by
    by_cases q : k = i
    · subst q
      rw [aI] at hx
      rcases sub x hx with z | z
      · exact ⟨k, z, fun _ => .inl rfl, fun z => absurd rfl z⟩
      · exact ⟨L, z, fun _ => .inr rfl, fun z => absurd rfl z⟩
    · by_cases q2 : k = L
      · rw [q2, aL] at hx; simp at hx
      · rw [aO k q q2] at hx; exact ⟨k, hx, fun z => absurd z q, fun _ => ⟨rfl, q2⟩⟩
  have up : ∀ (k : Nat) (y : Slot × Option V), es[k]? = some y → (es ++ [e])[k]? = some y := fun k y q => by
    rw [List.getElem?_append_left]
    · exact q
    · exact (List.getElem?_eq_some_iff.mp q).1
  have tu := tups_own (o := o) (c.ow i a ha)
  have out : ∀ k, k ≠ i → a ∉ As k := fun k hk => c.dj i k (Ne.symm hk) a ha
  refine ⟨F, As', fun k x ov q => ?_, fun k j d' ov' q => ?_, fun k => ?_, fun k j hkj x hx => ?_, fun k x hx => ?_, fun k x hx => ?_, fun b u hb => ?_, fun b u hb hn => ?_, c.f0, c.fn, fun k x hx => ?_⟩
  · by_cases z : k = i
    · subst z
      rw [List.getElem?_set_self (by unfold tchE; simp; omega)] at q
      cases q
      rw [aI]
      exact ⟨v, rfl, rp⟩
    · rw [List.getElem?_set_ne (Ne.symm z)] at q
      obtain ⟨y, e2, rfl⟩ := tchE_get q
      have hk : k < es.length := (List.getElem?_eq_some_iff.mp e2).1
      rw [aO k z (by show k ≠ es.length; omega)]
      have r1 := c.rel k y ov (up k _ e2)
      cases y with
      | bot => trivial
      | dat n' d' =>
        obtain ⟨w, e3, r1⟩ := r1
        exact ⟨w, e3, Rp.mono tu (Same.refl _) d' (stays_upd (out k z)) r1⟩
      | vw j d' =>
        show SlotR B.K F _ As' (if j = i then Slot.bot else .vw j d') ov (As k)
        split
        · trivial
        · rename_i hj
          obtain ⟨w, e3, r1⟩ := r1
          have hjN := c.vw k j d' ov (up k _ e2)
          refine ⟨w, e3, ?_⟩
          rw [aO j hj (by show j ≠ es.length; omega)]
          exact Rp.mono tu (plus_mono (stays_upd (out j hj)) fun b hb => (c.ow j b hb).some) d' (fun b hb => by simp at hb) r1
  · by_cases z : k = i
    · subst z
      rw [List.getElem?_set_self (by unfold tchE; simp; omega)] at q
      cases q
    · rw [List.getElem?_set_ne (Ne.symm z)] at q
      obtain ⟨y, e2, e3⟩ := tchE_get q
      obtain ⟨rfl, _⟩ := tch_vw e3.symm
      exact c.vw k j d' ov' (up k _ e2)
  · by_cases q : k = i
    · subst q; rw [aI]; exact nd
    · by_cases q2 : k = L
      · rw [q2, aL]; exact List.nodup_nil
      · rw [aO k q q2]; exact c.nd k
  · intro z
    obtain ⟨m1, h1, h2, h3⟩ := mem k x hx
    obtain ⟨m2, k1, k2, k3⟩ := mem j x z
    by_cases e : m1 = m2
    · subst e
      by_cases q : k = i
      · have q' : j ≠ i := by omega
        obtain ⟨e1, e2⟩ := k3 q'
        rcases h2 q with z | z <;> omega
      · obtain ⟨e1, e2⟩ := h3 q
        by_cases q' : j = i
        · rcases k2 q' with z | z <;> omega
        · obtain ⟨e3, e4⟩ := k3 q'; omega
    · exact c.dj m1 m2 e x h1 k1
  · obtain ⟨m, h1, _⟩ := mem k x hx; exact c.fz m x h1
  · obtain ⟨m, h1, _⟩ := mem k x hx
    by_cases z : x = a
    · subst z; exact ho.own
    · have q := c.ow m x h1
      rcases q with ⟨w, q⟩ | ⟨w, q⟩
      · exact .inl ⟨w, by rw [upd_ne z]; exact q⟩
      · exact .inr ⟨w, by rw [upd_ne z]; exact q⟩
  · have ne : b ≠ a := fun z => by
      subst z
      rw [c.fz i b ha] at hb
      cases hb
    rw [upd_ne ne]
    exact c.same b u hb
  · have ne : b ≠ a := fun z => by
      subst z
      rcases c.an i b ha with z | z
      · exact hn z
      · rw [hb] at z; cases z
    rw [upd_ne ne]
    exact c.keep b u hb hn
  · obtain ⟨m, h1, _⟩ := mem k x hx; exact c.an m x h1

theorem set_zip {i : Nat} {x : Slot} {v : V} (hs : s.length = B.N) (hσ : σ.length = B.N) (hi : i < B.N) (e : σ[i]? = some (some v)) : (tchE i (s.zip σ ++ tE T)).set i (x, some v) = (PL.put s i x).zip σ ++ tE T := by
  have e1 : tchE i (s.zip σ ++ tE T) = tchE i (s.zip σ) ++ tchE i (tE T) := by simp only [tchE, List.map_append]
  rw [e1, tchE_zip, tchE_tE, List.set_append_left _ _ (by rw [List.length_zip, List.length_map, hs, hσ]; omega), ← zip_set]
  obtain ⟨h1, h2⟩ := List.getElem?_eq_some_iff.mp e
  rw [show σ.set i (some v) = σ by rw [← h2, List.set_getElem_self]]
  rfl
/-- the slot's own entry -/
theorem Sm.slot {i : Nat} {x : Slot} (h : Sm B T s σ H) (e : s[i]? = some x) : ∃ ov F As, σ[i]? = some ov ∧ SimC B F As (s.zip σ ++ tE T) H ∧ SlotR B.K F H As x ov (As i) := by
  obtain ⟨ov, e1, e2⟩ := zip_get e (h.ls.trans h.lσ.symm)
  obtain ⟨F, As, c⟩ := h.sim
  have e3 : (s.zip σ ++ tE T)[i]? = some (x, ov) := by
    rw [List.getElem?_append_left (List.getElem?_eq_some_iff.mp e2).1]
    exact e2
  exact ⟨ov, F, As, e1, c, c.rel i x ov e3⟩
theorem Sm.lt {i : Nat} {x : Slot} (h : Sm B T s σ H) (e : s[i]? = some x) : i < B.N := by
  rw [← h.ls]; exact (List.getElem?_eq_some_iff.mp e).1
/-- a slot's thing changed, the last temp used up -/
theorem Sm.mut {t : Nat × D × V} {i m m' : Nat} {d d' : D} (h : Sm B (T ++ [t]) s σ H) (e : s[i]? = some (.dat m d))
    (go : ∀ (F : Hp) (As : Nat → List Addr) (v : V), SimC B F As (s.zip σ ++ tE T ++ [(.dat t.1 t.2.1, some t.2.2)]) H → σ[i]? = some (some v) → Rp B.K F H m d v (As i) → Rp B.K F H t.1 t.2.1 t.2.2 (As (s.zip σ ++ tE T).length) → As i ≠ [] → 
      ∃ a o A, a ∈ As i ∧ HoOwn o ∧ H' = upd H a o ∧ Rp B.K F (upd H a o) m' d' v A ∧ A.Nodup ∧ ∀ x ∈ A, x ∈ As i ∨ x ∈ As (s.zip σ ++ tE T).length) (hne : ∀ F As v, Rp B.K F H m d v As → As ≠ []) : Sm B T (PL.put s i (.dat m' d')) σ H' := by
  obtain ⟨ov, F, As, e1, c, r⟩ := h.slot e
  obtain ⟨v, rfl, r⟩ := r
  rw [tE_app, ← List.append_assoc] at c
  have et : (s.zip σ ++ tE T ++ tE [t])[(s.zip σ ++ tE T).length]? = some (.dat t.1 t.2.1, some t.2.2) := by simp [tE]
  obtain ⟨w, ew, rt⟩ := c.rel _ _ _ et
  cases ew
  have hN : B.N ≤ (s.zip σ ++ tE T).length := by rw [List.length_append, h.zl]; omega
  have hi := h.lt e
  obtain ⟨a, o, A, k1, k2, k3, k4, k5, k6⟩ := go F As v c e1 r rt (hne _ _ _ r)
  refine ⟨by simp [PL.put, h.ls], h.lσ, h.pin, ?_⟩
  rw [k3, ← set_zip h.ls h.lσ hi e1]
  exact SimE.mut (e := (.dat t.1 t.2.1, some t.2.2)) c hN (by omega) k1 k2 k4 k5 k6

/-! ### x.append(e), x.extend(e) -/
def lstOf : Option Slot → Option (Nat × List D)
  | some (.dat (k + 1) (.list ds)) => some (k, ds)
  | _ => none
theorem lstOf_some {o : Option Slot} {k : Nat} {ds : List D} (h : lstOf o = some (k, ds)) : o = some (.dat (k + 1) (.list ds)) := by
  unfold lstOf at h
  split at h
  · cases h; rfl
  · cases h
theorem Sm.lst {i k : Nat} {ds : List D} (h : Sm B T s σ H) (e : s[i]? = some (.dat (k + 1) (.list ds))) : ∃ a vs, σ[i]? = some (some (.ref a)) ∧ H a = some (.lst vs) ∧ vs.length = ds.length := by
  obtain ⟨ov, F, As, e1, c, v, rfl, r⟩ := h.slot e
  simp only [Rp] at r
  obtain ⟨a, vs, A, rfl, q, r, _⟩ := r
  exact ⟨a, vs, e1, q, (Rps.length r).symm⟩
theorem rp_lst_ne {K : PySem.W.Frag} {m : Nat} {ds : List D} {F : Hp} {As : List Addr} {v : V} (r : Rp K F H (m + 1) (.list ds) v As) : As ≠ [] := by
  simp only [Rp] at r
  obtain ⟨a, vs, A, rfl, q, r, rfl⟩ := r
  simp
theorem tyV_lst {K : PySem.W.Frag} {a : Addr} {vs : List V} (h : H a = some (.lst vs)) : tyV K "list" (.ref a) H := .inl ⟨rfl, vs, SqL.of h⟩
theorem Sm.append {i m : Nat} {ds : List D} {r : D} {y : V} {a : Addr} {vs : List V} (h : Sm B (T ++ [(m, r, y)]) s σ H) (e : s[i]? = some (.dat (m + 1) (.list ds))) (hσ : σ[i]? = some (some (.ref a))) (ha : H a = some (.lst vs)) :
    Sm B T (PL.put s i (.dat (m + 1) (.list (ds ++ [r])))) σ (upd H a (.lst (vs ++ [y]))) := by
  refine Sm.mut h e (fun F As v c e1 rp rt _ => ?_) fun F As v r => rp_lst_ne r
  rw [hσ] at e1
  cases e1
  simp only [Rp] at rp
  obtain ⟨a', vs', A, ea, q, r1, eA⟩ := rp
  cases ea
  rw [ha] at q
  cases q
  have ndI := c.nd i
  rw [eA] at ndI
  obtain ⟨nA, ndA⟩ := List.nodup_cons.mp ndI
  have hi := h.lt e
  have hne : i ≠ (s.zip σ ++ tE T).length := by rw [List.length_append, h.zl]; omega
  have nT : a ∉ As (s.zip σ ++ tE T).length := c.dj i _ hne a (by rw [eA]; simp)
  have own : IsOwn H a := .inl ⟨vs, ha⟩
  refine ⟨a, .lst (vs ++ [y]), a :: (A ++ As (s.zip σ ++ tE T).length), by rw [eA]; simp, trivial, rfl, ?_, ?_, fun x hx => ?_⟩
  · simp only [Rp]
    exact ⟨a, _, _, rfl, upd_same, Rps.snoc (Rps.mono (tups_own own) (Same.refl _) ds (stays_upd nA) r1) (Rp.mono (tups_own own) (Same.refl _) r (stays_upd nT) rt), rfl⟩
  · refine List.nodup_cons.mpr ⟨fun z => (List.mem_append.mp z).elim nA nT, List.nodup_append.mpr ⟨ndA, c.nd _, fun x hx y hy => ?_⟩⟩
    rintro rfl
    exact c.dj i _ hne x (by rw [eA]; simp [hx]) hy
  · rw [eA]
    rcases List.mem_cons.mp hx with rfl | hx
    · left; simp
    · rcases List.mem_append.mp hx with hx | hx
      · left; simp [hx]
      · right; exact hx
def oApp (i m : Nat) (dx : SS → Rs (D × SS)) : SS → Oc := fun s => match lstOf s[i]? with
  | none => .no
  | some _ => match dx s with
    | .ok (r, s') => (match lstOf s'[i]? with
      | some (k, ds) => if k = m ∧ ds.length < sizeLine then .nx (put s' i (.dat (m + 1) (.list (ds ++ [r])))) else .no
      | none => .no)
    | .ex c => .ex c
    | .no => .no
theorem rd_append {i m : Nat} {dx : SS → Rs (D × SS)} : ∀ Dn σ H, TSt B n (oApp i m dx) Dn σ H → tDrop (tBM B.K "list" rAppend (tVar i) (tCons (TX B m dx) tNil)) Dn σ H := fun Dn σ H q => by
  obtain ⟨T, s, sm, p⟩ := q
  unfold oApp at p
  cases q0 : lstOf s[i]? with
  | none => rw [q0] at p; exact p.elim
  | some k0 =>
    rw [q0] at p
    obtain ⟨a, vs, e1, e2, _⟩ := sm.lst (lstOf_some q0)
    refine ⟨.ref a, e1, tyV_lst e2, T, s, sm, ?_⟩
    dsimp only at p
    cases q : dx s with
    | no => rw [q] at p; exact p
    | ex c => rw [q] at p; exact p
    | ok r =>
      rw [q] at p
      obtain ⟨r, s'⟩ := r
      dsimp only at p
      intro y H1 sm1
      cases q1 : lstOf s'[i]? with
      | none => rw [q1] at p; exact p.elim
      | some kd =>
        obtain ⟨k, ds⟩ := kd
        rw [q1] at p
        dsimp only at p
        by_cases hk : k = m ∧ ds.length < sizeLine
        · rw [if_pos hk] at p
          obtain ⟨rfl, hlen⟩ := hk
          obtain ⟨a', vs', e3, e4, e5⟩ := sm1.lst (lstOf_some q1)
          rw [e1] at e3
          cases e3
          exact ⟨a, vs', y, rfl, rfl, e4, by rw [e5]; exact hlen, p σ _ (sm1.append (lstOf_some q1) e1 e4)⟩
        · rw [if_neg hk] at p; exact p.elim
theorem Rps.appN {K : PySem.W.Frag} {G H : Hp} {n : Nat} : ∀ {xs ys : List D} {vs ws : List V} {A B : List Addr}, Rps K G H n xs vs A → Rps K G H n ys ws B → Rps K G H n (xs ++ ys) (vs ++ ws) (A ++ B)
  | [], ys, vs, ws, A, B, h, h' => by simp only [Rps] at h; rw [h.1, h.2]; simpa using h'
  | x :: xs, ys, vs, ws, A, B, h, h' => by
    simp only [Rps, List.cons_append] at h ⊢
    obtain ⟨v, r, A1, A2, rfl, h1, h2, rfl⟩ := h
    exact ⟨v, r ++ ws, A1, A2 ++ B, rfl, h1, Rps.appN h2 h', by rw [List.append_assoc]⟩
theorem Sm.extend {i m : Nat} {ds zs : List D} {a b : Addr} {vs ws : List V} (h : Sm B (T ++ [(m + 1, .list zs, .ref b)]) s σ H) (e : s[i]? = some (.dat (m + 1) (.list ds))) (hσ : σ[i]? = some (some (.ref a))) (ha : H a = some (.lst vs)) (hb : H b = some (.lst ws)) :
    Sm B T (PL.put s i (.dat (m + 1) (.list (ds ++ zs)))) σ (upd H a (.lst (vs ++ ws))) := by
  refine Sm.mut h e (fun F As v c e1 rp rt _ => ?_) fun F As v r => rp_lst_ne r
  rw [hσ] at e1
  cases e1
  simp only [Rp] at rp rt
  obtain ⟨a', vs', A, ea, q, r1, eA⟩ := rp
  cases ea
  rw [ha] at q
  cases q
  obtain ⟨b', ws', C, eb, q2, r2, eC⟩ := rt
  cases eb
  rw [hb] at q2
  cases q2
  have ndI := c.nd i
  rw [eA] at ndI
  obtain ⟨nA, ndA⟩ := List.nodup_cons.mp ndI
  have ndT := c.nd (s.zip σ ++ tE T).length
  rw [eC] at ndT
  obtain ⟨nC, ndC⟩ := List.nodup_cons.mp ndT
  have hi := h.lt e
  have hne : i ≠ (s.zip σ ++ tE T).length := by rw [List.length_append, h.zl]; omega
  have nT : a ∉ C := fun z => c.dj i _ hne a (by rw [eA]; simp) (by rw [eC]; simp [z])
  have own : IsOwn H a := .inl ⟨vs, ha⟩
  refine ⟨a, .lst (vs ++ ws), a :: (A ++ C), by rw [eA]; simp, trivial, rfl, ?_, ?_, fun x hx => ?_⟩
  · simp only [Rp]
    exact ⟨a, _, _, rfl, upd_same, Rps.appN (Rps.mono (tups_own own) (Same.refl _) ds (stays_upd nA) r1) (Rps.mono (tups_own own) (Same.refl _) zs (stays_upd nT) r2), rfl⟩
  · refine List.nodup_cons.mpr ⟨fun z => (List.mem_append.mp z).elim nA nT, List.nodup_append.mpr ⟨ndA, ndC, fun x hx y hy => ?_⟩⟩
    rintro rfl
    exact c.dj i _ hne x (by rw [eA]; simp [hx]) (by rw [eC]; simp [hy])
  · rw [eA, eC]
    rcases List.mem_cons.mp hx with rfl | hx
    · left; simp
    · rcases List.mem_append.mp hx with hx | hx
      · left; simp [hx]
      · right; simp [hx]
def oExt (i m : Nat) (dx : SS → Rs (D × SS)) : SS → Oc := fun s => match lstOf s[i]? with
  | none => .no
  | some _ => match dx s with
    | .ok (.list zs, s') => (match lstOf s'[i]? with
      | some (k, ds) => if k = m ∧ ds.length + zs.length ≤ sizeLine then .nx (put s' i (.dat (m + 1) (.list (ds ++ zs)))) else .no
      | none => .no)
    | .ex c => .ex c
    | _ => .no
theorem Sm.tlst {m : Nat} {zs : List D} {y : V} (h : Sm B (T ++ [(m + 1, .list zs, y)]) s σ H) : ∃ b ws, y = .ref b ∧ H b = some (.lst ws) ∧ ws.length = zs.length := by
  obtain ⟨F, As, c⟩ := h.sim
  rw [tE_app, ← List.append_assoc] at c
  have et : (s.zip σ ++ tE T ++ tE [(m + 1, .list zs, y)])[(s.zip σ ++ tE T).length]? = some (.dat (m + 1) (.list zs), some y) := by simp [tE]
  obtain ⟨w, ew, rt⟩ := c.rel _ _ _ et
  cases ew
  simp only [Rp] at rt
  obtain ⟨b, ws, C, eb, q2, r2, eC⟩ := rt
  exact ⟨b, ws, eb, q2, (Rps.length r2).symm⟩
theorem rd_extend {i m : Nat} {dx : SS → Rs (D × SS)} : ∀ Dn σ H, TSt B n (oExt i m dx) Dn σ H → tDrop (tBM B.K "list" rExtend (tVar i) (tCons (TX B (m + 1) dx) tNil)) Dn σ H := fun Dn σ H q => by
  obtain ⟨T, s, sm, p⟩ := q
  unfold oExt at p
  cases q0 : lstOf s[i]? with
  | none => rw [q0] at p; exact p.elim
  | some k0 =>
    rw [q0] at p
    obtain ⟨a, vs, e1, e2, _⟩ := sm.lst (lstOf_some q0)
    refine ⟨.ref a, e1, tyV_lst e2, T, s, sm, ?_⟩
    dsimp only at p
    cases q : dx s with
    | no => rw [q] at p; exact p
    | ex c => rw [q] at p; exact p
    | ok r =>
      rw [q] at p
      obtain ⟨r, s'⟩ := r
      cases r with
      | list zs =>
        dsimp only at p
        intro y H1 sm1
        cases q1 : lstOf s'[i]? with
        | none => rw [q1] at p; exact p.elim
        | some kd =>
          obtain ⟨k, ds⟩ := kd
          rw [q1] at p
          dsimp only at p
          by_cases hk : k = m ∧ ds.length + zs.length ≤ sizeLine
          · rw [if_pos hk] at p
            obtain ⟨rfl, hlen⟩ := hk
            obtain ⟨a', vs', e3, e4, e5⟩ := sm1.lst (lstOf_some q1)
            rw [e1] at e3
            cases e3
            obtain ⟨b, ws, rfl, e6, e7⟩ := sm1.tlst
            exact ⟨a, b, vs', ws, rfl, rfl, e4, e6, by rw [e5, e7]; exact hlen, p σ _ (sm1.extend (lstOf_some q1) e1 e4 e6)⟩
          · rw [if_neg hk] at p; exact p.elim
      | _ => exact p.elim
end
end PL

set_option maxRecDepth 100000
/-! PL13: defs that change what they are handed; their calls. -/
namespace PL
open PySem PySem.Spec PyProof.Rows L2

structure ArgC (K : PySem.W.Frag) (F H : Hp) (ns : List Nat) (ds : List D) (vs : List V) (As : Nat → List Addr) : Prop where
  rel : ∀ (j n : Nat) (d : D) (v : V), ns[j]? = some n → ds[j]? = some d → vs[j]? = some v → Rp K F H n d v (As j)
  nd : ∀ j, (As j).Nodup
  dj : ∀ i j, i ≠ j → ∀ a ∈ As i, a ∉ As j
  fz : ∀ j, ∀ a ∈ As j, F a = none
  ow : ∀ j, ∀ a ∈ As j, IsOwn H a
  same : Same F H
/-- behind a call: from (F, H, As) to (F', H'), what is owned then is told by own' -/
structure Moved (F H F' H' : Hp) (As : Nat → List Addr) (own' : Addr → Prop) : Prop where
  ff : Same F F'
  fn : ∀ a, F' a ≠ none → F a ≠ none ∨ (∃ j, a ∈ As j) ∨ H a = none
  kp : ∀ a o, H a = some o → (∀ j, a ∉ As j) → H' a = some o
  an : ∀ a, own' a → (∃ j, a ∈ As j) ∨ H a = none
def fPost (K : PySem.W.Frag) (ρ : Str → Addr) (E : XK) (ns : List Nat) (n : Nat) (vs : List V) (F H : Hp) (As : Nat → List Addr) (Q : VK) : Rs (D × List D) → Prop
  | .no => False
  | .ex c => ∀ H', (∀ a o, H a = some o → (∀ j, a ∉ As j) → H' a = some o) → E (.ref (ρ c)) none H'
  | .ok (r, outs) => ∀ v H' F' As' A, ArgC K F' H' ns outs vs As' → Rp K F' H' n r v A → A.Nodup → (∀ j, ∀ a ∈ A, a ∉ As' j) → (∀ a ∈ A, F' a = none) → Moved F H F' H' As (fun a => a ∈ A ∨ ∃ j, a ∈ As' j) → Q v H'
/-- the promise of a def that may change what it is handed: ns says how deep it owns each argument -/
def spF (K : PySem.W.Frag) (ρ : Str → Addr) (ns : List Nat) (n : Nat) (f : List D → Rs (D × List D)) : Sp := fun vs H Q E => vs.length = ns.length ∧ ∃ ds F As, ds.length = ns.length ∧ ArgC K F H ns ds vs As ∧ fPost K ρ E ns n vs F H As Q (f ds)

def initF (N : Nat) (ns : List Nat) (ds : List D) : SS := (ns.zip ds).map (fun p => Slot.dat p.1 p.2) ++ List.replicate (N - ns.length) .bot
def outsOf : List Nat → List D → SS → Rs (List D)
  | [], _, _ => .ok []
  | 0 :: ns, d :: ds, _ :: s => (outsOf ns ds s).bind fun r => .ok (d :: r)
  | (m + 1) :: ns, _ :: ds, .dat k d :: s => if k = m + 1 then (outsOf ns ds s).bind fun r => .ok (d :: r) else .no
  | _, _, _ => .no
def pinsOf (ns : List Nat) : List Nat := (List.range ns.length).filter fun j => ns[j]? != some 0
def fnF (N : Nat) (ns : List Nat) (body : SS → Oc) : List D → Rs (D × List D) := fun ds => match body (initF N ns ds) with
  | .rt r s => (outsOf ns ds s).bind fun o => .ok (r, o)
  | .nx s => (outsOf ns ds s).bind fun o => .ok (.none, o)
  | .ex c => .ex c
  | _ => .no
def fnF0 (N : Nat) (ns : List Nat) (body : SS → Oc) : List D → Rs (D × List D) := fun ds => match body (initF N ns ds) with
  | .rt r s => (outsOf ns ds s).bind fun o => .ok (r, o)
  | .nx s => (outsOf ns ds s).bind fun o => .ok (.none, o)
  | _ => .no
theorem outsOf_at : ∀ {ns : List Nat} {ds : List D} {s : SS} {o : List D}, outsOf ns ds s = .ok o → ∀ (j n : Nat) (d : D), ns[j]? = some n → o[j]? = some d → (n = 0 ∧ ds[j]? = some d) ∨ (0 < n ∧ s[j]? = some (.dat n d))
  | [], ds, s, o, h, j, n, d, h1, h2 => by simp at h1
  | 0 :: ns, d' :: ds, x :: s, o, h, j, n, d, h1, h2 => by
    unfold outsOf at h
    cases q : outsOf ns ds s with
    | no => rw [q] at h; cases h
    | ex c => rw [q] at h; cases h
    | ok r =>
      rw [q] at h
      cases h
      cases j with
      | zero => simp at h1 h2; subst h1 h2; left; exact ⟨rfl, rfl⟩
      | succ j => simpa using outsOf_at q j n d (by simpa using h1) (by simpa using h2)
  | (m + 1) :: ns, d' :: ds, .dat k e :: s, o, h, j, n, d, h1, h2 => by
    unfold outsOf at h
    split at h
    · rename_i hk
      cases q : outsOf ns ds s with
      | no => rw [q] at h; cases h
      | ex c => rw [q] at h; cases h
      | ok r =>
        rw [q] at h
        cases h
        cases j with
        | zero => simp at h1 h2; subst h1 h2 hk; right; exact ⟨by omega, rfl⟩
        | succ j => simpa using outsOf_at q j n d (by simpa using h1) (by simpa using h2)
    · cases h
  | (m + 1) :: ns, d' :: ds, .bot :: s, o, h, j, n, d, h1, h2 => by unfold outsOf at h; cases h
  | (m + 1) :: ns, d' :: ds, .vw _ _ :: s, o, h, j, n, d, h1, h2 => by unfold outsOf at h; cases h
  | n' :: ns, [], s, o, h, j, n, d, h1, h2 => by cases n' <;> (unfold outsOf at h; cases h)
  | n' :: ns, d' :: ds, [], o, h, j, n, d, h1, h2 => by cases n' <;> (unfold outsOf at h; cases h)
theorem outsOf_calm : ∀ {ns : List Nat} {ds : List D} {s : SS} {c : Str}, outsOf ns ds s ≠ .ex c
  | [], ds, s, c, h => by cases h
  | 0 :: ns, d' :: ds, x :: s, c, h => by
    unfold outsOf at h
    cases q : outsOf ns ds s with
    | no => rw [q] at h; cases h
    | ex c' => exact outsOf_calm q
    | ok r => rw [q] at h; cases h
  | (m + 1) :: ns, d' :: ds, .dat k e :: s, c, h => by
    unfold outsOf at h
    split at h
    · cases q : outsOf ns ds s with
      | no => rw [q] at h; cases h
      | ex c' => exact outsOf_calm q
      | ok r => rw [q] at h; cases h
    · cases h
  | (m + 1) :: ns, d' :: ds, .bot :: s, c, h => by unfold outsOf at h; cases h
  | (m + 1) :: ns, d' :: ds, .vw _ _ :: s, c, h => by unfold outsOf at h; cases h
  | n' :: ns, [], s, c, h => by cases n' <;> (unfold outsOf at h; cases h)
  | n' :: ns, d' :: ds, [], c, h => by cases n' <;> (unfold outsOf at h; cases h)
theorem mem_pins {ns : List Nat} {j n : Nat} (h : ns[j]? = some n) (h0 : 0 < n) : j ∈ pinsOf ns := by
  unfold pinsOf
  refine List.mem_filter.mpr ⟨List.mem_range.mpr (List.getElem?_eq_some_iff.mp h).1, ?_⟩
  rw [h]
  simp
  omega
/-- the start of a body -/
theorem smF_init {K : PySem.W.Frag} {ρ : Str → Addr} {E : XK} {F H : Hp} {Nm : List Str} {ns : List Nat} {ds : List D} {vs : List V} {As : Nat → List Addr} (c : ArgC K F H ns ds vs As) (h1 : vs.length = ns.length) (h2 : ds.length = ns.length) (hl : ns.length ≤ Nm.length) :
    Sm ⟨K, ρ, E, F, H, fun a => ∃ j, a ∈ As j, Nm.length, pinsOf ns, fun j => vs.getD j .non⟩ [] (initF Nm.length ns ds) (L2.start Nm vs) H := by
  refine ⟨?_, ?_, fun j hj => ?_, F, As, fun i x ov hi => ?_, fun i j d ov hi => ?_, c.nd, c.dj, c.fz, c.ow, c.same, fun a o h _ => h, Same.refl _, fun a h => .inl h, fun j a ha => .inl ⟨j, ha⟩⟩
  · show (initF Nm.length ns ds).length = Nm.length
    unfold initF
    simp only [List.length_append, List.length_map, List.length_replicate, List.length_zip]
    omega
  · show (L2.start Nm vs).length = Nm.length
    unfold L2.start
    simp only [List.length_append, List.length_map, List.length_replicate]
    omega
  · have hj' : j < vs.length := by rw [h1]; exact List.mem_range.mp (List.mem_filter.mp hj).1
    show (L2.start Nm vs)[j]? = some (some (vs.getD j .non))
    unfold L2.start
    rw [List.getElem?_append_left (by simpa using hj'), List.getElem?_map, List.getElem?_eq_getElem hj']
    simp [List.getD, List.getElem?_eq_getElem hj']
  all_goals
    simp only [tE, List.map_nil, List.append_nil] at hi
    rw [List.getElem?_zip_eq_some] at hi
    obtain ⟨q1, q2⟩ := hi
    unfold initF at q1
    unfold L2.start at q2
    by_cases q : i < ns.length
    · rw [List.getElem?_append_left (by simp [List.length_zip]; omega), List.getElem?_map] at q1
      have hz : (ns.zip ds)[i]? = some (ns[i], ds[i]) := by
        rw [List.getElem?_zip_eq_some]
        exact ⟨List.getElem?_eq_getElem q, List.getElem?_eq_getElem (by omega)⟩
      rw [hz] at q1
      have q1' := Option.some.inj q1
      first
        | (subst q1'
           rw [List.getElem?_append_left (by simp; omega), List.getElem?_map, List.getElem?_eq_getElem (show i < vs.length by omega)] at q2
           have q2' := Option.some.inj q2
           subst q2'
           exact ⟨_, rfl, c.rel i _ _ _ (List.getElem?_eq_getElem q) (List.getElem?_eq_getElem (by omega)) (List.getElem?_eq_getElem (by omega))⟩)
        | cases q1'
    · rw [List.getElem?_append_right (by simp [List.length_zip]; omega)] at q1
      have q1' := List.eq_of_mem_replicate (List.mem_of_getElem? q1)
      first
        | (subst q1'; trivial)
        | cases q1'
theorem kp_tups {H H' : Hp} {As : Nat → List Addr} (ow : ∀ j, ∀ a ∈ As j, IsOwn H a) (kp : ∀ a o, H a = some o → (∀ j, a ∉ As j) → H' a = some o) : Tups H H' := fun a xs h => by
  have ne : ∀ j, a ∉ As j := fun j z => by
    rcases ow j a z with ⟨_, q⟩ | ⟨_, q⟩ <;> rcases h with h | ⟨u, h⟩ <;> rw [h] at q <;> cases q
  rcases h with h | ⟨u, h⟩
  · exact .inl (kp a _ h ne)
  · exact .inr ⟨u, kp a _ h ne⟩
/-- the end of a body -/
theorem smF_end {K : PySem.W.Frag} {ρ : Str → Addr} {E E' : XK} {F H H' : Hp} {N n : Nat} {ns : List Nat} {ds outs : List D} {vs : List V} {As : Nat → List Addr} {r : D} {v : V} {s : SS} {σ : L2.St} {Q : VK} (hN : ns.length ≤ N) (h1 : vs.length = ns.length) (c0 : ArgC K F H ns ds vs As)
    (p : fPost K ρ E' ns n vs F H As Q (.ok (r, outs))) (ho : outsOf ns ds s = .ok outs) (sm : Sm ⟨K, ρ, E, F, H, fun a => ∃ j, a ∈ As j, N, pinsOf ns, fun j => vs.getD j .non⟩ [(n, r, v)] s σ H') : Q v H' := by
  obtain ⟨F', As', c⟩ := sm.sim
  have e : (s.zip σ ++ tE [(n, r, v)])[(s.zip σ).length]? = some (.dat n r, some v) := by simp [tE]
  obtain ⟨w, e1, rp⟩ := c.rel _ _ _ e
  cases e1
  have zl : (s.zip σ).length = N := sm.zl
  have kp : ∀ a o, H a = some o → (∀ j, a ∉ As j) → H' a = some o := fun a o h hn => c.keep a o h fun ⟨j, z⟩ => hn j z
  let As2 : Nat → List Addr := fun j => if ns[j]? = some 0 ∨ ns[j]? = none then [] else As' j
  have sub : ∀ j a, a ∈ As2 j → a ∈ As' j ∧ j < ns.length := fun j a ha => by
    have ha' : a ∈ (if ns[j]? = some 0 ∨ ns[j]? = none then [] else As' j) := ha
    split at ha'
    · simp at ha'
    · rename_i hz
      refine ⟨ha', ?_⟩
      by_cases q : j < ns.length
      · exact q
      · exact absurd (.inr (List.getElem?_eq_none (by omega))) hz
  refine p v H' F' As2 (As' (s.zip σ).length) ⟨fun j m d x hm hd hx => ?_, fun j => ?_, fun i j hij a ha z => c.dj i j hij a (sub i a ha).1 (sub j a z).1, fun j a ha => c.fz j a (sub j a ha).1, fun j a ha => c.ow j a (sub j a ha).1, c.same⟩ rp (c.nd _)
    (fun j a ha z => c.dj (s.zip σ).length j (by have := (sub j a z).2; omega) a ha (sub j a z).1) (c.fz _) ⟨c.f0, c.fn, kp, fun a ha => ?_⟩
  · rcases outsOf_at ho j m d hm hd with ⟨rfl, hd'⟩ | ⟨h0, hs⟩
    · have r0 := c0.rel j 0 d x hm hd' hx
      have rn := Rp.nil d r0
      rw [rn] at r0
      have : As2 j = [] := by show (if ns[j]? = some 0 ∨ ns[j]? = none then [] else As' j) = []; rw [if_pos (.inl hm)]
      rw [this]
      exact Rp.mono (kp_tups c0.ow kp) c.f0 d (fun _ z => by simp at z) r0
    · have hj : j < ns.length := (List.getElem?_eq_some_iff.mp hm).1
      obtain ⟨ov, q1, q2⟩ := zip_get hs (sm.ls.trans sm.lσ.symm)
      have q3 : (s.zip σ ++ tE [(n, r, v)])[j]? = some (.dat m d, ov) := by
        rw [List.getElem?_append_left (List.getElem?_eq_some_iff.mp q2).1]
        exact q2
      obtain ⟨y, ey, ry⟩ := c.rel j _ _ q3
      have pn := sm.pin j (mem_pins hm h0)
      rw [q1] at pn
      have : ov = some (vs.getD j .non) := Option.some.inj pn
      rw [ey] at this
      have e2 : vs.getD j .non = x := by simp [List.getD, hx]
      have : y = x := by rw [← e2]; exact Option.some.inj this
      subst this
      have : As2 j = As' j := by
        show (if ns[j]? = some 0 ∨ ns[j]? = none then [] else As' j) = As' j
        rw [if_neg (by rw [hm]; simp; omega)]
      rw [this]
      exact ry
  · show (if ns[j]? = some 0 ∨ ns[j]? = none then [] else As' j).Nodup
    split
    · exact List.nodup_nil
    · exact c.nd j
  · rcases ha with ha | ⟨j, ha⟩
    · exact c.an _ a ha
    · exact c.an j a (sub j a ha).1
section
variable {P : Program} {w : World} {K : PySem.W.Frag} {mg : Str → Option Value} {base : Heap} {ρ : Str → Addr}
theorem fn_f0 {x qual : Str} {st : Stmt} {f : Addr} {fd : FuncData} {N ps : List Str} {k n : Nat} {ns : List Nat} {body : SS → Oc} (F : Fun K x qual st f fd) (S : FnScope N ps (defScope st)) (hp : ps.length ≤ N.length) (hn : ns.length = ps.length)
    (der : ∀ (cdv : Value) (A : Around) (outer : List Env) (s : Shared) (H : Hp) (E : XK) (G : Hp) (A0 : Addr → Prop) (pv : Nat → V), Room k (A.deeper (envOfC qual (defScope st) s.heap.objs.size f cdv)) →
      PSs (cxOf CX0 P w K mg base N qual (defScope st) f cdv A outer s H E).nox (defBody st) (TSt ⟨K, ρ, E0, G, H, A0, N.length, pinsOf ns, pv⟩ n body)) :
    FnOk P w K mg base CX0 (k + 1) f fd ps (spF K ρ ns n (fnF0 N.length ns body)) := by
  refine F.ok S (fun vs H Q E h => h.1.trans hn) (fun cdv A outer s H vs Q E hr h => ?_)
  obtain ⟨hl, ds, F, As, hd, c, p⟩ := h
  refine ⟨_, der cdv A outer s H E F _ _ hr, [], _, smF_init c hl hd (by omega), ?_⟩
  unfold fnF0 at p
  cases q : body (initF N.length ns ds) <;> rw [q] at p
  case rt r s' =>
    dsimp only at p
    cases q2 : outsOf ns ds s' with
    | no => rw [q2] at p; exact p.elim
    | ex c => exact absurd q2 outsOf_calm
    | ok o => rw [q2] at p; exact fun v σ' H' sm => smF_end (by omega) hl c p q2 sm
  case nx s' =>
    dsimp only at p
    cases q2 : outsOf ns ds s' with
    | no => rw [q2] at p; exact p.elim
    | ex c => exact absurd q2 outsOf_calm
    | ok o =>
      rw [q2] at p
      intro σ' H' sm
      refine smF_end (E := E0) (N := N.length) (r := .none) (v := .non) (by omega) hl c p q2 (σ := σ') ?_
      have z := Sm.push (n := n) (r := PyData.none) (v := .non) (A := []) (G' := H') sm (Same.refl _) (rp_none _ _) (by simp [fits]) List.nodup_nil (fun _ z => by simp at z)
      simpa using z
  all_goals exact p.elim
theorem fn_f {x qual : Str} {st : Stmt} {f : Addr} {fd : FuncData} {N ps : List Str} {k n : Nat} {ns : List Nat} {body : SS → Oc} (F : Fun K x qual st f fd) (S : FnScope N ps (defScope st)) (hp : ps.length ≤ N.length) (hn : ns.length = ps.length)
    (der : ∀ (cdv : Value) (A : Around) (outer : List Env) (s : Shared) (H : Hp) (E : XK) (G : Hp) (A0 : Addr → Prop) (pv : Nat → V), Room k (A.deeper (envOfC qual (defScope st) s.heap.objs.size f cdv)) →
      PSs (cxOf (L2.CX P w) P w K mg base N qual (defScope st) f cdv A outer s H E) (defBody st) (TSt ⟨K, ρ, E, G, H, A0, N.length, pinsOf ns, pv⟩ n body)) :
    FnOk P w K mg base (L2.CX P w) (k + 1) f fd ps (spF K ρ ns n (fnF N.length ns body)) := by
  refine F.okX S (fun vs H Q E h => h.1.trans hn) (fun cdv A outer s H vs Q E hr h => ?_)
  obtain ⟨hl, ds, F, As, hd, c, p⟩ := h
  refine ⟨_, der cdv A outer s H E F _ _ hr, [], _, smF_init c hl hd (by omega), ?_⟩
  unfold fnF at p
  cases q : body (initF N.length ns ds) <;> rw [q] at p
  case rt r s' =>
    dsimp only at p
    cases q2 : outsOf ns ds s' with
    | no => rw [q2] at p; exact p.elim
    | ex c => exact absurd q2 outsOf_calm
    | ok o => rw [q2] at p; exact fun v σ' H' sm => smF_end (by omega) hl c p q2 sm
  case nx s' =>
    dsimp only at p
    cases q2 : outsOf ns ds s' with
    | no => rw [q2] at p; exact p.elim
    | ex c => exact absurd q2 outsOf_calm
    | ok o =>
      rw [q2] at p
      intro σ' H' sm
      refine smF_end (E := E) (N := N.length) (r := .none) (v := .non) (by omega) hl c p q2 (σ := σ') ?_
      have z := Sm.push (n := n) (r := PyData.none) (v := .non) (A := []) (G' := H') sm (Same.refl _) (rp_none _ _) (by simp [fits]) List.nodup_nil (fun _ z => by simp at z)
      simpa using z
  case ex c => exact fun H' kp => p H' fun a o h hn => kp a o h fun ⟨j, z⟩ => hn j z
  all_goals exact p.elim
end

/-! ### calls -/
/-- an argument: a value that comes, or a slot that is handed over -/
inductive ArgX where
  | val (dx : SS → Rs (D × SS))
  | io (i : Nat)
/-- what comes: data, or a slot's number -/
def vIO : List ArgX → SS → Rs (List (Sum D Nat) × SS)
  | [], s => .ok ([], s)
  | .val dx :: r, s => (dx s).bind fun p => (vIO r p.2).bind fun q => .ok (.inl p.1 :: q.1, q.2)
  | .io i :: r, s => match s[i]? with
    | some (.dat (_ + 1) _) => (vIO r s).bind fun q => .ok (.inr i :: q.1, q.2)
    | _ => .no
/-- the temps and the values of such -/
inductive IOs (σ : L2.St) : List (Sum D Nat) → Tm → List V → Prop
  | nil : IOs σ [] [] []
  | val {d : D} {v : V} {xs : List (Sum D Nat)} {U : Tm} {vs : List V} : IOs σ xs U vs → IOs σ (.inl d :: xs) ((0, d, v) :: U) (v :: vs)
  | io {i : Nat} {v : V} {xs : List (Sum D Nat)} {U : Tm} {vs : List V} : σ[i]? = some (some v) → IOs σ xs U vs → IOs σ (.inr i :: xs) U (v :: vs)
def TXio (B : Bs) (args : List ArgX) : TA := fun σ H Q => ∃ T s, Sm B T s σ H ∧ match vIO args s with
  | .no => False
  | .ex c => raises B c
  | .ok (xs, s') => ∀ vs U H', IOs σ xs U vs → Sm B (T ++ U) s' σ H' → Q vs H'
section
variable {X : Cx} {B : Bs} {n : Nat}
theorem pio_nil : PA X [] (TXio B []) := PA.of pa_nil fun σ H Q q => by
  obtain ⟨T, s, sm, p⟩ := q
  exact p [] [] H .nil (by simpa using sm)
theorem pio_val {e : Expr} {es : List Expr} {dx : SS → Rs (D × SS)} {r : List ArgX} (h : PE X e (TX B 0 dx)) (hr : PA X es (TXio B r)) (hs : starEach (e :: es) X.env = (false, eval e X.env) :: starEach es X.env := by rfl) : PA X (e :: es) (TXio B (.val dx :: r)) :=
  PA.of (pa_cons h hr hs) fun σ H Q q => by
    obtain ⟨T, s, sm, p⟩ := q
    refine ⟨T, s, sm, ?_⟩
    simp only [vIO] at p
    cases q1 : dx s with
    | no => rw [q1] at p; exact p
    | ex c => rw [q1] at p; exact p
    | ok a =>
      rw [q1] at p
      obtain ⟨d, s1⟩ := a
      dsimp only [Rs.bind] at p
      intro v H1 sm1
      refine ⟨T ++ [(0, d, v)], s1, sm1, ?_⟩
      cases q2 : vIO r s1 with
      | no => rw [q2] at p; exact p
      | ex c => rw [q2] at p; exact p
      | ok b =>
        rw [q2] at p
        obtain ⟨xs, s2⟩ := b
        dsimp only at p ⊢
        exact fun vs U H' io sm2 => p (v :: vs) ((0, d, v) :: U) H' (.val io) (by simpa using sm2)
theorem pio_io {x : Str} {pos : Pos} {es : List Expr} {r : List ArgX} (i : Nat) (hr : PA X es (TXio B r)) (hN : X.N[i]? = some x := by rfl) (hv : Vis X.env.scope x := by first | exact Or.inl rfl | exact Or.inr (Or.inl rfl) | exact Or.inr (Or.inr rfl))
    (hd : (x == ("__debug__" : Str)) = false := by decide) (hcd : (x == ("__classdict__" : Str)) = false := by decide) (hs : starEach (.Name x pos :: es) X.env = (false, eval (.Name x pos) X.env) :: starEach es X.env := by rfl) :
    PA X (.Name x pos :: es) (TXio B (.io i :: r)) :=
  PA.of (pa_cons (pe_var hN hv hd hcd) hr hs) fun σ H Q q => by
    obtain ⟨T, s, sm, p⟩ := q
    simp only [vIO] at p
    cases q0 : s[i]? with
    | none => rw [q0] at p; exact p.elim
    | some sl =>
      rw [q0] at p
      cases sl with
      | bot => exact p.elim
      | vw _ _ => exact p.elim
      | dat k d =>
        cases k with
        | zero => exact p.elim
        | succ k =>
          obtain ⟨ov, F, As, ev, c, v, rfl, rr⟩ := sm.slot q0
          refine ⟨v, ev, T, s, sm, ?_⟩
          dsimp only at p
          cases q2 : vIO r s with
          | no => rw [q2] at p; exact p
          | ex c => rw [q2] at p; exact p
          | ok b =>
            rw [q2] at p
            obtain ⟨xs, s2⟩ := b
            dsimp only [Rs.bind] at p ⊢
            exact fun vs U H' io sm2 => p (v :: vs) U H' (.io ev io) sm2
end
/-- the data of the arguments -/
def argData : List Nat → List (Sum D Nat) → SS → Rs (List D)
  | [], [], _ => .ok []
  | 0 :: ns, .inl d :: xs, s => (argData ns xs s).bind fun r => .ok (d :: r)
  | (m + 1) :: ns, .inr i :: xs, s => match s[i]? with
    | some (.dat k d) => if k = m + 1 then (argData ns xs s).bind fun r => .ok (d :: r) else .no
    | _ => .no
  | _, _, _ => .no
/-- the slots that change, with what they hold then -/
def backs : List Nat → List (Sum D Nat) → List D → List (Nat × Nat × D)
  | n :: ns, .inr i :: xs, o :: os => (i, n, o) :: backs ns xs os
  | _ :: ns, .inl _ :: xs, _ :: os => backs ns xs os
  | _, _, _ => []
def putAll : List (Nat × Nat × D) → SS → SS
  | [], s => s
  | p :: r, s => putAll r (put s p.1 (.dat p.2.1 p.2.2))
def slotsOf : List (Sum D Nat) → List Nat
  | [] => []
  | .inl _ :: r => slotsOf r
  | .inr i :: r => i :: slotsOf r
def xCallF (ns : List Nat) (f : List D → Rs (D × List D)) (args : List ArgX) : SS → Rs (D × SS) := fun s => (vIO args s).bind fun q => (argData ns q.1 q.2).bind fun ds =>
  if (slotsOf q.1).Nodup then (f ds).bind fun ro => if ro.2.length = ns.length then .ok (ro.1, putAll (backs ns q.1 ro.2) q.2) else .no else .no
theorem put_get {s : SS} {i k : Nat} {x y : Slot} (h : (put s i x)[k]? = some y) : (k = i ∧ y = x) ∨ (k ≠ i ∧ ∃ z, s[k]? = some z ∧ y = tch i z) := by
  unfold put at h
  by_cases q : k = i
  · subst q
    left
    have hl := (List.getElem?_eq_some_iff.mp h).1
    rw [List.getElem?_set_self (by simpa using hl)] at h
    exact ⟨rfl, (Option.some.inj h).symm⟩
  · right
    rw [List.getElem?_set_ne (Ne.symm q), List.getElem?_map] at h
    refine ⟨q, ?_⟩
    cases e : s[k]? with
    | none => rw [e] at h; cases h
    | some z => rw [e] at h; exact ⟨z, rfl, (Option.some.inj h).symm⟩
theorem tch_cases (i : Nat) (z : Slot) : tch i z = z ∧ (∀ d, z ≠ .vw i d) ∨ tch i z = .bot ∧ ∃ d, z = .vw i d := by
  cases z with
  | bot => left; exact ⟨rfl, fun d h => by cases h⟩
  | dat n d => left; exact ⟨rfl, fun d h => by cases h⟩
  | vw j d =>
    by_cases q : j = i
    · right; subst q; exact ⟨if_pos rfl, d, rfl⟩
    · left; exact ⟨if_neg q, fun d h => by cases h; exact q rfl⟩
theorem putAll_get : ∀ {L : List (Nat × Nat × D)} {s : SS} {k : Nat} {x : Slot}, (putAll L s)[k]? = some x → (∃ m d, (k, m, d) ∈ L ∧ x = .dat m d) ∨ (k ∉ L.map (·.1) ∧ ∃ y, s[k]? = some y ∧ ((x = .bot ∧ ∃ j d, y = .vw j d) ∨ x = y ∧ ∀ j d, x = .vw j d → j ∉ L.map (·.1)))
  | [], s, k, x, h => .inr ⟨by simp, x, h, .inr ⟨rfl, fun _ _ _ => by simp⟩⟩
  | (i, m, d) :: L, s, k, x, h => by
    rcases putAll_get (L := L) (s := put s i (.dat m d)) h with ⟨m', d', hm, e⟩ | ⟨hn, y, hy, e⟩
    · exact .inl ⟨m', d', by simp [hm], e⟩
    · rcases put_get hy with ⟨rfl, rfl⟩ | ⟨hk, z, hz, rfl⟩
      · rcases e with ⟨_, j, d', e⟩ | ⟨e, _⟩
        · cases e
        · exact .inl ⟨m, d, by simp, e⟩
      · refine .inr ⟨by simp [hn, hk], z, hz, ?_⟩
        rcases tch_cases i z with ⟨e1, e2⟩ | ⟨e1, d', e2⟩
        · rw [e1] at e
          rcases e with e | ⟨e, f⟩
          · exact .inl e
          · refine .inr ⟨e, fun j d' hj => ?_⟩
            have := f j d' hj
            have ne : j ≠ i := fun q => e2 d' (by rw [← e, hj, q])
            simp [this, ne]
        · rw [e1] at e
          rcases e with ⟨e, j, d2, e3⟩ | ⟨e, f⟩
          · cases e3
          · exact .inl ⟨e, i, d', e2⟩
theorem putAll_len : ∀ {L : List (Nat × Nat × D)} {s : SS}, (putAll L s).length = s.length
  | [], s => rfl
  | p :: L, s => by
    show (putAll L (put s p.1 (.dat p.2.1 p.2.2))).length = s.length
    rw [putAll_len]
    simp [put]
/-- what the pieces say, place by place -/
theorem backs_mem : ∀ {ns : List Nat} {xs : List (Sum D Nat)} {os : List D} {k m : Nat} {d : D}, (k, m, d) ∈ backs ns xs os → ∃ j : Nat, xs[j]? = some (Sum.inr k) ∧ ns[j]? = some m ∧ os[j]? = some d
  | [], xs, os, k, m, d, h => by simp [backs] at h
  | n :: ns, [], os, k, m, d, h => by simp [backs] at h
  | n :: ns, .inl _ :: xs, [], k, m, d, h => by simp [backs] at h
  | n :: ns, .inr _ :: xs, [], k, m, d, h => by simp [backs] at h
  | n :: ns, .inl _ :: xs, o :: os, k, m, d, h => by
    obtain ⟨j, h1, h2, h3⟩ := backs_mem (ns := ns) (xs := xs) (os := os) h
    exact ⟨j + 1, by simpa using h1, by simpa using h2, by simpa using h3⟩
  | n :: ns, .inr i :: xs, o :: os, k, m, d, h => by
    rcases List.mem_cons.mp h with h | h
    · cases h
      exact ⟨0, rfl, rfl, rfl⟩
    · obtain ⟨j, h1, h2, h3⟩ := backs_mem (ns := ns) (xs := xs) (os := os) h
      exact ⟨j + 1, by simpa using h1, by simpa using h2, by simpa using h3⟩
theorem backs_all : ∀ {ns : List Nat} {xs : List (Sum D Nat)} {os : List D} {k j : Nat}, ns.length = xs.length → os.length = xs.length → xs[j]? = some (Sum.inr k) → k ∈ (backs ns xs os).map (·.1)
  | [], [], os, k, j, h1, h2, h => by simp at h
  | [], _ :: _, os, k, j, h1, h2, h => by simp at h1
  | n :: ns, [], os, k, j, h1, h2, h => by simp at h1
  | n :: ns, x :: xs, [], k, j, h1, h2, h => by simp at h2
  | n :: ns, .inl _ :: xs, o :: os, k, 0, h1, h2, h => by simp at h
  | n :: ns, .inl _ :: xs, o :: os, k, j + 1, h1, h2, h => backs_all (ns := ns) (xs := xs) (os := os) (j := j) (by simpa using h1) (by simpa using h2) (by simpa using h)
  | n :: ns, .inr i :: xs, o :: os, k, 0, h1, h2, h => by simp at h; subst h; simp [backs]
  | n :: ns, .inr i :: xs, o :: os, k, j + 1, h1, h2, h => by
    have := backs_all (ns := ns) (xs := xs) (os := os) (j := j) (k := k) (by simpa using h1) (by simpa using h2) (by simpa using h)
    simp [backs, this]
theorem argData_len : ∀ {ns : List Nat} {xs : List (Sum D Nat)} {s : SS} {ds : List D}, argData ns xs s = .ok ds → ds.length = ns.length ∧ xs.length = ns.length
  | [], [], s, ds, h => by cases h; exact ⟨rfl, rfl⟩
  | [], _ :: _, s, ds, h => by cases h
  | 0 :: ns, [], s, ds, h => by cases h
  | (m + 1) :: ns, [], s, ds, h => by cases h
  | 0 :: ns, .inr _ :: xs, s, ds, h => by cases h
  | (m + 1) :: ns, .inl _ :: xs, s, ds, h => by cases h
  | 0 :: ns, .inl d :: xs, s, ds, h => by
    simp only [argData] at h
    cases q : argData ns xs s with
    | no => rw [q] at h; cases h
    | ex c => rw [q] at h; cases h
    | ok r =>
      rw [q] at h
      cases h
      obtain ⟨a, b⟩ := argData_len q
      simp [a, b]
  | (m + 1) :: ns, .inr i :: xs, s, ds, h => by
    simp only [argData] at h
    split at h
    · split at h
      · cases q : argData ns xs s with
        | no => rw [q] at h; cases h
        | ex c => rw [q] at h; cases h
        | ok r =>
          rw [q] at h
          cases h
          obtain ⟨a, b⟩ := argData_len q
          simp [a, b]
      · cases h
    · cases h
theorem argData_at : ∀ {ns : List Nat} {xs : List (Sum D Nat)} {s : SS} {ds : List D}, argData ns xs s = .ok ds → ∀ (j n : Nat) (d : D), ns[j]? = some n → ds[j]? = some d → (n = 0 ∧ xs[j]? = some (Sum.inl d)) ∨ (∃ i, xs[j]? = some (Sum.inr i) ∧ s[i]? = some (.dat n d))
  | [], xs, s, ds, h, j, n, d, h1, h2 => by simp at h1
  | 0 :: ns, [], s, ds, h, j, n, d, h1, h2 => by cases h
  | (m + 1) :: ns, [], s, ds, h, j, n, d, h1, h2 => by cases h
  | 0 :: ns, .inr _ :: xs, s, ds, h, j, n, d, h1, h2 => by cases h
  | (m + 1) :: ns, .inl _ :: xs, s, ds, h, j, n, d, h1, h2 => by cases h
  | 0 :: ns, .inl d' :: xs, s, ds, h, j, n, d, h1, h2 => by
    simp only [argData] at h
    cases q : argData ns xs s with
    | no => rw [q] at h; cases h
    | ex c => rw [q] at h; cases h
    | ok r =>
      rw [q] at h
      cases h
      cases j with
      | zero => simp at h1 h2; subst h1 h2; left; exact ⟨rfl, rfl⟩
      | succ j => simpa using argData_at q j n d (by simpa using h1) (by simpa using h2)
  | (m + 1) :: ns, .inr i :: xs, s, ds, h, j, n, d, h1, h2 => by
    simp only [argData] at h
    split at h
    · rename_i k d' hs
      split at h
      · rename_i hk
        cases q : argData ns xs s with
        | no => rw [q] at h; cases h
        | ex c => rw [q] at h; cases h
        | ok r =>
          rw [q] at h
          cases h
          cases j with
          | zero => simp at h1 h2; subst h1 h2 hk; right; exact ⟨i, rfl, hs⟩
          | succ j => simpa using argData_at q j n d (by simpa using h1) (by simpa using h2)
      · cases h
    · cases h
theorem slots_at : ∀ {xs : List (Sum D Nat)} {i j k : Nat}, (slotsOf xs).Nodup → xs[i]? = some (Sum.inr k) → xs[j]? = some (Sum.inr k) → i = j := by
  have mem : ∀ {xs : List (Sum D Nat)} {j k : Nat}, xs[j]? = some (Sum.inr k) → k ∈ slotsOf xs := by
    intro xs
    induction xs with
    | nil => intro j k h; simp at h
    | cons x xs ih =>
      intro j k h
      cases j with
      | zero => simp at h; subst h; simp [slotsOf]
      | succ j =>
        have := ih (j := j) (k := k) (by simpa using h)
        cases x <;> simp [slotsOf, this]
  intro xs
  induction xs with
  | nil => intro i j k _ h; simp at h
  | cons x xs ih =>
    intro i j k nd h1 h2
    cases x with
    | inl d =>
      cases i with
      | zero => simp at h1
      | succ i =>
        cases j with
        | zero => simp at h2
        | succ j => rw [ih (i := i) (j := j) (k := k) nd (by simpa using h1) (by simpa using h2)]
    | inr m =>
      obtain ⟨n1, n2⟩ := List.nodup_cons.mp nd
      cases i with
      | zero =>
        cases j with
        | zero => rfl
        | succ j => simp at h1; subst h1; exact absurd (mem (by simpa using h2)) n1
      | succ i =>
        cases j with
        | zero => simp at h2; subst h2; exact absurd (mem (by simpa using h1)) n1
        | succ j => rw [ih (i := i) (j := j) (k := k) n2 (by simpa using h1) (by simpa using h2)]
theorem IOs.len {σ : L2.St} : ∀ {xs : List (Sum D Nat)} {U : Tm} {vs : List V}, IOs σ xs U vs → vs.length = xs.length
  | _, _, _, .nil => rfl
  | _, _, _, .val h => by simp [h.len]
  | _, _, _, .io _ h => by simp [h.len]
theorem IOs.slot {σ : L2.St} : ∀ {xs : List (Sum D Nat)} {U : Tm} {vs : List V}, IOs σ xs U vs → ∀ (j i : Nat), xs[j]? = some (Sum.inr i) → ∃ v, vs[j]? = some v ∧ σ[i]? = some (some v)
  | _, _, _, .nil, j, i, h => by simp at h
  | _, _, _, .val t, j, i, h => by
    cases j with
    | zero => simp at h
    | succ j => simpa using t.slot j i (by simpa using h)
  | _, _, _, .io e t, j, i, h => by
    cases j with
    | zero => simp at h; subst h; exact ⟨_, rfl, e⟩
    | succ j => simpa using t.slot j i (by simpa using h)
theorem IOs.data {σ : L2.St} : ∀ {xs : List (Sum D Nat)} {U : Tm} {vs : List V}, IOs σ xs U vs → ∀ (j : Nat) (d : D), xs[j]? = some (Sum.inl d) → ∃ v, vs[j]? = some v ∧ (0, d, v) ∈ U
  | _, _, _, .nil, j, i, h => by simp at h
  | _, _, _, .val t, j, d, h => by
    cases j with
    | zero => simp at h; subst h; exact ⟨_, rfl, by simp⟩
    | succ j =>
      obtain ⟨v, h1, h2⟩ := t.data j d (by simpa using h)
      exact ⟨v, by simpa using h1, by simp [h2]⟩
  | _, _, _, .io e t, j, d, h => by
    cases j with
    | zero => simp at h
    | succ j =>
      obtain ⟨v, h1, h2⟩ := t.data j d (by simpa using h)
      exact ⟨v, by simpa using h1, h2⟩
end PL

set_option maxRecDepth 100000
/-! PL14: a call that changes slots. -/
namespace PL
open PySem PySem.Spec PyProof.Rows L2
section
variable {X : Cx} {B : Bs} {T U : Tm} {s : SS} {σ : L2.St} {H : Hp} {n : Nat}
theorem plus_mono2 {F F' H H' : Hp} {A : List Addr} (f : Same F F') (s : Stays A H H') (o : ∀ a ∈ A, H a ≠ none) : Same (plus F H A) (plus F' H' A) := fun a u h => by
  by_cases q : a ∈ A
  · rw [plus_in q] at h ⊢; exact s a q u h
  · rw [plus_out q] at h ⊢; exact f a u h
open Classical in
theorem io_call {xs : List (Sum D Nat)} {vs : List V} {ns : List Nat} {ds : List D} {f : List D → Rs (D × List D)} {Q : VK} (sm : Sm B (T ++ U) s σ H) (io : IOs σ xs U vs) (hd : argData ns xs s = .ok ds) (nd : (slotsOf xs).Nodup)
    (p : match f ds with | .no => False | .ex c => raises B c | .ok (r, outs) => outs.length = ns.length ∧ ∀ v H', Sm B (T ++ [(n, r, v)]) (putAll (backs ns xs outs) s) σ H' → Q v H') : spF B.K B.ρ ns n f vs H Q B.E := by
  obtain ⟨dl, xl⟩ := argData_len hd
  have vl := io.len
  obtain ⟨F, As, c⟩ := sm.sim
  have zl := sm.zl
  -- what the callee is handed
  let Aa : Nat → List Addr := fun j => match xs[j]? with | some (Sum.inr i) => As i | _ => []
  have aa : ∀ j a, a ∈ Aa j → ∃ i, xs[j]? = some (Sum.inr i) ∧ a ∈ As i ∧ Aa j = As i := fun j a ha => by
    have ha' : a ∈ (match xs[j]? with | some (Sum.inr i) => As i | _ => []) := ha
    cases q : xs[j]? with
    | none => rw [q] at ha'; simp at ha'
    | some x =>
      rw [q] at ha'
      cases x with
      | inl d => simp at ha'
      | inr i => exact ⟨i, rfl, ha', by show (match xs[j]? with | some (Sum.inr i) => As i | _ => []) = As i; rw [q]⟩
  have aat : ∀ j i, xs[j]? = some (Sum.inr i) → Aa j = As i := fun j i h => by
    show (match xs[j]? with | some (Sum.inr i) => As i | _ => []) = As i; rw [h]
  have ac : ArgC B.K F H ns ds vs Aa := ⟨fun j m d v hm hdj hv => by
      rcases argData_at hd j m d hm hdj with ⟨rfl, hx⟩ | ⟨i, hx, hs⟩
      · obtain ⟨w, hw, hu⟩ := io.data j d hx
        rw [hv] at hw
        cases hw
        obtain ⟨k, hk⟩ := List.getElem?_of_mem hu
        have e : (s.zip σ ++ tE (T ++ U))[(s.zip σ).length + (T.length + k)]? = some (.dat 0 d, some v) := by
          rw [List.getElem?_append_right (by omega), show (s.zip σ).length + (T.length + k) - (s.zip σ).length = T.length + k by omega]
          unfold tE
          rw [List.getElem?_map, List.getElem?_append_right (by omega), show T.length + k - T.length = k by omega, hk]
          rfl
        obtain ⟨w, ew, rp⟩ := c.rel _ _ _ e
        cases ew
        have rn := Rp.nil d rp
        rw [rn] at rp
        have : Aa j = [] := by show (match xs[j]? with | some (Sum.inr i) => As i | _ => []) = []; rw [hx]
        rw [this]
        exact rp
      · obtain ⟨w, hw, hσ⟩ := io.slot j i hx
        rw [hv] at hw
        cases hw
        obtain ⟨ov, q1, q2⟩ := zip_get hs (sm.ls.trans sm.lσ.symm)
        rw [hσ] at q1
        cases q1
        have e : (s.zip σ ++ tE (T ++ U))[i]? = some (.dat m d, some v) := by
          rw [List.getElem?_append_left (List.getElem?_eq_some_iff.mp q2).1]
          exact q2
        obtain ⟨w, ew, rp⟩ := c.rel _ _ _ e
        cases ew
        rw [aat j i hx]
        exact rp,
    fun j => by
      show (match xs[j]? with | some (Sum.inr i) => As i | _ => []).Nodup
      split
      · exact c.nd _
      · exact List.nodup_nil,
    fun i j hij a ha z => by
      obtain ⟨i1, h1, h2, _⟩ := aa i a ha
      obtain ⟨j1, k1, k2, _⟩ := aa j a z
      by_cases e : i1 = j1
      · subst e; exact hij (slots_at nd h1 k1)
      · exact c.dj i1 j1 e a h2 k2,
    fun j a ha => by obtain ⟨i, _, h2, _⟩ := aa j a ha; exact c.fz i a h2,
    fun j a ha => by obtain ⟨i, _, h2, _⟩ := aa j a ha; exact c.ow i a h2, c.same⟩
  refine ⟨vl.trans xl, ds, F, Aa, dl, ac, ?_⟩
  cases qf : f ds with
  | no => rw [qf] at p; exact p
  | ex e =>
    rw [qf] at p
    intro H' hk
    refine p H' fun a o h0 h1 => hk a o (c.keep a o h0 h1) fun j z => ?_
    obtain ⟨i, _, h2, _⟩ := aa j a z
    rcases c.an i a h2 with z | z
    · exact h1 z
    · rw [h0] at z; cases z
  | ok ro =>
    rw [qf] at p
    obtain ⟨r, outs⟩ := ro
    dsimp only at p
    obtain ⟨ol, p⟩ := p
    intro v H' F' As' A ac' rp ndA djA fzA mv
    refine p v H' ⟨by rw [putAll_len]; exact sm.ls, sm.lσ, sm.pin, ?_⟩
    let L := (s.zip σ).length + T.length
    -- the place of a slot among the arguments
    have ex : ∀ k : Nat, (∃ j, xs[j]? = some (Sum.inr k)) ∨ ¬ ∃ j : Nat, xs[j]? = some (Sum.inr k) := fun k => Classical.em _
    let An : Nat → List Addr := fun k => if h : ∃ j : Nat, xs[j]? = some (Sum.inr k) then As' h.choose else if k = L then A else if k < L then As k else []
    have an_io : ∀ k j, xs[j]? = some (Sum.inr k) → An k = As' j := fun k j h => by
      have hx : ∃ j : Nat, xs[j]? = some (Sum.inr k) := ⟨j, h⟩
      show (if h : ∃ j : Nat, xs[j]? = some (Sum.inr k) then As' h.choose else _) = As' j
      rw [dif_pos hx, slots_at nd hx.choose_spec h]
    have slotlt : ∀ k j, xs[j]? = some (Sum.inr k) → k < B.N := fun k j h => by
      obtain ⟨w, _, hσ⟩ := io.slot j k h
      rw [← sm.lσ]
      exact (List.getElem?_eq_some_iff.mp hσ).1
    have hLN : B.N ≤ L := by show B.N ≤ (s.zip σ).length + T.length; omega
    have notL : ¬ ∃ j : Nat, xs[j]? = some (Sum.inr L) := fun ⟨j, h⟩ => by have := slotlt L j h; omega
    have an_L : An L = A := by
      show (if h : ∃ j : Nat, xs[j]? = some (Sum.inr L) then As' h.choose else if L = L then A else _) = A
      rw [dif_neg notL, if_pos rfl]
    have an_lt : ∀ k, (¬ ∃ j : Nat, xs[j]? = some (Sum.inr k)) → k < L → An k = As k := fun k h1 h2 => by
      show (if h : ∃ j : Nat, xs[j]? = some (Sum.inr k) then As' h.choose else if k = L then A else if k < L then As k else []) = As k
      rw [dif_neg h1, if_neg (by omega), if_pos h2]
    have an_gt : ∀ k, (¬ ∃ j : Nat, xs[j]? = some (Sum.inr k)) → L < k → An k = [] := fun k h1 h2 => by
      show (if h : ∃ j : Nat, xs[j]? = some (Sum.inr k) then As' h.choose else if k = L then A else if k < L then As k else []) = []
      rw [dif_neg h1, if_neg (by omega), if_neg (by omega)]
    -- three kinds
    have kind : ∀ k a, a ∈ An k → (∃ j, xs[j]? = some (Sum.inr k) ∧ a ∈ As' j) ∨ (k = L ∧ a ∈ A) ∨ ((¬ ∃ j : Nat, xs[j]? = some (Sum.inr k)) ∧ k < L ∧ a ∈ As k) := fun k a ha => by
      rcases ex k with ⟨j, h⟩ | h
      · rw [an_io k j h] at ha; exact .inl ⟨j, h, ha⟩
      · by_cases q : k = L
        · rw [q, an_L] at ha; exact .inr (.inl ⟨q, ha⟩)
        · by_cases q2 : k < L
          · rw [an_lt k h q2] at ha; exact .inr (.inr ⟨h, q2, ha⟩)
          · rw [an_gt k h (by omega)] at ha; simp at ha
    have apart : ∀ k a, (¬ ∃ j : Nat, xs[j]? = some (Sum.inr k)) → a ∈ As k → ∀ j, a ∉ Aa j := fun k a h ha j z => by
      obtain ⟨i, h1, h2, _⟩ := aa j a z
      by_cases e : i = k
      · subst e; exact h ⟨j, h1⟩
      · exact c.dj i k e a h2 ha
    have new : ∀ a, (a ∈ A ∨ ∃ j, a ∈ As' j) → ∀ k, (¬ ∃ j : Nat, xs[j]? = some (Sum.inr k)) → a ∉ As k := fun a ha k h z => by
      rcases mv.an a ha with ⟨j, q⟩ | q
      · exact apart k a h z j q
      · exact (c.ow k a z).some q
    have st : ∀ k, (¬ ∃ j : Nat, xs[j]? = some (Sum.inr k)) → Stays (As k) H H' := fun k h a ha o ho => mv.kp a o ho (apart k a h ha)
    have tu : Tups H H' := kp_tups ac.ow mv.kp
    refine ⟨F', An, fun k x ov e => ?_, fun k j d ov e => ?_, fun k => ?_, fun k j hkj a ha z => ?_, fun k a ha => ?_, fun k a ha => ?_, ac'.same, fun a o h0 h1 => ?_, c.f0.trans mv.ff, fun a ha => ?_, fun k a ha => ?_⟩
    · -- rel
      rw [tE_app, ← List.append_assoc] at e
      have hz : ((putAll (backs ns xs outs) s).zip σ).length = (s.zip σ).length := by rw [List.length_zip, putAll_len, List.length_zip]
      have hT : (tE T).length = T.length := by simp [tE]
      by_cases q : k < L
      · rw [List.getElem?_append_left (by rw [List.length_append, hz, hT]; exact q)] at e
        by_cases q2 : k < (s.zip σ).length
        · rw [List.getElem?_append_left (by rw [hz]; exact q2), List.getElem?_zip_eq_some] at e
          obtain ⟨e1, e2⟩ := e
          rcases putAll_get e1 with ⟨m, d, hm, rfl⟩ | ⟨hn, y, hy, e3⟩
          · obtain ⟨j, k1, k2, k3⟩ := backs_mem hm
            obtain ⟨w, hw, hσ⟩ := io.slot j k k1
            rw [e2] at hσ
            cases hσ
            rw [an_io k j k1]
            exact ⟨w, rfl, ac'.rel j m d w k2 k3 hw⟩
          · have hno : ¬ ∃ j : Nat, xs[j]? = some (Sum.inr k) := fun ⟨j, h⟩ => hn (backs_all (j := j) (by rw [xl]) (by rw [ol, xl]) h)
            rcases e3 with ⟨rfl, _⟩ | ⟨rfl, hv⟩
            · trivial
            · have ey : (s.zip σ ++ tE (T ++ U))[k]? = some (x, ov) := by
                rw [List.getElem?_append_left q2, List.getElem?_zip_eq_some]
                exact ⟨hy, e2⟩
              have r1 := c.rel k x ov ey
              rw [an_lt k hno q]
              cases x with
              | bot => trivial
              | dat m d => obtain ⟨w, e4, r1⟩ := r1; exact ⟨w, e4, Rp.mono tu mv.ff d (st k hno) r1⟩
              | vw j d =>
                obtain ⟨w, e4, r1⟩ := r1
                have hj := c.vw k j d ov ey
                have hnj : ¬ ∃ i : Nat, xs[i]? = some (Sum.inr j) := fun ⟨i, h⟩ => hv j d rfl (backs_all (j := i) (by rw [xl]) (by rw [ol, xl]) h)
                refine ⟨w, e4, ?_⟩
                rw [an_lt j hnj (by omega)]
                exact Rp.mono tu (plus_mono2 mv.ff (st j hnj) fun a ha => (c.ow j a ha).some) d (fun _ z => by simp at z) r1
        · rw [List.getElem?_append_right (by rw [hz]; omega), hz] at e
          have hno : ¬ ∃ j : Nat, xs[j]? = some (Sum.inr k) := fun ⟨j, h⟩ => by have := slotlt k j h; omega
          have ey : (s.zip σ ++ tE (T ++ U))[k]? = some (x, ov) := by
            rw [List.getElem?_append_right (by omega), tE_app, List.getElem?_append_left (by rw [hT]; show k - (s.zip σ).length < T.length; omega)]
            exact e
          have r1 := c.rel k x ov ey
          rw [an_lt k hno q]
          cases x with
          | bot => trivial
          | dat m d => obtain ⟨w, e4, r1⟩ := r1; exact ⟨w, e4, Rp.mono tu mv.ff d (st k hno) r1⟩
          | vw j d =>
            have := tE_app T U
            unfold tE at e
            rw [List.getElem?_map] at e
            cases h : T[k - (s.zip σ).length]? with
            | none => rw [h] at e; cases e
            | some t => rw [h] at e; cases e
      · rw [List.getElem?_append_right (by rw [List.length_append, hz, hT]; exact Nat.le_of_not_lt q), List.length_append, hz, hT] at e
        have hk0 : k - ((s.zip σ).length + T.length) = 0 := by
          by_cases z : k - ((s.zip σ).length + T.length) = 0
          · exact z
          · rw [List.getElem?_eq_none (by show 1 ≤ k - ((s.zip σ).length + T.length); omega)] at e; cases e
        rw [hk0] at e
        cases e
        have : k = L := by show k = (s.zip σ).length + T.length; have : ¬ k < (s.zip σ).length + T.length := q; omega
        subst this
        rw [an_L]
        exact ⟨v, rfl, rp⟩
    · -- views
      rw [tE_app, ← List.append_assoc] at e
      have hz : ((putAll (backs ns xs outs) s).zip σ).length = (s.zip σ).length := by rw [List.length_zip, putAll_len, List.length_zip]
      have notT : ∀ (W : Tm) (i : Nat), (tE W)[i]? ≠ some (.vw j d, ov) := fun W i h => by
        unfold tE at h
        rw [List.getElem?_map] at h
        cases h2 : W[i]? with
        | none => rw [h2] at h; cases h
        | some t => rw [h2] at h; cases h
      by_cases q2 : k < (s.zip σ).length
      · rw [List.append_assoc, List.getElem?_append_left (by rw [hz]; exact q2), List.getElem?_zip_eq_some] at e
        obtain ⟨e1, e2⟩ := e
        rcases putAll_get e1 with ⟨m, d', hm, e3⟩ | ⟨hn, y, hy, e3⟩
        · cases e3
        · rcases e3 with ⟨e3, _⟩ | ⟨e3, _⟩
          · cases e3
          · subst e3
            exact c.vw k j d ov (by rw [List.getElem?_append_left q2, List.getElem?_zip_eq_some]; exact ⟨hy, e2⟩)
      · rw [List.append_assoc, List.getElem?_append_right (by rw [hz]; omega), ← tE_app] at e
        exact absurd e (notT _ _)
    · rcases ex k with ⟨j, h⟩ | h
      · rw [an_io k j h]; exact ac'.nd j
      · by_cases q : k = L
        · rw [q, an_L]; exact ndA
        · by_cases q2 : k < L
          · rw [an_lt k h q2]; exact c.nd k
          · rw [an_gt k h (by omega)]; exact List.nodup_nil
    · rcases kind k a ha with ⟨i, h1, h2⟩ | ⟨h1, h2⟩ | ⟨h1, h2, h3⟩ <;> rcases kind j a z with ⟨i', k1, k2⟩ | ⟨k1, k2⟩ | ⟨k1, k2, k3⟩
      · by_cases e : i = i'
        · subst e; rw [h1] at k1; cases k1; exact hkj rfl
        · exact ac'.dj i i' e a h2 k2
      · exact djA i a k2 h2
      · exact new a (.inr ⟨i, h2⟩) j k1 k3
      · exact djA i' a h2 k2
      · omega
      · exact new a (.inl h2) j k1 k3
      · exact new a (.inr ⟨i', k2⟩) k h1 h3
      · exact new a (.inl k2) k h1 h3
      · exact c.dj k j hkj a h3 k3
    · rcases kind k a ha with ⟨i, h1, h2⟩ | ⟨h1, h2⟩ | ⟨h1, h2, h3⟩
      · exact ac'.fz i a h2
      · exact fzA a h2
      · refine none_of fun z => ?_
        rcases mv.fn a z with z | ⟨j, z⟩ | z
        · exact z (c.fz k a h3)
        · exact apart k a h1 h3 j z
        · exact (c.ow k a h3).some z
    · rcases kind k a ha with ⟨i, h1, h2⟩ | ⟨h1, h2⟩ | ⟨h1, h2, h3⟩
      · exact ac'.ow i a h2
      · exact Rp.own r rp a h2
      · rcases c.ow k a h3 with ⟨w, q⟩ | ⟨w, q⟩
        · exact .inl ⟨w, st k h1 a h3 _ q⟩
        · exact .inr ⟨w, st k h1 a h3 _ q⟩
    · refine mv.kp a o (c.keep a o h0 h1) fun j z => ?_
      obtain ⟨i, _, h2, _⟩ := aa j a z
      rcases c.an i a h2 with z | z
      · exact h1 z
      · rw [h0] at z; cases z
    · rcases mv.fn a ha with z | ⟨j, z⟩ | z
      · exact c.fn a z
      · obtain ⟨i, _, h2, _⟩ := aa j a z
        exact .inr (c.an i a h2)
      · refine .inr ?_
        by_cases q : B.A0 a
        · exact .inl q
        · right
          cases h0 : B.H0 a with
          | none => rfl
          | some o => have := c.keep a o h0 q; rw [z] at this; cases this
    · have hn : (∃ j, a ∈ Aa j) ∨ H a = none → B.A0 a ∨ B.H0 a = none := fun z => by
        rcases z with ⟨j, z⟩ | z
        · obtain ⟨i, _, h2, _⟩ := aa j a z
          exact c.an i a h2
        · by_cases q : B.A0 a
          · exact .inl q
          · right
            cases h0 : B.H0 a with
            | none => rfl
            | some o => have := c.keep a o h0 q; rw [z] at this; cases this
      rcases kind k a ha with ⟨i, h1, h2⟩ | ⟨h1, h2⟩ | ⟨h1, h2, h3⟩
      · exact hn (mv.an a (.inr ⟨i, h2⟩))
      · exact hn (mv.an a (.inl h2))
      · exact c.an k a h3
theorem rd_callF {ns : List Nat} {f : List D → Rs (D × List D)} {args : List ArgX} : ∀ σ H Q, TX B n (xCallF ns f args) σ H Q → tCall (spF B.K B.ρ ns n f) [] B.E (TXio B args) σ H Q := fun σ H Q q => by
  obtain ⟨T, s, sm, p⟩ := q
  refine ⟨T, s, sm, ?_⟩
  unfold xCallF at p
  cases q1 : vIO args s with
  | no => rw [q1] at p; exact p
  | ex c => rw [q1] at p; exact p
  | ok a =>
    rw [q1] at p
    obtain ⟨xs, s'⟩ := a
    dsimp only [Rs.bind] at p ⊢
    intro vs U H' io sm'
    rw [List.append_nil]
    cases q2 : argData ns xs s' with
    | no => rw [q2] at p; exact p.elim
    | ex c =>
      exfalso
      have calm : ∀ {ns : List Nat} {xs : List (Sum D Nat)} {s : SS} {c : Str}, argData ns xs s ≠ .ex c := by
        intro ns
        induction ns with
        | nil => intro xs s c h; cases xs <;> cases h
        | cons m ns ih =>
          intro xs s c h
          cases xs with
          | nil => cases m <;> cases h
          | cons x xs =>
            cases m with
            | zero =>
              cases x with
              | inr i => cases h
              | inl d =>
                simp only [argData] at h
                cases q : argData ns xs s with
                | no => rw [q] at h; cases h
                | ex c' => exact ih q
                | ok r => rw [q] at h; cases h
            | succ m =>
              cases x with
              | inl d => cases h
              | inr i =>
                simp only [argData] at h
                split at h
                · split at h
                  · cases q : argData ns xs s with
                    | no => rw [q] at h; cases h
                    | ex c' => exact ih q
                    | ok r => rw [q] at h; cases h
                  · cases h
                · cases h
      exact calm q2
    | ok ds =>
      rw [q2] at p
      dsimp only at p
      by_cases hn : (slotsOf xs).Nodup
      · rw [if_pos hn] at p
        refine io_call sm' io q2 hn ?_
        cases q3 : f ds with
        | no => rw [q3] at p; exact p
        | ex c => rw [q3] at p; exact p
        | ok ro =>
          rw [q3] at p
          obtain ⟨r, outs⟩ := ro
          dsimp only at p ⊢
          by_cases hl : outs.length = ns.length
          · rw [if_pos hl] at p
            exact ⟨hl, fun v H' sm2 => p v H' sm2⟩
          · rw [if_neg hl] at p; exact p.elim
      · rw [if_neg hn] at p; exact p.elim
end
end PL

set_option maxRecDepth 100000
/-! PL15: operations on what comes with changes; comprehensions that change slots; moved and frozen names. -/
namespace PL
open PySem PySem.Spec PyProof.Rows L2
section
variable {X : Cx} {B : Bs} {T U : Tm} {s : SS} {σ : L2.St} {H H' : Hp} {n : Nat}

/-! ### operations -/
def xOp (n : Nat) (f : D → D → Rs D) (da db : SS → Rs (D × SS)) : SS → Rs (D × SS) := fun s => (da s).bind fun p => (db p.2).bind fun q => (f p.1 q.1).bind fun r => if fits n r = true then .ok (r, q.2) else .no
theorem rd_op {na nb : Nat} {f : D → D → Rs D} {da db : SS → Rs (D × SS)} (hc : Calm2 f) : ∀ σ H Q, TX B n (xOp n f da db) σ H Q → tOp (r2 B.K n f) (TX B na da) (TX B nb db) σ H Q := fun σ H Q q => by
  obtain ⟨T, s, sm, p⟩ := q
  refine ⟨T, s, sm, ?_⟩
  unfold xOp at p
  cases q1 : da s with
  | no => rw [q1] at p; exact p
  | ex c => rw [q1] at p; exact p
  | ok a =>
    rw [q1] at p
    obtain ⟨x, s1⟩ := a
    dsimp only [Rs.bind] at p
    intro v H1 sm1
    refine ⟨_, s1, sm1, ?_⟩
    cases q2 : db s1 with
    | no => rw [q2] at p; exact p
    | ex c => rw [q2] at p; exact p
    | ok b =>
      rw [q2] at p
      obtain ⟨y, s2⟩ := b
      dsimp only at p
      intro w H2 sm2
      refine ⟨H2, x, y, Same.refl _, sm2.temp2, sm2.temp, ?_⟩
      cases q3 : f x y with
      | no => rw [q3] at p; exact p
      | ex c => exact absurd q3 (hc x y c)
      | ok r =>
        rw [q3] at p
        dsimp only at p
        split at p
        · rename_i hf
          exact fun u H3 G3 A e rp fr => p u H3 (sm2.pop.pop.push e.hh rp hf fr.nd fun a ha => (fr.nw a ha).1)
        · exact p.elim
theorem px_op {a b : Expr} {op : Operator} {pos : Pos} {na nb : Nat} {f : D → D → Rs D} {da db : SS → Rs (D × SS)} (ho : OpR X (binaryOp op) (r2 B.K n f)) (hc : Calm2 f) (ha : PE X a (TX B na da)) (hb : PE X b (TX B nb db)) :
    PE X (.BinOp a op b pos) (TX B n (xOp n f da db)) := PE.of (pe_op ho ha hb) (rd_op hc)
theorem px_cmp {a b : Expr} {op : CmpOp} {pos : Pos} {na nb : Nat} {f : D → D → Rs D} {da db : SS → Rs (D × SS)} (ho : OpR X (compareOp op) (r2 B.K n f)) (hc : Calm2 f) (ha : PE X a (TX B na da)) (hb : PE X b (TX B nb db)) (hm : behindInMarks op b = false) :
    PE X (.Compare a [op] [b] pos) (TX B n (xOp n f da db)) := PE.of (pe_cmpR ho ha hb hm) (rd_op hc)
theorem ptx_test {n : Nat} {dx : SS → Rs (D × SS)} {Q : Bool → Hp → Prop} (h : TXt B dx σ H Q) : TX B n dx σ H (fun x H' => ∃ k, x = .bl k ∧ Q k H') := by
  obtain ⟨T, s, sm, p⟩ := h
  refine ⟨T, s, sm, ?_⟩
  cases q : dx s with
  | no => rw [q] at p; exact p
  | ex c => rw [q] at p; exact p
  | ok r =>
    rw [q] at p
    obtain ⟨r, s'⟩ := r
    cases r with
    | bool b =>
      intro v H' sm'
      have rp := sm'.temp
      simp only [Rp] at rp
      exact ⟨b, rp.1, p H' sm'.pop⟩
    | _ => exact p.elim
theorem ptx_cmp {a b : Expr} {op : CmpOp} {pos : Pos} {na nb : Nat} {f : D → D → Rs D} {da db : SS → Rs (D × SS)} (ho : OpR X (compareOp op) (r2 B.K 0 f)) (hc : Calm2 f) (ha : PE X a (TX B na da)) (hb : PE X b (TX B nb db)) (hm : behindInMarks op b = false) :
    PT X (.Compare a [op] [b] pos) (TXt B (xOp 0 f da db)) := PT.of (pt_cmpR ho ha hb hm) fun _ _ _ h => rd_op hc _ _ _ (ptx_test h)
theorem px_ix {a b : Expr} {pos : Pos} {na nb : Nat} {da db : SS → Rs (D × SS)} (hK : X.K = B.K) (ha : PE X a (TX B na da)) (hb : PE X b (TX B nb db)) (hs : PlainIx b := by exact fun _ _ => rfl) : PE X (.Subscript a b pos) (TX B 0 (xOp 0 dItem da db)) :=
  PE.of (pe_ix (hK ▸ ixItem) ha hb hs) (rd_op calmItem)
def xNot (dx : SS → Rs (D × SS)) : SS → Rs (D × SS) := fun s => (dx s).bind fun p => match p.1 with | .bool b => .ok (.bool (!b), p.2) | _ => .no
theorem ptx_not {a : Expr} {pos : Pos} {dx : SS → Rs (D × SS)} (h : PT X a (TXt B dx)) : PT X (.UnaryOp .Not a pos) (TXt B (xNot dx)) := PT.of (pt_not h) fun σ H Q q => by
  obtain ⟨T, s, sm, p⟩ := q
  refine ⟨T, s, sm, ?_⟩
  unfold xNot at p
  cases q : dx s with
  | no => rw [q] at p; exact p
  | ex c => rw [q] at p; exact p
  | ok r =>
    rw [q] at p
    obtain ⟨r, s'⟩ := r
    cases r <;> exact p
def xAnd (da db : SS → Rs (D × SS)) : SS → Rs (D × SS) := fun s => (da s).bind fun p => match p.1 with | .bool true => db p.2 | .bool false => .ok (.bool false, p.2) | _ => .no
def xOr (da db : SS → Rs (D × SS)) : SS → Rs (D × SS) := fun s => (da s).bind fun p => match p.1 with | .bool false => db p.2 | .bool true => .ok (.bool true, p.2) | _ => .no
theorem pwx_and1 {a : Expr} {pos : Pos} {d : SS → Rs (D × SS)} (h : PT X a (TXt B d)) : PW X (.BoolOp .And [a] pos) (TXt B d) := pw_and1 h
theorem pwx_or1 {a : Expr} {pos : Pos} {d : SS → Rs (D × SS)} (h : PT X a (TXt B d)) : PW X (.BoolOp .Or [a] pos) (TXt B d) := pw_or1 h
theorem pwx_and {a b : Expr} {r : List Expr} {pos : Pos} {d d' : SS → Rs (D × SS)} (h : PT X a (TXt B d)) (h' : PW X (.BoolOp .And (b :: r) pos) (TXt B d')) : PW X (.BoolOp .And (a :: b :: r) pos) (TXt B (xAnd d d')) := PW.of (pw_and h h') fun σ H Q q => by
  obtain ⟨T, s, sm, p⟩ := q
  refine ⟨T, s, sm, ?_⟩
  unfold xAnd at p
  cases q : d s with
  | no => rw [q] at p; exact p
  | ex c => rw [q] at p; exact p
  | ok r =>
    rw [q] at p
    obtain ⟨r, s'⟩ := r
    cases r with
    | bool b =>
      cases b with
      | true => exact fun H' sm' => iteT ⟨T, s', sm', p⟩
      | false => exact fun H' sm' => iteF (p H' sm')
    | _ => exact p.elim
theorem pwx_or {a b : Expr} {r : List Expr} {pos : Pos} {d d' : SS → Rs (D × SS)} (h : PT X a (TXt B d)) (h' : PW X (.BoolOp .Or (b :: r) pos) (TXt B d')) : PW X (.BoolOp .Or (a :: b :: r) pos) (TXt B (xOr d d')) := PW.of (pw_or h h') fun σ H Q q => by
  obtain ⟨T, s, sm, p⟩ := q
  refine ⟨T, s, sm, ?_⟩
  unfold xOr at p
  cases q : d s with
  | no => rw [q] at p; exact p
  | ex c => rw [q] at p; exact p
  | ok r =>
    rw [q] at p
    obtain ⟨r, s'⟩ := r
    cases r with
    | bool b =>
      cases b with
      | false => exact fun H' sm' => iteF ⟨T, s', sm', p⟩
      | true => exact fun H' sm' => iteT (p H' sm')
    | _ => exact p.elim

/-! ### arguments that are all flat -/
def vArgsX : List (SS → Rs (D × SS)) → SS → Rs (List D × SS)
  | [], s => .ok ([], s)
  | d :: r, s => (d s).bind fun p => (vArgsX r p.2).bind fun q => .ok (p.1 :: q.1, q.2)
def TXa (B : Bs) (args : List (SS → Rs (D × SS))) : TA := fun σ H Q => ∃ T s, Sm B T s σ H ∧ match vArgsX args s with
  | .no => False
  | .ex c => raises B c
  | .ok (ds, s') => ∀ vs U H', U.map (fun p => p.2.1) = ds → U.map (fun p => p.2.2) = vs → Sm B (T ++ U) s' σ H' → Q vs H'
theorem pxa_nil : PA X [] (TXa B []) := PA.of pa_nil fun σ H Q q => by
  obtain ⟨T, s, sm, p⟩ := q
  exact p [] [] H rfl rfl (by simpa using sm)
theorem pxa_cons {m : Nat} {e : Expr} {es : List Expr} {dx : SS → Rs (D × SS)} {r : List (SS → Rs (D × SS))} (h : PE X e (TX B m dx)) (hr : PA X es (TXa B r)) (hs : starEach (e :: es) X.env = (false, eval e X.env) :: starEach es X.env := by rfl) : PA X (e :: es) (TXa B (dx :: r)) :=
  PA.of (pa_cons h hr hs) fun σ H Q q => by
    obtain ⟨T, s, sm, p⟩ := q
    refine ⟨T, s, sm, ?_⟩
    simp only [vArgsX] at p
    cases q1 : dx s with
    | no => rw [q1] at p; exact p
    | ex c => rw [q1] at p; exact p
    | ok a =>
      rw [q1] at p
      obtain ⟨d, s1⟩ := a
      dsimp only [Rs.bind] at p
      intro v H1 sm1
      refine ⟨T ++ [(m, d, v)], s1, sm1, ?_⟩
      cases q2 : vArgsX r s1 with
      | no => rw [q2] at p; exact p
      | ex c => rw [q2] at p; exact p
      | ok b =>
        rw [q2] at p
        obtain ⟨xs, s2⟩ := b
        dsimp only at p ⊢
        exact fun vs U H' e1 e2 sm2 => p (v :: vs) ((m, d, v) :: U) H' (by simp [e1]) (by simp [e2]) (by simpa using sm2)
theorem Sm.temps (h : Sm B (T ++ U) s σ H) : Rps B.K H H 0 (U.map fun p => p.2.1) (U.map fun p => p.2.2) [] := by
  obtain ⟨F, As, c⟩ := h.sim
  have each : ∀ t ∈ U, Rp B.K H H 0 t.2.1 t.2.2 [] := fun t ht => by
    obtain ⟨k, hk⟩ := List.getElem?_of_mem ht
    have e : (s.zip σ ++ tE (T ++ U))[(s.zip σ).length + (T.length + k)]? = some (.dat t.1 t.2.1, some t.2.2) := by
      rw [List.getElem?_append_right (by omega), show (s.zip σ).length + (T.length + k) - (s.zip σ).length = T.length + k by omega]
      unfold tE
      rw [List.getElem?_map, List.getElem?_append_right (by omega), show T.length + k - T.length = k by omega, hk]
      rfl
    obtain ⟨w, e1, q⟩ := (c.rel _ _ _ e).view c.same rfl
    cases e1
    exact q
  clear h c
  induction U with
  | nil => simp [Rps]
  | cons u U ih =>
    simp only [List.map_cons, Rps]
    exact ⟨_, _, [], [], rfl, each u (by simp), ih fun t ht => each t (by simp [ht]), rfl⟩
def xCall (n : Nat) (op : List D → Rs D) (args : List (SS → Rs (D × SS))) : SS → Rs (D × SS) := fun s => (vArgsX args s).bind fun q => (op q.1).bind fun r => if fits n r = true then .ok (r, q.2) else .no
theorem rd_cb {op : List D → Rs D} {args : List (SS → Rs (D × SS))} (hc : Calm1 op) : ∀ σ H Q, TX B n (xCall n op args) σ H Q → tCB (rc B.K n op) (TXa B args) σ H Q := fun σ H Q q => by
  obtain ⟨T, s, sm, p⟩ := q
  refine ⟨T, s, sm, ?_⟩
  unfold xCall at p
  cases q1 : vArgsX args s with
  | no => rw [q1] at p; exact p
  | ex c => rw [q1] at p; exact p
  | ok a =>
    rw [q1] at p
    obtain ⟨ds, s1⟩ := a
    dsimp only [Rs.bind] at p ⊢
    intro vs U H' e1 e2 sm1
    have rp := sm1.temps
    rw [e1, e2] at rp
    refine ⟨H', ds, Same.refl _, rp, ?_⟩
    cases q2 : op ds with
    | no => rw [q2] at p; exact p.elim
    | ex c => exact absurd q2 (hc ds c)
    | ok r =>
      rw [q2] at p
      dsimp only at p
      split at p
      · rename_i hf
        exact ⟨r, rfl, fun v H3 G3 A e rp fr => p v H3 (sm1.pops.push e.hh rp hf fr.nd fun a ha => (fr.nw a ha).1)⟩
      · exact p.elim
/-- a tuple, a list of flat things -/
def xTup' (args : List (SS → Rs (D × SS))) : SS → Rs (D × SS) := fun s => (vArgsX args s).bind fun q => if fitsL 0 q.1 = true then .ok (.tuple q.1, q.2) else .no
def xLst' (args : List (SS → Rs (D × SS))) : SS → Rs (D × SS) := fun s => (vArgsX args s).bind fun q => if fitsL 0 q.1 = true then .ok (.list q.1, q.2) else .no
theorem vArgsX_len : ∀ {args : List (SS → Rs (D × SS))} {s s' : SS} {ds : List D}, vArgsX args s = .ok (ds, s') → ds.length = args.length
  | [], s, s', ds, h => by cases h; rfl
  | d :: r, s, s', ds, h => by
    simp only [vArgsX] at h
    cases q : d s with
    | no => rw [q] at h; cases h
    | ex c => rw [q] at h; cases h
    | ok a =>
      rw [q] at h
      dsimp only [Rs.bind] at h
      cases q2 : vArgsX r a.2 with
      | no => rw [q2] at h; cases h
      | ex c => rw [q2] at h; cases h
      | ok b =>
        rw [q2] at h
        cases h
        simp [vArgsX_len q2]
mutual
theorem fits_mono : ∀ (d : D) {m : Nat}, fits 0 d = true → fits m d = true
  | .none, m, h => by simp [fits]
  | .bool _, m, h => by simp [fits]
  | .int _, m, h => by simp [fits]
  | .str _, m, h => by simp [fits]
  | .list ds, m, h => by simp [fits] at h
  | .dict ds, m, h => by simp [fits] at h
  | .tuple ds, m, h => by
    simp only [fits] at h ⊢
    exact fitsL_mono ds h
theorem fitsL_mono : ∀ (ds : List D) {m : Nat}, fitsL 0 ds = true → fitsL m ds = true
  | [], m, h => by simp [fitsL]
  | d :: ds, m, h => by
    simp only [fitsL, Bool.and_eq_true] at h ⊢
    exact ⟨fits_mono d h.1, fitsL_mono ds h.2⟩
end
theorem rd_tup {m : Nat} {args : List (SS → Rs (D × SS))} (hl : args.length ≤ 1000) : ∀ σ H Q, TX B m (xTup' args) σ H Q → tTup (TXa B args) σ H Q := fun σ H Q q => by
  obtain ⟨T, s, sm, p⟩ := q
  refine ⟨T, s, sm, ?_⟩
  unfold xTup' at p
  cases q1 : vArgsX args s with
  | no => rw [q1] at p; exact p
  | ex c => rw [q1] at p; exact p
  | ok a =>
    rw [q1] at p
    obtain ⟨ds, s1⟩ := a
    dsimp only [Rs.bind] at p ⊢
    intro vs U H' e1 e2 sm1
    have rp := sm1.temps
    rw [e1, e2] at rp
    split at p
    · rename_i hf
      refine ⟨line1000 (by rw [← Rps.length rp, vArgsX_len q1]; exact hl), fun a ha => ?_⟩
      refine vp_tup (K := B.K) (n := m) (fun v H3 G3 A e rp' fr => p v H3 (sm1.pops.push e.hh rp' (by simp only [fits]; exact fitsL_mono ds hf) fr.nd fun a ha => (fr.nw a ha).1)) (Same.refl _) (Rps.to1 hf rp m) a ha
    · exact p.elim
theorem rd_lst {m : Nat} {args : List (SS → Rs (D × SS))} (hl : args.length ≤ 1000) : ∀ σ H Q, TX B (m + 1) (xLst' args) σ H Q → tLst (TXa B args) σ H Q := fun σ H Q q => by
  obtain ⟨T, s, sm, p⟩ := q
  refine ⟨T, s, sm, ?_⟩
  unfold xLst' at p
  cases q1 : vArgsX args s with
  | no => rw [q1] at p; exact p
  | ex c => rw [q1] at p; exact p
  | ok a =>
    rw [q1] at p
    obtain ⟨ds, s1⟩ := a
    dsimp only [Rs.bind] at p ⊢
    intro vs U H' e1 e2 sm1
    have rp := sm1.temps
    rw [e1, e2] at rp
    split at p
    · rename_i hf
      refine ⟨line1000 (by rw [← Rps.length rp, vArgsX_len q1]; exact hl), fun a ha => ?_⟩
      refine vp_lst (K := B.K) (n := m) (fun v H3 G3 A e rp' fr => p v H3 (sm1.pops.push e.hh rp' (by simp only [fits]; exact fitsL_mono ds hf) fr.nd fun a ha => (fr.nw a ha).1)) (Same.refl _) (Rps.to1 hf rp m) a ha
    · exact p.elim
theorem px_tup {m k : Nat} {es : List Expr} {pos : Pos} {args : List (SS → Rs (D × SS))} (h : PA X es (TXa B args)) (hl : args.length ≤ 1000 := by decide) : PE X (.Tuple es k pos) (TX B m (xTup' args)) := PE.of (pe_tup h) (rd_tup hl)
theorem px_lst {m : Nat} {es : List Expr} {pos : Pos} {args : List (SS → Rs (D × SS))} (h : PA X es (TXa B args)) (hl : args.length ≤ 1000 := by decide) : PE X (.List es pos) (TX B (m + 1) (xLst' args)) := PE.of (pe_lst h) (rd_lst hl)

/-! ### names: moved, frozen -/
/-- the slot's thing is handed on, the slot is empty then -/
def xMove (i m : Nat) : SS → Rs (D × SS) := fun s => match s[i]? with
  | some (.dat k d) => if k = m then .ok (d, put s i .bot) else .no
  | _ => .no
theorem SimE.move {es : Es} {i m : Nat} {d : D} {v : V} (hN : B.N ≤ es.length) (hi : i < B.N) (e : es[i]? = some (.dat m d, some v)) (h : SimE B es H) : SimE B ((tchE i es).set i (.bot, some v) ++ [(.dat m d, some v)]) H := by
  obtain ⟨F, As, c⟩ := h
  let L := es.length
  have hL : i ≠ L := by show i ≠ es.length; omega
  let As' := ups (ups As i []) L (As i)
  have aI : As' i = [] := by show ups (ups As i []) L (As i) i = _; rw [ups_ne hL, ups_same]
  have aL : As' L = As i := ups_same
  have aO : ∀ k, k ≠ i → k ≠ L → As' k = As k := fun k h1 h2 => by show ups (ups As i []) L (As i) k = _; rw [ups_ne h2, ups_ne h1]
  have mem : ∀ k x, x ∈ As' k → ∃ j, x ∈ As j ∧ (k = L → j = i) ∧ (k ≠ L → j = k ∧ k ≠ i) := fun k x hx => by
    by_cases q : k = L
    · subst q; rw [aL] at hx; exact ⟨i, hx, fun _ => rfl, fun z => absurd rfl z⟩
    · by_cases q2 : k = i
      · rw [q2, aI] at hx; simp at hx
      · rw [aO k q2 q] at hx; exact ⟨k, hx, fun z => absurd z q, fun _ => ⟨rfl, q2⟩⟩
  have hlen : ((tchE i es).set i (Slot.bot, some v)).length = L := by simp [tchE, L]
  refine ⟨F, As', fun k x ov q => ?_, fun k j d' ov' q => ?_, fun k => ?_, fun k j hkj x hx z => ?_, fun k x hx => ?_, fun k x hx => ?_, c.same, c.keep, c.f0, c.fn, fun k x hx => ?_⟩
  · by_cases z : k < L
    · rw [List.getElem?_append_left (by rw [hlen]; exact z)] at q
      by_cases z2 : k = i
      · subst z2
        rw [List.getElem?_set_self (by unfold tchE; simp; omega)] at q
        cases q
        trivial
      · rw [List.getElem?_set_ne (Ne.symm z2)] at q
        obtain ⟨y, e2, rfl⟩ := tchE_get q
        rw [aO k z2 (by omega)]
        refine tch_bot (c.rel k y ov e2) fun j hj d'' ey => aO j hj ?_
        subst ey
        have := c.vw k j d'' ov e2
        show j ≠ es.length
        omega
    · rw [List.getElem?_append_right (by rw [hlen]; omega), hlen] at q
      have : k - L = 0 := by
        by_cases y : k - L = 0
        · exact y
        · rw [List.getElem?_eq_none (by show 1 ≤ k - L; omega)] at q; cases q
      rw [this] at q
      cases q
      have : k = L := by omega
      subst this
      rw [aL]
      exact c.rel i _ _ e
  · by_cases z : k < L
    · rw [List.getElem?_append_left (by rw [hlen]; exact z)] at q
      by_cases z2 : k = i
      · subst z2
        rw [List.getElem?_set_self (by unfold tchE; simp; omega)] at q
        cases q
      · rw [List.getElem?_set_ne (Ne.symm z2)] at q
        obtain ⟨y, e2, e3⟩ := tchE_get q
        obtain ⟨rfl, _⟩ := tch_vw e3.symm
        exact c.vw k j d' ov' e2
    · rw [List.getElem?_append_right (by rw [hlen]; omega), hlen] at q
      by_cases y : k - L = 0
      · rw [y] at q; cases q
      · rw [List.getElem?_eq_none (by show 1 ≤ k - L; omega)] at q; cases q
  · by_cases q : k = L
    · subst q; rw [aL]; exact c.nd i
    · by_cases q2 : k = i
      · rw [q2, aI]; exact List.nodup_nil
      · rw [aO k q2 q]; exact c.nd k
  · obtain ⟨m1, h1, h2, h3⟩ := mem k x hx
    obtain ⟨m2, k1, k2, k3⟩ := mem j x z
    by_cases e : m1 = m2
    · subst e
      by_cases q : k = L
      · have := h2 q
        have q' : j ≠ L := by omega
        obtain ⟨e1, e2⟩ := k3 q'
        omega
      · obtain ⟨e1, e2⟩ := h3 q
        by_cases q' : j = L
        · have := k2 q'; omega
        · obtain ⟨e3, e4⟩ := k3 q'; omega
    · exact c.dj m1 m2 e x h1 k1
  · obtain ⟨m, h1, _⟩ := mem k x hx; exact c.fz m x h1
  · obtain ⟨m, h1, _⟩ := mem k x hx; exact c.ow m x h1
  · obtain ⟨m, h1, _⟩ := mem k x hx; exact c.an m x h1
theorem rd_move {i m : Nat} : ∀ σ H Q, TX B m (xMove i m) σ H Q → tVar i σ H Q := fun σ H Q q => by
  obtain ⟨T, s, sm, p⟩ := q
  unfold xMove at p
  cases q0 : s[i]? with
  | none => rw [q0] at p; exact p.elim
  | some sl =>
    rw [q0] at p
    cases sl with
    | bot => exact p.elim
    | vw _ _ => exact p.elim
    | dat k d =>
      dsimp only at p
      by_cases hk : k = m
      · rw [if_pos hk] at p
        subst hk
        obtain ⟨ov, F, As, ev, c, v, rfl, rr⟩ := sm.slot q0
        refine ⟨v, ev, p v H ?_⟩
        obtain ⟨ov', q1, q2⟩ := zip_get q0 (sm.ls.trans sm.lσ.symm)
        rw [ev] at q1
        cases q1
        have e : (s.zip σ ++ tE T)[i]? = some (.dat k d, some v) := by
          rw [List.getElem?_append_left (List.getElem?_eq_some_iff.mp q2).1]
          exact q2
        have hi := sm.lt q0
        have z := SimE.move (by rw [List.length_append, sm.zl]; omega) hi e sm.sim
        rw [set_zip sm.ls sm.lσ hi ev] at z
        refine ⟨by simp [put, sm.ls], sm.lσ, sm.pin, ?_⟩
        rw [tE_app, ← List.append_assoc]
        exact z
      · rw [if_neg hk] at p; exact p.elim
theorem px_move {m : Nat} {x : Str} {pos : Pos} (i : Nat) (hN : X.N[i]? = some x := by rfl) (hv : Vis X.env.scope x := by first | exact Or.inl rfl | exact Or.inr (Or.inl rfl) | exact Or.inr (Or.inr rfl)) (hd : (x == ("__debug__" : Str)) = false := by decide)
    (hcd : (x == ("__classdict__" : Str)) = false := by decide) : PE X (.Name x pos) (TX B m (xMove i m)) := PE.of (pe_var hN hv hd hcd) rd_move
/-- what is frozen, seen alone -/
def frzOf : Slot → Option D
  | .dat 0 d => some d
  | .dat _ d => if fits 0 d = true then some d else none
  | _ => none
def xF (dv : VS → Rs D) : SS → Rs (D × SS) := fun s => (dv (s.map frzOf)).bind fun r => .ok (r, s)
theorem SimC.pushG {F G' : Hp} {As : Nat → List Addr} {es : Es} {d : D} {x : V} (hN : B.N ≤ es.length) (c : SimC B F As es H) (e : Evl F H G' H') (rp : Rp B.K G' H' 0 d x []) : SimC B G' (ups As es.length []) (es ++ [(.dat 0 d, some x)]) H' := by
  have c1 : SimC B G' As es H' := by
    refine ⟨fun i y ov q => ?_, c.vw, c.nd, c.dj, fun i a ha => ?_, fun i a ha => (c.ow i a ha).same e.hh, e.gh, c.keep.same e.hh, c.f0.trans e.gg, fun a ha => ?_, c.an⟩
    · have r := c.rel i y ov q
      cases y with
      | bot => trivial
      | dat n d => obtain ⟨v, e1, r⟩ := r; exact ⟨v, e1, Rp.mono e.hh.tups e.gg d (.of_same e.hh) r⟩
      | vw j d =>
        obtain ⟨v, e1, r⟩ := r
        exact ⟨v, e1, Rp.mono e.hh.tups (plus_mono2 e.gg (.of_same e.hh) fun a ha => (c.ow j a ha).some) d (fun _ z => by simp at z) r⟩
    · refine none_of fun z => ?_
      rcases e.nw a z with z | z
      · exact z (c.fz i a ha)
      · exact (c.ow i a ha).some z
    · rcases e.nw a ha with z | z
      · exact c.fn a z
      · right
        by_cases q : B.A0 a
        · exact .inl q
        · right
          cases h0 : B.H0 a with
          | none => rfl
          | some o => have := c.keep a o h0 q; rw [z] at this; cases this
  exact c1.pushZ hN rp
theorem Sm.viewF {F : Hp} {As : Nat → List Addr} (h : Sm B T s σ H) (c : SimC B F As (s.zip σ ++ tE T) H) : SV B.K F H (s.map frzOf) σ := by
  refine ⟨by rw [List.length_map, h.ls, h.lσ], fun i d hi => ?_⟩
  rw [List.getElem?_map] at hi
  cases q : s[i]? with
  | none => rw [q] at hi; cases hi
  | some x =>
    rw [q] at hi
    have hi' : frzOf x = some d := Option.some.inj hi
    obtain ⟨ov, e1, e2⟩ := zip_get q (h.ls.trans h.lσ.symm)
    have e3 : (s.zip σ ++ tE T)[i]? = some (x, ov) := by
      rw [List.getElem?_append_left (List.getElem?_eq_some_iff.mp e2).1]
      exact e2
    have r := c.rel i x ov e3
    cases x with
    | bot => cases hi'
    | vw _ _ => cases hi'
    | dat n d' =>
      obtain ⟨v, rfl, r⟩ := r
      cases n with
      | zero =>
        have hd : d' = d := Option.some.inj hi'
        subst hd
        have rn := Rp.nil d' r
        rw [rn] at r
        exact ⟨v, e1, r⟩
      | succ n =>
        simp only [frzOf] at hi'
        split at hi'
        · rename_i hf
          have hd : d' = d := Option.some.inj hi'
          subst hd
          exact ⟨v, e1, (Rp.flat (m := 0) d' hf r).2⟩
        · cases hi'
/-- of frozen things: what comes is frozen -/
theorem px_F {e : Expr} {dv : VS → Rs D} (h : PE X e (TV B.K B.ρ B.E 0 dv)) : PE X e (TX B 0 (xF dv)) := PE.of h fun σ H Q q => by
  obtain ⟨T, s, sm, p⟩ := q
  obtain ⟨F, As, c⟩ := sm.sim
  refine ⟨F, s.map frzOf, c.same, sm.viewF c, ?_⟩
  unfold xF at p
  cases q : dv (s.map frzOf) with
  | no => rw [q] at p; exact p
  | ex c => rw [q] at p; exact fun H' g => p H' (sm.keep.same g)
  | ok r =>
    rw [q] at p
    intro v H' G' A e rp fr
    have rn := Rp.nil r rp
    rw [rn] at rp
    refine p v H' ⟨sm.ls, sm.lσ, sm.pin, ?_⟩
    rw [tE_app, ← List.append_assoc]
    exact ⟨_, _, c.pushG (by rw [List.length_append, sm.zl]; omega) e rp⟩
/-- an item of a frozen slot, the place reckoned with changes -/
def xIxF (j : Nat) (di : SS → Rs (D × SS)) : SS → Rs (D × SS) := fun s => match s[j]? with
  | some (.dat _ _) => (di s).bind fun p => match p.2[j]? with
    | some (.dat 0 d) => (dItem d p.1).bind fun r => .ok (r, p.2)
    | _ => .no
  | _ => .no
theorem px_ixF {m j : Nat} {b : Expr} {x : Str} {pos pos' : Pos} {di : SS → Rs (D × SS)} (hK : X.K = B.K) (hb : PE X b (TX B m di)) (hN : X.N[j]? = some x := by rfl) (hv : Vis X.env.scope x := by first | exact Or.inl rfl | exact Or.inr (Or.inl rfl) | exact Or.inr (Or.inr rfl))
    (hs : PlainIx b := by exact fun _ _ => rfl) (hd : (x == ("__debug__" : Str)) = false := by decide)
    (hcd : (x == ("__classdict__" : Str)) = false := by decide) : PE X (.Subscript (.Name x pos') b pos) (TX B 0 (xIxF j di)) := PE.of (pe_ix (ix_list.or ix_tup) (pe_var hN hv hd hcd) hb hs) fun σ H Q q => by
  obtain ⟨T, s, sm, p⟩ := q
  unfold xIxF at p
  cases q0 : s[j]? with
  | none => rw [q0] at p; exact p.elim
  | some sl =>
    rw [q0] at p
    cases sl with
    | bot => exact p.elim
    | vw _ _ => exact p.elim
    | dat k0 d0 =>
      obtain ⟨ov, _, _, ev, _, v, rfl, _⟩ := sm.slot q0
      refine ⟨v, ev, T, s, sm, ?_⟩
      cases q1 : di s with
      | no => rw [q1] at p; exact p
      | ex c => rw [q1] at p; exact p
      | ok a =>
        rw [q1] at p
        obtain ⟨i, s1⟩ := a
        rw [Rs.bind_ok] at p
        intro w H1 sm1
        have ri := sm1.temp
        cases q2 : s1[j]? with
        | none => rw [q2] at p; exact p.elim
        | some sl =>
          rw [q2] at p
          cases sl with
          | bot => exact p.elim
          | vw _ _ => exact p.elim
          | dat k d =>
            cases k with
            | succ k => exact p.elim
            | zero =>
              have p : xPost B T σ 0 Q ((dItem d i).bind fun r => Rs.ok (r, s1)) := p
              obtain ⟨ov, F, As, ev', c, v', ee, rd⟩ := sm1.pop.slot q2
              rw [ev] at ev'
              cases ev'
              cases ee
              have rn := Rp.nil d rd
              rw [rn] at rd
              cases q3 : dItem d i with
              | no => rw [q3] at p; exact p.elim
              | ex c => exact absurd q3 (calmItem d i c)
              | ok r =>
                rw [q3] at p
                have fin : ∀ x, Rp B.K F H1 0 r x [] → Q x H1 := fun x rx => p x H1 (sm1.pop.pushZ ⟨F, As, c, rx⟩)
                rw [hK]
                unfold dItem at q3
                split at q3
                · rename_i xs z
                  cases q4 : atI xs z with
                  | none => rw [q4] at q3; cases q3
                  | some e =>
                    rw [q4] at q3
                    cases q3
                    simp only [Rp] at rd ri
                    obtain ⟨_, a, vs, rfl, k1, r1⟩ := rd
                    obtain ⟨y, k2, r2⟩ := Rps.atI r1 q4
                    exact .inl ⟨a, vs, z, y, rfl, ri.1, c.same.seq k1, k2, fin y r2⟩
                · rename_i xs z
                  cases q4 : atI xs z with
                  | none => rw [q4] at q3; cases q3
                  | some e =>
                    rw [q4] at q3
                    cases q3
                    simp only [Rp] at rd ri
                    obtain ⟨a, vs, rfl, k1, r1⟩ := rd
                    obtain ⟨y, k2, r2⟩ := Rps.atI r1 q4
                    exact .inr ⟨a, vs, z, y, rfl, ri.1, k1, k2, fin y r2⟩
                · cases q3

/-! ### unpacking, two names at once -/
def oUnp (dx : SS → Rs (D × SS)) (t : Tgx) : SS → Oc := fun s => match dx s with | .ok (r, s') => (match t r s' with | .ok s2 => .nx s2 | _ => .no) | .ex c => .ex c | .no => .no
theorem asgT_rd {g : TG} {t : Tgx} {dx : SS → Rs (D × SS)} {te : TE} {tg : Expr} (hg : PGX X B tg g t) (he : ∀ σ H Q, TX B 0 dx σ H Q → te σ H Q) : ∀ Dn σ H, TSt B n (oUnp dx t) Dn σ H → tAsg te g Dn σ H := fun Dn σ H q => by
  obtain ⟨T, s, sm, p⟩ := q
  unfold oUnp at p
  refine he _ _ _ ⟨T, s, sm, ?_⟩
  cases q : dx s with
  | no => rw [q] at p; exact p
  | ex c => rw [q] at p; exact p
  | ok r =>
    rw [q] at p
    obtain ⟨r, s'⟩ := r
    dsimp only at p
    intro v H' sm'
    refine hg.rd T s' σ H' r v _ sm' ?_
    cases q2 : t r s' with
    | no => rw [q2] at p; exact p.elim
    | ex c => rw [q2] at p; exact p.elim
    | ok s2 => rw [q2] at p; exact fun σ' sm2 => p σ' H' sm2
theorem so_unp {tg e : Expr} {pos : Pos} {g : TG} {t : Tgx} {dx : SS → Rs (D × SS)} (hg : PGX X B tg g t) (he : PE X e (TX B 0 dx)) (hs : swapsWithSole [tg] e pos.line X.env = pure false := by rfl) (hw : swappedStores [tg] e X.env = pure none := by rfl)
    (h1 : (assignEach [tg] X.env).map (·.2) = [assign tg X.env] := by rfl) : PS X (.Assign [tg] e pos) (TSt B n (oUnp dx t)) := PS.of (ps_asg he hg.pg hs hw h1) (asgT_rd hg fun _ _ _ z => z)
/-- a, b = x, y -/
def oPair (i j m m' : Nat) (dx dy : SS → Rs (D × SS)) : SS → Oc := fun s => match dx s with
  | .ok (r, s1) => (match dy s1 with | .ok (r', s2) => .nx (put (put s2 j (.dat m' r')) i (.dat m r)) | .ex c => .ex c | .no => .no)
  | .ex c => .ex c
  | .no => .no
theorem rd_pair {i j m m' : Nat} {dx dy : SS → Rs (D × SS)} (hi : i < B.N) (hj : j < B.N) (hij : i ≠ j) (pi : i ∉ B.P) (pj : j ∉ B.P) : ∀ Dn σ H, TSt B n (oPair i j m m' dx dy) Dn σ H → tPar i j (tCons (TX B m dx) (tCons (TX B m' dy) tNil)) Dn σ H := fun Dn σ H q => by
  obtain ⟨T, s, sm, p⟩ := q
  refine ⟨T, s, sm, ?_⟩
  unfold oPair at p
  cases q : dx s with
  | no => rw [q] at p; exact p
  | ex c => rw [q] at p; exact p
  | ok r =>
    rw [q] at p
    obtain ⟨r, s1⟩ := r
    intro v H1 sm1
    refine ⟨_, s1, sm1, ?_⟩
    dsimp only at p
    cases q2 : dy s1 with
    | no => rw [q2] at p; exact p
    | ex c => rw [q2] at p; exact p
    | ok r' =>
      rw [q2] at p
      obtain ⟨r', s2⟩ := r'
      intro w H2 sm2
      refine ⟨v, w, rfl, ?_⟩
      rw [List.set_comm _ _ hij]
      exact p _ H2 ((sm2.store hj pj).store hi pi)
end
end PL

set_option maxRecDepth 100000
/-! PL16: items stored, slices stored, comprehensions with changes, raise. -/
namespace PL
open PySem PySem.Spec PyProof.Rows L2
section
variable {X : Cx} {B : Bs} {T U : Tm} {s : SS} {σ : L2.St} {H H' : Hp} {n : Nat}
theorem Rps.focus {K : PySem.W.Frag} {G : Hp} {n : Nat} : ∀ {ds : List D} {vs : List V} {A : List Addr} {j : Nat} {d : D}, Rps K G H n ds vs A → ds[j]? = some d → ∃ w A1 Bd A2, vs[j]? = some w ∧ A = A1 ++ (Bd ++ A2) ∧ Rp K G H n d w Bd ∧
    ∀ (G' H' : Hp) (d' : D) (w' : V) (B' : List Addr), Tups H H' → Same G G' → Stays A1 H H' → Stays A2 H H' → Rp K G' H' n d' w' B' → Rps K G' H' n (ds.set j d') (vs.set j w') (A1 ++ (B' ++ A2))
  | [], vs, A, j, d, h, e => by simp at e
  | x :: ds, vs, A, 0, d, h, e => by
    simp only [Rps] at h
    obtain ⟨v, r, A1, A2, rfl, h1, h2, rfl⟩ := h
    obtain rfl : x = d := by simpa using e
    refine ⟨v, [], A1, A2, rfl, rfl, h1, fun G' H' d' w' B' t g s1 s2 r' => ?_⟩
    simp only [List.set_cons_zero, List.nil_append, Rps]
    exact ⟨w', r, B', A2, rfl, r', Rps.mono t g ds s2 h2, rfl⟩
  | x :: ds, vs, A, j + 1, d, h, e => by
    simp only [Rps] at h
    obtain ⟨v, r, A1, A2, rfl, h1, h2, rfl⟩ := h
    obtain ⟨w, C1, Bd, C2, e1, e2, e3, e4⟩ := Rps.focus (j := j) (d := d) h2 (by simpa using e)
    subst e2
    refine ⟨w, A1 ++ C1, Bd, C2, by simpa using e1, by rw [List.append_assoc], e3, fun G' H' d' w' B' t g s1 s2 r' => ?_⟩
    simp only [List.set_cons_succ, Rps]
    exact ⟨v, _, A1, C1 ++ (B' ++ C2), rfl, Rp.mono t g x s1.left h1, e4 G' H' d' w' B' t g s1.right s2 r', by rw [List.append_assoc]⟩
theorem Sm.setI {i m j : Nat} {ds : List D} {old r : D} {y : V} {a : Addr} {vs : List V} (h : Sm B (T ++ [(m, r, y)]) s σ H) (e : s[i]? = some (.dat (m + 1) (.list ds))) (hσ : σ[i]? = some (some (.ref a))) (ha : H a = some (.lst vs)) (hj : ds[j]? = some old) :
    Sm B T (PL.put s i (.dat (m + 1) (.list (ds.set j r)))) σ (upd H a (.lst (vs.set j y))) := by
  refine Sm.mut h e (fun F As v c e1 rp rt _ => ?_) fun F As v r => rp_lst_ne r
  rw [hσ] at e1
  cases e1
  simp only [Rp] at rp
  obtain ⟨a', vs', A, ea, q, r1, eA⟩ := rp
  cases ea
  rw [ha] at q
  cases q
  obtain ⟨w, A1, Bd, A2, _, rfl, _, reb⟩ := Rps.focus r1 hj
  have ndI := c.nd i
  rw [eA] at ndI
  obtain ⟨nA, ndA⟩ := List.nodup_cons.mp ndI
  have hi := h.lt e
  have hne : i ≠ (s.zip σ ++ tE T).length := by rw [List.length_append, h.zl]; omega
  have dis : ∀ x ∈ As i, x ∉ As (s.zip σ ++ tE T).length := c.dj i _ hne
  have nT : a ∉ As (s.zip σ ++ tE T).length := dis a (by rw [eA]; simp)
  have own : IsOwn H a := .inl ⟨vs, ha⟩
  have n1 : a ∉ A1 := fun z => nA (by simp [z])
  have n2 : a ∉ A2 := fun z => nA (by simp [z])
  obtain ⟨d1, d2, d3⟩ := List.nodup_append.mp ndA
  obtain ⟨d4, d5, d6⟩ := List.nodup_append.mp d2
  refine ⟨a, .lst (vs.set j y), a :: (A1 ++ (As (s.zip σ ++ tE T).length ++ A2)), by rw [eA]; simp, trivial, rfl, ?_, ?_, fun x hx => ?_⟩
  · simp only [Rp]
    exact ⟨a, _, _, rfl, upd_same, reb _ _ _ _ _ (tups_own own) (Same.refl _) (stays_upd n1) (stays_upd n2) (Rp.mono (tups_own own) (Same.refl _) r (stays_upd nT) rt), rfl⟩
  · refine List.nodup_cons.mpr ⟨fun z => ?_, List.nodup_append.mpr ⟨d1, List.nodup_append.mpr ⟨c.nd _, d5, fun x hx y hy => ?_⟩, fun x hx y hy => ?_⟩⟩
    · rcases List.mem_append.mp z with z | z
      · exact n1 z
      · rcases List.mem_append.mp z with z | z
        · exact nT z
        · exact n2 z
    · rintro rfl
      exact dis x (by rw [eA]; simp [hy]) hx
    · rintro rfl
      rcases List.mem_append.mp hy with z | z
      · exact dis x (by rw [eA]; simp [hx]) z
      · exact d3 x hx x (by simp [z]) rfl
  · rw [eA]
    rcases List.mem_cons.mp hx with rfl | hx
    · left; simp
    · rcases List.mem_append.mp hx with hx | hx
      · left; simp [hx]
      · rcases List.mem_append.mp hx with hx | hx
        · right; exact hx
        · left; simp [hx]
/-- x[e] = v -/
def oSetI (i m : Nat) (dx di : SS → Rs (D × SS)) : SS → Oc := fun s => match dx s with
  | .ok (r, s1) => (match s1[i]? with
    | some (.dat _ _) => (match di s1 with
      | .ok (.int k, s2) => (match lstOf s2[i]? with
        | some (m', ds) => (match ixN ds.length k with
          | some j => if m' = m then .nx (put s2 i (.dat (m + 1) (.list (ds.set j r)))) else .no
          | none => .no)
        | none => .no)
      | .ex c => .ex c
      | _ => .no)
    | _ => .no)
  | .ex c => .ex c
  | .no => .no
theorem Sm.swap {x y : Nat × D × V} (h : Sm B (T ++ [x] ++ [y]) s σ H) : Sm B (T ++ [x]) s σ H := h.pop
theorem rd_setI {i m k : Nat} {dx di : SS → Rs (D × SS)} : ∀ Dn σ H, TSt B n (oSetI i m dx di) Dn σ H → tAsg (TX B m dx) (gSub (tVar i) (TX B k di) rSetL) Dn σ H := fun Dn σ H q => by
  obtain ⟨T, s, sm, p⟩ := q
  refine ⟨T, s, sm, ?_⟩
  unfold oSetI at p
  cases q : dx s with
  | no => rw [q] at p; exact p
  | ex c => rw [q] at p; exact p
  | ok r =>
    rw [q] at p
    obtain ⟨r, s1⟩ := r
    intro y H1 sm1
    dsimp only at p
    cases q1 : s1[i]? with
    | none => rw [q1] at p; exact p.elim
    | some sl =>
      rw [q1] at p
      cases sl with
      | bot => exact p.elim
      | vw _ _ => exact p.elim
      | dat k0 d0 =>
        obtain ⟨ov, _, _, ev, _, v, rfl, _⟩ := sm1.slot q1
        refine ⟨v, ev, _, s1, sm1, ?_⟩
        dsimp only at p
        cases q2 : di s1 with
        | no => rw [q2] at p; exact p
        | ex c => rw [q2] at p; exact p
        | ok a =>
          rw [q2] at p
          obtain ⟨a, s2⟩ := a
          cases a with
          | int z =>
            intro w H2 sm2
            have rz := sm2.temp
            simp only [Rp] at rz
            dsimp only at p
            cases q3 : lstOf s2[i]? with
            | none => rw [q3] at p; exact p.elim
            | some md =>
              obtain ⟨m', ds⟩ := md
              rw [q3] at p
              dsimp only at p
              cases q4 : ixN ds.length z with
              | none => rw [q4] at p; exact p.elim
              | some j =>
                rw [q4] at p
                dsimp only at p
                by_cases hm : m' = m
                · rw [if_pos hm] at p
                  subst hm
                  obtain ⟨a, vs, e3, e4, e5⟩ := sm2.pop.lst (lstOf_some q3)
                  rw [ev] at e3
                  cases e3
                  obtain ⟨_, hj, _⟩ := ixN_seq q4
                  exact ⟨a, vs, z, j, rfl, rz.1, e4, by rw [e5]; exact q4, p σ _ (sm2.pop.setI (lstOf_some q3) ev e4 (List.getElem?_eq_getElem hj))⟩
                · rw [if_neg hm] at p; exact p.elim
          | _ => exact p.elim

/-! ### x[e1][e2] = v, the places seen -/
/-- the inner list, by its place -/
def rowOf : Option Slot → Int → Option (Nat × List D × Nat × List D)
  | some (.dat (k + 2) (.list rows)), z => match ixN rows.length z with
    | some j => match rows[j]? with
      | some (.list ds) => some (k, rows, j, ds)
      | _ => none
    | none => none
  | _, _ => none
theorem rowOf_some {o : Option Slot} {z : Int} {k j : Nat} {rows ds : List D} (h : rowOf o z = some (k, rows, j, ds)) : o = some (.dat (k + 2) (.list rows)) ∧ ixN rows.length z = some j ∧ rows[j]? = some (.list ds) := by
  unfold rowOf at h
  split at h
  · split at h
    · rename_i q
      split at h
      · rename_i q2
        cases h
        exact ⟨rfl, q, q2⟩
      · cases h
    · cases h
  · cases h
theorem Sm.row {i k j : Nat} {rows ds : List D} (h : Sm B T s σ H) (e : s[i]? = some (.dat (k + 2) (.list rows))) (hj : rows[j]? = some (.list ds)) : ∃ a vs b ws, σ[i]? = some (some (.ref a)) ∧ H a = some (.lst vs) ∧ vs.length = rows.length ∧ vs[j]? = some (.ref b) ∧ H b = some (.lst ws) ∧ ws.length = ds.length := by
  obtain ⟨ov, F, As, e1, c, v, rfl, r⟩ := h.slot e
  simp only [Rp] at r
  obtain ⟨a, vs, A, rfl, q, r, _⟩ := r
  obtain ⟨w, A1, Bd, A2, k1, _, k2, _⟩ := Rps.focus r hj
  simp only [Rp] at k2
  obtain ⟨b, ws, C, rfl, q2, r2, _⟩ := k2
  exact ⟨a, vs, b, ws, e1, q, (Rps.length r).symm, k1, q2, (Rps.length r2).symm⟩
/-- the inner list at b changed: its new items and what they own -/
theorem Sm.mutRow {i k j : Nat} {rows ds ds' : List D} {t : Nat × D × V} {a b : Addr} {vs ws ws' : List V} (h : Sm B (T ++ [t]) s σ H) (e : s[i]? = some (.dat (k + 2) (.list rows))) (hj : rows[j]? = some (.list ds)) (hσ : σ[i]? = some (some (.ref a))) (ha : H a = some (.lst vs)) (hv : vs[j]? = some (.ref b))
    (hb : H b = some (.lst ws)) (go : ∀ (F : Hp) (C : List Addr) (Al : List Addr), Rps B.K F H k ds ws C → Rp B.K F H t.1 t.2.1 t.2.2 Al → b ∉ C → b ∉ Al → C.Nodup → Al.Nodup → (∀ x ∈ C, x ∉ Al) → ∃ C', Rps B.K F (upd H b (.lst ws')) k ds' ws' C' ∧ C'.Nodup ∧ ∀ x ∈ C', x ∈ C ∨ x ∈ Al) :
    Sm B T (PL.put s i (.dat (k + 2) (.list (rows.set j (.list ds'))))) σ (upd H b (.lst ws')) := by
  refine Sm.mut h e (fun F As v c e1 rp rt _ => ?_) fun F As v r => rp_lst_ne r
  rw [hσ] at e1
  cases e1
  simp only [Rp] at rp
  obtain ⟨a', vs', A, ea, q, r1, eA⟩ := rp
  cases ea
  rw [ha] at q
  cases q
  obtain ⟨w, A1, Bd, A2, k1, rfl, k2, reb⟩ := Rps.focus r1 hj
  rw [hv] at k1
  cases k1
  simp only [Rp] at k2
  obtain ⟨b', ws0, C, eb, q2, r2, eC⟩ := k2
  cases eb
  rw [hb] at q2
  cases q2
  subst eC
  have ndI := c.nd i
  rw [eA] at ndI
  obtain ⟨nA, ndA⟩ := List.nodup_cons.mp ndI
  have hi := h.lt e
  have hne : i ≠ (s.zip σ ++ tE T).length := by rw [List.length_append, h.zl]; omega
  have dis : ∀ x ∈ As i, x ∉ As (s.zip σ ++ tE T).length := c.dj i _ hne
  obtain ⟨d1, d2, d3⟩ := List.nodup_append.mp ndA
  obtain ⟨d4, d5, d6⟩ := List.nodup_append.mp d2
  obtain ⟨nb, ndC⟩ := List.nodup_cons.mp d4
  obtain ⟨C', g1, g2, g3⟩ := go F C _ r2 rt nb (dis b (by rw [eA]; simp)) ndC (c.nd _) fun x hx => dis x (by rw [eA]; simp [hx])
  have own : IsOwn H b := .inl ⟨ws, hb⟩
  have nb1 : b ∉ A1 := fun z => d3 b z b (by simp) rfl
  have nb2 : b ∉ A2 := fun z => d6 b (by simp) b z rfl
  have nab : b ≠ a := fun z => nA (by rw [← z]; simp)
  refine ⟨b, .lst ws', a :: (A1 ++ ((b :: C') ++ A2)), by rw [eA]; simp, trivial, rfl, ?_, ?_, fun x hx => ?_⟩
  · simp only [Rp]
    have es : vs.set j (.ref b) = vs := by
      obtain ⟨h1, h2⟩ := List.getElem?_eq_some_iff.mp hv
      rw [← h2, List.set_getElem_self]
    have z := reb F (upd H b (.lst ws')) (.list ds') (.ref b) (b :: C') (tups_own own) (Same.refl _) (stays_upd nb1) (stays_upd nb2) (by simp only [Rp]; exact ⟨b, ws', C', rfl, upd_same, g1, rfl⟩)
    rw [es] at z
    exact ⟨a, vs, _, rfl, by rw [upd_ne (Ne.symm nab)]; exact ha, z, rfl⟩
  · have out : ∀ x ∈ C', x ∉ A1 ∧ x ∉ A2 ∧ x ≠ a ∧ x ≠ b := fun x hx => by
      rcases g3 x hx with z | z
      · exact ⟨fun y => d3 x y x (by simp [z]) rfl, fun y => d6 x (by simp [z]) x y rfl, fun y => nA (by rw [← y]; simp [z]), fun y => nb (by rw [← y]; exact z)⟩
      · exact ⟨fun y => dis x (by rw [eA]; simp [y]) z, fun y => dis x (by rw [eA]; simp [y]) z, fun y => dis x (by rw [eA, y]; simp) z, fun y => dis x (by rw [eA, y]; simp) z⟩
    refine List.nodup_cons.mpr ⟨fun z => ?_, List.nodup_append.mpr ⟨d1, List.nodup_append.mpr ⟨List.nodup_cons.mpr ⟨fun z => (out b z).2.2.2 rfl, g2⟩, d5, fun x hx y hy => ?_⟩, fun x hx y hy => ?_⟩⟩
    · rcases List.mem_append.mp z with z | z
      · exact nA (by simp [z])
      · rcases List.mem_append.mp z with z | z
        · rcases List.mem_cons.mp z with z | z
          · exact nab z.symm
          · exact (out a z).2.2.1 rfl
        · exact nA (by simp [z])
    · rintro rfl
      rcases List.mem_cons.mp hx with rfl | hx
      · exact nb2 hy
      · exact (out x hx).2.1 hy
    · rintro rfl
      rcases List.mem_append.mp hy with z | z
      · rcases List.mem_cons.mp z with rfl | z
        · exact nb1 hx
        · exact (out x z).1 hx
      · exact d3 x hx x (by simp [z]) rfl
  · rw [eA]
    rcases List.mem_cons.mp hx with rfl | hx
    · left; simp
    · rcases List.mem_append.mp hx with hx | hx
      · left; simp [hx]
      · rcases List.mem_append.mp hx with hx | hx
        · rcases List.mem_cons.mp hx with rfl | hx
          · left; simp
          · rcases g3 x hx with z | z
            · left; simp [z]
            · right; exact z
        · left; simp [hx]
/-- two views, ints -/
def vInt2 (d1 d2 : VS → Rs D) (s : SS) : Rs (Int × Int) := (d1 (s.map viewOf)).bind fun a => (d2 (s.map viewOf)).bind fun b => match a, b with | .int x, .int y => .ok (x, y) | _, _ => .no
def oSetII (i m : Nat) (dx : SS → Rs (D × SS)) (d1 d2 : VS → Rs D) : SS → Oc := fun s => match dx s with
  | .ok (r, s1) => (match d1 (s1.map viewOf) with
    | .ok (.int x) => (match rowOf s1[i]? x with
      | some (k, rows, j, ds) => (match d2 (s1.map viewOf) with
        | .ok (.int y) => (match ixN ds.length y with
          | some l => if k = m then .nx (put s1 i (.dat (k + 2) (.list (rows.set j (.list (ds.set l r)))))) else .no
          | none => .no)
        | _ => .no)
      | none => .no)
    | _ => .no)
  | .ex c => .ex c
  | .no => .no
/-- the row's own address -/
theorem rd_row {i k j : Nat} {x : Int} {rows ds : List D} {d1 : VS → Rs D} {R : VK} (sm : Sm B T s σ H) (q : d1 (s.map viewOf) = .ok (.int x)) (e : rowOf s[i]? x = some (k, rows, j, ds))
    (go : ∀ a vs b ws H1, Sm B T s σ H1 → Same H H1 → σ[i]? = some (some (.ref a)) → H1 a = some (.lst vs) → vs[j]? = some (.ref b) → H1 b = some (.lst ws) → ws.length = ds.length → R (.ref b) H1) : tOp (rIxL B.K) (tVar i) (TV B.K B.ρ B.E 0 d1) σ H R := by
  obtain ⟨e1, e2, e3⟩ := rowOf_some e
  obtain ⟨a, vs, b, ws, k1, k2, k3, k4, k5, k6⟩ := sm.row e1 e3
  refine ⟨.ref a, k1, H, s.map viewOf, Same.refl _, sm.view, ?_⟩
  rw [q]
  intro v H1 G1 A ev rp fr
  simp only [Rp] at rp
  obtain ⟨rfl, _⟩ := rp
  have s1 := ev.hh
  refine ⟨a, vs, x, .ref b, rfl, rfl, .of (s1 _ _ k2), ?_, go a vs b ws H1 (sm.grow s1) s1 k1 (s1 _ _ k2) k4 (s1 _ _ k5) k6⟩
  rw [← k3] at e2
  unfold atI
  rw [e2]
  exact k4
theorem rd_setII {i m : Nat} {dx : SS → Rs (D × SS)} {d1 d2 : VS → Rs D} : ∀ Dn σ H, TSt B n (oSetII i m dx d1 d2) Dn σ H → tAsg (TX B m dx) (gSub (tOp (rIxL B.K) (tVar i) (TV B.K B.ρ B.E 0 d1)) (TV B.K B.ρ B.E 0 d2) rSetL) Dn σ H := fun Dn σ H q => by
  obtain ⟨T, s, sm, p⟩ := q
  refine ⟨T, s, sm, ?_⟩
  unfold oSetII at p
  cases q : dx s with
  | no => rw [q] at p; exact p
  | ex c => rw [q] at p; exact p
  | ok r =>
    rw [q] at p
    obtain ⟨r, s1⟩ := r
    intro y H1 sm1
    dsimp only at p
    split at p
    · rename_i x q1
      split at p
      · rename_i k rows j ds q2
        split at p
        · rename_i z q3
          split at p
          · rename_i l q4
            split at p
            · rename_i hk
              subst hk
              refine rd_row sm1 q1 q2 fun a vs b ws H2 sm2 s2 k1 k2 k3 k4 k5 => ?_
              refine ⟨H2, s1.map viewOf, Same.refl _, sm2.view, ?_⟩
              rw [q3]
              intro w H3 G3 A ev rp fr
              simp only [Rp] at rp
              obtain ⟨rfl, _⟩ := rp
              have s3 := ev.hh
              obtain ⟨e1, e2, e3⟩ := rowOf_some q2
              refine ⟨b, ws, z, l, rfl, rfl, s3 _ _ k4, by rw [k5]; exact q4, p σ _ ?_⟩
              refine Sm.mutRow (sm2.grow s3) e1 e3 k1 (s3 _ _ k2) k3 (s3 _ _ k4) fun F C Al rc rt nb nl nc na dj => ?_
              obtain ⟨_, hl, _⟩ := ixN_seq q4
              obtain ⟨w0, A1, Bd, A2, _, rfl, _, reb⟩ := Rps.focus rc (List.getElem?_eq_getElem hl)
              have own : IsOwn H3 b := .inl ⟨ws, s3 _ _ k4⟩
              obtain ⟨d1, d2, d3⟩ := List.nodup_append.mp nc
              obtain ⟨d4, d5, d6⟩ := List.nodup_append.mp d2
              refine ⟨A1 ++ (Al ++ A2), reb _ _ _ _ _ (tups_own own) (Same.refl _) (stays_upd fun z => nb (by simp [z])) (stays_upd fun z => nb (by simp [z])) (Rp.mono (tups_own own) (Same.refl _) r (stays_upd nl) rt), ?_, fun x hx => ?_⟩
              · refine List.nodup_append.mpr ⟨d1, List.nodup_append.mpr ⟨na, d5, fun x hx y hy => ?_⟩, fun x hx y hy => ?_⟩
                · rintro rfl
                  exact dj x (by simp [hy]) hx
                · rintro rfl
                  rcases List.mem_append.mp hy with z | z
                  · exact dj x (by simp [hx]) z
                  · exact d3 x hx x (by simp [z]) rfl
              · rcases List.mem_append.mp hx with hx | hx
                · left; simp [hx]
                · rcases List.mem_append.mp hx with hx | hx
                  · right; exact hx
                  · left; simp [hx]
            · exact p.elim
          · exact p.elim
        · exact p.elim
      · exact p.elim
    · exact p.elim
end
end PL

set_option maxRecDepth 100000
/-! PL17: comprehensions that change slots, calls, slices stored, raise. -/
namespace PL
open PySem PySem.Spec PyProof.Rows L2
section
variable {X : Cx} {B : Bs} {T U : Tm} {s : SS} {σ : L2.St} {H H' : Hp} {n : Nat}
/-- nothing is let out -/
def Bs.calm (B : Bs) : Bs := { B with E := E0 }
theorem SimC.of {B B' : Bs} {F : Hp} {As : Nat → List Addr} {es : Es} (c : SimC B F As es H) (e1 : B.K = B'.K) (e2 : B.F0 = B'.F0) (e3 : B.H0 = B'.H0) (e4 : B.A0 = B'.A0) (e5 : B.N = B'.N) : SimC B' F As es H := by
  obtain ⟨K, ρ, E, F0, H0, A0, N, P, pv⟩ := B
  obtain ⟨K', ρ', E', F0', H0', A0', N', P', pv'⟩ := B'
  subst e1 e2 e3 e4 e5
  exact ⟨c.rel, c.vw, c.nd, c.dj, c.fz, c.ow, c.same, c.keep, c.f0, c.fn, c.an⟩
theorem Sm.toCalm (h : Sm B T s σ H) : Sm B.calm T s σ H := by
  obtain ⟨F, As, c⟩ := h.sim
  exact ⟨h.ls, h.lσ, h.pin, F, As, c.of rfl rfl rfl rfl rfl⟩
theorem Sm.ofCalm (h : Sm B.calm T s σ H) : Sm B T s σ H := by
  obtain ⟨F, As, c⟩ := h.sim
  exact ⟨h.ls, h.lσ, h.pin, F, As, c.of rfl rfl rfl rfl rfl⟩
/-- the slots that own are empty: what stands there does not matter -/
theorem Sm.swapσ {σ' : L2.St} (h : Sm B T s σ H) (hl : σ'.length = B.N) (hp : ∀ i ∈ B.P, σ'[i]? = σ[i]?) (hs : ∀ (i : Nat) (x : Slot), s[i]? = some x → x ≠ .bot → σ'[i]? = σ[i]?) : Sm B T s σ' H := by
  refine ⟨h.ls, hl, fun i hi => by rw [hp i hi]; exact h.pin i hi, ?_⟩
  obtain ⟨F, As, c⟩ := h.sim
  have l1 : (s.zip σ).length = B.N := h.zl
  have l2 : (s.zip σ').length = B.N := by rw [List.length_zip, h.ls, hl]; omega
  have conv : ∀ (i : Nat) (x : Slot) (ov : Option V), (s.zip σ' ++ tE T)[i]? = some (x, ov) → x = .bot ∨ (s.zip σ ++ tE T)[i]? = some (x, ov) := fun i x ov e => by
    by_cases q : i < B.N
    · rw [List.getElem?_append_left (by omega), List.getElem?_zip_eq_some] at e
      by_cases z : x = .bot
      · exact .inl z
      · refine .inr ?_
        rw [List.getElem?_append_left (by omega), List.getElem?_zip_eq_some]
        exact ⟨e.1, by rw [← hs i x e.1 z]; exact e.2⟩
    · rw [List.getElem?_append_right (by omega)] at e
      refine .inr ?_
      rw [List.getElem?_append_right (by omega), l1]
      rw [l2] at e
      exact e
  refine ⟨F, As, fun i x ov e => ?_, fun i j d ov e => ?_, c.nd, c.dj, c.fz, c.ow, c.same, c.keep, c.f0, c.fn, c.an⟩
  · rcases conv i x ov e with rfl | e
    · trivial
    · exact c.rel i x ov e
  · rcases conv i _ ov e with z | e
    · cases z
    · exact c.vw i j d ov e
theorem forget_get : ∀ {own : List Nat} {s : SS} {i : Nat} {x : Slot}, (forget own s)[i]? = some x → x = .bot ∨ (i ∉ own ∧ s[i]? = some x)
  | [], s, i, x, h => .inr ⟨by simp, h⟩
  | k :: own, s, i, x, h => by
    rcases forget_get (own := own) (s := s.set k .bot) h with z | ⟨z1, z2⟩
    · exact .inl z
    · by_cases q : i = k
      · subst q
        by_cases l : i < s.length
        · rw [List.getElem?_set_self l] at z2
          cases z2
          exact .inl rfl
        · rw [List.getElem?_eq_none (by simp; omega)] at z2; cases z2
      · rw [List.getElem?_set_ne (Ne.symm q)] at z2
        exact .inr ⟨by simp [q, z1], z2⟩
theorem Sm.wipe {own : List Nat} (h : Sm B T s σ H) (hp : ∀ i ∈ own, i ∉ B.P) : Sm B T (PL.forget own s) (L2.wipe σ own) H := by
  refine (h.forget own).swapσ (by rw [wipe_length]; exact h.lσ) (fun i hi => L2.wipe_out fun z => hp i z hi) fun i x e ne => ?_
  rcases forget_get e with z | ⟨z, _⟩
  · exact absurd z ne
  · exact L2.wipe_out z
/-- back to what stood there -/
theorem Sm.unwipe {own : List Nat} {σ0 : L2.St} (h : Sm B T s σ H) (hw : L2.wipe σ own = L2.wipe σ0 own) (hp : ∀ i ∈ own, i ∉ B.P) : Sm B T (PL.forget own s) σ0 H := by
  have get : ∀ i, i ∉ own → σ0[i]? = σ[i]? := fun i hi => by
    rw [← L2.wipe_out (σ := σ0) hi, ← hw, L2.wipe_out hi]
  refine (h.forget own).swapσ ?_ (fun i hi => get i fun z => hp i z hi) fun i x e ne => ?_
  · rw [← wipe_length σ0 own, ← hw, wipe_length]; exact h.lσ
  · rcases forget_get e with z | ⟨z, _⟩
    · exact absurd z ne
    · exact get i z
theorem forget_at : ∀ {own : List Nat} {s : SS} {i : Nat}, (forget own s)[i]? = if i ∈ own then s[i]?.map (fun _ => Slot.bot) else s[i]?
  | [], s, i => by simp [forget]
  | k :: own, s, i => by
    show (forget own (s.set k .bot))[i]? = _
    rw [forget_at]
    by_cases q : i = k
    · subst q
      by_cases l : i < s.length
      · rw [List.getElem?_set_self l, List.getElem?_eq_getElem l]
        simp
      · rw [List.getElem?_eq_none (by simp; omega), List.getElem?_eq_none (by omega)]
        simp
    · rw [List.getElem?_set_ne (Ne.symm q)]
      simp [q]
theorem forget_idem {own : List Nat} {s : SS} : forget own (forget own s) = forget own s := by
  refine List.ext_getElem? fun i => ?_
  rw [forget_at, forget_at]
  split
  · cases s[i]? <;> rfl
  · rfl
/-- what a target leaves of the other slots -/
def Owns (own : List Nat) (g : TG) : Prop := ∀ v σ H (Q Q' : L2.St → Hp → Prop), g v σ H Q → (∀ σ' H', Q σ' H' → L2.wipe σ' own = L2.wipe σ own → Q' σ' H') → g v σ H Q'
theorem owns_name {own : List Nat} {i : Nat} (h : i ∈ own) : Owns own (gName i) := fun v σ H Q Q' q k => k _ _ q (wipe_set_in h)
theorem owns_names {own : List Nat} : ∀ {is : List Nat} {vs : List V} {σ : L2.St} {H : Hp} {Q Q' : L2.St → Hp → Prop}, (∀ i ∈ is, i ∈ own) → gNames is vs σ H Q → (∀ σ' H', Q σ' H' → L2.wipe σ' own = L2.wipe σ own → Q' σ' H') → gNames is vs σ H Q'
  | [], vs, σ, H, Q, Q', h, q, k => ⟨q.1, k _ _ q.2 rfl⟩
  | i :: is, vs, σ, H, Q, Q', h, q, k => by
    obtain ⟨v, r, e, q⟩ := q
    refine ⟨v, r, e, ?_⟩
    exact owns_names (is := is) (fun j hj => h j (by simp [hj])) q fun σ' H' q' w => k σ' H' q' (by rw [w, wipe_set_in (h i (by simp))])
theorem owns_tup {K : PySem.W.Frag} {own is : List Nat} {m : Nat} (h : ∀ i ∈ is, i ∈ own) : Owns own (gTup K m (gNames is)) := fun v σ H Q Q' q k => by
  obtain ⟨a, xs, e, q1, q2, q⟩ := q
  exact ⟨a, xs, e, q1, q2, owns_names h q k⟩
/-- the temp below the last is appended to -/
theorem tchE_id {es : Es} {i : Nat} (h : ∀ (k j : Nat) (d : D) (ov : Option V), es[k]? = some (.vw j d, ov) → j ≠ i) : tchE i es = es := by
  refine List.ext_getElem? fun k => ?_
  unfold tchE
  rw [List.getElem?_map]
  cases q : es[k]? with
  | none => rfl
  | some p =>
    obtain ⟨x, ov⟩ := p
    cases x with
    | bot => rfl
    | dat n d => rfl
    | vw j d =>
      have := h k j d ov q
      show some (tch i (.vw j d), ov) = _
      unfold tch
      dsimp only
      rw [if_neg this]
theorem Sm.appT {m : Nat} {ds : List D} {r : D} {y : V} {a : Addr} {vs : List V} (h : Sm B (T ++ [(m + 1, .list ds, .ref a)] ++ [(m, r, y)]) s σ H) (ha : H a = some (.lst vs)) : Sm B (T ++ [(m + 1, .list (ds ++ [r]), .ref a)]) s σ (upd H a (.lst (vs ++ [y]))) := by
  refine ⟨h.ls, h.lσ, h.pin, ?_⟩
  obtain ⟨F, As, c⟩ := h.sim
  rw [tE_app, tE_app, ← List.append_assoc, ← List.append_assoc] at c
  have hi : (s.zip σ ++ tE T).length < (s.zip σ ++ tE T ++ tE [(m + 1, PyData.list ds, V.ref a)]).length := by simp [tE]
  have e1 : (s.zip σ ++ tE T ++ tE [(m + 1, PyData.list ds, V.ref a)] ++ tE [(m, r, y)])[(s.zip σ ++ tE T).length]? = some (.dat (m + 1) (.list ds), some (.ref a)) := by simp [tE]
  have e2 : (s.zip σ ++ tE T ++ tE [(m + 1, PyData.list ds, V.ref a)] ++ tE [(m, r, y)])[(s.zip σ ++ tE T ++ tE [(m + 1, PyData.list ds, V.ref a)]).length]? = some (.dat m r, some y) := by simp [tE]
  have hN : B.N ≤ (s.zip σ ++ tE T).length := by rw [List.length_append, h.zl]; omega
  obtain ⟨w, ew, rp⟩ := c.rel _ _ _ e1
  cases ew
  obtain ⟨w, ew, rt⟩ := c.rel _ _ _ e2
  cases ew
  simp only [Rp] at rp
  obtain ⟨a', vs', A, ea, q, r1, eA⟩ := rp
  cases ea
  rw [ha] at q
  cases q
  have ndI := c.nd (s.zip σ ++ tE T).length
  rw [eA] at ndI
  obtain ⟨nA, ndA⟩ := List.nodup_cons.mp ndI
  have hne : (s.zip σ ++ tE T).length ≠ (s.zip σ ++ tE T ++ tE [(m + 1, PyData.list ds, V.ref a)]).length := by omega
  have dis := c.dj _ _ hne
  have nT : a ∉ As (s.zip σ ++ tE T ++ tE [(m + 1, PyData.list ds, V.ref a)]).length := dis a (by rw [eA]; simp)
  have own : IsOwn H a := .inl ⟨vs, ha⟩
  have z := SimE.mut (e := (.dat m r, some y)) (i := (s.zip σ ++ tE T).length) (m := m + 1) (o := .lst (vs ++ [y])) (d := .list (ds ++ [r])) (v := .ref a) (A := a :: (A ++ As (s.zip σ ++ tE T ++ tE [(m + 1, PyData.list ds, V.ref a)]).length)) (a := a) c (by omega) hi (by rw [eA]; simp) trivial
    (by
      simp only [Rp]
      exact ⟨a, _, _, rfl, upd_same, Rps.snoc (Rps.mono (tups_own own) (Same.refl _) ds (stays_upd nA) r1) (Rp.mono (tups_own own) (Same.refl _) r (stays_upd nT) rt), rfl⟩)
    (List.nodup_cons.mpr ⟨fun z => (List.mem_append.mp z).elim nA nT, List.nodup_append.mpr ⟨ndA, c.nd _, fun x hx y hy => by
      rintro rfl
      exact dis x (by rw [eA]; simp [hx]) hy⟩⟩)
    (fun x hx => by
      rw [eA]
      rcases List.mem_cons.mp hx with rfl | hx
      · left; simp
      · rcases List.mem_append.mp hx with hx | hx
        · left; simp [hx]
        · right; exact hx)
  rw [tchE_id fun k j d ov e => by
    have := c.vw k j d ov (by rw [List.getElem?_append_left (List.getElem?_eq_some_iff.mp e).1]; exact e)
    omega] at z
  rw [tE_app, ← List.append_assoc]
  have e3 : (s.zip σ ++ tE T ++ tE [(m + 1, PyData.list ds, V.ref a)]).set (s.zip σ ++ tE T).length (.dat (m + 1) (.list (ds ++ [r])), some (.ref a)) = s.zip σ ++ tE T ++ tE [(m + 1, .list (ds ++ [r]), .ref a)] := by
    rw [List.set_append_right _ _ (Nat.le_refl _), Nat.sub_self]
    rfl
  rw [e3] at z
  exact z
theorem Sm.tlstAt {m : Nat} {zs : List D} {y : V} {t : Nat × D × V} (h : Sm B (T ++ [(m + 1, .list zs, y)] ++ [t]) s σ H) : ∃ b ws, y = .ref b ∧ H b = some (.lst ws) ∧ ws.length = zs.length := h.pop.tlst

/-! ### comprehensions -/
def xCol (t : Tgx) (dt de : SS → Rs (D × SS)) (own : List Nat) : List D → SS → Rs (List D × SS)
  | [], s => .ok ([], s)
  | d :: r, s => (t d s).bind fun s1 => (dt s1).bind fun p => match p.1 with
    | .bool true => (de p.2).bind fun q => (xCol t dt de own r (forget own q.2)).bind fun z => .ok (q.1 :: z.1, z.2)
    | .bool false => xCol t dt de own r (forget own p.2)
    | _ => .no
def xComp (dI : SS → Rs (List D × SS)) (t : Tgx) (own : List Nat) (dt de : SS → Rs (D × SS)) : SS → Rs (D × SS) := fun s => (dI s).bind fun p => if p.1.length ≤ sizeLine then (match xCol t dt de own p.1 (forget own p.2) with | .ok z => .ok (.list z.1, z.2) | _ => .no) else .no
def xYes : SS → Rs (D × SS) := fun s => .ok (.bool true, s)
theorem xCol_forget {t : Tgx} {dt de : SS → Rs (D × SS)} {own : List Nat} : ∀ {ds : List D} {s : SS} {z : List D × SS}, xCol t dt de own ds (forget own s) = .ok z → ∃ s', z.2 = forget own s'
  | [], s, z, h => by cases h; exact ⟨_, rfl⟩
  | d :: r, s, z, h => by
    unfold xCol at h
    cases q1 : t d (forget own s) with
    | no => rw [q1] at h; cases h
    | ex c => rw [q1] at h; cases h
    | ok s1 =>
      rw [q1] at h
      dsimp only [Rs.bind] at h
      cases q2 : dt s1 with
      | no => rw [q2] at h; cases h
      | ex c => rw [q2] at h; cases h
      | ok p =>
        rw [q2] at h
        dsimp only at h
        split at h
        · cases q3 : de p.2 with
          | no => rw [q3] at h; cases h
          | ex c => rw [q3] at h; cases h
          | ok q =>
            rw [q3] at h
            dsimp only at h
            cases q4 : xCol t dt de own r (forget own q.2) with
            | no => rw [q4] at h; cases h
            | ex c => rw [q4] at h; cases h
            | ok z' =>
              rw [q4] at h
              cases h
              obtain ⟨s', e⟩ := xCol_forget q4
              exact ⟨s', e⟩
        · exact xCol_forget h
        · cases h
theorem rd_lc {wi : TI} {g : TG} {own : List Nat} {dI : SS → Rs (List D × SS)} {t : Tgx} {dt de : SS → Rs (D × SS)} {tt : TT} {te : TE} (hP : ∀ i ∈ own, i ∉ B.P)
    (hi : ∀ (T : Tm) (s : SS) (σ : L2.St) (H : Hp) (R : It → Hp → Prop), Sm B T s σ H → (match dI s with | .no => False | .ex c => raises B c | .ok (ds, s') => ∀ J U H', Sm B (T ++ U) s' σ H' → Walk B (T ++ U) J ds → R J H') → wi σ H R)
    (hg : ∀ (T : Tm) (s : SS) (σ : L2.St) (H : Hp) (d : D) (v : V) (Q : L2.St → Hp → Prop), Sm B (T ++ [(0, d, v)]) s σ H → (match t d s with | .ok s' => ∀ σ', Sm B T s' σ' H → Q σ' H | _ => False) → g v σ H Q) (ho : Owns own g)
    (ht : ∀ σ H Q, TXt B.calm dt σ H Q → tt σ H Q) (he : ∀ σ H Q, TX B.calm n de σ H Q → te σ H Q) : ∀ σ H Q, TX B (n + 1) (xComp dI t own dt de) σ H Q → tLc wi g tt te own σ H Q := fun σ H Q q => by
  obtain ⟨T, s, sm, p⟩ := q
  refine hi T s σ H _ sm ?_
  unfold xComp at p
  cases q1 : dI s with
  | no => rw [q1] at p; exact p
  | ex c => rw [q1] at p; exact p
  | ok r =>
    rw [q1] at p
    obtain ⟨ds, s'⟩ := r
    dsimp only [Rs.bind] at p ⊢
    intro J U H1 sm1 wk Dn hD
    by_cases hlen : ds.length ≤ sizeLine
    · rw [if_pos hlen] at p
      cases q2 : xCol t dt de own ds (forget own s') with
      | no => rw [q2] at p; exact p.elim
      | ex c => rw [q2] at p; exact p.elim
      | ok z =>
        rw [q2] at p
        dsimp only at p
        have sm2 := sm1.wipe hP
        have sm3 : Sm B (T ++ U ++ [(n + 1, .list [], .ref Dn)]) (forget own s') (L2.wipe σ own) (upd H1 Dn (.lst [])) :=
          sm2.push (G' := upd H1 Dn (.lst [])) (A := [Dn]) (same_upd hD) (by simp only [Rp]; exact ⟨Dn, [], [], rfl, upd_same, by simp [Rps], rfl⟩) (by simp [fits, fitsL]) (by simp) (fun a ha => by
            rw [List.mem_singleton] at ha; rw [ha]; exact hD)
        refine ⟨fun i m Hc => i ≤ ds.length ∧ m = ds.length - i ∧ ∃ sofar rest s2 sE, Sm B (T ++ U ++ [(n + 1, .list sofar, .ref Dn)]) (forget own s2) (L2.wipe σ own) Hc ∧ sofar.length ≤ i ∧ z.1 = sofar ++ rest ∧ xCol t dt de own (ds.drop i) (forget own s2) = .ok (rest, z.2),
          ⟨ds.length, Nat.zero_le _, rfl, [], z.1, s', s', sm3, Nat.le_refl _, rfl, q2⟩, ?_⟩
        rintro i m Hc ⟨hil, rfl, sofar, rest, s2, sE, smc, hsl, ez, hcol⟩
        obtain ⟨w1, w2⟩ := wk [(n + 1, .list sofar, .ref Dn)] i _ _ Hc smc
        by_cases hlt : i < ds.length
        · obtain ⟨go, yl⟩ := w1 ds[i] (List.getElem?_eq_getElem hlt)
          refine .inr ⟨go, fun H' => ∃ m', m' < ds.length - i ∧ (i + 1 ≤ ds.length ∧ m' = ds.length - (i + 1) ∧ ∃ sofar rest s2 sE, Sm B (T ++ U ++ [(n + 1, .list sofar, .ref Dn)]) (forget own s2) (L2.wipe σ own) H' ∧ sofar.length ≤ i + 1 ∧ z.1 = sofar ++ rest ∧ xCol t dt de own (ds.drop (i + 1)) (forget own s2) = .ok (rest, z.2)), fun H' h' => h', fun x H' hy => ?_⟩
          have smy := yl x H' hy
          rw [List.drop_eq_getElem_cons hlt] at hcol
          unfold xCol at hcol
          refine ho _ _ _ (fun σ' H2 => Sm B (T ++ U ++ [(n + 1, .list sofar, .ref Dn)]) (match t ds[i] (forget own s2) with | .ok s3 => s3 | _ => []) σ' H2) _ (hg _ _ _ H' ds[i] x _ smy ?_) ?_
          · cases q3 : t ds[i] (forget own s2) with
            | no => rw [q3] at hcol; cases hcol
            | ex c => rw [q3] at hcol; cases hcol
            | ok s3 => exact fun σ' sm' => sm'
          intro σ2 H2 sm4 hw
          cases q3 : t ds[i] (forget own s2) with
          | no => rw [q3] at hcol; cases hcol
          | ex c => rw [q3] at hcol; cases hcol
          | ok s3 =>
            rw [q3] at hcol sm4
            dsimp only [Rs.bind] at hcol sm4
            have hw' : L2.wipe σ2 own = L2.wipe σ own := by rw [hw, wipe_wipe own own σ fun _ h => h]
            refine ⟨hw', ht _ _ _ ⟨_, s3, sm4.toCalm, ?_⟩⟩
            have back : ∀ {L : List D} {s5 : SS} {H5 : Hp}, Sm B (T ++ U ++ [(n + 1, .list L, .ref Dn)]) s5 σ2 H5 → Sm B (T ++ U ++ [(n + 1, .list L, .ref Dn)]) (forget own s5) (L2.wipe σ own) H5 := fun h => h.unwipe (σ0 := L2.wipe σ own) (by rw [hw', wipe_wipe own own σ fun _ h => h]) hP
            cases q4 : dt s3 with
            | no => rw [q4] at hcol; cases hcol
            | ex c => rw [q4] at hcol; cases hcol
            | ok pb =>
              rw [q4] at hcol
              obtain ⟨b, s4⟩ := pb
              dsimp only at hcol
              cases b with
              | bool b =>
                intro H3 sm5
                cases b with
                | false =>
                  rw [if_neg Bool.false_ne_true]
                  exact ⟨_, by omega, by omega, rfl, sofar, rest, s4, s4, back sm5.ofCalm, by omega, ez, hcol⟩
                | true =>
                  rw [if_pos rfl]
                  refine he _ _ _ ⟨_, s4, sm5, ?_⟩
                  dsimp only at hcol
                  cases q5 : de s4 with
                  | no => rw [q5] at hcol; cases hcol
                  | ex c => rw [q5] at hcol; cases hcol
                  | ok ye =>
                    rw [q5] at hcol
                    obtain ⟨y, s5⟩ := ye
                    dsimp only at hcol
                    cases q6 : xCol t dt de own (ds.drop (i + 1)) (forget own s5) with
                    | no => rw [q6] at hcol; cases hcol
                    | ex c => rw [q6] at hcol; cases hcol
                    | ok z' =>
                      rw [q6] at hcol
                      obtain ⟨ys, s6⟩ := z'
                      dsimp only at hcol
                      cases hcol
                      intro w H4 sm6
                      have sm6 := sm6.ofCalm
                      obtain ⟨b', ws, eb, hb, lw⟩ := sm6.tlstAt
                      cases eb
                      refine ⟨ws, hb, by omega, _, by omega, by omega, rfl, sofar ++ [y], ys, s5, s5, back (sm6.appT hb), by simp; omega, by rw [ez]; simp, q6⟩
              | _ => cases hcol
        · have ei : i = ds.length := by omega
          subst ei
          rw [List.drop_length] at hcol
          unfold xCol at hcol
          have h1 : rest = [] ∧ forget own s2 = z.2 := by
            have := congrArg (fun r => match r with | Rs.ok x => x | _ => ([], [])) hcol
            simp only [Prod.mk.injEq] at this
            exact ⟨this.1.symm, this.2⟩
          rw [h1.1, List.append_nil] at ez
          refine .inl ⟨w2 (Nat.le_refl _), p (.ref Dn) Hc ?_⟩
          have z2 := (smc.drop).unwipe (σ0 := σ) (wipe_wipe own own σ fun _ h => h) hP
          rw [forget_idem, h1.2] at z2
          rw [ez]
          exact z2
    · rw [if_neg hlen] at p
      exact p.elim
theorem ptsx_yes : PTs X [] (TXt B xYes) := ⟨fun pins s σ H Q I h => pts_nil.run pins s σ H Q I (by
  obtain ⟨T, s', sm, p⟩ := h
  exact p H sm)⟩
theorem ptsx_one {c : Expr} {d : SS → Rs (D × SS)} (h : PT X c (TXt B d)) : PTs X [c] (TXt B d) := pts_one h
theorem px_comp {elt tg iter : Expr} {ifs : List Expr} {scope : Scope} {own : List (Str × Nat)} {pos : Pos} {g : TG} {dI : SS → Rs (List D × SS)} {t : Tgx} {dt de : SS → Rs (D × SS)} (hc : X.calm = true) (hN : X.N.Nodup) (hi : PIX X B tg iter dI)
    (ok : BlkOk X.N X.env.scope scope own) (hg : ∀ (s : Shared) (H : Hp) (C : Addr) (cl : List (Str × Addr)) (fp : List Addr), PGX (X.blk s H scope (compEnvC scope cl C X.env) fp) B tg g t) (ho : Owns (own.map (·.2)) g)
    (ht : ∀ (s : Shared) (H : Hp) (C : Addr) (cl : List (Str × Addr)) (fp : List Addr), PTs (X.blk s H scope (compEnvC scope cl C X.env) fp) ifs (TXt B.calm dt))
    (he : ∀ (s : Shared) (H : Hp) (C : Addr) (cl : List (Str × Addr)) (fp : List Addr), PE (X.blk s H scope (compEnvC scope cl C X.env) fp) elt (TX B.calm n de)) (hP : ∀ i ∈ own.map (·.2), i ∉ B.P := by exact of_decide_eq_true rfl) (hs : ∀ x, foldedSetIterable iter X.env x = pure x := by intro _; rfl) :
    PE X (.ListComp elt [⟨tg, iter, ifs, 0⟩] scope pos) (TX B (n + 1) (xComp dI t (own.map (·.2)) dt de)) := by
  obtain ⟨wi, pi, ri⟩ := hi.run
  exact PE.of (pe_lc hc hN pi ok (fun s H C cl fp => (hg s H C cl fp).pg) ht he hs) (rd_lc hP ri (hg {} (fun _ => none) 0 [] []).rd ho (fun _ _ _ z => z) (fun _ _ _ z => z))
end
end PL

set_option maxRecDepth 100000
/-! PL18: calls, slices stored, raise. -/
namespace PL
open PySem PySem.Spec PyProof.Rows L2
section
variable {X : Cx} {B : Bs} {T U : Tm} {s : SS} {σ : L2.St} {H H' : Hp} {n : Nat}
theorem px_callB {op : List D → Rs D} {id : String} {x : Str} {p pos : Pos} {e : Expr} {es : List Expr} {ds : List (SS → Rs (D × SS))} (hK : X.K = B.K) (hc : CallR X (.builtin id) (rc X.K n op)) (hk : Calm1 op) (hm : X.mg x = none) (hv : bootBuiltins x = some (.builtin id))
    (ha : PA X (e :: es) (TXa B ds)) (hg : Gl X x := by rfl) (hn : x ≠ "__name__" := by decide) (hdb : (x == ("__debug__" : Str)) = false := by decide) (hs : starEach (e :: es) X.env = (false, eval e X.env) :: starEach es X.env := by rfl)
    (hpl : (backTo pos (starEach es X.env)).any (·.1) = false := by rfl) :
    PE X (.Call (.Name x p) (e :: es) [] pos) (TX B n (xCall n op ds)) :=
  PE.of (pe_callB hc hg hm hv ha hn hdb hs hpl) (hK ▸ rd_cb hk)
theorem px_callTy {op : List D → Rs D} {Ty : String} {x : Str} {p pos : Pos} {e : Expr} {es : List Expr} {ds : List (SS → Rs (D × SS))} (hK : X.K = B.K) (hc : CallR X (.type Ty) (rc X.K n op)) (hk : Calm1 op) (hm : X.mg x = none) (hv : bootBuiltins x = some (.type Ty))
    (ha : PA X (e :: es) (TXa B ds)) (hg : Gl X x := by rfl) (hn : x ≠ "__name__" := by decide) (hdb : (x == ("__debug__" : Str)) = false := by decide) (hs : starEach (e :: es) X.env = (false, eval e X.env) :: starEach es X.env := by rfl)
    (hpl : (backTo pos (starEach es X.env)).any (·.1) = false := by rfl) :
    PE X (.Call (.Name x p) (e :: es) [] pos) (TX B n (xCall n op ds)) :=
  PE.of (pe_callTy hc hg hm hv ha hn hdb hs hpl) (hK ▸ rd_cb hk)
/-- a def that changes what it is handed -/
theorem px_callF {CX : CXT} {m : Nat} {f : Addr} {fd : FuncData} {ps : List Str} {ns : List Nat} {op : List D → Rs (D × List D)} {x : Str} {p pos : Pos} {e : Expr} {es : List Expr} {args : List ArgX} (hK : X.K = B.K)
    (F : FnOk X.prog X.w X.K X.mg X.base CX m f fd ps (spF X.K B.ρ ns n op)) (hr : Room m X.A) (hm : X.mg x = some (.ref f)) (hk : PySem.W.keepIn X.K (.ref f) = true) (hb : Binds X.K fd ps []) (hx : Passes CX X B.E)
    (ha : PA X (e :: es) (TXio B args)) (hg : Gl X x := by rfl) (hdb : (x == ("__debug__" : Str)) = false := by decide) (hs : starEach (e :: es) X.env = (false, eval e X.env) :: starEach es X.env := by rfl)
    (hpl : (backTo pos (starEach es X.env)).any (·.1) = false := by rfl) :
    PE X (.Call (.Name x p) (e :: es) [] pos) (TX B n (xCallF ns op args)) :=
  PE.of (pe_call F hr hg hm hk hb .nil hx ha hdb hs hpl) (hK ▸ rd_callF)
/-- a pure def, its arguments with changes -/
def xCallV (n : Nat) (op : List D → Rs D) (args : List (SS → Rs (D × SS))) : SS → Rs (D × SS) := fun s => (vArgsX args s).bind fun q => (op q.1).bind fun r => if fits n r = true then .ok (r, q.2) else .no
theorem rd_callV {op : List D → Rs D} {k : Nat} {args : List (SS → Rs (D × SS))} (hl : args.length = k) : ∀ σ H Q, TX B n (xCallV n op args) σ H Q → tCall (spV B.K B.ρ k n op) [] B.E (TXa B args) σ H Q := fun σ H Q q => by
  obtain ⟨T, s, sm, p⟩ := q
  refine ⟨T, s, sm, ?_⟩
  unfold xCallV at p
  cases q1 : vArgsX args s with
  | no => rw [q1] at p; exact p
  | ex c => rw [q1] at p; exact p
  | ok a =>
    rw [q1] at p
    obtain ⟨ds, s1⟩ := a
    dsimp only [Rs.bind] at p ⊢
    intro vs U H' e1 e2 sm1
    rw [List.append_nil]
    have rp := sm1.temps
    rw [e1, e2] at rp
    refine ⟨by rw [← Rps.length rp, vArgsX_len q1, hl], H', ds, Same.refl _, rp, ?_⟩
    cases q2 : op ds with
    | no => rw [q2] at p; exact p.elim
    | ex c => rw [q2] at p; exact fun H2 g => p H2 (sm1.keep.same g)
    | ok r =>
      rw [q2] at p
      dsimp only at p
      split at p
      · rename_i hf
        exact fun v H3 G3 A e rp fr => p v H3 (sm1.pops.push e.hh rp hf fr.nd fun a ha => (fr.nw a ha).1)
      · exact p.elim
theorem px_callV {CX : CXT} {k m : Nat} {f : Addr} {fd : FuncData} {ps : List Str} {op : List D → Rs D} {x : Str} {p pos : Pos} {e : Expr} {es : List Expr} {args : List (SS → Rs (D × SS))} (hK : X.K = B.K)
    (F : FnOk X.prog X.w X.K X.mg X.base CX m f fd ps (spV X.K B.ρ k n op)) (hr : Room m X.A) (hm : X.mg x = some (.ref f)) (hk : PySem.W.keepIn X.K (.ref f) = true) (hb : Binds X.K fd ps []) (hx : Passes CX X B.E)
    (ha : PA X (e :: es) (TXa B args)) (hg : Gl X x := by rfl) (hl : args.length = k := by rfl) (hdb : (x == ("__debug__" : Str)) = false := by decide) (hs : starEach (e :: es) X.env = (false, eval e X.env) :: starEach es X.env := by rfl)
    (hpl : (backTo pos (starEach es X.env)).any (·.1) = false := by rfl) :
    PE X (.Call (.Name x p) (e :: es) [] pos) (TX B n (xCallV n op args)) :=
  PE.of (pe_call F hr hg hm hk hb .nil hx ha hdb hs hpl) (hK ▸ rd_callV hl)

/-! ### x[lo:hi] = list -/
def gSlc (to tl tu : TE) : TG := fun v σ H Q => to σ H fun o H1 => tl σ H1 fun x H2 => tu σ H2 fun y H3 => ∃ l b xs ys a c, o = .ref l ∧ v = .ref b ∧ x = .int a ∧ y = .int c ∧ H3 l = some (.lst xs) ∧ H3 b = some (.lst ys) ∧ l ≠ b ∧ 0 ≤ a ∧ a ≤ c ∧ c ≤ xs.length ∧
  xs.length + ys.length ≤ sizeLine ∧ Q σ (upd H3 l (.lst (xs.take a.toNat ++ ys ++ xs.drop c.toNat)))
theorem pg_slc {o lo hi : Expr} {to tl tu : TE} {pos p2 : Pos} (ho : PE X o to) (hl : PE X lo tl) (hu : PE X hi tu) : PG X (.Subscript o (.Slice (some lo) (some hi) none p2) pos) (gSlc to tl tu) := by
  refine ⟨fun pins s σ H v u Q I r h => ?_⟩
  rw [arm_assign_Subscript]
  refine wpAny_bind (wpAny_holding (thn (ho.run pins s σ H _ I h) fun ov s1 ⟨x, H1, I1, r1, q1⟩ => ?_))
  refine wpAny_bind (wpAny_holding (wpAny_Slice ?_))
  rw [evalPart_some]
  refine thn (hl.run pins s1 σ H1 _ I1 q1) fun vl s2 ⟨a, H2, I2, r2, q2⟩ => ?_
  rw [evalPart_some]
  refine thn (hu.run pins s2 σ H2 _ I2 q2) fun vu s3 ⟨c, H3, I3, r3, q3⟩ => ?_
  rw [evalPart_none]
  refine wpAny_pure ?_
  have I4 : Inv X pins σ H3 { s3 with heap := s3.heap.push { cls := .type "slice", data := .fields #[vl, vu, .none] } } := I3.kept (t' := s3.toks) fun b ob q => Heap.get?_push_of_some _ q
  obtain ⟨l, b, xs, ys, a, c, rfl, rfl, rfl, rfl, k1, k2, k3, k4, k5, k6, k7, q⟩ := q3
  have e1 : ov = .ref l := r1
  have e2 : u = .ref b := r
  subst e1 e2
  refine wpAny_bind (wpAny_standAt (wpAny_bind (wpAny_holding (set_slice I4 k1 k2 k3 (Heap.IsSliceOf.new ..) r2 r3 k4 k5 k6 k7 fun s' I5 => ?_))))
  exact wpAny_release ⟨σ, _, I5, q⟩

theorem Rps.takeN {K : PySem.W.Frag} {G : Hp} {n : Nat} : ∀ {ds : List D} {vs : List V} {A : List Addr} (k : Nat), Rps K G H n ds vs A → ∃ A1 A2, A = A1 ++ A2 ∧ Rps K G H n (ds.take k) (vs.take k) A1 ∧ Rps K G H n (ds.drop k) (vs.drop k) A2
  | ds, vs, A, 0, h => ⟨[], A, by simp, by simp [Rps], by simpa using h⟩
  | [], vs, A, k + 1, h => by
    simp only [Rps] at h
    obtain ⟨rfl, rfl⟩ := h
    exact ⟨[], [], by simp, by simp [Rps], by simp [Rps]⟩
  | d :: ds, vs, A, k + 1, h => by
    simp only [Rps] at h
    obtain ⟨v, r, A1, A2, rfl, h1, h2, rfl⟩ := h
    obtain ⟨B1, B2, e, r1, r2⟩ := Rps.takeN k h2
    subst e
    refine ⟨A1 ++ B1, B2, by simp, ?_, by simpa using r2⟩
    simp only [List.take_succ_cons, Rps]
    exact ⟨v, _, A1, B1, rfl, h1, r1, rfl⟩
def oSetSl (i m : Nat) (dx : SS → Rs (D × SS)) (d1 d2 d3 : VS → Rs D) : SS → Oc := fun s => match dx s with
  | .ok (.list zs, s1) => (match d1 (s1.map viewOf) with
    | .ok (.int x) => (match rowOf s1[i]? x with
      | some (k, rows, j, ds) => (match d2 (s1.map viewOf) with
        | .ok (.int a) => (match d3 (s1.map viewOf) with
          | .ok (.int c) => if k = m ∧ 0 ≤ a ∧ a ≤ c ∧ c ≤ ds.length ∧ ds.length + zs.length ≤ sizeLine then .nx (put s1 i (.dat (k + 2) (.list (rows.set j (.list (ds.take a.toNat ++ zs ++ ds.drop c.toNat)))))) else .no
          | _ => .no)
        | _ => .no)
      | none => .no)
    | _ => .no)
  | .ex c => .ex c
  | _ => .no
theorem rd_setSl {i m : Nat} {dx : SS → Rs (D × SS)} {d1 d2 d3 : VS → Rs D} : ∀ Dn σ H, TSt B n (oSetSl i m dx d1 d2 d3) Dn σ H → tAsg (TX B (m + 1) dx) (gSlc (tOp (rIxL B.K) (tVar i) (TV B.K B.ρ B.E 0 d1)) (TV B.K B.ρ B.E 0 d2) (TV B.K B.ρ B.E 0 d3)) Dn σ H := fun Dn σ H q => by
  obtain ⟨T, s, sm, p⟩ := q
  refine ⟨T, s, sm, ?_⟩
  unfold oSetSl at p
  cases q : dx s with
  | no => rw [q] at p; exact p
  | ex c => rw [q] at p; exact p
  | ok r =>
    rw [q] at p
    obtain ⟨r, s1⟩ := r
    cases r with
    | list zs =>
      intro y H1 sm1
      dsimp only at p
      split at p
      · rename_i x q1
        split at p
        · rename_i k rows j ds q2
          split at p
          · rename_i a q3
            split at p
            · rename_i c q4
              split at p
              · rename_i hk
                obtain ⟨rfl, h0, hac, hc, hz⟩ := hk
                refine rd_row sm1 q1 q2 fun ax vs b ws H2 sm2 s2 k1 k2 k3 k4 k5 => ?_
                refine ⟨H2, s1.map viewOf, Same.refl _, sm2.view, ?_⟩
                rw [q3]
                intro w H3 G3 A ev rp fr
                simp only [Rp] at rp
                obtain ⟨rfl, _⟩ := rp
                have s3 := ev.hh
                refine ⟨H3, s1.map viewOf, Same.refl _, (sm2.grow s3).view, ?_⟩
                rw [q4]
                intro w H4 G4 A4 ev4 rp fr4
                simp only [Rp] at rp
                obtain ⟨rfl, _⟩ := rp
                have s4 := ev4.hh
                obtain ⟨e1, e2, e3⟩ := rowOf_some q2
                have sm4 := (sm2.grow s3).grow s4
                obtain ⟨yb, ys, rfl, hy, ly⟩ := sm4.tlst
                have bh : H4 b = some (.lst ws) := s4 _ _ (s3 _ _ k4)
                -- the two lists are apart
                have hne : b ≠ yb := by
                  rintro rfl
                  obtain ⟨ov, F, As, ev1, cc, v, rfl, rr⟩ := sm4.slot e1
                  rw [tE_app, ← List.append_assoc] at cc
                  have et : (s1.zip σ ++ tE T ++ tE [(k + 1, PyData.list zs, V.ref b)])[(s1.zip σ ++ tE T).length]? = some (.dat (k + 1) (.list zs), some (.ref b)) := by simp [tE]
                  obtain ⟨w, ew, rt⟩ := cc.rel _ _ _ et
                  cases ew
                  simp only [Rp] at rr rt
                  obtain ⟨a', vs', A', rfl, qa, ra, eA⟩ := rr
                  obtain ⟨b', ws', C', eb, qb, rb, eC⟩ := rt
                  cases eb
                  obtain ⟨w, A1, Bd, A2, f1, f2, f3, _⟩ := Rps.focus ra e3
                  rw [k1] at ev1
                  cases ev1
                  rw [s4 _ _ (s3 _ _ k2)] at qa
                  cases qa
                  rw [k3] at f1
                  cases f1
                  simp only [Rp] at f3
                  obtain ⟨b'', ws2, C2, eb, qb2, rb2, rfl⟩ := f3
                  cases eb
                  have hlt := sm4.lt e1
                  have hne : i ≠ (s1.zip σ ++ tE T).length := by rw [List.length_append, sm4.zl]; omega
                  exact cc.dj i _ hne b (by rw [eA, f2]; simp) (by rw [eC]; simp)
                refine ⟨b, yb, ws, ys, a, c, rfl, rfl, rfl, rfl, bh, hy, hne, h0, hac, by rw [k5]; exact hc, by rw [k5, ly]; exact hz, p σ _ ?_⟩
                refine Sm.mutRow sm4 e1 e3 k1 (s4 _ _ (s3 _ _ k2)) k3 bh fun F C Al rc rt nb nl nc na dj => ?_
                simp only [Rp] at rt
                obtain ⟨yb', ys', D', eb, qy, ry, rfl⟩ := rt
                cases eb
                rw [hy] at qy
                cases qy
                have own : IsOwn H4 b := .inl ⟨ws, bh⟩
                obtain ⟨A1, A2, rfl, t1, t2⟩ := Rps.takeN a.toNat rc
                obtain ⟨A3, A5, e5, t3, t4⟩ := Rps.takeN (c.toNat - a.toNat) t2
                subst e5
                rw [List.drop_drop, List.drop_drop, show a.toNat + (c.toNat - a.toNat) = c.toNat by omega] at t4
                obtain ⟨d1, d2, d3⟩ := List.nodup_append.mp nc
                obtain ⟨d4, d5, d6⟩ := List.nodup_append.mp d2
                obtain ⟨nD, ndD⟩ := List.nodup_cons.mp na
                have up : ∀ {xs : List D} {us : List V} {L : List Addr}, Rps B.K F H4 k xs us L → b ∉ L → Rps B.K F (upd H4 b (.lst (ws.take a.toNat ++ ys ++ ws.drop c.toNat))) k xs us L := fun {xs us L} r0 h => Rps.mono (tups_own own) (Same.refl _) xs (stays_upd h) r0
                refine ⟨(A1 ++ D') ++ A5, Rps.appN (Rps.appN (up t1 fun z => nb (by simp [z])) (up ry fun z => nl (by simp [z]))) (up t4 fun z => nb (by simp [z])), ?_, fun x hx => ?_⟩
                · refine List.nodup_append.mpr ⟨List.nodup_append.mpr ⟨d1, ndD, fun x hx y hy => ?_⟩, d5, fun x hx y hy => ?_⟩
                  · rintro rfl
                    exact dj x (by simp [hx]) (by simp [hy])
                  · rintro rfl
                    rcases List.mem_append.mp hx with z | z
                    · exact d3 x z x (by simp [hy]) rfl
                    · exact dj x (by simp [hy]) (by simp [z])
                · rcases List.mem_append.mp hx with hx | hx
                  · rcases List.mem_append.mp hx with hx | hx
                    · left; simp [hx]
                    · right; simp [hx]
                  · left; simp [hx]
              · exact p.elim
            · exact p.elim
          · exact p.elim
        · exact p.elim
      · exact p.elim
    | _ => exact p.elim

/-! ### raise -/
theorem so_raise {x m : Str} {j : Nat} {C : Addr} {p p2 pos pos' : Pos} {bmB : List Value} {Bn newId initId : String} (hc : X.calm = true) (tk : Takes X (fun cls d _ H => B.E cls d H)) (F : ExcBaseFacts Bn newId initId bmB) (q : PySem.W.excIn X.K C bmB newId = true) (gC : X.mg x = some (.ref C)) (kC : PySem.W.keepIn X.K (.ref C) = true)
    (r : Raises X (.ref C)) (hρ : B.ρ x = C) (hg : Gl X x := by rfl) (hdb : (x == ("__debug__" : Str)) = false := by decide) :
    PS X (.Raise (some (.Call (.Name x p) [.Constant (.str m) j p2] [] pos)) none pos') (TSt B n (fun _ => .ex x)) :=
  PS.of (ps_raise hc tk (pmk_own F q gC kC r hg hdb)) fun Dn σ H h => by
    obtain ⟨T, s, sm, p⟩ := h
    have p : raises B x := p
    have := p H sm.keep
    rw [hρ] at this
    exact this
end
end PL

set_option maxRecDepth 100000
set_option maxHeartbeats 4000000
/-! PL19: an error that is caught and kept. -/
namespace PL
open PySem PySem.Spec PyProof.Rows L2
/-- what is known of a kept error at a -/
def Err (a : Addr) (cls : Value) (d : Option Addr) : Heap → Prop := fun hp => ∃ ob, hp.get? a = some ob ∧ Zc cls d ob ∧ ∃ fl, ob.data = .fields fl
section
variable {X : Cx} {ps0 : List (Addr × Obj)} {σ : L2.St} {H : Hp} {st : Shared}
/-- a new object that stands in no tracked place is tracked from now on -/
theorem _root_.L2.Inv.adopt (J : Inv X ps0 σ H st) {a : Addr} {cls : Value} {d : Option Addr} {ob : Obj} {fl : Array Value} (g : st.heap.get? a = some ob) (z : Zc cls d ob) (dt : ob.data = .fields fl) (na : H a = none) (n0 : X.s_0.heap.get? a = none) (nl : a ≠ X.env.locals) (np : ∀ q ∈ X.pn ++ ps0, q.1 ≠ a) :
    Inv X ps0 σ (upd H a (.ext (Err a cls d))) st := by
  have keepH : ∀ {b : Addr} {u : HO}, H b = some u → upd H a (.ext (Err a cls d)) b = some u := fun {b u} hb => by rw [upd_ne (ne_of_none hb na)]; exact hb
  have noneH : ∀ {b : Addr}, b ≠ a → H b = none → upd H a (.ext (Err a cls d)) b = none := fun {b} hb e => by rw [upd_ne hb]; exact e
  refine ⟨J.ok, J.os, J.bare, ⟨J.base.keep, J.base.slot, fun b o e n hx => noneH ?_ (J.base.free b o e n hx), J.base.there, fun b xs e => keepH (J.base.tups b xs e), fun b o u e => keepH (J.base.frzs b o u e), fun b ps e => ?_⟩, J.loc, J.cell, noneH (Ne.symm nl) J.free, fun y c e => noneH ?_ (J.freeC y c e), fun q hq => ?_, fun b u hb => ?_, J.len⟩
  · rintro rfl; rw [n0] at e; cases e
  · obtain ⟨more, e2⟩ := J.base.tbls b ps e
    exact ⟨more, keepH e2⟩
  · rintro rfl
    obtain ⟨w, o2, e2, h2⟩ := J.cell y c e
    rw [g] at e2
    cases e2
    rw [dt] at h2
    cases h2
  · obtain ⟨p1, p2, p3⟩ := J.pin q hq
    exact ⟨p1, noneH (np q hq) p2, p3⟩
  · by_cases e : b = a
    · subst e
      rw [upd_same] at hb
      cases hb
      exact ⟨⟨ob, g, z, fl, dt⟩, ⟨ob, g⟩, fun h1 h2 ⟨o1, k1, k2⟩ up => ⟨o1, up _ k1, k2⟩⟩
    · rw [upd_ne e] at hb
      exact (J.hok b u hb).stay (fun _ _ _ r => r) (fun c r => keepH r) fun c xs r => keepH r
/-- what the clause wishes of an error that it keeps: i the clause's name, j the name that keeps it -/
def wKeep (K : PySem.W.Frag) (c : Value) (i j : Nat) (Dn : Ends) : WX := fun cls d σ H =>
  PySem.W.exmOne K cls c = some true ∧ ∀ a, H a = none → Dn.nx (((σ.set i (some (.ref a))).set j (some (.ref a))).set i none) (upd H a (.ext (Err a cls d)))
theorem ps_keep {x m y : Str} {c : Value} {i j : Nat} {body : List Stmt} {p1 p2 p3 p4 p5 p6 : Pos} {tb : WX → TS} (hst : X.stack = X.env :: X.outer) (hfr0 : X.env.frame = some X.env.locals) (hex : X.ex = []) (hN : X.N.Nodup) (hi : X.N[i]? = some m) (hj : X.N[j]? = some y) (hlm : X.env.kindOf m = some .local) (hly : X.env.kindOf y = some .local) (hc : Names X x c)
    (hd1 : (m == ("__debug__" : Str)) = false) (hd2 : (m == ("__classdict__" : Str)) = false)
    (hb : ∀ (W : WX) (pn : List (Addr × Obj)) (xe : Value → Shared → Prop), Takes (X.tr pn xe) W → PassesOwn (model X.prog X.w) X.A X.env xe → PSs (X.tr pn xe) body (tb W)) 
    (hsw : ∀ (Y : Cx), Y.env = X.env → swapsWith (.Name m p3) (some (.Name y p2)) p4.line Y.env = pure false := by intro Y e; rfl) :
    PS X (.Try body [.ExceptHandler (some (.Name x p1)) (some m) [.Assign [.Name y p2] (.Name m p3) p4] p5] [] [] p6) (fun Dn σ H => tb (wKeep X.K c i j Dn) Dn σ H) := by
  refine ⟨fun pins st σ H Dn I0 hw => ?_⟩
  have okX := I0.ok
  have frs0 : X.A.frames = some (X.env :: X.outer) := okX.frames.trans (by rw [hst])
  refine wpAny_Try_except (wpAny_mono ((hb (wKeep X.K c i j Dn) (X.pn ++ pins) (fun er t1 => wpAny (model X.prog X.w) X.A (noteFrame er X.env) (fun _ t2 => wpAny (model X.prog X.w) X.A (setFlight er none) (fun _ t3 =>
    wpAny (model X.prog X.w) X.A (handleBy er X.env [.ExceptHandler (some (.Name x p1)) (some m) [.Assign [.Name y p2] (.Name m p3) p4] p5]) (SP X pins Dn) X.xe t3) X.xe t2) X.xe t1) (fun er t1 air => ?_) PassesOwn.looking).run [] st σ H Dn (I0.toTry _) hw) (fun fw t1 hfw => ?_) fun _ _ z => z)
  · obtain ⟨a, Bh, sI, pins', σ', H', cls, d, e0, J', nb, up, sky, na, os, ag, hyes, hk⟩ := air
    subst e0
    have J : Inv X pins σ' H' sI := J'.ofTry okX
    rw [hst] at sky
    show wpAny (model X.prog X.w) X.A (noteFrame (.ref a) X.env) _ _ _
    refine Sky.land Zc.steady frs0 hfr0 sky fun hp3 fl3 up3 => ?_
    have J3 : Inv X pins σ' H' { t1 with heap := hp3 } := J.landed nb fl3.1 (up.trans up3) os ag
    have none0 : Bh.get? a = none := fl3.2.1
    obtain ⟨ob3, fv3, g3, z3, dt3⟩ := fl3.there
    have nFr : a ∉ frs (X.env :: X.outer) := fun hm => by
      obtain ⟨_, o', e', hnf⟩ := fl3.2.2.1.mem hm
      rw [g3] at e'
      cases e'
      exact hnf _ dt3
    have nLoc : a ≠ X.env.locals := fun e => nFr (List.mem_filterMap.mpr ⟨X.env, List.mem_cons_self, by rw [hfr0, e]⟩)
    have nFs : a ∉ X.fs := fun hm => by
      obtain ⟨e, he, q⟩ := List.mem_filterMap.mp hm
      exact nFr (List.mem_filterMap.mpr ⟨e, List.mem_cons_of_mem _ he, q⟩)
    -- the error is new
    have newI : sI.heap.get? a = none := by
      cases q : sI.heap.get? a with
      | none => rfl
      | some o =>
        have := nb a o q (by rw [hst]; exact nFr)
        rw [none0] at this
        cases this
    have new0 : X.s_0.heap.get? a = none := by
      cases q : X.s_0.heap.get? a with
      | none => rfl
      | some o =>
        obtain ⟨o', e'⟩ := J.base.there a o q (by rw [hex]; simp)
        rw [newI] at e'
        cases e'
    have newP : ∀ q ∈ X.pn ++ pins, q.1 ≠ a := fun q hq e => by
      have := (J.pin q hq).1
      rw [e, newI] at this
      cases this
    have S3 := J3.suite g3 dt3 na nLoc nFs
    refine wpAny_handleBy_cons (codeAny_handlers_test ?_) (by intro z; cases z)
    have look : PySem.W.Looks (model X.prog X.w) hp3 (typeOf (.ref a)) cls := fun A Q E s k q => wpAny_typeOf_ref (k _ _ g3) (z3.1.symm ▸ q)
    have fits0 := PySem.W.exm_one (M := model X.prog X.w) J3.kIn look hyes
    have ask : ∀ {Q : Value → Shared → Prop} {E : Value → Shared → Prop}, Q c { t1 with heap := hp3 } → wpAny (model X.prog X.w) (X.A.mark (some (.ref a))) (eval (.Name x p1) X.env) Q E { t1 with heap := hp3 } := fun {Q E} q => by
      rcases hc with ⟨hg, hdb, hm | ⟨hm, hv, hnn⟩⟩
      · exact ld_glob (X := X.suite a ((a, ob3) :: (X.pn ++ pins))) S3 hg hm q hdb
      · exact ld_blt (X := X.suite a ((a, ob3) :: (X.pn ++ pins))) S3 hg hm hv q hnn hdb
    refine ask (fits0.here (codeAny_handlers_suite_as (HandSPX.lands_againZ fl3 fun hp4 fl4 up4 => ?_)))
    have J4 : Inv X pins σ' H' { t1 with heap := hp4 } := J.landed nb fl4.1 ((up.trans up3).trans up4) os ag
    obtain ⟨ob4, fv4, g4, z4, dt4⟩ := fl4.there
    have S4 := J4.suite g4 dt4 na nLoc nFs
    refine store_ok (X := X.suite a ((a, ob4) :: (X.pn ++ pins))) (v := .ref a) S4 hN hi (.inl hlm) rfl (fun t5 S5 => ?_) (.inr hlm)
    have run : PSs (X.suite a ((a, ob4) :: (X.pn ++ pins))) [.Assign [.Name y p2] (.Name m p3) p4] (tAsg (tVar i) (gName j)) :=
      pss_one (ps_set hN hj (.inl hly) (pe_var hi (.inl hlm) hd1 hd2) (hsw _ rfl) (.inr hly))
    have hlen : i < σ'.length := by rw [J.len]; exact (List.getElem?_eq_some_iff.mp hi).1
    refine wpAny_mono (run.run [] t5 _ H' { nx := fun σ6 H6 => σ6 = (σ'.set i (some (.ref a))).set j (some (.ref a)) ∧ H6 = H', rt := fun _ _ => False, bk := fun _ _ => False, ct := fun _ _ => False } S5 ⟨.ref a, by rw [List.getElem?_set_self hlen], rfl, rfl⟩) (fun fw t6 hfw => ?_) (fun _ _ z => False.elim z)
    cases fw with
    | next =>
      obtain ⟨σ6, H6, S6, e6, e7⟩ := hfw
      subst e6 e7
      have pin6 := (S6.pin (a, ob4) (List.mem_append_left _ List.mem_cons_self)).1
      exact gone_ok ((S6.unsuite okX).adopt pin6 z4 dt4 na new0 nLoc newP) hN hi hlm fun t7 J7 => ⟨_, _, J7, hk a na⟩
    | brk => obtain ⟨_, _, _, q⟩ := hfw; exact q.elim
    | cont => obtain ⟨_, _, _, q⟩ := hfw; exact q.elim
    | ret u => obtain ⟨_, _, _, _, _, q⟩ := hfw; exact q.elim
  · cases fw with
    | next =>
      obtain ⟨σ1, H1, J1, q⟩ := hfw
      exact wpAny_execs_nil ⟨σ1, H1, J1.ofTry okX, q⟩
    | ret u =>
      obtain ⟨v, σ1, H1, J1, r, q⟩ := hfw
      exact ⟨v, σ1, H1, J1.ofTry okX, r, q⟩
    | brk =>
      obtain ⟨σ1, H1, J1, q⟩ := hfw
      exact ⟨σ1, H1, J1.ofTry okX, q⟩
    | cont =>
      obtain ⟨σ1, H1, J1, q⟩ := hfw
      exact ⟨σ1, H1, J1.ofTry okX, q⟩
/-! ### isinstance of a kept error -/
theorem kept_kit {a C : Addr} (J : Inv X ps0 σ H st) (hC : ExcC X.K C) (e : H a = some (.ext (Err a (.ref C) none))) : ∃ P : Heap → Prop, PySem.W.KitX X.K (.ref a) (.ref C) P ∧ P st.heap := by
  obtain ⟨⟨ob, g, z, fl, dt⟩, _⟩ := (show ObjOk X.prog X.w H st.heap a (.ext (Err a (.ref C) none)) from J.hok a _ e)
  refine ⟨_, PySem.W.handS_kitx_exc (ox := ob) hC.hg hC.hk hC.hs hC.hd hC.ha hC.hn hC.ht hC.hm, ?_⟩
  obtain ⟨k1, k2, k3, k4⟩ := ob
  obtain ⟨z1, z2⟩ := z
  dsimp only at z1 z2 dt
  subst z1 z2 dt
  exact ⟨g, rfl, rfl, trivial⟩
def rKept (K : PySem.W.Frag) (C : Addr) : List V → Hp → VK → Prop := fun xs H Q => ∃ (a : Addr) (c : V) (u : Value) (b : Bool), xs = [.ref a, c] ∧ H a = some (.ext (Err a (.ref C) none)) ∧ ClsV c u ∧ PySem.W.kitOne K (.ref C) u = some b ∧ Q (.bl b) H
def rKeptT (K : PySem.W.Frag) (C : Addr) : List V → Hp → VK → Prop := fun xs H Q => ∃ (a tp : Addr) (cs : List V) (us : List Value) (b : Bool), xs = [.ref a, .ref tp] ∧ H a = some (.ext (Err a (.ref C) none)) ∧ H tp = some (.tup cs) ∧ Paired ClsV cs us ∧ PySem.W.kitAny K (.ref C) us = some b ∧ Q (.bl b) H
theorem call_kept {C : Addr} (hC : ExcC X.K C) : CallR X (.builtin "isinstance") (rKept X.K C) := by
  intro pins s σ H xs us Q I r h
  obtain ⟨a, c, u, b, rfl, e, k, kb, q⟩ := h
  obtain ⟨u1, u2, rfl, r1, r2⟩ := vals2 r
  cases (show u1 = Value.ref a from r1)
  obtain rfl := k.eq r2
  obtain ⟨P, Z, p⟩ := kept_kit I hC e
  exact PySem.W.kia_one Z I.kIn p kb (by intro z; cases z) fun tk => ⟨.bl b, H, I.tok tk, rfl, q⟩
theorem call_keptT {C : Addr} (hC : ExcC X.K C) : CallR X (.builtin "isinstance") (rKeptT X.K C) := by
  intro pins s σ H xs us Q I r h
  obtain ⟨a, tp, cs, ws, b, rfl, e, hT, k, kb, q⟩ := h
  obtain ⟨u1, u2, rfl, r1, r2⟩ := vals2 r
  cases (show u1 = Value.ref a from r1)
  cases (show u2 = Value.ref tp from r2)
  obtain ⟨P, Z, p⟩ := kept_kit I hC e
  obtain ⟨_, its, rv, o, g1, g2, m, g3⟩ := (show ObjOk X.prog X.w H s.heap tp (.tup cs) from I.hok tp _ hT)
  obtain rfl := ClsV.all k rv
  obtain ⟨o1, o2, o3, o4⟩ := o
  dsimp only at g2 g3
  subst g2 g3
  exact PySem.W.kia_tup Z I.kIn p g1 kb (by intro z; cases z) fun tk => ⟨.bl b, H, I.tok tk, rfl, q⟩
/-! ### a call of a def that a name holds, errors taken -/
def tHeld (i : Nat) (f : Addr) (sp : Sp) (E : L2.St → XK) (t : TA) : TE := fun σ H Q => σ[i]? = some (some (.ref f)) ∧ t σ H fun vs H1 => sp vs H1 Q (E σ)
theorem pe_held {CX : CXT} {k i : Nat} {f : Addr} {fd : FuncData} {ps : List Str} {sp : Sp} {E : L2.St → XK} {x : Str} {p pos : Pos} {e : Expr} {es : List Expr} {t : TA} (F : FnOk X.prog X.w X.K X.mg X.base CX k f fd ps sp) (hr : Room k X.A) (hN : X.N[i]? = some x) (hv : Vis X.env.scope x) (hk : PySem.W.keepIn X.K (.ref f) = true)
    (hb : Binds X.K fd ps []) (hx : ∀ σ, PassesAt CX X σ (E σ)) (ha : PA X (e :: es) t) (hd1 : (x == ("__debug__" : Str)) = false := by decide) (hd2 : (x == ("__classdict__" : Str)) = false := by decide)
    (hst : starEach (e :: es) X.env = (false, eval e X.env) :: starEach es X.env := by rfl) (hpl : (backTo pos (starEach es X.env)).any (·.1) = false := by rfl) : PE X (.Call (.Name x p) (e :: es) [] pos) (tHeld i f sp E t) := ⟨fun pins s σ H Q I ⟨hs, ht⟩ => by
  refine wpAny_Call_Name_kw (thn ((pe_var (pos := p) hN hv hd1 hd2).run pins s σ H (fun v H1 => v = .ref f ∧ H1 = H) I ⟨.ref f, hs, rfl, rfl⟩) fun u t1 ⟨v, H1, I1, r1, e1, e2⟩ => ?_)
  subst e1 e2
  cases (show u = Value.ref f from r1)
  exact PySem.W.callWith_K (h₀ := X.base) I.ok.mod.kin hk (thn (ha.run pos pins t1 σ _ _ I1 ht) fun us t2 ⟨vs, H2, I2, r, q⟩ => ⟨I2.kIn, run_fnS F hr hb (hx σ) I2 r q⟩) hst hpl⟩
end
end PL

set_option maxRecDepth 100000
/-! PL20: what the printed derivations lean on. -/
namespace PL
open PySem PySem.Spec PyProof.Rows L2
/-- nothing is let out -/
theorem passX0 {X : Cx} {P : Program} {w : World} : Passes (L2.CX P w) X E0 := fun _ _ _ _ _ _ _ ⟨_, _, _, _, _, _, _, _, _, _, _, _, h⟩ => h.elim
theorem room_un {k : Nat} {A : Around} (r : Room k A) : A.units + 200 < cLine := by have := r.un; omega
/-- where the classes of errors stand -/
def rhoOf (K : PySem.W.Frag) : Str → Addr := He.ga K
/-- a def of the text, as the head tells it -/
structure DefAt (K : PySem.W.Frag) (mg : Str → Option Value) (x : Str) (st : Stmt) (ps : List Str) : Prop where
  ex : ∃ fd, Fun K x x st (He.ga K x) fd ∧ Binds K fd ps []
  g : mg x = some (.ref (He.ga K x))
/-- an error's class -/
structure ErrAt (K : PySem.W.Frag) (mg : Str → Option Value) (x : Str) : Prop where
  g : mg x = some (.ref (He.ga K x))
  q : PySem.W.excIn K (He.ga K x) He.veBase "ValueError.__new__" = true
  k : PySem.W.keepIn K (.ref (He.ga K x)) = true
  b : PySem.W.subIn K (.ref (He.ga K x)) (.type "BaseException") = some true
  t : PySem.W.typeIn K (.ref (He.ga K x)) = some (.type "type")
/-- the def that stands there -/
def fdAt (K : PySem.W.Frag) (x : Str) : Option FuncData := match K.lookup (He.ga K x) with
  | some ⟨_, _, .func fd, _⟩ => some fd
  | _ => none
theorem fdAt_of {K : PySem.W.Frag} {x q : Str} {st : Stmt} {fd : FuncData} (F : Fun K x q st (He.ga K x) fd) : fdAt K x = some fd := by
  obtain ⟨oc, od, kV, doc, pm, an, cdv, ct, osl, e1, e2, e3⟩ := F.ex
  unfold fdAt
  rw [e2, e1]
/-- a def that keeps its promise -/
structure Kept (P : Program) (w : World) (K : PySem.W.Frag) (mg : Str → Option Value) (base : Heap) (CX : CXT) (k : Nat) (x : Str) (ps : List Str) (sp : Sp) : Prop where
  ex : ∃ fd, FnOk P w K mg base CX k (He.ga K x) fd ps sp ∧ Binds K fd ps [] ∧ fdAt K x = some fd
  g : mg x = some (.ref (He.ga K x))
  kp : PySem.W.keepIn K (.ref (He.ga K x)) = true
section
variable {P : Program} {w : World} {K : PySem.W.Frag} {mg : Str → Option Value} {base : Heap} {ρ : Str → Addr}
theorem kept_v0 {x : Str} {st : Stmt} {N ps : List Str} {n : Nat} {body : SS → Oc} (k : Nat) (F : DefAt K mg x st ps) (S : FnScope N ps (defScope st)) (hp : ps.length ≤ N.length)
    (der : ∀ (cdv : Value) (A : Around) (outer : List Env) (s : Shared) (H : Hp) (E : XK) (G : Hp), Room k (A.deeper (envOfC x (defScope st) s.heap.objs.size (He.ga K x) cdv)) →
      PSs (cxOf CX0 P w K mg base N x (defScope st) (He.ga K x) cdv A outer s H E).nox (defBody st) (TSt ⟨K, ρ, E0, G, H, fun _ => False, N.length, [], fun _ => .non⟩ n body)) :
    Kept P w K mg base CX0 (k + 1) x ps (spV K ρ ps.length n (fnV0 N.length body)) := by
  obtain ⟨fd, F1, b⟩ := F.ex
  exact ⟨⟨fd, fn_v0 F1 S hp der, b, fdAt_of F1⟩, F.g, F1.kp⟩
theorem kept_v {x : Str} {st : Stmt} {N ps : List Str} {n : Nat} {body : SS → Oc} (k : Nat) (F : DefAt K mg x st ps) (S : FnScope N ps (defScope st)) (hp : ps.length ≤ N.length)
    (der : ∀ (cdv : Value) (A : Around) (outer : List Env) (s : Shared) (H : Hp) (E : XK) (G : Hp), Room k (A.deeper (envOfC x (defScope st) s.heap.objs.size (He.ga K x) cdv)) →
      PSs (cxOf (L2.CX P w) P w K mg base N x (defScope st) (He.ga K x) cdv A outer s H E) (defBody st) (TSt ⟨K, ρ, E, G, H, fun _ => False, N.length, [], fun _ => .non⟩ n body)) :
    Kept P w K mg base (L2.CX P w) (k + 1) x ps (spV K ρ ps.length n (fnV N.length body)) := by
  obtain ⟨fd, F1, b⟩ := F.ex
  exact ⟨⟨fd, fn_v F1 S hp der, b, fdAt_of F1⟩, F.g, F1.kp⟩
theorem kept_f0 {x : Str} {st : Stmt} {N ps : List Str} {n : Nat} {ns : List Nat} {body : SS → Oc} (k : Nat) (F : DefAt K mg x st ps) (S : FnScope N ps (defScope st)) (hp : ps.length ≤ N.length) (hn : ns.length = ps.length)
    (der : ∀ (cdv : Value) (A : Around) (outer : List Env) (s : Shared) (H : Hp) (E : XK) (G : Hp) (A0 : Addr → Prop) (pv : Nat → V), Room k (A.deeper (envOfC x (defScope st) s.heap.objs.size (He.ga K x) cdv)) →
      PSs (cxOf CX0 P w K mg base N x (defScope st) (He.ga K x) cdv A outer s H E).nox (defBody st) (TSt ⟨K, ρ, E0, G, H, A0, N.length, pinsOf ns, pv⟩ n body)) :
    Kept P w K mg base CX0 (k + 1) x ps (spF K ρ ns n (fnF0 N.length ns body)) := by
  obtain ⟨fd, F1, b⟩ := F.ex
  exact ⟨⟨fd, fn_f0 F1 S hp hn der, b, fdAt_of F1⟩, F.g, F1.kp⟩
theorem kept_f {x : Str} {st : Stmt} {N ps : List Str} {n : Nat} {ns : List Nat} {body : SS → Oc} (k : Nat) (F : DefAt K mg x st ps) (S : FnScope N ps (defScope st)) (hp : ps.length ≤ N.length) (hn : ns.length = ps.length)
    (der : ∀ (cdv : Value) (A : Around) (outer : List Env) (s : Shared) (H : Hp) (E : XK) (G : Hp) (A0 : Addr → Prop) (pv : Nat → V), Room k (A.deeper (envOfC x (defScope st) s.heap.objs.size (He.ga K x) cdv)) →
      PSs (cxOf (L2.CX P w) P w K mg base N x (defScope st) (He.ga K x) cdv A outer s H E) (defBody st) (TSt ⟨K, ρ, E, G, H, A0, N.length, pinsOf ns, pv⟩ n body)) :
    Kept P w K mg base (L2.CX P w) (k + 1) x ps (spF K ρ ns n (fnF N.length ns body)) := by
  obtain ⟨fd, F1, b⟩ := F.ex
  exact ⟨⟨fd, fn_f F1 S hp hn der, b, fdAt_of F1⟩, F.g, F1.kp⟩
end
section
variable {X : Cx} {B : Bs} {n : Nat} {ρ : Str → Addr} {E : XK}
theorem pc_v {CX : CXT} {k m : Nat} {ps : List Str} {op : List D → Rs D} {x : Str} {p pos : Pos} {e : Expr} {es : List Expr} {ds : List (VS → Rs D)}
    (F : Kept X.prog X.w X.K X.mg X.base CX m x ps (spV X.K ρ k n op)) (hr : Room m X.A) (hx : Passes CX X E)
    (ha : PA X (e :: es) (TVa X.K ρ E 0 (vArgs ds))) (hg : Gl X x := by rfl) (hl : ds.length = k := by rfl) (hdb : (x == ("__debug__" : Str)) = false := by decide) (hs : starEach (e :: es) X.env = (false, eval e X.env) :: starEach es X.env := by rfl)
    (hpl : (backTo pos (starEach es X.env)).any (·.1) = false := by rfl) : PE X (.Call (.Name x p) (e :: es) [] pos) (TV X.K ρ E n (vCall op ds)) := by
  obtain ⟨fd, G, b, _⟩ := F.ex
  exact pv_call G hr F.g F.kp b hx ha hg hl hdb hs hpl
theorem pc_f {CX : CXT} {m : Nat} {ps : List Str} {ns : List Nat} {op : List D → Rs (D × List D)} {x : Str} {p pos : Pos} {e : Expr} {es : List Expr} {args : List ArgX} (hK : X.K = B.K)
    (F : Kept X.prog X.w X.K X.mg X.base CX m x ps (spF X.K B.ρ ns n op)) (hr : Room m X.A) (hx : Passes CX X B.E)
    (ha : PA X (e :: es) (TXio B args)) (hg : Gl X x := by rfl) (hdb : (x == ("__debug__" : Str)) = false := by decide) (hs : starEach (e :: es) X.env = (false, eval e X.env) :: starEach es X.env := by rfl)
    (hpl : (backTo pos (starEach es X.env)).any (·.1) = false := by rfl) : PE X (.Call (.Name x p) (e :: es) [] pos) (TX B n (xCallF ns op args)) := by
  obtain ⟨fd, G, b, _⟩ := F.ex
  exact px_callF hK G hr F.g F.kp b hx ha hg hdb hs hpl
theorem pc_x {CX : CXT} {k m : Nat} {ps : List Str} {op : List D → Rs D} {x : Str} {p pos : Pos} {e : Expr} {es : List Expr} {args : List (SS → Rs (D × SS))} (hK : X.K = B.K)
    (F : Kept X.prog X.w X.K X.mg X.base CX m x ps (spV X.K B.ρ k n op)) (hr : Room m X.A) (hx : Passes CX X B.E)
    (ha : PA X (e :: es) (TXa B args)) (hg : Gl X x := by rfl) (hl : args.length = k := by rfl) (hdb : (x == ("__debug__" : Str)) = false := by decide) (hs : starEach (e :: es) X.env = (false, eval e X.env) :: starEach es X.env := by rfl)
    (hpl : (backTo pos (starEach es X.env)).any (·.1) = false := by rfl) : PE X (.Call (.Name x p) (e :: es) [] pos) (TX B n (xCallV n op args)) := by
  obtain ⟨fd, G, b, _⟩ := F.ex
  exact px_callV hK G hr F.g F.kp b hx ha hg hl hdb hs hpl
theorem so_err {x m : Str} {j : Nat} {p p2 pos pos' : Pos} (hc : X.calm = true) (tk : Takes X (fun cls d _ H => B.E cls d H)) (F : ErrAt X.K X.mg x) (hρ : B.ρ = rhoOf X.K) (hg : Gl X x := by rfl) (hdb : (x == ("__debug__" : Str)) = false := by decide) :
    PS X (.Raise (some (.Call (.Name x p) [.Constant (.str m) j p2] [] pos)) none pos') (TSt B n (fun _ => .ex x)) :=
  so_raise hc tk PySem.F.excBase_ValueError F.q F.g F.k (raises_own F.b F.t) (by rw [hρ]; rfl) hg hdb
end
section
variable {X : Cx} {B : Bs} {n m : Nat}
/-- name = [..] on one row -/
theorem so_setLc {i : Nat} {y : Str} {py : Pos} {elt tg iter : Expr} {ifs : List Expr} {scope : Scope} {own : List (Str × Nat)} {pos spos : Pos} {g : TG} {dI : SS → Rs (List D × SS)} {t : Tgx} {dt de : SS → Rs (D × SS)} (hc : X.calm = true) (hN : X.N.Nodup) (hy : X.N[i]? = some y) (hyl : X.env.scope.names.lookup y = some .local)
    (hsw : swapsWith (.ListComp elt [⟨tg, iter, ifs, 0⟩] scope pos) (some (.Name y py)) spos.line X.env = pure true) (hi : PIX X B tg iter dI) (ok : BlkOk X.N X.env.scope scope own)
    (hg : ∀ (s : Shared) (H : Hp) (C : Addr) (cl : List (Str × Addr)) (fp : List Addr), PGX (X.blk s H scope (compEnvC scope cl C X.env) fp) B tg g t) (ho : Owns (own.map (·.2)) g)
    (ht : ∀ (s : Shared) (H : Hp) (C : Addr) (cl : List (Str × Addr)) (fp : List Addr), PTs (X.blk s H scope (compEnvC scope cl C X.env) fp) ifs (TXt B.calm dt))
    (he : ∀ (s : Shared) (H : Hp) (C : Addr) (cl : List (Str × Addr)) (fp : List Addr), PE (X.blk s H scope (compEnvC scope cl C X.env) fp) elt (TX B.calm m de)) (hP : ∀ i ∈ own.map (·.2), i ∉ B.P := by exact of_decide_eq_true rfl)
    (hb : i < B.N := by exact of_decide_eq_true rfl) (hp : i ∉ B.P := by exact of_decide_eq_true rfl) (hs : ∀ x, foldedSetIterable iter X.env x = pure x := by intro _; rfl) :
    PS X (.Assign [.Name y py] (.ListComp elt [⟨tg, iter, ifs, 0⟩] scope pos) spos) (TSt B n (oSet i (m + 1) (xComp dI t (own.map (·.2)) dt de))) := by
  obtain ⟨wi, pi, ri⟩ := hi.run
  exact PS.of (ps_setLc hc hN hy hyl hsw pi ok (fun s H C cl fp => (hg s H C cl fp).pg) ht he hs) (asg_rd hb hp (rd_lc hP ri (hg {} (fun _ => none) 0 [] []).rd ho (fun _ _ _ z => z) (fun _ _ _ z => z)))
theorem pgv_tupK (K : PySem.W.Frag) {es : List Expr} {k n : Nat} {pos : Pos} {is own : List Nat} (hK : X.K = K) (hc : X.calm = true) (h : PGN X es is) (ho : ∀ i ∈ is, i ∈ own) (hl : is.length = n) (hn : (assignEach es X.env).length = n := by rfl) (hst : (assignEach es X.env).findIdx? (·.1) = none := by rfl) :
    PGV X (.Tuple es k pos) own (gTup K n (gNames is)) (tgTup is) := hK ▸ pgv_tup hc h ho hl hn hst
theorem pgx_tupK (K : PySem.W.Frag) {es : List Expr} {k m : Nat} {pos : Pos} {is : List Nat} (hK' : X.K = K) (hc : X.calm = true) (hK : X.K = B.K) (h : PGN X es is) (hi : ∀ i ∈ is, i < B.N ∧ i ∉ B.P) (hl : is.length = m) (hn : (assignEach es X.env).length = m := by rfl) (hst : (assignEach es X.env).findIdx? (·.1) = none := by rfl) :
    PGX X B (.Tuple es k pos) (gTup K m (gNames is)) (xTup is) := hK' ▸ pgx_tup hc hK h hi hl hn hst
end
/-! ### a def that is handed a def -/
def refusedAs (c : Str) (op : List D → Rs D) : List D → Rs D := fun ds => match op ds with
  | .ex x => if x = c then .ok (.bool true) else .no
  | _ => .no
/-- a promise behind a def's address -/
def spRef (K : PySem.W.Frag) (x : Str) (sp : Sp) : Sp := fun vs H Q E => ∃ r, vs = .ref (He.ga K x) :: r ∧ sp r H Q E
section
variable {X : Cx} {B : Bs} {n : Nat}
theorem TXa.imp {args : List (SS → Rs (D × SS))} {σ : L2.St} {H : Hp} {Q Q' : List V → Hp → Prop} (h : TXa B args σ H Q) (i : ∀ vs H, Q vs H → Q' vs H) : TXa B args σ H Q' := by
  obtain ⟨T, s, sm, p⟩ := h
  refine ⟨T, s, sm, ?_⟩
  cases q : vArgsX args s with
  | no => rw [q] at p; exact p
  | ex c => rw [q] at p; exact p
  | ok r => rw [q] at p; exact fun vs U H' e1 e2 sm' => i _ _ (p vs U H' e1 e2 sm')
theorem pc_ref {CX : CXT} {k m : Nat} {ps : List Str} {op : List D → Rs D} {x y : Str} {p p2 pos : Pos} {es : List Expr} {args : List (SS → Rs (D × SS))} (hK : X.K = B.K)
    (F : Kept X.prog X.w X.K X.mg X.base CX m x ps (spRef X.K y (spV X.K B.ρ k n op))) (hr : Room m X.A) (hx : Passes CX X B.E) (hy : X.mg y = some (.ref (He.ga X.K y)))
    (ha : PA X es (TXa B args)) (hg : Gl X x := by rfl) (hgy : Gl X y := by rfl) (hl : args.length = k := by rfl) (hdb : (x == ("__debug__" : Str)) = false := by decide) (hdy : (y == ("__debug__" : Str)) = false := by decide) (hs : starEach (.Name y p2 :: es) X.env = (false, eval (.Name y p2) X.env) :: starEach es X.env := by rfl)
    (hpl : (backTo pos (starEach es X.env)).any (·.1) = false := by rfl) : PE X (.Call (.Name x p) (.Name y p2 :: es) [] pos) (TX B n (xCallV n op args)) := by
  obtain ⟨fd, G, b, _⟩ := F.ex
  refine PE.of (pe_call G hr hg F.g F.kp b .nil hx (pa_cons (pe_glob hgy hy (v := .ref _) rfl hdy) ha hs) hdb hs hpl) fun σ H Q q => ?_
  rw [hK]
  exact TXa.imp (rd_callV hl σ H Q q) fun vs H1 h => ⟨vs ++ [], rfl, h⟩
end
/-! ### dicts that nobody looks into -/
def dDct : D := .dict [(.none, .none)]
theorem evl_frz {G H : Hp} {p : Addr} {o : HO} (g : Same G H) (h : H p = none) : Evl G H (upd G p o) (upd H p o) := by
  have gp : G p = none := g.free h
  refine ⟨same_upd h, same_upd gp, fun a u e => ?_, fun a e => ?_⟩
  · by_cases q : a = p
    · subst q; rw [upd_same] at e ⊢; exact e
    · rw [upd_ne q] at e ⊢; exact g a u e
  · by_cases q : a = p
    · subst q; exact .inr h
    · rw [upd_ne q] at e; exact .inl e
section
variable {X : Cx} {ρ : Str → Addr} {E : XK}
theorem tv_dct {σ : L2.St} {H : Hp} {Q : VK} {kvs : List (Key × V)} (h : TV X.K ρ E 0 (vC dDct) σ H Q) : ∀ p, H p = none → Q (.ref p) (upd H p (.dK kvs)) := fun p hp => by
  obtain ⟨G, s, g, sv, q⟩ := h
  refine q (.ref p) _ _ [] (evl_frz g hp) ?_ Fr.nil
  unfold dDct
  simp only [Rp]
  exact ⟨trivial, p, rfl, .inl ⟨trivial, kvs, upd_same⟩⟩
theorem pv_dct0 {pos : Pos} : PE X (.Dict [] [] pos) (TV X.K ρ E 0 (vC dDct)) := PE.of pe_dnewK fun _ _ _ h => tv_dct h
theorem pv_dct1 {pos p1 p2 : Pos} {x : Str} {i : Int} {j1 j2} : PE X (.Dict [some (.Constant (.str x) j1 p1)] [.Constant (.int i) j2 p2] pos) (TV X.K ρ E 0 (vC dDct)) :=
  PE.of (pe_disp (pps_cons pe_str pe_int pps_nil) rfl rfl (by simp) (by show 1 ≤ 15; decide)) fun σ H Q h p hp => by
    show (upd H p (.dK [])) p = some (.dK []) ∧ _
    refine ⟨upd_same, [(.inr x, .int i)], rfl, by show 1 ≤ 15; decide, ?_⟩
    rw [upd_upd]
    exact tv_dct h p hp
end
/-! ### a comprehension's names -/
def blkB (N : List Str) (sc scope : Scope) (own : List (Str × Nat)) : Bool :=
  decide (scope.kind = .function) && (decide (∀ y ∈ scope.names, scope.names.lookup y.1 = some y.2) && (decide (∀ p ∈ own, N[p.2]? = some p.1) && (decide (∀ y ∈ scope.names, y.2 = .free → sc.names.lookup y.1 = some .cell ∨ sc.names.lookup y.1 = some .free) &&
    decide (∀ y ∈ scope.names, y.2 = .local ∨ y.2 = .cell → y.1 ∈ own.map (·.1) ∨ y.1 ∉ N))))
theorem blk_of {N : List Str} {sc scope : Scope} {own : List (Str × Nat)} (h : blkB N sc scope own = true) : BlkOk N sc scope own := by
  unfold blkB at h
  simp only [Bool.and_eq_true, decide_eq_true_eq] at h
  exact ⟨h.1, h.2.1, h.2.2.1, h.2.2.2.1, h.2.2.2.2⟩
/-! ### built-in names -/
theorem b_int : bootBuiltins "int" = some (.type "int") := by rfl
theorem b_bool : bootBuiltins "bool" = some (.type "bool") := by rfl
theorem b_tuple : bootBuiltins "tuple" = some (.type "tuple") := by rfl
theorem b_list : bootBuiltins "list" = some (.type "list") := by rfl
theorem b_str : bootBuiltins "str" = some (.type "str") := by rfl
theorem b_all : bootBuiltins "all" = some (.builtin "all") := by rfl
theorem b_any : bootBuiltins "any" = some (.builtin "any") := by rfl
theorem b_sum : bootBuiltins "sum" = some (.builtin "sum") := by rfl
theorem b_min : bootBuiltins "min" = some (.builtin "min") := by rfl
theorem b_max : bootBuiltins "max" = some (.builtin "max") := by rfl
theorem b_abs : bootBuiltins "abs" = some (.builtin "abs") := by rfl
theorem b_isinstance : bootBuiltins "isinstance" = some (.builtin "isinstance") := by rfl
theorem b_valueError : bootBuiltins "ValueError" = some (.type "ValueError") := by rfl
/-! ### from the head -/
theorem fun_of {K : PySem.W.Frag} {x : Str} {st : Stmt} {f : Addr} {fd : FuncData} (F : FunD K x x (defArgs st) (defBody st) (defScope st) [] [] f fd) : Fun K x x st f fd := by
  obtain ⟨⟨oc, od, dV, kV, doc, pm, an, cdv, ct, osl, e1, e2, e3, e4, e5⟩, kp⟩ := F
  have e : dV = .none := by
    rcases e4 with ⟨_, h⟩ | ⟨h, _⟩
    · first | exact h | exact (by assumption)
    · exact absurd rfl h
  subst e
  exact ⟨⟨oc, od, kV, doc, pm, an, cdv, ct, osl, e1, e2, e3⟩, kp⟩
end PL

set_option maxRecDepth 100000
/-! PL21: the end: what the head is asked. -/
namespace PL
open PySem PySem.Spec PyProof.Rows L2
abbrev AlC : Type := Bool × He.AlD
def obsC (chk : PySem.W.Frag → Bool) (fa : List He.Fa) (fn : List He.DefD) (K : PySem.W.Frag) : AlC := (chk K, He.obsD fa fn K)
def obsCG (n : Nat) (chk : PySem.W.Frag → Bool) (fa : List He.Fa) (fn : List He.DefD) (g : Addr → Option Obj) : AlC := obsC chk fa fn (He.frG g (He.asD g n))
theorem saysC {chk : PySem.W.Frag → Bool} {fa : List He.Fa} {fn : List He.DefD} {K : PySem.W.Frag} (e : obsC chk fa fn K = (true, He.valD fn)) : chk K = true ∧ He.SaysD fa fn K := ⟨congrArg Prod.fst e, congrArg Prod.snd e⟩
def hookC (n : Nat) (chk : PySem.W.Frag → Bool) (fa : List He.Fa) (fn : List He.DefD) : PySem.W.Hook where
  α := AlC
  obs := fun st => obsCG n chk fa fn st.heap.get?
  val := fun _ => (true, He.valD fn)
  says := fun _ hp => ∃ K : PySem.W.Frag, K.In hp ∧ chk K = true ∧ He.SaysD fa fn K
  of := fun _ _ e => ⟨_, He.frG_in, saysC e⟩
  keeps := fun _ _ _ ⟨K, i, c⟩ k => ⟨K, PySem.W.Frag.In.keeps i k, c⟩
theorem obsCG_eq {n : Nat} {chk : PySem.W.Frag → Bool} {fa : List He.Fa} {fn : List He.DefD} {g : Addr → Option Obj} {st : Shared} (h : ∀ a, g a = st.heap.get? a) : obsCG n chk fa fn g = (hookC n chk fa fn).obs st := by
  have e : g = st.heap.get? := funext h
  rw [e]
  rfl
/-- an error's class, as isinstance asks it -/
def excB (K : PySem.W.Frag) (C : Addr) : Bool :=
  He.eqO (PySem.W.findIn K (.ref C) "__getattribute__") (some (some (.builtin "BaseException.__getattribute__"))) && (He.eqO (PySem.W.findIn K (.ref C) "__getattr__") (some none) && (decide (PySem.W.subIn K (.ref C) (.type "BaseException") = some true) && (PySem.W.hasDictIn K C &&
    (He.eqO (PySem.W.findIn K (.ref C) "__class__") (some (some (.builtin "object.__class__"))) && (He.eqO (PySem.W.specialIn K (.builtin "object.__class__") "__get__") (some (some (.builtin "getset_descriptor.__get__"))) &&
      (decide (PySem.W.takesIn K (.builtin "object.__class__") = some true) && decide (PySem.W.mroIn K C (.type "object") = some true)))))))
theorem excB_ok {K : PySem.W.Frag} {C : Addr} (h : excB K C = true) : ExcC K C := by
  unfold excB at h
  obtain ⟨h1, h⟩ := He.ba h
  obtain ⟨h2, h⟩ := He.ba h
  obtain ⟨h3, h⟩ := He.ba h
  obtain ⟨h4, h⟩ := He.ba h
  obtain ⟨h5, h⟩ := He.ba h
  obtain ⟨h6, h⟩ := He.ba h
  obtain ⟨h7, h8⟩ := He.ba h
  exact ⟨He.eqO_ok h1, He.eqO_ok h2, of_decide_eq_true h3, h4, He.eqO_ok h5, He.eqO_ok h6, of_decide_eq_true h7, of_decide_eq_true h8⟩
theorem defAt_of {K : PySem.W.Frag} {h : Heap} {mg : Str → Option Value} (X : K.In h) (G : h.Ns mainGlobals mg) {x : Str} {st : Stmt} {ps : List Str} (c : (He.Fa.glo x).ok K = true) (F : ∃ fd, FunD K x x (defArgs st) (defBody st) (defScope st) [] [] (He.ga K x) fd)
    (hb : ∀ (kV doc pm : Value) (an : Option Addr) (cdv ct : Value) (us : List Value), us.length = ps.length → bindArgs (PySem.W.fnOf x x (defArgs st) (defBody st) (defScope st) .none kV doc pm an cdv ct) ⟨us, []⟩ = pure (ps.zip us)) : DefAt K mg x st ps := by
  obtain ⟨fd, F⟩ := F
  have F1 := fun_of F
  exact ⟨⟨fd, F1, F1.binds hb⟩, He.glo_ok X G c⟩
theorem errAt_of {K : PySem.W.Frag} {h : Heap} {mg : Str → Option Value} (X : K.In h) (G : h.Ns mainGlobals mg) {x : Str} (c : (He.Fa.glo x).ok K = true) (c2 : (He.Fa.exc x).ok K = true) : ErrAt K mg x := by
  obtain ⟨h1, h2, h3, h4⟩ := He.exc_ok c2
  exact ⟨He.glo_ok X G c, h1, h2, h3, h4⟩
/-- the law's promise -/
def spLaw (K : PySem.W.Frag) : Sp := fun vs H Q _ => ∃ (a : Addr) (ns : List Int), vs = [.ref a] ∧ SqL K H a (ns.map V.int) ∧ ns.length ≤ 63 ∧ ∀ v H', v = V.bl true → Q v H'
theorem rps_ints {K : PySem.W.Frag} {H : Hp} : ∀ ns : List Int, Rps K H H 0 (ns.map PyData.int) (ns.map V.int) []
  | [] => by simp [Rps]
  | n :: ns => by
    simp only [List.map_cons, Rps]
    exact ⟨_, _, [], [], rfl, rp_int n _ _, rps_ints ns, rfl⟩
theorem law_of {K : PySem.W.Frag} {f : List D → Rs D} (h : ∀ ns : List Int, ns.length ≤ 63 → f [.list (ns.map .int)] = .ok (.bool true)) : ∀ vs H Q E, spLaw K vs H Q E → spV K (rhoOf K) 1 0 f vs H Q E := by
  rintro vs H Q E ⟨a, ns, rfl, hS, hl, k⟩
  refine ⟨rfl, H, [.list (ns.map .int)], Same.refl _, ?_, ?_⟩
  · simp only [Rps]
    refine ⟨_, _, [], [], rfl, ?_, ⟨by trivial, by trivial⟩, rfl⟩
    simp only [Rp]
    exact ⟨by trivial, a, _, rfl, hS, rps_ints ns⟩
  · rw [h ns hl]
    intro v H' G' A e r _
    simp only [Rp] at r
    exact k v H' r.1
end PL

set_option maxRecDepth 100000
/-! PL22: reckoning with the readings: rows that simp takes. -/
namespace PL
open PySem PySem.Spec PyProof.Rows L2
section
variable {α β : Type} {s : SS} {v : VS}
@[simp] theorem bind_no {f : α → Rs β} : (Rs.no : Rs α).bind f = .no := rfl
@[simp] theorem bind_ex {c : Str} {f : α → Rs β} : (Rs.ex c : Rs α).bind f = .ex c := rfl
@[simp] theorem bind_ok {a : α} {f : α → Rs β} : (Rs.ok a).bind f = f a := rfl
@[simp] theorem vName_ap {i : Nat} : vName i v = match v[i]? with | some (some d) => .ok d | _ => .no := rfl
@[simp] theorem vC_ap {d : D} : vC d v = .ok d := rfl
@[simp] theorem vOp_ap {f : D → D → Rs D} {a b : VS → Rs D} : vOp f a b v = (a v).bind fun x => (b v).bind fun y => f x y := rfl
@[simp] theorem vAnd_ap {a b : VS → Rs D} : vAnd a b v = (a v).bind fun x => match x with | .bool true => b v | .bool false => .ok (.bool false) | _ => .no := rfl
@[simp] theorem vOr_ap {a b : VS → Rs D} : vOr a b v = (a v).bind fun x => match x with | .bool false => b v | .bool true => .ok (.bool true) | _ => .no := rfl
@[simp] theorem vNot_ap {a : VS → Rs D} : vNot a v = (a v).bind fun x => match x with | .bool b => .ok (.bool (!b)) | _ => .no := rfl
@[simp] theorem vIf_ap {c a b : VS → Rs D} : vIf c a b v = (c v).bind fun x => match x with | .bool true => a v | .bool false => b v | _ => .no := rfl
@[simp] theorem vFlat_ap {a : VS → Rs D} : vFlat a v = (a v).bind fun r => if fits 0 r = true then .ok r else .no := rfl
@[simp] theorem vArgs_n : vArgs [] v = .ok [] := rfl
@[simp] theorem vArgs_c {d : VS → Rs D} {r : List (VS → Rs D)} : vArgs (d :: r) v = (d v).bind fun x => (vArgs r v).bind fun xs => .ok (x :: xs) := rfl
@[simp] theorem vTup_ap {a : List (VS → Rs D)} : vTup a v = (vArgs a v).bind fun xs => .ok (.tuple xs) := rfl
@[simp] theorem vLst_ap {a : List (VS → Rs D)} : vLst a v = (vArgs a v).bind fun xs => .ok (.list xs) := rfl
@[simp] theorem vCall_ap {f : List D → Rs D} {a : List (VS → Rs D)} : vCall f a v = (vArgs a v).bind f := rfl
@[simp] theorem vNeg_ap {a : VS → Rs D} : vNeg a v = (a v).bind fun x => match x with | .int i => .ok (.int (-i)) | _ => .no := rfl
@[simp] theorem vIsi_ap {T : String} {a : VS → Rs D} : vIsi T a v = (a v).bind fun d => .ok (.bool (isiB T d)) := rfl
@[simp] theorem vIsi2_ap {S T : String} {a : VS → Rs D} : vIsi2 S T a v = (a v).bind fun d => .ok (.bool (isiB S d || isiB T d)) := rfl
@[simp] theorem vItL_ap {a : VS → Rs D} : vItL a v = (a v).bind asList := rfl
@[simp] theorem vItT_ap {a : VS → Rs D} : vItT a v = (a v).bind asTuple := rfl
@[simp] theorem asList_l {xs : List D} : asList (.list xs) = .ok xs := rfl
@[simp] theorem asTuple_t {xs : List D} : asTuple (.tuple xs) = .ok xs := rfl
@[simp] theorem vItR_ap {a : List (VS → Rs D)} : vItR a v = (vArgs a v).bind dRng := rfl
@[simp] theorem xV_ap {n : Nat} {d : VS → Rs D} : xV n d s = (d (s.map viewOf)).bind fun r => if fits n r = true then .ok (r, s) else .no := rfl
@[simp] theorem xT_ap {d : VS → Rs D} : xT d s = (d (s.map viewOf)).bind fun r => .ok (r, s) := rfl
@[simp] theorem xF_ap {d : VS → Rs D} : xF d s = (d (s.map frzOf)).bind fun r => .ok (r, s) := rfl
theorem xOp_ap {n : Nat} {f : D → D → Rs D} {a b : SS → Rs (D × SS)} : xOp n f a b s = (a s).bind fun p => (b p.2).bind fun q => (f p.1 q.1).bind fun r => if fits n r = true then .ok (r, q.2) else .no := rfl
theorem xNot_ap {a : SS → Rs (D × SS)} : xNot a s = (a s).bind fun p => match p.1 with | .bool b => .ok (.bool (!b), p.2) | _ => .no := rfl
@[simp] theorem xAnd_ap {a b : SS → Rs (D × SS)} : xAnd a b s = (a s).bind fun p => match p.1 with | .bool true => b p.2 | .bool false => .ok (.bool false, p.2) | _ => .no := rfl
@[simp] theorem xOr_ap {a b : SS → Rs (D × SS)} : xOr a b s = (a s).bind fun p => match p.1 with | .bool false => b p.2 | .bool true => .ok (.bool true, p.2) | _ => .no := rfl
theorem vArgsX_n : vArgsX [] s = .ok ([], s) := rfl
theorem vArgsX_c {d : SS → Rs (D × SS)} {r : List (SS → Rs (D × SS))} : vArgsX (d :: r) s = (d s).bind fun p => (vArgsX r p.2).bind fun q => .ok (p.1 :: q.1, q.2) := rfl
theorem xCall_ap {n : Nat} {f : List D → Rs D} {a : List (SS → Rs (D × SS))} : xCall n f a s = (vArgsX a s).bind fun q => (f q.1).bind fun r => if fits n r = true then .ok (r, q.2) else .no := rfl
theorem xCallV_ap {n : Nat} {f : List D → Rs D} {a : List (SS → Rs (D × SS))} : xCallV n f a s = (vArgsX a s).bind fun q => (f q.1).bind fun r => if fits n r = true then .ok (r, q.2) else .no := rfl
theorem xTup_ap' {a : List (SS → Rs (D × SS))} : xTup' a s = (vArgsX a s).bind fun q => if fitsL 0 q.1 = true then .ok (.tuple q.1, q.2) else .no := rfl
theorem xLst_ap' {a : List (SS → Rs (D × SS))} : xLst' a s = (vArgsX a s).bind fun q => if fitsL 0 q.1 = true then .ok (.list q.1, q.2) else .no := rfl
theorem oSeq_ap {a b : SS → Oc} : oSeq a b s = match a s with | .nx s' => b s' | o => o := rfl
theorem oNil_ap : oNil s = .nx s := rfl
theorem oSet_ap {i m : Nat} {d : SS → Rs (D × SS)} : oSet i m d s = match d s with | .ok (r, s') => .nx (put s' i (.dat m r)) | .ex c => .ex c | .no => .no := rfl
theorem oDrop_ap {d : SS → Rs (D × SS)} : oDrop d s = match d s with | .ok (_, s') => .nx s' | .ex c => .ex c | .no => .no := rfl
theorem oRet_ap {d : SS → Rs (D × SS)} : oRet d s = match d s with | .ok (r, s') => .rt r s' | .ex c => .ex c | .no => .no := rfl
theorem oIf_ap {c : SS → Rs (D × SS)} {a b : SS → Oc} : oIf c a b s = match c s with | .ok (.bool true, s') => a s' | .ok (.bool false, s') => b s' | .ex c => .ex c | _ => .no := rfl
theorem oUnp_ap {d : SS → Rs (D × SS)} {t : Tgx} : oUnp d t s = match d s with | .ok (r, s') => (match t r s' with | .ok s2 => .nx s2 | _ => .no) | .ex c => .ex c | .no => .no := rfl
theorem oPair_ap {i j m m' : Nat} {a b : SS → Rs (D × SS)} : oPair i j m m' a b s = match a s with
  | .ok (r, s1) => (match b s1 with | .ok (r', s2) => .nx (put (put s2 j (.dat m' r')) i (.dat m r)) | .ex c => .ex c | .no => .no)
  | .ex c => .ex c
  | .no => .no := rfl
@[simp] theorem xName_ap {i : Nat} {d : D} : xName i d s = .ok (put s i (.dat 0 d)) := rfl
@[simp] theorem xTup_ap {is : List Nat} {ds : List D} : xTup is (.tuple ds) s = xSets is ds s := rfl
@[simp] theorem xSets_n : xSets [] [] s = .ok s := rfl
@[simp] theorem xSets_c {i : Nat} {is : List Nat} {d : D} {ds : List D} : xSets (i :: is) (d :: ds) s = xSets is ds (put s i (.dat 0 d)) := rfl
@[simp] theorem tgName_ap {i : Nat} {d : D} : tgName i d v = .ok (v.set i (some d)) := rfl
@[simp] theorem tgTup_ap {is : List Nat} {ds : List D} : tgTup is (.tuple ds) v = tgSets is ds v := rfl
@[simp] theorem tgSets_n : tgSets [] [] v = .ok v := rfl
@[simp] theorem tgSets_c {i : Nat} {is : List Nat} {d : D} {ds : List D} : tgSets (i :: is) (d :: ds) v = tgSets is ds (v.set i (some d)) := rfl
@[simp] theorem put_ap {i : Nat} {x : Slot} : put s i x = (s.map (tch i)).set i x := rfl
@[simp] theorem tch_dat {i n : Nat} {d : D} : tch i (.dat n d) = .dat n d := rfl
@[simp] theorem tch_b {i : Nat} : tch i .bot = .bot := rfl
@[simp] theorem view_dat {n : Nat} {d : D} : viewOf (.dat n d) = some d := rfl
@[simp] theorem view_bot : viewOf .bot = none := rfl
@[simp] theorem frz_0 {d : D} : frzOf (.dat 0 d) = some d := rfl
@[simp] theorem frz_s {n : Nat} {d : D} : frzOf (.dat (n + 1) d) = if fits 0 d = true then some d else none := rfl
@[simp] theorem frz_bot : frzOf .bot = none := rfl
@[simp] theorem forget_n : forget [] s = s := rfl
@[simp] theorem forget_c {i : Nat} {is : List Nat} : forget (i :: is) s = forget is (s.set i .bot) := rfl
@[simp] theorem wipeV_n : wipeV v [] = v := rfl
@[simp] theorem wipeV_c {i : Nat} {is : List Nat} : wipeV v (i :: is) = (wipeV v is).set i none := rfl
@[simp] theorem dSub_ii {i j : Int} : dSub (.int i) (.int j) = .ok (.int (i - j)) := rfl
@[simp] theorem dAdd_ii {i j : Int} : dAdd (.int i) (.int j) = .ok (.int (i + j)) := rfl
@[simp] theorem dMul_ii {i j : Int} : dMul (.int i) (.int j) = if mulOk i j = true then .ok (.int (i * j)) else .no := rfl
@[simp] theorem dDiv_ii {i j : Int} : dDiv (.int i) (.int j) = if divOk j = true then .ok (.int (i / j)) else .no := rfl
@[simp] theorem dMod_ii {i j : Int} : dMod (.int i) (.int j) = if 0 < j then .ok (.int (i % j)) else .no := rfl
@[simp] theorem dLt_ii {i j : Int} : dLt (.int i) (.int j) = .ok (.bool (decide (i < j))) := rfl
@[simp] theorem dLe_ii {i j : Int} : dLe (.int i) (.int j) = .ok (.bool (decide (i ≤ j))) := rfl
@[simp] theorem dGt_ii {i j : Int} : dGt (.int i) (.int j) = .ok (.bool (decide (j < i))) := rfl
@[simp] theorem dGe_ii {i j : Int} : dGe (.int i) (.int j) = .ok (.bool (decide (j ≤ i))) := rfl
@[simp] theorem dItem_l {xs : List D} {i : Int} : dItem (.list xs) (.int i) = match atI xs i with | some d => .ok d | none => .no := rfl
@[simp] theorem dItem_t {xs : List D} {i : Int} : dItem (.tuple xs) (.int i) = match atI xs i with | some d => .ok d | none => .no := rfl
@[simp] theorem dInt_i {i : Int} : dInt [.int i] = .ok (.int i) := rfl
@[simp] theorem dInt_b {b : Bool} : dInt [.bool b] = .ok (.int (if b then 1 else 0)) := rfl
@[simp] theorem dTuple_l {xs : List D} : dTuple [.list xs] = .ok (.tuple xs) := rfl
@[simp] theorem dTuple_t {xs : List D} : dTuple [.tuple xs] = .ok (.tuple xs) := rfl
@[simp] theorem dMax_ii {i j : Int} : dMax [.int i, .int j] = .ok (.int (max i j)) := rfl
@[simp] theorem dMin_ii {i j : Int} : dMin [.int i, .int j] = .ok (.int (min i j)) := rfl
@[simp] theorem dRng_1 {j : Int} : dRng [.int j] = if rngOk j = true then .ok (rngD 0 j.toNat) else .no := rfl
@[simp] theorem dRng_2 {i j : Int} : dRng [.int i, .int j] = if rngOk i = true ∧ rngOk j = true then .ok (rngD i (j - i).toNat) else .no := rfl
@[simp] theorem fits_int {n : Nat} {i : Int} : fits n (.int i) = true := by simp [fits]
@[simp] theorem fits_bool {n : Nat} {i : Bool} : fits n (.bool i) = true := by simp [fits]
@[simp] theorem fits_str {n : Nat} {i : Str} : fits n (.str i) = true := by simp [fits]
@[simp] theorem fits_none {n : Nat} : fits n .none = true := by simp [fits]
@[simp] theorem fits_tup {n : Nat} {ds : List D} : fits n (.tuple ds) = fitsL n ds := by simp [fits]
@[simp] theorem fits_lst {n : Nat} {ds : List D} : fits (n + 1) (.list ds) = fitsL n ds := by simp [fits]
@[simp] theorem fitsL_n {n : Nat} : fitsL n [] = true := by simp [fitsL]
@[simp] theorem fitsL_c {n : Nat} {d : D} {ds : List D} : fitsL n (d :: ds) = (fits n d && fitsL n ds) := by simp [fitsL]
theorem fitsL_all {n : Nat} : ∀ {ds : List D}, (∀ d ∈ ds, fits n d = true) → fitsL n ds = true
  | [], _ => by simp
  | d :: ds, h => by simp [h d (by simp), fitsL_all (ds := ds) fun e he => h e (by simp [he])]
@[simp] theorem fitsL_ints {n : Nat} {l : List Int} : fitsL n (l.map PyData.int) = true := fitsL_all (by simp)
end
/-! ### walks -/
section
variable {t : Tgx} {a : SS → Oc} {fg : List Nat}
/-- a walk by an invariant -/
theorem forS_inv (P : Nat → SS → Prop) : ∀ {ds : List D} {k : Nat} {s : SS}, P k s → (∀ (i : Nat) (d : D) (s : SS), ds[i]? = some d → P (k + i) s → ∃ s1 s2, t d s = .ok s1 ∧ a s1 = .nx s2 ∧ P (k + i + 1) (forget fg s2)) → ∃ s', forS t a fg ds s = .nx s' ∧ P (k + ds.length) s'
  | [], k, s, h, _ => ⟨s, rfl, h⟩
  | d :: ds, k, s, h, st => by
    obtain ⟨s1, s2, e1, e2, h2⟩ := st 0 d s rfl h
    unfold forS
    rw [e1]
    dsimp only
    rw [e2]
    dsimp only
    obtain ⟨s', e3, h3⟩ := forS_inv P (ds := ds) (k := k + 1) (s := forget fg s2) (by simpa using h2) (fun i d s hi hp => by
      obtain ⟨s1, s2, k1, k2, k3⟩ := st (i + 1) d s (by simpa using hi) (by rw [show k + (i + 1) = k + 1 + i by omega]; exact hp)
      exact ⟨s1, s2, k1, k2, by rw [show k + 1 + i + 1 = k + (i + 1) + 1 by omega]; exact k3⟩)
    exact ⟨s', e3, by rw [List.length_cons, show k + (ds.length + 1) = k + 1 + ds.length by omega]; exact h3⟩
theorem vCol_map {tg : D → VS → Rs VS} {tt elt : VS → Rs D} {s : VS} (f : D → D) : ∀ {ds : List D}, (∀ d ∈ ds, ∃ s1, tg d s = .ok s1 ∧ tt s1 = .ok (.bool true) ∧ elt s1 = .ok (f d)) → vCol tg tt elt s ds = .ok (ds.map f)
  | [], _ => rfl
  | d :: ds, h => by
    obtain ⟨s1, e1, e2, e3⟩ := h d (by simp)
    unfold vCol
    rw [e1]
    dsimp only [Rs.bind]
    rw [e2]
    dsimp only
    rw [e3]
    dsimp only
    rw [vCol_map f (ds := ds) fun e he => h e (by simp [he])]
    rfl
/-- [elt for .. in it] -/
theorem vComp_map {it : VS → Rs (List D)} {tg : D → VS → Rs VS} {own : List Nat} {elt : VS → Rs D} {s : VS} (f : D → D) {ds : List D} (h0 : it s = .ok ds) (hl : ds.length ≤ sizeLine) (h : ∀ d ∈ ds, ∃ s1, tg d (wipeV s own) = .ok s1 ∧ elt s1 = .ok (f d)) : vComp it tg own vYes elt s = .ok (.list (ds.map f)) := by
  unfold vComp
  rw [h0, bind_ok, if_pos hl, vCol_map f fun d hd => by
    obtain ⟨s1, e1, e2⟩ := h d hd
    exact ⟨s1, e1, rfl, e2⟩]
theorem vCol_filter {tg : D → VS → Rs VS} {tt elt : VS → Rs D} {s : VS} (p : D → Bool) (f : D → D) : ∀ {ds : List D}, (∀ d ∈ ds, ∃ s1, tg d s = .ok s1 ∧ tt s1 = .ok (.bool (p d)) ∧ (p d = true → elt s1 = .ok (f d))) → vCol tg tt elt s ds = .ok ((ds.filter p).map f)
  | [], _ => rfl
  | d :: ds, h => by
    obtain ⟨s1, e1, e2, e3⟩ := h d (by simp)
    unfold vCol
    rw [e1]
    dsimp only [Rs.bind]
    rw [e2]
    dsimp only
    have ih := vCol_filter p f (ds := ds) fun e he => h e (by simp [he])
    cases hp : p d with
    | true =>
      dsimp only
      rw [e3 hp]
      dsimp only
      rw [ih]
      simp [hp]
    | false =>
      dsimp only
      rw [ih]
      simp [hp]
theorem vComp_filter {it : VS → Rs (List D)} {tg : D → VS → Rs VS} {own : List Nat} {tt elt : VS → Rs D} {s : VS} (p : D → Bool) (f : D → D) {ds : List D} (h0 : it s = .ok ds) (hl : ds.length ≤ sizeLine) (h : ∀ d ∈ ds, ∃ s1, tg d (wipeV s own) = .ok s1 ∧ tt s1 = .ok (.bool (p d)) ∧ (p d = true → elt s1 = .ok (f d))) : vComp it tg own tt elt s = .ok (.list ((ds.filter p).map f)) := by
  unfold vComp
  rw [h0, bind_ok, if_pos hl, vCol_filter p f h]
/-- .. with changes: what each turn tells is known by R -/
theorem xCol_inv {t : Tgx} {de : SS → Rs (D × SS)} {own : List Nat} (P : SS → Prop) (R : D → Prop) : ∀ {ds : List D} {s : SS}, P s → (∀ (d : D) (s : SS), d ∈ ds → P s → ∃ s1 y s2, t d s = .ok s1 ∧ de s1 = .ok (y, s2) ∧ R y ∧ P (forget own s2)) → ∃ ys s', xCol t xYes de own ds s = .ok (ys, s') ∧ ys.length = ds.length ∧ (∀ y ∈ ys, R y) ∧ P s'
  | [], s, h, _ => ⟨[], s, rfl, rfl, by simp, h⟩
  | d :: ds, s, h, st => by
    obtain ⟨s1, y, s2, e1, e2, r, h2⟩ := st d s (by simp) h
    obtain ⟨ys, s', e3, e4, e5, h3⟩ := xCol_inv P R (ds := ds) h2 fun d s hd hp => st d s (by simp [hd]) hp
    refine ⟨y :: ys, s', ?_, by simp [e4], ?_, h3⟩
    · unfold xCol
      rw [e1]
      dsimp only [Rs.bind, xYes]
      rw [e2]
      dsimp only
      rw [e3]
    · intro z hz
      rcases List.mem_cons.mp hz with rfl | hz
      · exact r
      · exact e5 z hz
theorem xComp_inv {dI : SS → Rs (List D × SS)} {t : Tgx} {de : SS → Rs (D × SS)} {own : List Nat} (P : SS → Prop) (R : D → Prop) {ds : List D} {s s0 : SS} (h0 : dI s = .ok (ds, s0)) (hl : ds.length ≤ sizeLine) (hP : P (forget own s0)) (h : ∀ (d : D) (s : SS), d ∈ ds → P s → ∃ s1 y s2, t d s = .ok s1 ∧ de s1 = .ok (y, s2) ∧ R y ∧ P (forget own s2)) :
    ∃ ys s', xComp dI t own xYes de s = .ok (.list ys, s') ∧ ys.length = ds.length ∧ (∀ y ∈ ys, R y) ∧ P s' := by
  obtain ⟨ys, s', e, l, r, p⟩ := xCol_inv P R hP h
  refine ⟨ys, s', ?_, l, r, p⟩
  unfold xComp
  rw [h0, bind_ok]
  dsimp only
  rw [if_pos hl, e]
theorem mem_rngD {lo : Int} {n : Nat} {d : D} : d ∈ rngD lo n ↔ ∃ i : Nat, i < n ∧ d = .int (lo + (i : Int)) := by
  unfold rngD
  simp only [List.mem_map, List.mem_range]
  constructor
  · rintro ⟨i, h, rfl⟩; exact ⟨i, h, rfl⟩
  · rintro ⟨i, h, rfl⟩; exact ⟨i, h, rfl⟩
theorem rngD_get {lo : Int} {n i : Nat} {d : D} (h : (rngD lo n)[i]? = some d) : i < n ∧ d = .int (lo + (i : Int)) := by
  have hi : i < n := by
    have := (List.getElem?_eq_some_iff.mp h).1
    rwa [rngD_len] at this
  unfold rngD at h
  rw [List.getElem?_map, List.getElem?_range hi] at h
  exact ⟨hi, (Option.some.inj h).symm⟩
end
end PL

set_option maxRecDepth 100000
/-! PL23: wishes over readings. -/
namespace PL
open PySem PySem.Spec PyProof.Rows L2
def WD {α : Type} (x : Rs α) (Q : α → Prop) : Prop := match x with | .ok r => Q r | _ => False
def WX (x : Rs (D × SS)) (Q : D → SS → Prop) : Prop := match x with | .ok (r, s) => Q r s | _ => False
def WP (o : Oc) (Qn : SS → Prop) (Qr : D → SS → Prop) : Prop := match o with | .nx s => Qn s | .rt r s => Qr r s | _ => False
section
variable {α : Type} {s : SS} {Q : D → SS → Prop} {Qn : SS → Prop} {Qr : D → SS → Prop}
@[simp] theorem WD_ok {a : α} {P : α → Prop} : WD (.ok a) P ↔ P a := Iff.rfl
@[simp] theorem WX_ok {a : D × SS} : WX (.ok a) Q ↔ Q a.1 a.2 := Iff.rfl
@[simp] theorem WX_bind {x : Rs α} {f : α → Rs (D × SS)} : WX (x.bind f) Q ↔ WD x fun r => WX (f r) Q := by cases x <;> simp [WX, WD]
@[simp] theorem WX_if {c : Prop} [Decidable c] {x : Rs (D × SS)} : WX (if c then x else .no) Q ↔ c ∧ WX x Q := by
  by_cases h : c <;> simp [h, WX]
@[simp] theorem WD_if {c : Prop} [Decidable c] {x : Rs α} {P : α → Prop} : WD (if c then x else .no) P ↔ c ∧ WD x P := by
  by_cases h : c <;> simp [h, WD]
@[simp] theorem WD_bind {β : Type} {x : Rs β} {f : β → Rs α} {P : α → Prop} : WD (x.bind f) P ↔ WD x fun r => WD (f r) P := by cases x <;> simp [WD]
theorem WD_pair {x : Rs (D × SS)} {P : D × SS → Prop} : WD x P ↔ WX x fun r s => P (r, s) := by
  cases x with
  | ok a => cases a; rfl
  | no => rfl
  | ex c => rfl
@[simp] theorem WP_nx {s : SS} : WP (.nx s) Qn Qr ↔ Qn s := Iff.rfl
@[simp] theorem WP_rt {r : D} {s : SS} : WP (.rt r s) Qn Qr ↔ Qr r s := Iff.rfl
@[simp] theorem wp_seq {a b : SS → Oc} : WP (oSeq a b s) Qn Qr ↔ WP (a s) (fun s' => WP (b s') Qn Qr) Qr := by
  unfold oSeq
  cases a s <;> simp [WP]
@[simp] theorem wp_nil : WP (oNil s) Qn Qr ↔ Qn s := Iff.rfl
@[simp] theorem wp_set {i m : Nat} {d : SS → Rs (D × SS)} : WP (oSet i m d s) Qn Qr ↔ WX (d s) fun r s' => Qn (put s' i (.dat m r)) := by
  unfold oSet
  cases d s with
  | ok a => cases a; simp [WP, WX]
  | no => simp [WP, WX]
  | ex c => simp [WP, WX]
@[simp] theorem wp_drop {d : SS → Rs (D × SS)} : WP (oDrop d s) Qn Qr ↔ WX (d s) fun r s' => Qn s' := by
  unfold oDrop
  cases d s with
  | ok a => cases a; simp [WP, WX]
  | no => simp [WP, WX]
  | ex c => simp [WP, WX]
@[simp] theorem wp_ret {d : SS → Rs (D × SS)} : WP (oRet d s) Qn Qr ↔ WX (d s) Qr := by
  unfold oRet
  cases d s with
  | ok a => cases a; simp [WP, WX]
  | no => simp [WP, WX]
  | ex c => simp [WP, WX]
@[simp] theorem wp_if {c : SS → Rs (D × SS)} {a b : SS → Oc} : WP (oIf c a b s) Qn Qr ↔ WX (c s) fun r s' => match r with | .bool k => (k = true → WP (a s') Qn Qr) ∧ (k = false → WP (b s') Qn Qr) | _ => False := by
  unfold oIf
  cases c s with
  | ok x =>
    obtain ⟨r, s'⟩ := x
    cases r with
    | bool k => cases k <;> simp [WX]
    | _ => simp [WP, WX]
  | no => simp [WP, WX]
  | ex c => simp [WP, WX]
@[simp] theorem wp_unp {d : SS → Rs (D × SS)} {t : Tgx} : WP (oUnp d t s) Qn Qr ↔ WX (d s) fun r s' => WD (t r s') Qn := by
  unfold oUnp
  cases d s with
  | ok x =>
    obtain ⟨r, s'⟩ := x
    dsimp only [WX]
    cases t r s' <;> simp [WP, WD]
  | no => simp [WP, WX]
  | ex c => simp [WP, WX]
@[simp] theorem wp_pair {i j m m' : Nat} {a b : SS → Rs (D × SS)} : WP (oPair i j m m' a b s) Qn Qr ↔ WX (a s) fun r s1 => WX (b s1) fun r' s2 => Qn (put (put s2 j (.dat m' r')) i (.dat m r)) := by
  unfold oPair
  cases a s with
  | ok x =>
    obtain ⟨r, s1⟩ := x
    dsimp only [WX]
    cases b s1 with
    | ok y => cases y; simp [WP]
    | no => simp [WP]
    | ex c => simp [WP]
  | no => simp [WP, WX]
  | ex c => simp [WP, WX]
@[simp] theorem wx_op {n : Nat} {f : D → D → Rs D} {a b : SS → Rs (D × SS)} : WX (xOp n f a b s) Q ↔ WX (a s) fun x s1 => WX (b s1) fun y s2 => WD (f x y) fun r => fits n r = true ∧ Q r s2 := by
  unfold xOp
  rw [WX_bind, WD_pair]
  cases a s with
  | no => exact Iff.rfl
  | ex c => exact Iff.rfl
  | ok x =>
    obtain ⟨x, s1⟩ := x
    rw [WX_ok, WX_ok, WX_bind, WD_pair]
    dsimp only
    cases b s1 with
    | no => exact Iff.rfl
    | ex c => exact Iff.rfl
    | ok y =>
      obtain ⟨y, s2⟩ := y
      simp only [WX_ok, WX_bind, WX_if]
@[simp] theorem wx_not {a : SS → Rs (D × SS)} : WX (xNot a s) Q ↔ WX (a s) fun r s' => match r with | .bool k => Q (.bool (!k)) s' | _ => False := by
  unfold xNot
  rw [WX_bind, WD_pair]
  cases a s with
  | ok x =>
    obtain ⟨r, s'⟩ := x
    cases r <;> simp [WX]
  | no => simp [WX]
  | ex c => simp [WX]
def WXA (x : Rs (List D × SS)) (Q : List D → SS → Prop) : Prop := match x with | .ok (r, s) => Q r s | _ => False
@[simp] theorem wxa_nil {Q : List D → SS → Prop} : WXA (vArgsX [] s) Q ↔ Q [] s := Iff.rfl
@[simp] theorem wxa_cons {d : SS → Rs (D × SS)} {r : List (SS → Rs (D × SS))} {Q : List D → SS → Prop} : WXA (vArgsX (d :: r) s) Q ↔ WX (d s) fun x s1 => WXA (vArgsX r s1) fun xs s2 => Q (x :: xs) s2 := by
  rw [vArgsX_c]
  cases d s with
  | no => exact Iff.rfl
  | ex c => exact Iff.rfl
  | ok x =>
    obtain ⟨x, s1⟩ := x
    rw [bind_ok, WX_ok]
    dsimp only
    cases vArgsX r s1 with
    | no => exact Iff.rfl
    | ex c => exact Iff.rfl
    | ok y => cases y; exact Iff.rfl
theorem wxa_bind {x : Rs (List D × SS)} {f : List D × SS → Rs (D × SS)} : WX (x.bind f) Q ↔ WXA x fun xs s1 => WX (f (xs, s1)) Q := by
  cases x with
  | no => exact Iff.rfl
  | ex c => exact Iff.rfl
  | ok y => cases y; exact Iff.rfl
@[simp] theorem wx_call {n : Nat} {f : List D → Rs D} {a : List (SS → Rs (D × SS))} : WX (xCall n f a s) Q ↔ WXA (vArgsX a s) fun xs s1 => WD (f xs) fun r => fits n r = true ∧ Q r s1 := by
  unfold xCall
  rw [wxa_bind]
  simp only [WX_bind, WX_if, WX_ok]
@[simp] theorem wx_callV {n : Nat} {f : List D → Rs D} {a : List (SS → Rs (D × SS))} : WX (xCallV n f a s) Q ↔ WXA (vArgsX a s) fun xs s1 => WD (f xs) fun r => fits n r = true ∧ Q r s1 := by
  unfold xCallV
  rw [wxa_bind]
  simp only [WX_bind, WX_if, WX_ok]
@[simp] theorem wx_tup {a : List (SS → Rs (D × SS))} : WX (xTup' a s) Q ↔ WXA (vArgsX a s) fun xs s1 => fitsL 0 xs = true ∧ Q (.tuple xs) s1 := by
  unfold xTup'
  rw [wxa_bind]
  simp only [WX_if, WX_ok]
@[simp] theorem wx_lst {a : List (SS → Rs (D × SS))} : WX (xLst' a s) Q ↔ WXA (vArgsX a s) fun xs s1 => fitsL 0 xs = true ∧ Q (.list xs) s1 := by
  unfold xLst'
  rw [wxa_bind]
  simp only [WX_if, WX_ok]
theorem WP.imp {o : Oc} {Qn' : SS → Prop} {Qr' : D → SS → Prop} (h : WP o Qn' Qr') (i : ∀ s, Qn' s → Qn s) (j : ∀ r s, Qr' r s → Qr r s) : WP o Qn Qr := by
  cases o <;> first | exact h.elim | exact i _ h | exact j _ _ h
theorem WX.imp {x : Rs (D × SS)} {Q' : D → SS → Prop} (h : WX x Q') (j : ∀ r s, Q' r s → Q r s) : WX x Q := by
  cases x with
  | ok a => exact j _ _ h
  | no => exact h.elim
  | ex c => exact h.elim
/-! ### == and in, of whole numbers -/
@[simp] theorem eqv_ii {i j : Int} : PyData.eqv (.int i) (.int j) = (i == j) := by simp only [PyData.eqv]
@[simp] theorem plain_i {i : Int} : (PyData.int i).plain = true := by simp only [PyData.plain]
@[simp] theorem dEq_ii {i j : Int} : dEq (.int i) (.int j) = .ok (.bool (i == j)) := by
  have e : eqOk (.int i) (.int j) = true := by
    unfold eqOk
    rw [plain_i, plain_i]
    simp [PyData.depth]
  unfold dEq
  rw [if_pos e, eqv_ii]
@[simp] theorem dNe_ii {i j : Int} : dNe (.int i) (.int j) = .ok (.bool (!(i == j))) := by
  have e : eqOk (.int i) (.int j) = true := by
    unfold eqOk
    rw [plain_i, plain_i]
    simp [PyData.depth]
  unfold dNe
  rw [if_pos e, eqv_ii]
theorem inOk_ints (l : List Int) (v : Int) : inOk (l.map .int) (.int v) = true := by
  have h1 : PyData.plainAll (l.map PyData.int) = true := by
    induction l with
    | nil => simp only [List.map_nil, PyData.plainAll]
    | cons a l ih => simp only [List.map_cons, PyData.plainAll, PyData.plain, ih, Bool.and_true]
  unfold inOk
  rw [plain_i, h1]
  have h2 : (PyData.int v).depth ≤ 180 := by simp only [PyData.depth]; omega
  simp only [Bool.true_and, decide_eq_true_eq]
  omega
theorem dIn_ints (l : List Int) (v : Int) : dIn (.int v) (.tuple (l.map .int)) = .ok (.bool (l.any fun y => y == v)) := by
  unfold dIn
  dsimp only
  rw [if_pos (inOk_ints l v), List.any_map]
  congr 2
theorem dNotIn_ints (l : List Int) (v : Int) : dNotIn (.int v) (.tuple (l.map .int)) = .ok (.bool (!l.any fun y => y == v)) := by
  unfold dNotIn
  dsimp only
  rw [if_pos (inOk_ints l v), List.any_map]
  congr 2
@[simp] theorem dIn2 {v a b : Int} : dIn (.int v) (.tuple [.int a, .int b]) = .ok (.bool (a == v || b == v)) := by
  have := dIn_ints [a, b] v
  simpa using this
@[simp] theorem dIn3 {v a b c : Int} : dIn (.int v) (.tuple [.int a, .int b, .int c]) = .ok (.bool (a == v || (b == v || c == v))) := by
  have := dIn_ints [a, b, c] v
  simpa using this
@[simp] theorem dIn4 {v a b c d : Int} : dIn (.int v) (.tuple [.int a, .int b, .int c, .int d]) = .ok (.bool (a == v || (b == v || (c == v || d == v)))) := by
  have := dIn_ints [a, b, c, d] v
  simpa using this
/-! ### a def that draws -/
def IsPool (p : D) : Prop := ∃ a b c : Int, p = .list [.int a, .int b, .int c]
/-- a def whose first argument is a pool, which it leaves a pool -/
def Drawn (f : List D → Rs (D × List D)) (args : List D) (R : D → Prop) : Prop := ∀ p, IsPool p → ∃ r p', f (p :: args) = .ok (r, p' :: args) ∧ IsPool p' ∧ R r
theorem argData_zero {s : SS} : ∀ (ds : List D), argData (List.replicate ds.length 0) (ds.map Sum.inl) s = .ok ds
  | [] => rfl
  | d :: ds => by
    simp only [List.length_cons, List.replicate_succ, List.map_cons, argData]
    rw [argData_zero ds]
    rfl
theorem backs_zero : ∀ (ds os : List D), backs (List.replicate ds.length 0) (ds.map Sum.inl) os = []
  | [], os => by cases os <;> rfl
  | d :: ds, [] => rfl
  | d :: ds, o :: os => by
    simp only [List.length_cons, List.replicate_succ, List.map_cons, backs]
    exact backs_zero ds os
theorem slots_zero : ∀ (ds : List D), slotsOf (ds.map (Sum.inl (β := Nat))) = []
  | [] => rfl
  | d :: ds => by
    simp only [List.map_cons, slotsOf]
    exact slots_zero ds
theorem wx_draw {f : List D → Rs (D × List D)} {R : D → Prop} {ds : List D} {ns : List Nat} {i : Nat} {p : D} {rest : List ArgX} (hd : Drawn f ds R) (hn : ns = 1 :: List.replicate ds.length 0) (hs : s[i]? = some (.dat 1 p)) (hp : IsPool p) (hx : vIO rest s = .ok (ds.map Sum.inl, s))
    (h : ∀ r p', IsPool p' → R r → Q r (put s i (.dat 1 p'))) : WX (xCallF ns f (.io i :: rest) s) Q := by
  obtain ⟨r, p', e, hp', hr⟩ := hd p hp
  subst hn
  unfold xCallF
  have e1 : vIO (.io i :: rest) s = .ok (.inr i :: ds.map Sum.inl, s) := by
    simp only [vIO]
    rw [hs]
    dsimp only
    rw [hx]
    rfl
  rw [e1, bind_ok]
  dsimp only
  have e2 : argData (1 :: List.replicate ds.length 0) (.inr i :: ds.map Sum.inl) s = .ok (p :: ds) := by
    simp only [argData]
    rw [hs]
    dsimp only
    rw [if_pos rfl, argData_zero]
    rfl
  rw [e2]
  dsimp only [bind_ok]
  have e3 : slotsOf (Sum.inr i :: ds.map Sum.inl) = [i] := by
    simp only [slotsOf]
    rw [slots_zero]
  rw [if_pos (by rw [e3]; simp), e, bind_ok]
  dsimp only
  rw [if_pos (by simp)]
  have e4 : backs (1 :: List.replicate ds.length 0) (.inr i :: ds.map Sum.inl) (p' :: ds) = [(i, 1, p')] := by
    simp only [backs]
    rw [backs_zero]
  rw [e4]
  exact h r p' hp' hr
/-- a pool is left, and this is told -/
def PEnd (n : Nat) (R : D → Prop) : D → SS → Prop := fun r s => R r ∧ n < s.length ∧ ∃ p', s[0]? = some (.dat 1 p') ∧ IsPool p'
/-- what a def that draws does, from its body -/
theorem drawn_of {f : List D → Rs (D × List D)} {N : Nat} {ns : List Nat} {ds : List D} {body : SS → Oc} {R : D → Prop} (hf : f = fnF0 N ns body) (hn : ns = 1 :: List.replicate ds.length 0)
    (h : ∀ p, IsPool p → WP (body (initF N ns (p :: ds))) (PEnd ds.length R .none) (PEnd ds.length R)) : Drawn f ds R := fun p hp => by
  have q := h p hp
  subst hf hn
  have out0 : ∀ (ds : List D) (t : SS), ds.length ≤ t.length → outsOf (List.replicate ds.length 0) ds t = .ok ds := by
    intro ds
    induction ds with
    | nil => intro t _; rfl
    | cons d ds ih =>
      intro t ht
      cases t with
      | nil => simp at ht
      | cons x t =>
        simp only [List.length_cons, List.replicate_succ, outsOf]
        rw [ih t (by simpa using ht)]
        rfl
  have out1 : ∀ (r : D) (s : SS), PEnd ds.length R r s → ∃ p', outsOf (1 :: List.replicate ds.length 0) (p :: ds) s = .ok (p' :: ds) ∧ IsPool p' ∧ R r := fun r s ⟨hr, hl, p', e, hp'⟩ => by
    cases s with
    | nil => simp at e
    | cons x t =>
      have ex : x = .dat 1 p' := by simpa using e
      subst ex
      refine ⟨p', ?_, hp', hr⟩
      simp only [outsOf, if_true]
      rw [out0 ds t (by simpa using Nat.le_of_lt_succ hl)]
      rfl
  unfold fnF0
  cases e : body (initF N (1 :: List.replicate ds.length 0) (p :: ds)) <;> rw [e] at q
  case nx s =>
    obtain ⟨p', e1, h1, h2⟩ := out1 _ s q
    exact ⟨.none, p', by dsimp only; rw [e1]; rfl, h1, h2⟩
  case rt r s =>
    obtain ⟨p', e1, h1, h2⟩ := out1 _ s q
    exact ⟨r, p', by dsimp only; rw [e1]; rfl, h1, h2⟩
  all_goals exact q.elim
/-- a walk by an invariant, as a wish -/
theorem wp_for {dI : SS → Rs (List D × SS)} {t : Tgx} {a : SS → Oc} {fg : List Nat} (P : Nat → SS → Prop) {ds : List D} {s0 : SS} (h0 : dI s = .ok (ds, s0)) (hP : P 0 (forget fg s0)) (st : ∀ (i : Nat) (d : D) (s : SS), ds[i]? = some d → P i s → WD (t d s) fun s1 => WP (a s1) (fun s2 => P (i + 1) (forget fg s2)) (fun _ _ => False))
    (hQ : ∀ s, P ds.length s → Qn s) : WP (oFor dI t a fg s) Qn Qr := by
  obtain ⟨s', e, h⟩ := forS_inv (t := t) (a := a) (fg := fg) P (k := 0) hP fun i d s hd hp => by
    rw [Nat.zero_add] at hp
    have q := st i d s hd hp
    cases e1 : t d s with
    | no => rw [e1] at q; exact q.elim
    | ex c => rw [e1] at q; exact q.elim
    | ok s1 =>
      rw [e1, WD_ok] at q
      cases e2 : a s1 <;> rw [e2] at q
      case nx s2 => exact ⟨s1, s2, rfl, e2, by rw [Nat.zero_add]; exact q⟩
      all_goals exact q.elim
  unfold oFor
  rw [h0]
  dsimp only
  rw [e]
  exact hQ s' (by rw [Nat.zero_add] at h; exact h)
@[simp] theorem wxa_rng1 {dx : SS → Rs (D × SS)} {Q : List D → SS → Prop} : WXA (xRng1 dx s) Q ↔ WX (dx s) fun r s' => match r with | .int j => rngOk j = true ∧ Q (rngD 0 j.toNat) s' | _ => False := by
  unfold xRng1
  cases dx s with
  | no => exact Iff.rfl
  | ex c => exact Iff.rfl
  | ok y =>
    obtain ⟨r, s'⟩ := y
    rw [bind_ok, WX_ok]
    cases r <;> try exact Iff.rfl
    dsimp only
    split
    · rename_i h; simp [WXA, h]
    · rename_i h; simp [WXA, h]
theorem wp_forX {dI : SS → Rs (List D × SS)} {t : Tgx} {a : SS → Oc} {fg : List Nat} {J : List D → SS → Prop} (h0 : WXA (dI s) J) (h : ∀ ds s0, J ds s0 → WP (oFor (fun _ => .ok (ds, s0)) t a fg s) Qn Qr) : WP (oFor dI t a fg s) Qn Qr := by
  cases e : dI s with
  | no => rw [e] at h0; exact h0.elim
  | ex c => rw [e] at h0; exact h0.elim
  | ok x =>
    obtain ⟨ds, s0⟩ := x
    rw [e] at h0
    have := h ds s0 h0
    unfold oFor at this ⊢
    rw [e]
    exact this
theorem ex_map {α β : Type} {f : α → β} {P : α → Prop} : ∀ {ys : List β}, (∀ y ∈ ys, ∃ v, y = f v ∧ P v) → ∃ vs : List α, ys = vs.map f ∧ ∀ v ∈ vs, P v
  | [], _ => ⟨[], rfl, by simp⟩
  | y :: ys, h => by
    obtain ⟨v, rfl, hv⟩ := h y (by simp)
    obtain ⟨vs, rfl, hvs⟩ := ex_map (ys := ys) fun z hz => h z (by simp [hz])
    exact ⟨v :: vs, rfl, fun z hz => by
      rcases List.mem_cons.mp hz with rfl | hz
      · exact hv
      · exact hvs z hz⟩
theorem plainAll_of {ds : List D} (h : ∀ d ∈ ds, d.plain = true) : PyData.plainAll ds = true := by
  induction ds with
  | nil => simp only [PyData.plainAll]
  | cons d ds ih => simp only [PyData.plainAll, h d (by simp), ih fun e he => h e (by simp [he]), Bool.and_true]
theorem depthAll_le {k : Nat} {ds : List D} (h : ∀ d ∈ ds, d.depth ≤ k) : PyData.depthAll ds ≤ max k 1 := by
  induction ds with
  | nil => simp only [PyData.depthAll]; omega
  | cons d ds ih =>
    have h1 := h d (by simp)
    have h2 := ih fun e he => h e (by simp [he])
    simp only [PyData.depthAll]
    omega
@[simp] theorem depth_i {i : Int} : (PyData.int i).depth = 1 ∨ (PyData.int i).depth = 0 := by simp [PyData.depth]
theorem depth_int {i : Int} : (PyData.int i).depth ≤ 1 := by rcases depth_i (i := i) with h | h <;> omega
@[simp] theorem dLen_l {xs : List D} : dLen [.list xs] = .ok (.int xs.length) := rfl
@[simp] theorem dLen_t {xs : List D} : dLen [.tuple xs] = .ok (.int xs.length) := rfl
theorem dAll_map {α : Type} (l : List α) (p : α → Bool) : dAll [.list (l.map fun a => .bool (p a))] = .ok (.bool (l.all p)) := by
  have e : asBools (l.map fun a => PyData.bool (p a)) = some (l.map p) := by
    rw [show (l.map fun a => PyData.bool (p a)) = (l.map p).map PyData.bool by rw [List.map_map]; rfl]
    exact asBools_map _
  unfold dAll
  dsimp only
  rw [e]
  dsimp only
  rw [List.all_map]
  rfl
theorem dAny_map {α : Type} (l : List α) (p : α → Bool) : dAny [.list (l.map fun a => .bool (p a))] = .ok (.bool (l.any p)) := by
  have e : asBools (l.map fun a => PyData.bool (p a)) = some (l.map p) := by
    rw [show (l.map fun a => PyData.bool (p a)) = (l.map p).map PyData.bool by rw [List.map_map]; rfl]
    exact asBools_map _
  unfold dAny
  dsimp only
  rw [e]
  dsimp only
  rw [List.any_map]
  rfl
theorem rng_ok {i : Int} (h : -(2 ^ 62) ≤ i ∧ i < 2 ^ 62) : rngOk i = true := decide_eq_true h
/-- append, as a wish -/
theorem wp_app {i m : Nat} {dx : SS → Rs (D × SS)} {ds : List D} (hs : s[i]? = some (.dat (m + 1) (.list ds))) (h : WX (dx s) fun r s' => s'[i]? = some (.dat (m + 1) (.list ds)) ∧ ds.length < sizeLine ∧ Qn (put s' i (.dat (m + 1) (.list (ds ++ [r]))))) : WP (oApp i m dx s) Qn Qr := by
  unfold oApp
  rw [hs]
  dsimp only [lstOf]
  cases q : dx s with
  | no => rw [q] at h; exact h.elim
  | ex c => rw [q] at h; exact h.elim
  | ok x =>
    obtain ⟨r, s'⟩ := x
    rw [q] at h
    obtain ⟨h1, h2, h3⟩ := h
    dsimp only
    rw [h1]
    dsimp only [lstOf]
    rw [if_pos ⟨rfl, h2⟩]
    exact h3
theorem wp_ext {i m : Nat} {dx : SS → Rs (D × SS)} {ds : List D} (hs : s[i]? = some (.dat (m + 1) (.list ds))) (h : WX (dx s) fun r s' => match r with | .list zs => s'[i]? = some (.dat (m + 1) (.list ds)) ∧ ds.length + zs.length ≤ sizeLine ∧ Qn (put s' i (.dat (m + 1) (.list (ds ++ zs)))) | _ => False) : WP (oExt i m dx s) Qn Qr := by
  unfold oExt
  rw [hs]
  dsimp only [lstOf]
  cases q : dx s with
  | no => rw [q] at h; exact h.elim
  | ex c => rw [q] at h; exact h.elim
  | ok x =>
    obtain ⟨r, s'⟩ := x
    rw [q] at h
    cases r with
    | list zs =>
      obtain ⟨h1, h2, h3⟩ := h
      dsimp only
      rw [h1]
      dsimp only [lstOf]
      rw [if_pos ⟨rfl, h2⟩]
      exact h3
    | _ => exact h.elim
/-- a pure def, from its body -/
theorem fnV0_of {N : Nat} {body : SS → Oc} {ds : List D} {r : D} (h : WP (body (init N ds)) (fun _ => r = .none) (fun x _ => x = r)) : fnV0 N body ds = .ok r := by
  unfold fnV0
  cases e : body (init N ds) <;> rw [e] at h
  case nx s => rw [show r = .none from h]
  case rt x s => rw [show x = r from h]
  all_goals exact h.elim
theorem fnV_of {N : Nat} {body : SS → Oc} {ds : List D} {r : D} (h : WP (body (init N ds)) (fun _ => r = .none) (fun x _ => x = r)) : fnV N body ds = .ok r := by
  unfold fnV
  cases e : body (init N ds) <;> rw [e] at h
  case nx s => rw [show r = .none from h]
  case rt x s => rw [show x = r from h]
  all_goals exact h.elim
theorem wd_map {it : VS → Rs (List D)} {tg : D → VS → Rs VS} {own : List Nat} {elt : VS → Rs D} {v : VS} {P : D → Prop} (f : D → D) {ds : List D} (h0 : it v = .ok ds) (hl : ds.length ≤ sizeLine) (h : ∀ d ∈ ds, WD (tg d (wipeV v own)) fun s1 => elt s1 = .ok (f d)) (hQ : P (.list (ds.map f))) : WD (vComp it tg own vYes elt v) P := by
  rw [vComp_map f h0 hl fun d hd => by
    have q := h d hd
    cases e : tg d (wipeV v own) with
    | no => rw [e] at q; exact q.elim
    | ex c => rw [e] at q; exact q.elim
    | ok s1 => rw [e] at q; exact ⟨s1, rfl, q⟩]
  exact hQ
theorem wd_filter {it : VS → Rs (List D)} {tg : D → VS → Rs VS} {own : List Nat} {tt elt : VS → Rs D} {v : VS} {P : D → Prop} (p : D → Bool) (f : D → D) {ds : List D} (h0 : it v = .ok ds) (hl : ds.length ≤ sizeLine) (h : ∀ d ∈ ds, WD (tg d (wipeV v own)) fun s1 => tt s1 = .ok (.bool (p d)) ∧ (p d = true → elt s1 = .ok (f d))) (hQ : P (.list ((ds.filter p).map f))) : WD (vComp it tg own tt elt v) P := by
  rw [vComp_filter p f h0 hl fun d hd => by
    have q := h d hd
    cases e : tg d (wipeV v own) with
    | no => rw [e] at q; exact q.elim
    | ex c => rw [e] at q; exact q.elim
    | ok s1 => rw [e] at q; exact ⟨s1, rfl, q⟩]
  exact hQ
/-- a comprehension, as a wish -/
theorem wx_comp {dI : SS → Rs (List D × SS)} {t : Tgx} {de : SS → Rs (D × SS)} {own : List Nat} (P : SS → Prop) (R : D → Prop) {ds : List D} {s0 : SS} (h0 : dI s = .ok (ds, s0)) (hl : ds.length ≤ sizeLine) (hP : P (forget own s0)) (h : ∀ (d : D) (s : SS), d ∈ ds → P s → WD (t d s) fun s1 => WX (de s1) fun y s2 => R y ∧ P (forget own s2))
    (hQ : ∀ ys s', ys.length = ds.length → (∀ y ∈ ys, R y) → P s' → Q (.list ys) s') : WX (xComp dI t own xYes de s) Q := by
  obtain ⟨ys, s', e, l, r, p⟩ := xComp_inv (de := de) (t := t) (own := own) P R h0 hl hP fun d s hd hp => by
    have q := h d s hd hp
    cases e1 : t d s with
    | no => rw [e1] at q; exact q.elim
    | ex c => rw [e1] at q; exact q.elim
    | ok s1 =>
      rw [e1, WD_ok] at q
      cases e2 : de s1 with
      | no => rw [e2] at q; exact q.elim
      | ex c => rw [e2] at q; exact q.elim
      | ok y =>
        obtain ⟨y, s2⟩ := y
        rw [e2] at q
        exact ⟨s1, y, s2, rfl, e2, q.1, q.2⟩
  rw [e]
  exact hQ ys s' l r p
end
end PL

set_option maxRecDepth 100000
set_option maxHeartbeats 4000000
namespace PL
open PySem PySem.Spec PyProof.Rows L2
/-! The text by places, what each def computes. Printed by gen.py. -/
def top (i : Nat) : Stmt := PySem.Challenge.pw_fullpanes_k28_tables_worn.main.body.getD i (.Pass ⟨0, 0, 0, 0⟩)
def f__law_refused (op : List D → Rs D) : List D → Rs D := refusedAs "NoSize" op
abbrev s_is_whole : Stmt := top 8
abbrev N_is_whole : List Str := ["thing"]
abbrev P_is_whole : List Str := ["thing"]
def d_is_whole : SS → Oc :=
    (oRet (xV 0 (vAnd (vIsi "int" (vName 0)) (vNot (vIsi "bool" (vName 0))))))
def f_is_whole : List D → Rs D := fnV0 1 d_is_whole
theorem sc_is_whole : FnScope N_is_whole P_is_whole (defScope s_is_whole) := ⟨rfl, rfl, rfl, by decide +kernel, rfl, by decide +kernel, by decide +kernel⟩
abbrev s_size_of : Stmt := top 9
abbrev N_size_of : List Str := ["table"]
abbrev P_size_of : List Str := ["table"]
def d_size_of : SS → Oc :=
    (oRet (xV 0 (vTup [(vCall dLen [(vName 0)]), (vCall dLen [(vOp dItem (vName 0) (vC (.int 0)))])])))
def f_size_of : List D → Rs D := fnV0 1 d_size_of
theorem sc_size_of : FnScope N_size_of P_size_of (defScope s_size_of) := ⟨rfl, rfl, rfl, by decide +kernel, rfl, by decide +kernel, by decide +kernel⟩
abbrev s_cells_of : Stmt := top 10
abbrev N_cells_of : List Str := ["box", "top", "left", "bottom", "right", "found", "r", "c"]
abbrev P_cells_of : List Str := ["box"]
def b_cells_of_0 : SS → Oc :=
    (oExt 5 0 (xV 1 (vComp (vItR [(vName 2), (vName 4)]) (tgName 7) [7] vYes (vTup [(vName 6), (vName 7)]))))
def d_cells_of : SS → Oc :=
    (oSeq (oUnp (xV 0 (vName 0)) (xTup [1, 2, 3, 4]))
    (oSeq (oSet 5 1 (xV 1 (vLst [])))
    (oSeq (oFor (xRng2 (xV 0 (vName 1)) (xV 0 (vName 3))) (xName 6) b_cells_of_0 [6, 7])
    (oRet (xMove 5 1)))))
def f_cells_of : List D → Rs D := fnV0 8 d_cells_of
theorem sc_cells_of : FnScope N_cells_of P_cells_of (defScope s_cells_of) := ⟨rfl, rfl, rfl, by decide +kernel, rfl, by decide +kernel, by decide +kernel⟩
abbrev s_is_full : Stmt := top 11
abbrev N_is_full : List Str := ["table", "box", "r", "c"]
abbrev P_is_full : List Str := ["table", "box"]
def d_is_full : SS → Oc :=
    (oRet (xV 0 (vCall dAll [(vComp (vItL (vCall f_cells_of [(vName 1)])) (tgTup [2, 3]) [2, 3] vYes (vOp dEq (vOp dItem (vOp dItem (vName 0) (vName 2)) (vName 3)) (vC (.int 1))))])))
def f_is_full : List D → Rs D := fnV0 4 d_is_full
theorem sc_is_full : FnScope N_is_full P_is_full (defScope s_is_full) := ⟨rfl, rfl, rfl, by decide +kernel, rfl, by decide +kernel, by decide +kernel⟩
abbrev s_look_at_worn : Stmt := top 13
abbrev N_look_at_worn : List Str := ["table", "a", "b", "rows", "columns"]
abbrev P_look_at_worn : List Str := ["table", "a", "b"]
def d_look_at_worn : SS → Oc :=
    (oSeq (oUnp (xV 0 (vCall f_size_of [(vName 0)])) (xTup [3, 4]))
    (oIf (xT (vOr (vNot (vCall f_is_whole [(vName 1)])) (vOr (vNot (vCall f_is_whole [(vName 2)])) (vOr (vNot (vChain dLe dLe (vC (.int 1)) (vName 1) (vName 3))) (vNot (vChain dLe dLe (vC (.int 1)) (vName 2) (vName 4)))))))
    (fun _ => .ex "NoSize")
    oNil))
def f_look_at_worn : List D → Rs D := fnV 5 d_look_at_worn
theorem sc_look_at_worn : FnScope N_look_at_worn P_look_at_worn (defScope s_look_at_worn) := ⟨rfl, rfl, rfl, by decide +kernel, rfl, by decide +kernel, by decide +kernel⟩
abbrev s_worn_table : Stmt := top 14
abbrev N_worn_table : List Str := ["table", "a", "b", "rows", "columns", "found", "r", "c"]
abbrev P_worn_table : List Str := ["table", "a", "b"]
def b_worn_table_0 : SS → Oc :=
    (oApp 5 0 (xV 0 (vCall dTuple [(vComp (vItR [(vOp dAdd (vOp dSub (vName 4) (vName 2)) (vC (.int 1)))]) (tgName 7) [7] vYes (vCall dInt [(vCall f_is_full [(vName 0), (vTup [(vName 6), (vName 7), (vOp dAdd (vName 6) (vName 1)), (vOp dAdd (vName 7) (vName 2))])])]))])))
def d_worn_table : SS → Oc :=
    (oSeq (oDrop (xV 0 (vCall f_look_at_worn [(vName 0), (vName 1), (vName 2)])))
    (oSeq (oUnp (xV 0 (vCall f_size_of [(vName 0)])) (xTup [3, 4]))
    (oSeq (oSet 5 1 (xV 1 (vLst [])))
    (oSeq (oFor (xRng1 (xV 0 (vOp dAdd (vOp dSub (vName 3) (vName 1)) (vC (.int 1))))) (xName 6) b_worn_table_0 [6, 7])
    (oRet (xV 0 (vCall dTuple [(vName 5)])))))))
def f_worn_table : List D → Rs D := fnV 8 d_worn_table
theorem sc_worn_table : FnScope N_worn_table P_worn_table (defScope s_worn_table) := ⟨rfl, rfl, rfl, by decide +kernel, rfl, by decide +kernel, by decide +kernel⟩
abbrev s__law_pool : Stmt := top 16
abbrev N__law_pool : List Str := ["cell"]
abbrev P__law_pool : List Str := ["cell"]
def d__law_pool : SS → Oc :=
    (oRet (xV 1 (vLst [(vCall dMax [(vC (.int 0)), (vOp dSub (vName 0) (vOp dPow (vC (.int 10)) (vC (.int 18))))]), (vOp dMod (vName 0) (vOp dPow (vC (.int 10)) (vC (.int 18)))), (vC (.int 0))])))
def f__law_pool : List D → Rs D := fnV0 1 d__law_pool
theorem sc__law_pool : FnScope N__law_pool P__law_pool (defScope s__law_pool) := ⟨rfl, rfl, rfl, by decide +kernel, rfl, by decide +kernel, by decide +kernel⟩
abbrev s__law_draw : Stmt := top 17
abbrev N__law_draw : List Str := ["pool", "base", "digit", "near"]
abbrev P__law_draw : List Str := ["pool", "base"]
def d__law_draw : SS → Oc :=
    (oSeq (oIf (xT (vOp dGt (vOp dItem (vName 0) (vC (.int 0))) (vC (.int 0))))
    (oSeq (oSet 2 0 (xV 0 (vOp dMod (vOp dItem (vName 0) (vC (.int 0))) (vName 1))))
    (oSeq (oSetI 0 0 (xV 0 (vOp dDiv (vOp dItem (vName 0) (vC (.int 0))) (vName 1))) (xV 0 (vC (.int 0))))
    (oRet (xV 0 (vName 2)))))
    oNil)
    (oSeq (oSetI 0 0 (xV 0 (vOp dAdd (vOp dItem (vName 0) (vC (.int 2))) (vC (.int 1)))) (xV 0 (vC (.int 2))))
    (oSeq (oSet 3 0 (xV 0 (vOp dMod (vOp dAdd (vOp dItem (vName 0) (vC (.int 1))) (vOp dMul (vC (.int 7919)) (vOp dItem (vName 0) (vC (.int 2))))) (vC (.int 1000000007)))))
    (oSeq (oSet 3 0 (xV 0 (vOp dMod (vOp dMul (vOp dAdd (vName 3) (vC (.int 11))) (vOp dAdd (vName 3) (vC (.int 48271)))) (vC (.int 998244353)))))
    (oRet (xV 0 (vOp dMod (vOp dDiv (vOp dMod (vOp dMul (vName 3) (vName 3)) (vC (.int 2147483647))) (vC (.int 8))) (vName 1))))))))
def f__law_draw : List D → Rs (D × List D) := fnF0 4 [1, 0] d__law_draw
theorem sc__law_draw : FnScope N__law_draw P__law_draw (defScope s__law_draw) := ⟨rfl, rfl, rfl, by decide +kernel, rfl, by decide +kernel, by decide +kernel⟩
abbrev s__law_pick : Stmt := top 18
abbrev N__law_pick : List Str := ["pool", "some"]
abbrev P__law_pick : List Str := ["pool", "some"]
def d__law_pick : SS → Oc :=
    (oRet (xIxF 1 (xCallF [1, 0] f__law_draw [.io 0, .val (xV 0 (vCall dLen [(vName 1)]))])))
def f__law_pick : List D → Rs (D × List D) := fnF0 2 [1, 0] d__law_pick
theorem sc__law_pick : FnScope N__law_pick P__law_pick (defScope s__law_pick) := ⟨rfl, rfl, rfl, by decide +kernel, rfl, by decide +kernel, by decide +kernel⟩
abbrev s__law_cell : Stmt := top 19
abbrev N__law_cell : List Str := ["pool", "style", "r", "c"]
abbrev P__law_cell : List Str := ["pool", "style", "r", "c"]
def d__law_cell : SS → Oc :=
    (oSeq (oIf (xT (vOp dLt (vName 1) (vC (.int 4))))
    (oRet (xCall 0 dInt [(xOp 0 dGt (xCallF [1, 0] f__law_draw [.io 0, .val (xV 0 (vC (.int 4)))]) (xV 0 (vC (.int 0))))]))
    oNil)
    (oSeq (oIf (xT (vOp dEq (vName 1) (vC (.int 4))))
    (oRet (xCallF [1, 0] f__law_draw [.io 0, .val (xV 0 (vC (.int 2)))]))
    oNil)
    (oRet (xOp 0 dMod (xOp 0 dAdd (xV 0 (vOp dAdd (vName 2) (vName 3))) (xOp 0 dDiv (xCallF [1, 0] f__law_draw [.io 0, .val (xV 0 (vC (.int 6)))]) (xV 0 (vC (.int 5))))) (xV 0 (vC (.int 2)))))))
def f__law_cell : List D → Rs (D × List D) := fnF0 4 [1, 0, 0, 0] d__law_cell
theorem sc__law_cell : FnScope N__law_cell P__law_cell (defScope s__law_cell) := ⟨rfl, rfl, rfl, by decide +kernel, rfl, by decide +kernel, by decide +kernel⟩
abbrev s__law_table : Stmt := top 20
abbrev N__law_table : List Str := ["pool", "great", "most", "rows", "columns", "style", "found", "r", "c", "k", "top", "left", "bottom", "right", "line"]
abbrev P__law_table : List Str := ["pool", "great"]
def b__law_table_0 : SS → Oc :=
    (oSetSl 6 0 (xV 1 (vRep [(vCall dInt [(vOp dEq (vName 5) (vC (.int 5)))])] (vOp dSub (vName 13) (vName 11)))) (vName 7) (vName 11) (vName 13))
def b__law_table_1 : SS → Oc :=
    (oSeq (oSet 10 0 (xCallF [1, 0] f__law_draw [.io 0, .val (xV 0 (vName 3))]))
    (oSeq (oSet 11 0 (xCallF [1, 0] f__law_draw [.io 0, .val (xV 0 (vName 4))]))
    (oSeq (oPair 12 13 0 0 (xV 0 (vOp dAdd (vName 10) (vC (.int 1)))) (xV 0 (vOp dAdd (vName 11) (vC (.int 1)))))
    (oSeq (oIf (xT (vOp dEq (vName 5) (vC (.int 5))))
    (oSeq (oSet 12 0 (xOp 0 dAdd (xV 0 (vName 12)) (xCallF [1, 0] f__law_draw [.io 0, .val (xV 0 (vOp dSub (vName 3) (vName 10)))])))
    (oSet 13 0 (xOp 0 dAdd (xV 0 (vName 13)) (xCallF [1, 0] f__law_draw [.io 0, .val (xV 0 (vOp dSub (vName 4) (vName 11)))]))))
    oNil)
    (oFor (xRng2 (xV 0 (vName 10)) (xV 0 (vName 12))) (xName 7) b__law_table_0 [])))))
def c__law_table_6 : SS → Oc :=
    (oSeq (oIf (xT (vOp dIn (vName 5) (vTup [(vC (.int 5)), (vC (.int 7))])))
    (oFor (xRng1 (xOp 0 dAdd (xV 0 (vC (.int 1))) (xCallF [1, 0] f__law_draw [.io 0, .val (xV 0 (vC (.int 4)))]))) (xName 9) b__law_table_1 [9, 10, 11, 12, 13])
    oNil)
    (oRet (xV 0 (vCall dTuple [(vComp (vItL (vName 6)) (tgName 14) [14] vYes (vCall dTuple [(vName 14)]))]))))
def c__law_table_5 : SS → Oc :=
    (oSeq (oIf (xT (vOp dIn (vName 5) (vTup [(vC (.int 2)), (vC (.int 3)), (vC (.int 4)), (vC (.int 6))])))
    (oSet 6 2 (xComp (xRng1 (xV 0 (vName 3))) (xName 7) [7] xYes (xComp (xRng1 (xV 0 (vName 4))) (xName 8) [8] xYes (xCallF [1, 0, 0, 0] f__law_cell [.io 0, .val (xV 0 (vName 5)), .val (xV 0 (vName 7)), .val (xV 0 (vName 8))]))))
    oNil)
    c__law_table_6)
def d__law_table : SS → Oc :=
    (oSeq (oSet 2 0 (xOp 0 dItem (xV 1 (vLst [(vC (.int 5)), (vC (.int 5)), (vC (.int 5)), (vC (.int 5)), (vC (.int 5)), (vC (.int 5)), (vC (.int 5)), (vName 1)])) (xCallF [1, 0] f__law_draw [.io 0, .val (xV 0 (vC (.int 8)))])))
    (oSeq (oSet 3 0 (xOp 0 dAdd (xV 0 (vC (.int 1))) (xCallF [1, 0] f__law_draw [.io 0, .val (xV 0 (vName 2))])))
    (oSeq (oSet 4 0 (xOp 0 dAdd (xV 0 (vC (.int 1))) (xCallF [1, 0] f__law_draw [.io 0, .val (xV 0 (vName 2))])))
    (oSeq (oSet 5 0 (xCallF [1, 0] f__law_draw [.io 0, .val (xV 0 (vC (.int 8)))]))
    (oSeq (oSet 6 2 (xComp (xRng1 (xV 0 (vName 3))) (xName 7) [7] xYes (xV 1 (vRep [(vCall dInt [(vOp dIn (vName 5) (vTup [(vC (.int 0)), (vC (.int 7))]))])] (vName 4)))))
    c__law_table_5)))))
def f__law_table : List D → Rs (D × List D) := fnF0 15 [1, 0] d__law_table
theorem sc__law_table : FnScope N__law_table P__law_table (defScope s__law_table) := ⟨rfl, rfl, rfl, by decide +kernel, rfl, by decide +kernel, by decide +kernel⟩
abbrev s__law_is_full : Stmt := top 21
abbrev N__law_is_full : List Str := ["table", "top", "left", "bottom", "right", "r"]
abbrev P__law_is_full : List Str := ["table", "top", "left", "bottom", "right"]
def d__law_is_full : SS → Oc :=
    (oRet (xV 0 (vCall dAll [(vComp (vItR [(vName 1), (vName 3)]) (tgName 5) [5] vYes (vOp dNotIn (vC (.int 0)) (vCut (vOp dItem (vName 0) (vName 5)) (some (vName 2)) (some (vName 4)))))])))
def f__law_is_full : List D → Rs D := fnV0 6 d__law_is_full
theorem sc__law_is_full : FnScope N__law_is_full P__law_is_full (defScope s__law_is_full) := ⟨rfl, rfl, rfl, by decide +kernel, rfl, by decide +kernel, by decide +kernel⟩
abbrev s__law_worn : Stmt := top 22
abbrev N__law_worn : List Str := ["table", "a", "b", "found", "r", "c"]
abbrev P__law_worn : List Str := ["table", "a", "b"]
def b__law_worn_0 : SS → Oc :=
    (oApp 3 0 (xV 0 (vCall dTuple [(vComp (vItR [(vOp dAdd (vOp dSub (vCall dLen [(vOp dItem (vName 0) (vC (.int 0)))]) (vName 2)) (vC (.int 1)))]) (tgName 5) [5] vYes (vCall dInt [(vCall f__law_is_full [(vName 0), (vName 4), (vName 5), (vOp dAdd (vName 4) (vName 1)), (vOp dAdd (vName 5) (vName 2))])]))])))
def d__law_worn : SS → Oc :=
    (oSeq (oSet 3 1 (xV 1 (vLst [])))
    (oSeq (oFor (xRng1 (xV 0 (vOp dAdd (vOp dSub (vCall dLen [(vName 0)]) (vName 1)) (vC (.int 1))))) (xName 4) b__law_worn_0 [4, 5])
    (oRet (xV 0 (vCall dTuple [(vName 3)])))))
def f__law_worn : List D → Rs D := fnV0 6 d__law_worn
theorem sc__law_worn : FnScope N__law_worn P__law_worn (defScope s__law_worn) := ⟨rfl, rfl, rfl, by decide +kernel, rfl, by decide +kernel, by decide +kernel⟩
abbrev s__law_same : Stmt := top 23
abbrev N__law_same : List Str := ["found", "due", "line", "cell"]
abbrev P__law_same : List Str := ["found", "due"]
def b__law_same_0 : SS → Oc :=
    (oIf (xT (vNot (vCall dAll [(vComp (vItT (vName 2)) (tgName 3) [3] vYes (vAnd (vIsi "int" (vName 3)) (vNot (vIsi "bool" (vName 3)))))])))
    (oRet (xV 0 (vC (.bool false))))
    oNil)
def d__law_same : SS → Oc :=
    (oSeq (oIf (xT (vOr (vNot (vIsi "tuple" (vName 0))) (vOr (vNot (vCall dAll [(vComp (vItT (vName 0)) (tgName 2) [2] vYes (vIsi "tuple" (vName 2)))])) (vOp dNe (vName 0) (vName 1)))))
    (oRet (xV 0 (vC (.bool false))))
    oNil)
    (oSeq (oFor (xItT (xV 0 (vName 0))) (xName 2) b__law_same_0 [3])
    (oRet (xV 0 (vC (.bool true))))))
def f__law_same : List D → Rs D := fnV0 4 d__law_same
theorem sc__law_same : FnScope N__law_same P__law_same (defScope s__law_same) := ⟨rfl, rfl, rfl, by decide +kernel, rfl, by decide +kernel, by decide +kernel⟩
abbrev s__law_no_number : Stmt := top 24
abbrev N__law_no_number : List Str := ["pool", "least", "far", "some"]
abbrev P__law_no_number : List Str := ["pool", "least"]
def d__law_no_number : SS → Oc :=
    (oSeq (oSet 2 0 (xCallF [1, 0] f__law_draw [.io 0, .val (xV 0 (vOp dPow (vC (.int 10)) (vC (.int 58))))]))
    (oSeq (oSet 3 0 (xF (vLst [(vC (.int 0)), (vNeg (vC (.int 1))), (vName 1), (vOp dAdd (vName 1) (vName 2)), (vNeg (vName 2)), (vC (.bool true)), (vC (.bool false)), (vC .none), (vC (.str "1")), (vTup [(vC (.int 1))]), (vLst [(vC (.int 1))]), (vC dDct), (vC dDct), (vTup []), (vC (.str ""))])))
    (oRet (xCallF [1, 0] f__law_pick [.io 0, .val (xF (vName 3))]))))
def f__law_no_number : List D → Rs (D × List D) := fnF0 4 [1, 0] d__law_no_number
theorem sc__law_no_number : FnScope N__law_no_number P__law_no_number (defScope s__law_no_number) := ⟨rfl, rfl, rfl, by decide +kernel, rfl, by decide +kernel, by decide +kernel⟩
abbrev s_law : Stmt := top 26
abbrev N_law : List Str := ["script", "cell", "pool", "table", "rows", "columns", "a", "b", "odd", "other", "one", "two"]
abbrev P_law : List Str := ["script"]
def b_law_0 : SS → Oc :=
    (oIf (xNot (xCallV 0 (f__law_refused f_worn_table) [(xV 0 (vName 3)), (xF (vName 10)), (xF (vName 11))]))
    (oRet (xV 0 (vC (.bool false))))
    oNil)
def b_law_1 : SS → Oc :=
    (oSeq (oSet 2 1 (xV 1 (vCall f__law_pool [(vName 1)])))
    (oSeq (oSet 3 0 (xCallF [1, 0] f__law_table [.io 2, .val (xV 0 (vC (.int 10)))]))
    (oSeq (oPair 4 5 0 0 (xV 0 (vCall dLen [(vName 3)])) (xV 0 (vCall dLen [(vOp dItem (vName 3) (vC (.int 0)))])))
    (oSeq (oSet 6 0 (xOp 0 dAdd (xV 0 (vC (.int 1))) (xCallF [1, 0] f__law_draw [.io 2, .val (xV 0 (vName 4))])))
    (oSeq (oSet 7 0 (xOp 0 dAdd (xV 0 (vC (.int 1))) (xCallF [1, 0] f__law_draw [.io 2, .val (xV 0 (vName 5))])))
    (oSeq (oIf (xT (vNot (vCall f__law_same [(vCall f_worn_table [(vName 3), (vName 6), (vName 7)]), (vCall f__law_worn [(vName 3), (vName 6), (vName 7)])])))
    (oRet (xV 0 (vC (.bool false))))
    oNil)
    (oSeq (oIf (xT (vNot (vCall f__law_same [(vCall f_worn_table [(vName 3), (vC (.int 1)), (vC (.int 1))]), (vName 3)])))
    (oRet (xV 0 (vC (.bool false))))
    oNil)
    (oSeq (oSet 8 0 (xCallF [1, 0] f__law_no_number [.io 2, .val (xV 0 (vOp dAdd (vName 4) (vC (.int 1))))]))
    (oSeq (oSet 9 0 (xCallF [1, 0] f__law_no_number [.io 2, .val (xV 0 (vOp dAdd (vName 5) (vC (.int 1))))]))
    (oFor (xItL (xF (vLst [(vTup [(vName 8), (vName 7)]), (vTup [(vName 6), (vName 9)]), (vTup [(vName 8), (vName 9)]), (vTup [(vOp dAdd (vName 4) (vC (.int 1))), (vName 5)]), (vTup [(vName 4), (vOp dAdd (vName 5) (vC (.int 1)))])]))) (xTup [10, 11]) b_law_0 [10, 11]))))))))))
def d_law : SS → Oc :=
    (oSeq (oFor (xItL (xF (vOp dAdd (vCut (vName 0) none (some (vC (.int 24)))) (vLst [(vC (.int 0)), (vC (.int 1)), (vC (.int 2))])))) (xName 1) b_law_1 [1, 2, 3, 4, 5, 6, 7, 8, 9, 10, 11])
    (oRet (xV 0 (vC (.bool true)))))
def f_law : List D → Rs D := fnV0 12 d_law
theorem sc_law : FnScope N_law P_law (defScope s_law) := ⟨rfl, rfl, rfl, by decide +kernel, rfl, by decide +kernel, by decide +kernel⟩
abbrev s__law_refused : Stmt := top 25
abbrev N__law_refused : List Str := ["call", "table", "a", "b", "caught", "e"]
abbrev P__law_refused : List Str := ["call", "table", "a", "b"]
/-- what the classes say -/
structure Cz (K : PySem.W.Frag) : Prop where
  ex : PySem.W.exmOne K (.ref (He.ga K "NoSize")) (.ref (He.ga K "PaneError")) = some true
  hC : ExcC K (He.ga K "NoSize")
  kT : PySem.W.kitAny K (.ref (He.ga K "NoSize")) [.ref (He.ga K "BadTable"), .ref (He.ga K "NoMatch"), .ref (He.ga K "NoCount"), .ref (He.ga K "NoCell")] = some false
  kS : PySem.W.kitOne K (.ref (He.ga K "NoSize")) (.ref (He.ga K "NoSize")) = some true
  kV : PySem.W.kitOne K (.ref (He.ga K "NoSize")) (.type "ValueError") = some true
def czB (K : PySem.W.Frag) : Bool := decide (PySem.W.exmOne K (.ref (He.ga K "NoSize")) (.ref (He.ga K "PaneError")) = some true) && (excB K (He.ga K "NoSize") &&
  (decide (PySem.W.kitAny K (.ref (He.ga K "NoSize")) [.ref (He.ga K "BadTable"), .ref (He.ga K "NoMatch"), .ref (He.ga K "NoCount"), .ref (He.ga K "NoCell")] = some false) &&
    (decide (PySem.W.kitOne K (.ref (He.ga K "NoSize")) (.ref (He.ga K "NoSize")) = some true) && decide (PySem.W.kitOne K (.ref (He.ga K "NoSize")) (.type "ValueError") = some true))))
theorem czB_ok {K : PySem.W.Frag} (h : czB K = true) : Cz K := by
  unfold czB at h
  obtain ⟨h1, h⟩ := He.ba h
  obtain ⟨h2, h⟩ := He.ba h
  obtain ⟨h3, h⟩ := He.ba h
  obtain ⟨h4, h5⟩ := He.ba h
  exact ⟨of_decide_eq_true h1, excB_ok h2, of_decide_eq_true h3, of_decide_eq_true h4, of_decide_eq_true h5⟩

structure Tx (K : PySem.W.Frag) (mg : Str → Option Value) : Prop where
  d_is_whole : DefAt K mg "is_whole" s_is_whole P_is_whole
  d_size_of : DefAt K mg "size_of" s_size_of P_size_of
  d_cells_of : DefAt K mg "cells_of" s_cells_of P_cells_of
  d_is_full : DefAt K mg "is_full" s_is_full P_is_full
  d_look_at_worn : DefAt K mg "look_at_worn" s_look_at_worn P_look_at_worn
  d_worn_table : DefAt K mg "worn_table" s_worn_table P_worn_table
  d__law_pool : DefAt K mg "_law_pool" s__law_pool P__law_pool
  d__law_draw : DefAt K mg "_law_draw" s__law_draw P__law_draw
  d__law_pick : DefAt K mg "_law_pick" s__law_pick P__law_pick
  d__law_cell : DefAt K mg "_law_cell" s__law_cell P__law_cell
  d__law_table : DefAt K mg "_law_table" s__law_table P__law_table
  d__law_is_full : DefAt K mg "_law_is_full" s__law_is_full P__law_is_full
  d__law_worn : DefAt K mg "_law_worn" s__law_worn P__law_worn
  d__law_same : DefAt K mg "_law_same" s__law_same P__law_same
  d__law_no_number : DefAt K mg "_law_no_number" s__law_no_number P__law_no_number
  d__law_refused : DefAt K mg "_law_refused" s__law_refused P__law_refused
  d_law : DefAt K mg "law" s_law P_law
  n_ValueError : mg "ValueError" = none
  n_all : mg "all" = none
  n_bool : mg "bool" = none
  n_int : mg "int" = none
  n_isinstance : mg "isinstance" = none
  n_len : mg "len" = none
  n_max : mg "max" = none
  n_range : mg "range" = none
  n_tuple : mg "tuple" = none
  e_BadTable : ErrAt K mg "BadTable"
  e_NoCell : ErrAt K mg "NoCell"
  e_NoCount : ErrAt K mg "NoCount"
  e_NoMatch : ErrAt K mg "NoMatch"
  e_NoSize : ErrAt K mg "NoSize"
  e_PaneError : ErrAt K mg "PaneError"
  z : Cz K
section
variable {P : Program} {w : World} {K : PySem.W.Frag} {mg : Str → Option Value} {base : Heap}
theorem ok_is_whole (T : Tx K mg) : Kept P w K mg base CX0 2 "is_whole" P_is_whole (spV K (rhoOf K) 1 0 f_is_whole) :=
  kept_v0 1 T.d_is_whole sc_is_whole (by decide) fun cdv A outer s H E G hr =>
    (so_one (so_ret (px_view (pv_and (pv_isi (pv_name 0) T.n_isinstance T.n_int b_int (by decide)) (pv_one (pv_not (pv_isi (pv_name 0) T.n_isinstance T.n_bool b_bool (by decide))))))))
theorem ok_size_of (T : Tx K mg) : Kept P w K mg base CX0 2 "size_of" P_size_of (spV K (rhoOf K) 1 0 f_size_of) :=
  kept_v0 1 T.d_size_of sc_size_of (by decide) fun cdv A outer s H E G hr =>
    (so_one (so_ret (px_view (pv_tup (pva_cons (pv_callB cLen calmLen T.n_len PySem.boot_len (pva_cons (pv_name 0) pva_nil)) (pva_cons (pv_callB cLen calmLen T.n_len PySem.boot_len (pva_cons (pv_ix (pv_name 0) pv_int) pva_nil)) pva_nil))))))
theorem ok_cells_of (T : Tx K mg) : Kept P w K mg base CX0 2 "cells_of" P_cells_of (spV K (rhoOf K) 1 1 f_cells_of) :=
  kept_v0 1 T.d_cells_of sc_cells_of (by decide) fun cdv A outer s H E G hr =>
    (so_cons (so_unp (pgx_tupK K rfl rfl rfl (pgn_cons sc_cells_of.nd rfl (by first | exact Or.inl rfl | exact Or.inr rfl) (by first | exact Or.inl rfl | exact Or.inr rfl) (pgn_cons sc_cells_of.nd rfl (by first | exact Or.inl rfl | exact Or.inr rfl) (by first | exact Or.inl rfl | exact Or.inr rfl) (pgn_cons sc_cells_of.nd rfl (by first | exact Or.inl rfl | exact Or.inr rfl) (by first | exact Or.inl rfl | exact Or.inr rfl) (pgn_cons sc_cells_of.nd rfl (by first | exact Or.inl rfl | exact Or.inr rfl) (by first | exact Or.inl rfl | exact Or.inr rfl) pgn_nil)))) (by exact of_decide_eq_true rfl) rfl) (px_view (pv_name 0)))
    (so_cons (so_set sc_cells_of.nd rfl (by first | exact Or.inl rfl | exact Or.inr rfl) (px_view (pv_lst pva_nil)))
    (so_cons (so_for (a := b_cells_of_0) (fg := [6, 7]) PassesOwn.never rfl (pix_rng2 (px_view (pv_name 1)) (px_view (pv_name 3)) T.n_range) (pgx_name sc_cells_of.nd rfl (by first | exact Or.inl rfl | exact Or.inr rfl))
    (so_one (PS.of (ps_expr (pe_bm PySem.F.plainAttrs_list PySem.F.slot_list_extend PySem.F.type_list_extend mt_extend (L2.pv 5) (pa_cons (px_view (pv_comp (own := [("c", 7)]) rfl sc_cells_of.nd (piv_rng2 (pv_name 2) (pv_name 4) T.n_range) (blk_of (by kernel_rfl)) (fun _ _ _ _ _ => pgv_name sc_cells_of.nd rfl (by first | exact Or.inl rfl | exact Or.inr rfl) (by first | exact Or.inl rfl | exact Or.inr rfl) (by decide)) (fun _ _ _ _ _ => pts_yes) (fun _ _ _ _ _ => (pv_tup (pva_cons (pv_name 6) (pva_cons (pv_name 7) pva_nil)))))) pa_nil))) rd_extend)))
    (so_one (so_ret (px_move 5))))))
theorem ok_is_full (T : Tx K mg) : Kept P w K mg base CX0 4 "is_full" P_is_full (spV K (rhoOf K) 2 0 f_is_full) :=
  kept_v0 3 T.d_is_full sc_is_full (by decide) fun cdv A outer s H E G hr =>
    (so_one (so_ret (px_view (pv_callB (cAll rfl) calmAll T.n_all b_all (pva_cons (pv_weak (m := 1) (pv_comp (own := [("r", 2), ("c", 3)]) rfl sc_is_full.nd (piv_list (pv_weak (m := 1) (pc_v (ok_cells_of T) (hr.mono (by decide)) passN (pva_cons (pv_name 1) pva_nil)))) (blk_of (by kernel_rfl)) (fun _ _ _ _ _ => pgv_tupK K rfl rfl (pgn_cons sc_is_full.nd rfl (by first | exact Or.inl rfl | exact Or.inr rfl) (by first | exact Or.inl rfl | exact Or.inr rfl) (pgn_cons sc_is_full.nd rfl (by first | exact Or.inl rfl | exact Or.inr rfl) (by first | exact Or.inl rfl | exact Or.inr rfl) pgn_nil)) (by decide) rfl) (fun _ _ _ _ _ => pts_yes) (fun _ _ _ _ _ => (pv_cmp (opEq (room_un hr)) calmEq (pv_ix (pv_ix (pv_name 0) (pv_name 2)) (pv_name 3)) pv_int (nomark _))))) pva_nil)))))
theorem ok_look_at_worn (T : Tx K mg) : Kept P w K mg base (L2.CX P w) 4 "look_at_worn" P_look_at_worn (spV K (rhoOf K) 3 0 f_look_at_worn) :=
  kept_v 3 T.d_look_at_worn sc_look_at_worn (by decide) fun cdv A outer s H E G hr =>
    (so_cons (so_unp (pgx_tupK K rfl rfl rfl (pgn_cons sc_look_at_worn.nd rfl (by first | exact Or.inl rfl | exact Or.inr rfl) (by first | exact Or.inl rfl | exact Or.inr rfl) (pgn_cons sc_look_at_worn.nd rfl (by first | exact Or.inl rfl | exact Or.inr rfl) (by first | exact Or.inl rfl | exact Or.inr rfl) pgn_nil)) (by exact of_decide_eq_true rfl) rfl) (px_view (pc_v (ok_size_of T) (hr.mono (by decide)) passN (pva_cons (pv_name 0) pva_nil))))
    (so_one (so_if (ptx_view (PW.pt (pwv_or (ptv_not (ptv_val (n := 0) (pc_v (ok_is_whole T) (hr.mono (by decide)) passN (pva_cons (pv_name 1) pva_nil)))) (pwv_or (ptv_not (ptv_val (n := 0) (pc_v (ok_is_whole T) (hr.mono (by decide)) passN (pva_cons (pv_name 2) pva_nil)))) (pwv_or (ptv_not (ptv_chain opLe calmLe opLe calmLe pv_int (pv_name 1) (pv_name 3))) (pwv_or1 (ptv_not (ptv_chain opLe calmLe opLe calmLe pv_int (pv_name 2) (pv_name 4)))))))))
    (so_one (so_err rfl (takes_of rfl rfl rfl rfl) T.e_NoSize rfl))
    so_nil)))
theorem ok_worn_table (T : Tx K mg) : Kept P w K mg base (L2.CX P w) 6 "worn_table" P_worn_table (spV K (rhoOf K) 3 0 f_worn_table) :=
  kept_v 5 T.d_worn_table sc_worn_table (by decide) fun cdv A outer s H E G hr =>
    (so_cons (so_expr (px_view (pc_v (ok_look_at_worn T) (hr.mono (by decide)) (passes_call (takes_of rfl rfl rfl rfl) (fun _ _ _ _ h => h)) (pva_cons (pv_name 0) (pva_cons (pv_name 1) (pva_cons (pv_name 2) pva_nil))))))
    (so_cons (so_unp (pgx_tupK K rfl rfl rfl (pgn_cons sc_worn_table.nd rfl (by first | exact Or.inl rfl | exact Or.inr rfl) (by first | exact Or.inl rfl | exact Or.inr rfl) (pgn_cons sc_worn_table.nd rfl (by first | exact Or.inl rfl | exact Or.inr rfl) (by first | exact Or.inl rfl | exact Or.inr rfl) pgn_nil)) (by exact of_decide_eq_true rfl) rfl) (px_view (pc_v (ok_size_of T) (hr.mono (by decide)) passN (pva_cons (pv_name 0) pva_nil))))
    (so_cons (so_set sc_worn_table.nd rfl (by first | exact Or.inl rfl | exact Or.inr rfl) (px_view (pv_lst pva_nil)))
    (so_cons (so_for (a := b_worn_table_0) (fg := [6, 7]) (passes_of rfl) rfl (pix_rng1 (px_view (pv_op opAdd calmAdd (pv_op opSub calmSub (pv_name 3) (pv_name 1)) pv_int)) T.n_range) (pgx_name sc_worn_table.nd rfl (by first | exact Or.inl rfl | exact Or.inr rfl))
    (so_one (PS.of (ps_expr (pe_bm PySem.F.plainAttrs_list PySem.F.slot_list_append PySem.F.type_list_append mt_append (L2.pv 5) (pa_cons (px_view (pv_callTy cTuple calmTuple T.n_tuple b_tuple (pva_cons (pv_weak (m := 1) (pv_comp (own := [("c", 7)]) rfl sc_worn_table.nd (piv_rng1 (pv_op opAdd calmAdd (pv_op opSub calmSub (pv_name 4) (pv_name 2)) pv_int) T.n_range) (blk_of (by kernel_rfl)) (fun _ _ _ _ _ => pgv_name sc_worn_table.nd rfl (by first | exact Or.inl rfl | exact Or.inr rfl) (by first | exact Or.inl rfl | exact Or.inr rfl) (by decide)) (fun _ _ _ _ _ => pts_yes) (fun _ _ _ _ _ => (pv_callTy cInt calmInt T.n_int b_int (pva_cons (pc_v (ok_is_full T) (hr.mono (by decide)) passN (pva_cons (pv_name 0) (pva_cons (pv_tup (pva_cons (pv_name 6) (pva_cons (pv_name 7) (pva_cons (pv_op opAdd calmAdd (pv_name 6) (pv_name 1)) (pva_cons (pv_op opAdd calmAdd (pv_name 7) (pv_name 2)) pva_nil))))) pva_nil))) pva_nil))))) pva_nil))) pa_nil))) rd_append)))
    (so_one (so_ret (px_view (pv_callTy cTuple calmTuple T.n_tuple b_tuple (pva_cons (pv_name 5) pva_nil)))))))))
theorem ok__law_pool (T : Tx K mg) : Kept P w K mg base CX0 2 "_law_pool" P__law_pool (spV K (rhoOf K) 1 1 f__law_pool) :=
  kept_v0 1 T.d__law_pool sc__law_pool (by decide) fun cdv A outer s H E G hr =>
    (so_one (so_ret (px_view (pv_lst (pva_cons (pv_callB (cMax rfl) calmMax T.n_max b_max (pva_cons pv_int (pva_cons (pv_op opSub calmSub (pv_name 0) (pv_op opPow calmPow pv_int pv_int)) pva_nil))) (pva_cons (pv_op opMod calmMod (pv_name 0) (pv_op opPow calmPow pv_int pv_int)) (pva_cons pv_int pva_nil)))))))
theorem ok__law_draw (T : Tx K mg) : Kept P w K mg base CX0 2 "_law_draw" P__law_draw (spF K (rhoOf K) [1, 0] 0 f__law_draw) :=
  kept_f0 1 T.d__law_draw sc__law_draw (by decide) rfl fun cdv A outer s H E G A0 pv hr =>
    (so_cons (so_if (ptx_view (ptv_cmp opGt calmGt (pv_ix (pv_name 0) pv_int) pv_int (nomark _)))
    (so_cons (so_set sc__law_draw.nd rfl (by first | exact Or.inl rfl | exact Or.inr rfl) (px_view (pv_op opMod calmMod (pv_ix (pv_name 0) pv_int) (pv_name 1))))
    (so_cons (PS.of (ps_asg (px_view (pv_op opDiv calmDiv (pv_ix (pv_name 0) pv_int) (pv_name 1))) (pg_sub (L2.pv 0) (px_view pv_int) set_list)) rd_setI)
    (so_one (so_ret (px_view (pv_name 2))))))
    so_nil)
    (so_cons (PS.of (ps_asg (px_view (pv_op opAdd calmAdd (pv_ix (pv_name 0) pv_int) pv_int)) (pg_sub (L2.pv 0) (px_view pv_int) set_list)) rd_setI)
    (so_cons (so_set sc__law_draw.nd rfl (by first | exact Or.inl rfl | exact Or.inr rfl) (px_view (pv_op opMod calmMod (pv_op opAdd calmAdd (pv_ix (pv_name 0) pv_int) (pv_op opMul calmMul pv_int (pv_ix (pv_name 0) pv_int))) pv_int)))
    (so_cons (so_set sc__law_draw.nd rfl (by first | exact Or.inl rfl | exact Or.inr rfl) (px_view (pv_op opMod calmMod (pv_op opMul calmMul (pv_op opAdd calmAdd (pv_name 3) pv_int) (pv_op opAdd calmAdd (pv_name 3) pv_int)) pv_int)))
    (so_one (so_ret (px_view (pv_op opMod calmMod (pv_op opDiv calmDiv (pv_op opMod calmMod (pv_op opMul calmMul (pv_name 3) (pv_name 3)) pv_int) pv_int) (pv_name 1)))))))))
theorem ok__law_pick (T : Tx K mg) : Kept P w K mg base CX0 4 "_law_pick" P__law_pick (spF K (rhoOf K) [1, 0] 0 f__law_pick) :=
  kept_f0 3 T.d__law_pick sc__law_pick (by decide) rfl fun cdv A outer s H E G A0 pv hr =>
    (so_one (so_ret (px_ixF (j := 1) rfl (pc_f rfl (ok__law_draw T) (hr.mono (by decide)) passN (pio_io 0 (pio_val (px_view (pv_callB cLen calmLen T.n_len PySem.boot_len (pva_cons (pv_name 1) pva_nil))) pio_nil))))))
theorem ok__law_cell (T : Tx K mg) : Kept P w K mg base CX0 4 "_law_cell" P__law_cell (spF K (rhoOf K) [1, 0, 0, 0] 0 f__law_cell) :=
  kept_f0 3 T.d__law_cell sc__law_cell (by decide) rfl fun cdv A outer s H E G A0 pv hr =>
    (so_cons (so_if (ptx_view (ptv_cmp opLt calmLt (pv_name 1) pv_int (nomark _)))
    (so_one (so_ret (px_callTy rfl cInt calmInt T.n_int b_int (pxa_cons (px_cmp opGt calmGt (pc_f rfl (ok__law_draw T) (hr.mono (by decide)) passN (pio_io 0 (pio_val (px_view pv_int) pio_nil))) (px_view pv_int) (nomark _)) pxa_nil))))
    so_nil)
    (so_cons (so_if (ptx_view (ptv_cmp (opEq (room_un hr)) calmEq (pv_name 1) pv_int (nomark _)))
    (so_one (so_ret (pc_f rfl (ok__law_draw T) (hr.mono (by decide)) passN (pio_io 0 (pio_val (px_view pv_int) pio_nil)))))
    so_nil)
    (so_one (so_ret (px_op opMod calmMod (px_op opAdd calmAdd (px_view (pv_op opAdd calmAdd (pv_name 2) (pv_name 3))) (px_op opDiv calmDiv (pc_f rfl (ok__law_draw T) (hr.mono (by decide)) passN (pio_io 0 (pio_val (px_view pv_int) pio_nil))) (px_view pv_int))) (px_view pv_int))))))
theorem ok__law_table (T : Tx K mg) : Kept P w K mg base CX0 6 "_law_table" P__law_table (spF K (rhoOf K) [1, 0] 0 f__law_table) :=
  kept_f0 5 T.d__law_table sc__law_table (by decide) rfl fun cdv A outer s H E G A0 pv hr =>
    (so_cons (so_set sc__law_table.nd rfl (by first | exact Or.inl rfl | exact Or.inr rfl) (px_ix rfl (px_view (pv_lst (pva_cons pv_int (pva_cons pv_int (pva_cons pv_int (pva_cons pv_int (pva_cons pv_int (pva_cons pv_int (pva_cons pv_int (pva_cons (pv_name 1) pva_nil)))))))))) (pc_f rfl (ok__law_draw T) (hr.mono (by decide)) passN (pio_io 0 (pio_val (px_view pv_int) pio_nil)))))
    (so_cons (so_set sc__law_table.nd rfl (by first | exact Or.inl rfl | exact Or.inr rfl) (px_op opAdd calmAdd (px_view pv_int) (pc_f rfl (ok__law_draw T) (hr.mono (by decide)) passN (pio_io 0 (pio_val (px_view (pv_name 2)) pio_nil)))))
    (so_cons (so_set sc__law_table.nd rfl (by first | exact Or.inl rfl | exact Or.inr rfl) (px_op opAdd calmAdd (px_view pv_int) (pc_f rfl (ok__law_draw T) (hr.mono (by decide)) passN (pio_io 0 (pio_val (px_view (pv_name 2)) pio_nil)))))
    (so_cons (so_set sc__law_table.nd rfl (by first | exact Or.inl rfl | exact Or.inr rfl) (pc_f rfl (ok__law_draw T) (hr.mono (by decide)) passN (pio_io 0 (pio_val (px_view pv_int) pio_nil))))
    (so_cons (so_setLc (own := [("r", 7)]) rfl sc__law_table.nd rfl rfl (sw_true rfl rfl rfl (by kernel_rfl)) (pix_rng1 (px_view (pv_name 3)) T.n_range) (blk_of (by kernel_rfl)) (fun _ _ _ _ _ => (pgx_name sc__law_table.nd rfl (by first | exact Or.inl rfl | exact Or.inr rfl))) (owns_name (by decide)) (fun _ _ _ _ _ => ptsx_yes) (fun _ _ _ _ _ => (px_view (pv_rep (pva_cons (pv_callTy cInt calmInt T.n_int b_int (pva_cons (pv_cmp (opIn (room_un hr)) calmIn (pv_name 5) (pv_tup (pva_cons pv_int (pva_cons pv_int pva_nil))) rfl) pva_nil)) pva_nil) (pv_name 4)))))
    (so_cons (so_if (ptx_view (ptv_cmp (opIn (room_un hr)) calmIn (pv_name 5) (pv_tup (pva_cons pv_int (pva_cons pv_int (pva_cons pv_int (pva_cons pv_int pva_nil))))) rfl))
    (so_one (so_setLc (own := [("r", 7)]) rfl sc__law_table.nd rfl rfl (sw_true rfl rfl rfl (by kernel_rfl)) (pix_rng1 (px_view (pv_name 3)) T.n_range) (blk_of (by kernel_rfl)) (fun _ _ _ _ _ => (pgx_name sc__law_table.nd rfl (by first | exact Or.inl rfl | exact Or.inr rfl))) (owns_name (by decide)) (fun _ _ _ _ _ => ptsx_yes) (fun _ _ _ _ _ => (px_comp (own := [("c", 8)]) rfl sc__law_table.nd (pix_rng1 (px_view (pv_name 4)) T.n_range) (blk_of (by kernel_rfl)) (fun _ _ _ _ _ => (pgx_name sc__law_table.nd rfl (by first | exact Or.inl rfl | exact Or.inr rfl))) (owns_name (by decide)) (fun _ _ _ _ _ => ptsx_yes) (fun _ _ _ _ _ => (pc_f rfl (ok__law_cell T) (hr.mono (by decide)) passN (pio_io 0 (pio_val (px_view (pv_name 5)) (pio_val (px_view (pv_name 7)) (pio_val (px_view (pv_name 8)) pio_nil))))))))))
    so_nil)
    (so_cons (so_if (ptx_view (ptv_cmp (opIn (room_un hr)) calmIn (pv_name 5) (pv_tup (pva_cons pv_int (pva_cons pv_int pva_nil))) rfl))
    (so_one (so_for (a := b__law_table_1) (fg := [9, 10, 11, 12, 13]) PassesOwn.never rfl (pix_rng1 (px_op opAdd calmAdd (px_view pv_int) (pc_f rfl (ok__law_draw T) (hr.mono (by decide)) passN (pio_io 0 (pio_val (px_view pv_int) pio_nil)))) T.n_range) (pgx_name sc__law_table.nd rfl (by first | exact Or.inl rfl | exact Or.inr rfl))
    (so_cons (so_set sc__law_table.nd rfl (by first | exact Or.inl rfl | exact Or.inr rfl) (pc_f rfl (ok__law_draw T) (hr.mono (by decide)) passN (pio_io 0 (pio_val (px_view (pv_name 3)) pio_nil))))
    (so_cons (so_set sc__law_table.nd rfl (by first | exact Or.inl rfl | exact Or.inr rfl) (pc_f rfl (ok__law_draw T) (hr.mono (by decide)) passN (pio_io 0 (pio_val (px_view (pv_name 4)) pio_nil))))
    (so_cons (PS.of (ps_par rfl sc__law_table.nd rfl rfl (by decide) rfl rfl (pa_cons (px_view (pv_op opAdd calmAdd (pv_name 10) pv_int)) (pa_cons (px_view (pv_op opAdd calmAdd (pv_name 11) pv_int)) pa_nil)) rfl) (rd_pair (by exact of_decide_eq_true rfl) (by exact of_decide_eq_true rfl) (by decide) (by exact of_decide_eq_true rfl) (by exact of_decide_eq_true rfl)))
    (so_cons (so_if (ptx_view (ptv_cmp (opEq (room_un hr)) calmEq (pv_name 5) pv_int (nomark _)))
    (so_cons (so_set sc__law_table.nd rfl (by first | exact Or.inl rfl | exact Or.inr rfl) (px_op opAdd calmAdd (px_view (pv_name 12)) (pc_f rfl (ok__law_draw T) (hr.mono (by decide)) passN (pio_io 0 (pio_val (px_view (pv_op opSub calmSub (pv_name 3) (pv_name 10))) pio_nil)))))
    (so_one (so_set sc__law_table.nd rfl (by first | exact Or.inl rfl | exact Or.inr rfl) (px_op opAdd calmAdd (px_view (pv_name 13)) (pc_f rfl (ok__law_draw T) (hr.mono (by decide)) passN (pio_io 0 (pio_val (px_view (pv_op opSub calmSub (pv_name 4) (pv_name 11))) pio_nil)))))))
    so_nil)
    (so_one (so_for (a := b__law_table_0) (fg := []) PassesOwn.never rfl (pix_rng2 (px_view (pv_name 10)) (px_view (pv_name 12)) T.n_range) (pgx_name sc__law_table.nd rfl (by first | exact Or.inl rfl | exact Or.inr rfl))
    (so_one (PS.of (ps_asg (px_view (pv_rep (pva_cons (pv_callTy cInt calmInt T.n_int b_int (pva_cons (pv_cmp (opEq (room_un hr)) calmEq (pv_name 5) pv_int (nomark _)) pva_nil)) pva_nil) (pv_op opSub calmSub (pv_name 13) (pv_name 11)))) (pg_slc (pe_ix ix_list (L2.pv 6) (pv_name 7) (fun _ _ => rfl)) (pv_name 11) (pv_name 13))) rd_setSl))))))))))
    so_nil)
    (so_one (so_ret (px_view (pv_callTy cTuple calmTuple T.n_tuple b_tuple (pva_cons (pv_weak (m := 1) (pv_comp (own := [("line", 14)]) rfl sc__law_table.nd (piv_list (pv_name 6)) (blk_of (by kernel_rfl)) (fun _ _ _ _ _ => pgv_name sc__law_table.nd rfl (by first | exact Or.inl rfl | exact Or.inr rfl) (by first | exact Or.inl rfl | exact Or.inr rfl) (by decide)) (fun _ _ _ _ _ => pts_yes) (fun _ _ _ _ _ => (pv_callTy cTuple calmTuple T.n_tuple b_tuple (pva_cons (pv_name 14) pva_nil))))) pva_nil))))))))))))
theorem ok__law_is_full (T : Tx K mg) : Kept P w K mg base CX0 2 "_law_is_full" P__law_is_full (spV K (rhoOf K) 5 0 f__law_is_full) :=
  kept_v0 1 T.d__law_is_full sc__law_is_full (by decide) fun cdv A outer s H E G hr =>
    (so_one (so_ret (px_view (pv_callB (cAll rfl) calmAll T.n_all b_all (pva_cons (pv_weak (m := 1) (pv_comp (own := [("r", 5)]) rfl sc__law_is_full.nd (piv_rng2 (pv_name 1) (pv_name 3) T.n_range) (blk_of (by kernel_rfl)) (fun _ _ _ _ _ => pgv_name sc__law_is_full.nd rfl (by first | exact Or.inl rfl | exact Or.inr rfl) (by first | exact Or.inl rfl | exact Or.inr rfl) (by decide)) (fun _ _ _ _ _ => pts_yes) (fun _ _ _ _ _ => (pv_cmp (opNotIn (room_un hr)) calmNotIn pv_int (pv_slice (pv_ix (pv_name 0) (pv_name 5)) (pvo_some (pv_name 2)) (pvo_some (pv_name 4))) rfl)))) pva_nil)))))
theorem ok__law_worn (T : Tx K mg) : Kept P w K mg base CX0 4 "_law_worn" P__law_worn (spV K (rhoOf K) 3 0 f__law_worn) :=
  kept_v0 3 T.d__law_worn sc__law_worn (by decide) fun cdv A outer s H E G hr =>
    (so_cons (so_set sc__law_worn.nd rfl (by first | exact Or.inl rfl | exact Or.inr rfl) (px_view (pv_lst pva_nil)))
    (so_cons (so_for (a := b__law_worn_0) (fg := [4, 5]) PassesOwn.never rfl (pix_rng1 (px_view (pv_op opAdd calmAdd (pv_op opSub calmSub (pv_callB cLen calmLen T.n_len PySem.boot_len (pva_cons (pv_name 0) pva_nil)) (pv_name 1)) pv_int)) T.n_range) (pgx_name sc__law_worn.nd rfl (by first | exact Or.inl rfl | exact Or.inr rfl))
    (so_one (PS.of (ps_expr (pe_bm PySem.F.plainAttrs_list PySem.F.slot_list_append PySem.F.type_list_append mt_append (L2.pv 3) (pa_cons (px_view (pv_callTy cTuple calmTuple T.n_tuple b_tuple (pva_cons (pv_weak (m := 1) (pv_comp (own := [("c", 5)]) rfl sc__law_worn.nd (piv_rng1 (pv_op opAdd calmAdd (pv_op opSub calmSub (pv_callB cLen calmLen T.n_len PySem.boot_len (pva_cons (pv_ix (pv_name 0) pv_int) pva_nil)) (pv_name 2)) pv_int) T.n_range) (blk_of (by kernel_rfl)) (fun _ _ _ _ _ => pgv_name sc__law_worn.nd rfl (by first | exact Or.inl rfl | exact Or.inr rfl) (by first | exact Or.inl rfl | exact Or.inr rfl) (by decide)) (fun _ _ _ _ _ => pts_yes) (fun _ _ _ _ _ => (pv_callTy cInt calmInt T.n_int b_int (pva_cons (pc_v (ok__law_is_full T) (hr.mono (by decide)) passN (pva_cons (pv_name 0) (pva_cons (pv_name 4) (pva_cons (pv_name 5) (pva_cons (pv_op opAdd calmAdd (pv_name 4) (pv_name 1)) (pva_cons (pv_op opAdd calmAdd (pv_name 5) (pv_name 2)) pva_nil)))))) pva_nil))))) pva_nil))) pa_nil))) rd_append)))
    (so_one (so_ret (px_view (pv_callTy cTuple calmTuple T.n_tuple b_tuple (pva_cons (pv_name 3) pva_nil)))))))
theorem ok__law_same (T : Tx K mg) : Kept P w K mg base CX0 2 "_law_same" P__law_same (spV K (rhoOf K) 2 0 f__law_same) :=
  kept_v0 1 T.d__law_same sc__law_same (by decide) fun cdv A outer s H E G hr =>
    (so_cons (so_if (ptx_view (PW.pt (pwv_or (ptv_not (ptv_val (n := 0) (pv_isi (pv_name 0) T.n_isinstance T.n_tuple b_tuple (by decide)))) (pwv_or (ptv_not (ptv_val (n := 0) (pv_callB (cAll rfl) calmAll T.n_all b_all (pva_cons (pv_weak (m := 1) (pv_comp (own := [("line", 2)]) rfl sc__law_same.nd (piv_tup (pv_name 0)) (blk_of (by kernel_rfl)) (fun _ _ _ _ _ => pgv_name sc__law_same.nd rfl (by first | exact Or.inl rfl | exact Or.inr rfl) (by first | exact Or.inl rfl | exact Or.inr rfl) (by decide)) (fun _ _ _ _ _ => pts_yes) (fun _ _ _ _ _ => (pv_isi (pv_name 2) T.n_isinstance T.n_tuple b_tuple (by decide))))) pva_nil)))) (pwv_or1 (ptv_cmp (opNe (room_un hr)) calmNe (pv_name 0) (pv_name 1) (nomark _)))))))
    (so_one (so_ret (px_view pv_bool)))
    so_nil)
    (so_cons (so_for (a := b__law_same_0) (fg := [3]) PassesOwn.never rfl (pix_tup rfl (px_view (pv_name 0))) (pgx_name sc__law_same.nd rfl (by first | exact Or.inl rfl | exact Or.inr rfl))
    (so_one (so_if (ptx_view (ptv_not (ptv_val (n := 0) (pv_callB (cAll rfl) calmAll T.n_all b_all (pva_cons (pv_weak (m := 1) (pv_comp (own := [("cell", 3)]) rfl sc__law_same.nd (piv_tup (pv_name 2)) (blk_of (by kernel_rfl)) (fun _ _ _ _ _ => pgv_name sc__law_same.nd rfl (by first | exact Or.inl rfl | exact Or.inr rfl) (by first | exact Or.inl rfl | exact Or.inr rfl) (by decide)) (fun _ _ _ _ _ => pts_yes) (fun _ _ _ _ _ => (pv_and (pv_isi (pv_name 3) T.n_isinstance T.n_int b_int (by decide)) (pv_one (pv_not (pv_isi (pv_name 3) T.n_isinstance T.n_bool b_bool (by decide)))))))) pva_nil)))))
    (so_one (so_ret (px_view pv_bool)))
    so_nil)))
    (so_one (so_ret (px_view pv_bool)))))
theorem ok__law_no_number (T : Tx K mg) : Kept P w K mg base CX0 6 "_law_no_number" P__law_no_number (spF K (rhoOf K) [1, 0] 0 f__law_no_number) :=
  kept_f0 5 T.d__law_no_number sc__law_no_number (by decide) rfl fun cdv A outer s H E G A0 pv hr =>
    (so_cons (so_set sc__law_no_number.nd rfl (by first | exact Or.inl rfl | exact Or.inr rfl) (pc_f rfl (ok__law_draw T) (hr.mono (by decide)) passN (pio_io 0 (pio_val (px_view (pv_op opPow calmPow pv_int pv_int)) pio_nil))))
    (so_cons (so_set sc__law_no_number.nd rfl (by first | exact Or.inl rfl | exact Or.inr rfl) (px_F (pv_weak (m := 1) (pv_lst (pva_cons pv_int (pva_cons (pv_neg pv_int) (pva_cons (pv_name 1) (pva_cons (pv_op opAdd calmAdd (pv_name 1) (pv_name 2)) (pva_cons (pv_neg (pv_name 2)) (pva_cons pv_bool (pva_cons pv_bool (pva_cons pv_none (pva_cons pv_str (pva_cons (pv_tup (pva_cons pv_int pva_nil)) (pva_cons (pv_weak (m := 1) (pv_lst (pva_cons pv_int pva_nil))) (pva_cons pv_dct0 (pva_cons pv_dct1 (pva_cons (pv_tup pva_nil) (pva_cons pv_str pva_nil)))))))))))))))))))
    (so_one (so_ret (pc_f rfl (ok__law_pick T) (hr.mono (by decide)) passN (pio_io 0 (pio_val (px_F (pv_name 3)) pio_nil)))))))
theorem sc__law_refused : FnScope N__law_refused P__law_refused (defScope s__law_refused) := ⟨rfl, rfl, rfl, by decide +kernel, rfl, by decide +kernel, by decide +kernel⟩
theorem ok__law_refused (T : Tx K mg) {x : Str} {m n : Nat} {ps : List Str} {op : List D → Rs D} (hm : m ≤ 9) (G : Kept P w K mg base (L2.CX P w) m x ps (spV K (rhoOf K) 3 n op)) :
    Kept P w K mg base CX0 10 "_law_refused" P__law_refused (spRef K x (spV K (rhoOf K) 3 0 (f__law_refused op))) := by
  obtain ⟨fd, F, b⟩ := T.d__law_refused.ex
  refine ⟨⟨fd, ?_, b, fdAt_of F⟩, T.d__law_refused.g, F.kp⟩
  obtain ⟨fdx, Fx, bx, _⟩ := G.ex
  refine F.ok sc__law_refused (fun vs H Q E h => ?_) (fun cdv A outer s H vs Q E hr h => ?_)
  · obtain ⟨r, rfl, h⟩ := h
    show r.length + 1 = 4
    rw [h.1]
  · obtain ⟨r, rfl, hl, G0, ds, g, rp, p⟩ := h
    obtain ⟨v1, v2, v3, rfl⟩ : ∃ v1 v2 v3, r = [v1, v2, v3] := by
      match r, hl with
      | [v1, v2, v3], _ => exact ⟨v1, v2, v3, rfl⟩
    refine ⟨_, pss_cons (ps_set (i := 4) sc__law_refused.nd rfl (Or.inl rfl) pe_non)
      (pss_cons (ps_keep (c := .ref (He.ga K "PaneError")) (i := 5) (j := 4) (tb := fun W => tDrop (tHeld 0 (He.ga K x) (spV K (rhoOf K) 3 n op) (WE W) (tCons (tVar 1) (tCons (tVar 2) (tCons (tVar 3) tNil))))) rfl rfl rfl sc__law_refused.nd rfl rfl rfl rfl ⟨rfl, by decide, .inl T.e_PaneError.g⟩ (by decide) (by decide)
        (fun W pn xe tk _ => pss_one (ps_expr (pe_held Fx (hr.mono hm) rfl (Or.inl rfl) G.kp bx (fun σ => passAt tk σ) (pa_cons (L2.pv 1) (pa_cons (L2.pv 2) (pa_cons (L2.pv 3) pa_nil)))))))
      (pss_cons (ps_if (pt_val (pe_callB (call_keptT T.z.hC) rfl T.n_isinstance b_isinstance (pa_cons (L2.pv 4) (pa_cons (pe_tup (pa_cons (pe_glob rfl T.e_BadTable.g (v := .ref _) rfl) (pa_cons (pe_glob rfl T.e_NoMatch.g (v := .ref _) rfl) (pa_cons (pe_glob rfl T.e_NoCount.g (v := .ref _) rfl) (pa_cons (pe_glob rfl T.e_NoCell.g (v := .ref _) rfl) pa_nil))))) pa_nil)))) (pss_one (ps_ret pe_bl)) pss_nil)
      (pss_one (ps_ret (pe_and (pe_callB (call_kept T.z.hC) rfl T.n_isinstance b_isinstance (pa_cons (L2.pv 4) (pa_cons (pe_glob rfl T.e_NoSize.g (v := .ref _) rfl) pa_nil))) (pe_one (pe_callB (call_kept T.z.hC) rfl T.n_isinstance b_isinstance (pa_cons (L2.pv 4) (pa_cons (pe_bltn (v := .ty "ValueError") rfl T.n_ValueError b_valueError rfl) pa_nil))))))))), ?_⟩
    unfold f__law_refused refusedAs at p
    cases q : op ds with
    | no => rw [q] at p; exact p.elim
    | ok d => rw [q] at p; exact p.elim
    | ex c =>
      rw [q] at p
      dsimp only at p
      by_cases hc : c = "NoSize"
      · rw [if_pos hc] at p
        subst hc
        refine ⟨rfl, v1, rfl, v2, rfl, v3, rfl, rfl, G0, ds, g, rp, ?_⟩
        rw [q]
        intro H1 s1
        refine ⟨T.z.ex, fun a ha => ?_⟩
        -- behind the clause
        refine ⟨_, rfl, by show 4 ≤ sizeLine; decide, fun tp ht => ?_⟩
        have na : a ≠ tp := by
          rintro rfl
          rw [upd_same] at ht
          cases ht
        refine ⟨a, tp, _, _, false, rfl, by rw [upd_ne na, upd_same]; rfl, upd_same, .cons (.own _) (.cons (.own _) (.cons (.own _) (.cons (.own _) .nil))), T.z.kT, ?_⟩
        refine ⟨false, rfl, iteF ?_⟩
        refine ⟨_, rfl, a, _, _, true, rfl, by rw [upd_ne na, upd_same]; rfl, .own _, T.z.kS, true, rfl, iteT ?_⟩
        refine ⟨_, rfl, a, _, _, true, rfl, by rw [upd_ne na, upd_same]; rfl, .ty _, T.z.kV, ?_⟩
        have ht1 : H1 tp = none := by rw [upd_ne (Ne.symm na)] at ht; exact ht
        refine p (.bl true) _ G0 [] ⟨?_, Same.refl _, ?_, fun a h => .inl h⟩ (rp_bool true _ _) Fr.nil
        · exact (s1.trans (same_upd ha)).trans (same_upd ht)
        · exact ((g.trans s1).trans (same_upd ha)).trans (same_upd ht)
      · rw [if_neg hc] at p; exact p.elim

theorem ok_law (T : Tx K mg) : Kept P w K mg base CX0 12 "law" P_law (spV K (rhoOf K) 1 0 f_law) :=
  kept_v0 11 T.d_law sc_law (by decide) fun cdv A outer s H E G hr =>
    (so_cons (so_for (a := b_law_1) (fg := [1, 2, 3, 4, 5, 6, 7, 8, 9, 10, 11]) PassesOwn.never rfl (pix_list rfl (px_F (pv_op opAdd calmAdd (pv_slice (pv_name 0) pvo_none (pvo_some pv_int)) (pv_weak (m := 1) (pv_lst (pva_cons pv_int (pva_cons pv_int (pva_cons pv_int pva_nil)))))))) (pgx_name sc_law.nd rfl (by first | exact Or.inl rfl | exact Or.inr rfl))
    (so_cons (so_set sc_law.nd rfl (by first | exact Or.inl rfl | exact Or.inr rfl) (px_view (pc_v (ok__law_pool T) (hr.mono (by decide)) passN (pva_cons (pv_name 1) pva_nil))))
    (so_cons (so_set sc_law.nd rfl (by first | exact Or.inl rfl | exact Or.inr rfl) (pc_f rfl (ok__law_table T) (hr.mono (by decide)) passN (pio_io 2 (pio_val (px_view pv_int) pio_nil))))
    (so_cons (PS.of (ps_par rfl sc_law.nd rfl rfl (by decide) rfl rfl (pa_cons (px_view (pv_callB cLen calmLen T.n_len PySem.boot_len (pva_cons (pv_name 3) pva_nil))) (pa_cons (px_view (pv_callB cLen calmLen T.n_len PySem.boot_len (pva_cons (pv_ix (pv_name 3) pv_int) pva_nil))) pa_nil)) rfl) (rd_pair (by exact of_decide_eq_true rfl) (by exact of_decide_eq_true rfl) (by decide) (by exact of_decide_eq_true rfl) (by exact of_decide_eq_true rfl)))
    (so_cons (so_set sc_law.nd rfl (by first | exact Or.inl rfl | exact Or.inr rfl) (px_op opAdd calmAdd (px_view pv_int) (pc_f rfl (ok__law_draw T) (hr.mono (by decide)) passN (pio_io 2 (pio_val (px_view (pv_name 4)) pio_nil)))))
    (so_cons (so_set sc_law.nd rfl (by first | exact Or.inl rfl | exact Or.inr rfl) (px_op opAdd calmAdd (px_view pv_int) (pc_f rfl (ok__law_draw T) (hr.mono (by decide)) passN (pio_io 2 (pio_val (px_view (pv_name 5)) pio_nil)))))
    (so_cons (so_if (ptx_view (ptv_not (ptv_val (n := 0) (pc_v (ok__law_same T) (hr.mono (by decide)) passN (pva_cons (pc_v (ok_worn_table T) (hr.mono (by decide)) passX0 (pva_cons (pv_name 3) (pva_cons (pv_name 6) (pva_cons (pv_name 7) pva_nil)))) (pva_cons (pc_v (ok__law_worn T) (hr.mono (by decide)) passN (pva_cons (pv_name 3) (pva_cons (pv_name 6) (pva_cons (pv_name 7) pva_nil)))) pva_nil))))))
    (so_one (so_ret (px_view pv_bool)))
    so_nil)
    (so_cons (so_if (ptx_view (ptv_not (ptv_val (n := 0) (pc_v (ok__law_same T) (hr.mono (by decide)) passN (pva_cons (pc_v (ok_worn_table T) (hr.mono (by decide)) passX0 (pva_cons (pv_name 3) (pva_cons pv_int (pva_cons pv_int pva_nil)))) (pva_cons (pv_name 3) pva_nil))))))
    (so_one (so_ret (px_view pv_bool)))
    so_nil)
    (so_cons (so_set sc_law.nd rfl (by first | exact Or.inl rfl | exact Or.inr rfl) (pc_f rfl (ok__law_no_number T) (hr.mono (by decide)) passN (pio_io 2 (pio_val (px_view (pv_op opAdd calmAdd (pv_name 4) pv_int)) pio_nil))))
    (so_cons (so_set sc_law.nd rfl (by first | exact Or.inl rfl | exact Or.inr rfl) (pc_f rfl (ok__law_no_number T) (hr.mono (by decide)) passN (pio_io 2 (pio_val (px_view (pv_op opAdd calmAdd (pv_name 5) pv_int)) pio_nil))))
    (so_one (so_for (a := b_law_0) (fg := [10, 11]) PassesOwn.never rfl (pix_list rfl (px_F (pv_weak (m := 1) (pv_lst (pva_cons (pv_tup (pva_cons (pv_name 8) (pva_cons (pv_name 7) pva_nil))) (pva_cons (pv_tup (pva_cons (pv_name 6) (pva_cons (pv_name 9) pva_nil))) (pva_cons (pv_tup (pva_cons (pv_name 8) (pva_cons (pv_name 9) pva_nil))) (pva_cons (pv_tup (pva_cons (pv_op opAdd calmAdd (pv_name 4) pv_int) (pva_cons (pv_name 5) pva_nil))) (pva_cons (pv_tup (pva_cons (pv_name 4) (pva_cons (pv_op opAdd calmAdd (pv_name 5) pv_int) pva_nil))) pva_nil))))))))) (pgx_tupK K rfl rfl rfl (pgn_cons sc_law.nd rfl (by first | exact Or.inl rfl | exact Or.inr rfl) (by first | exact Or.inl rfl | exact Or.inr rfl) (pgn_cons sc_law.nd rfl (by first | exact Or.inl rfl | exact Or.inr rfl) (by first | exact Or.inl rfl | exact Or.inr rfl) pgn_nil)) (by exact of_decide_eq_true rfl) rfl)
    (so_one (so_if (ptx_not (ptx_val (n := 0) (pc_ref rfl (ok__law_refused T (by decide) (ok_worn_table T)) (hr.mono (by decide)) passN T.d_worn_table.g (pxa_cons (px_view (pv_name 3)) (pxa_cons (px_F (pv_name 10)) (pxa_cons (px_F (pv_name 11)) pxa_nil))))))
    (so_one (so_ret (px_view pv_bool)))
    so_nil))))))))))))))
    (so_one (so_ret (px_view pv_bool))))
end
end PL

set_option maxRecDepth 100000
namespace PL
open PySem PySem.Spec PyProof.Rows L2
/-! ### the pool -/
def poolD (a b c : Int) : D := .list [.int a, .int b, .int c]
theorem atI_of {xs : List D} {i : Int} {d : D} (h0 : 0 ≤ i) (h : xs[i.toNat]? = some d) : atI xs i = some d := by
  have hl := (List.getElem?_eq_some_iff.mp h).1
  unfold atI ixN
  rw [if_pos h0, if_pos (by omega)]
  exact h
@[simp] theorem at0 {a : D} {r : List D} : atI (a :: r) 0 = some a := atI_of (by omega) rfl
@[simp] theorem at1 {a b : D} {r : List D} : atI (a :: b :: r) 1 = some b := atI_of (by omega) rfl
@[simp] theorem at2 {a b c : D} {r : List D} : atI (a :: b :: c :: r) 2 = some c := atI_of (by omega) rfl
theorem mul_ok1 {i j : Int} (h : -(2 ^ 64) < i ∧ i < 2 ^ 64) : mulOk i j = true := by unfold mulOk; simp only [Bool.or_eq_true, decide_eq_true_eq]; left; exact h
theorem div_ok {j : Int} (h0 : 0 < j) (h : j < 2 ^ 1000) : divOk j = true := by unfold divOk; simp only [decide_eq_true_eq]; exact ⟨h0, h⟩
theorem draw_ok (a b c base : Int) (h0 : 0 < base) (h1 : base < 2 ^ 1000) : ∃ r a' c', f__law_draw [poolD a b c, .int base] = .ok (.int r, [poolD a' b c', .int base]) ∧ 0 ≤ r ∧ r < base := by
  by_cases ha : 0 < a
  · refine ⟨a % base, a / base, c, ?_, Int.emod_nonneg _ (by omega), Int.emod_lt_of_pos _ h0⟩
    unfold f__law_draw fnF0 d__law_draw
    simp [oSeq_ap, oNil_ap, oSet_ap, oRet_ap, oIf_ap, initF, poolD, oSetI, lstOf, ixN, outsOf, ha, h0, div_ok h0 h1]
  · have m1 : mulOk 7919 (c + 1) = true := mul_ok1 (by decide)
    have b1 := Int.emod_nonneg (b + 7919 * (c + 1)) (b := 1000000007) (by decide)
    have b2 := Int.emod_lt_of_pos (b + 7919 * (c + 1)) (b := 1000000007) (by decide)
    generalize e1 : (b + 7919 * (c + 1)) % 1000000007 = n1 at b1 b2
    have m2 : mulOk (n1 + 11) (n1 + 48271) = true := mul_ok1 (by omega)
    have b3 := Int.emod_nonneg ((n1 + 11) * (n1 + 48271)) (b := 998244353) (by decide)
    have b4 := Int.emod_lt_of_pos ((n1 + 11) * (n1 + 48271)) (b := 998244353) (by decide)
    generalize e2 : ((n1 + 11) * (n1 + 48271)) % 998244353 = n2 at b3 b4
    have m3 : mulOk n2 n2 = true := mul_ok1 (by omega)
    have d8 : divOk 8 = true := div_ok (by decide) (by decide +kernel)
    refine ⟨n2 * n2 % 2147483647 / 8 % base, a, c + 1, ?_, Int.emod_nonneg _ (by omega), Int.emod_lt_of_pos _ h0⟩
    unfold f__law_draw fnF0 d__law_draw
    simp [oSeq_ap, oNil_ap, oSet_ap, oRet_ap, oIf_ap, initF, poolD, oSetI, lstOf, ixN, outsOf, ha, h0, m1, e1, m2, e2, m3, d8]
theorem drawn_draw (base : Int) (h0 : 0 < base) (h1 : base < 2 ^ 1000) : Drawn f__law_draw [.int base] fun d => ∃ r, d = .int r ∧ 0 ≤ r ∧ r < base := fun p ⟨a, b, c, e⟩ => by
  subst e
  obtain ⟨r, a', c', e, h⟩ := draw_ok a b c base h0 h1
  exact ⟨_, _, e, ⟨a', b, c', rfl⟩, r, rfl, h⟩
theorem d5 : divOk 5 = true := div_ok (by decide) (by decide +kernel)
theorem drawn_cell (style r c : Int) : Drawn f__law_cell [.int style, .int r, .int c] fun d => ∃ v, d = .int v ∧ (v = 0 ∨ v = 1) := drawn_of rfl rfl fun p hp => by
  show WP (d__law_cell [.dat 1 p, .dat 0 (.int style), .dat 0 (.int r), .dat 0 (.int c)]) _ _
  unfold d__law_cell
  simp
  refine ⟨fun h => ?_, fun h => ⟨fun h4 => ?_, fun h4 => ?_⟩⟩
  · refine wx_draw (ds := [.int 4]) (drawn_draw 4 (by decide) (by decide +kernel)) rfl rfl hp (by simp [vIO]) fun r p' hp' ⟨v, e, hv⟩ => ?_
    subst e
    simp [PEnd, hp']
    by_cases h0 : 0 < v <;> simp [h0] <;> omega
  · refine wx_draw (ds := [.int 2]) (drawn_draw 2 (by decide) (by decide +kernel)) rfl rfl hp (by simp [vIO]) fun r p' hp' ⟨v, e, hv⟩ => ?_
    subst e
    simp [PEnd, hp']
    omega
  · refine wx_draw (ds := [.int 6]) (drawn_draw 6 (by decide) (by decide +kernel)) rfl rfl hp (by simp [vIO]) fun r p' hp' ⟨v, e, hv⟩ => ?_
    subst e
    simp [PEnd, hp', d5]
    omega
/-! ### tables -/
def rowD (l : List Int) : D := .tuple (l.map .int)
def tabD (t : List (List Int)) : D := .tuple (t.map rowD)
def lineD (l : List Int) : D := .list (l.map .int)
def gridD (t : List (List Int)) : D := .list (t.map lineD)
structure Tab (t : List (List Int)) (w : Nat) : Prop where
  h1 : 1 ≤ t.length
  h2 : t.length ≤ 10
  w1 : 1 ≤ w
  w2 : w ≤ 10
  row : ∀ l ∈ t, l.length = w ∧ ∀ x ∈ l, x = 0 ∨ x = 1
theorem small_line {n : Nat} (h : n ≤ 1000) : n ≤ sizeLine := line1000 h
/-- rows of cells -/
structure Grid (gr : List (List Int)) (rows w : Int) : Prop where
  len : (gr.length : Int) = rows
  row : ∀ l ∈ gr, (l.length : Int) = w ∧ ∀ x ∈ l, x = 0 ∨ x = 1
theorem Grid.tab {gr : List (List Int)} {rows w : Int} (h : Grid gr rows w) (h1 : 1 ≤ rows ∧ rows ≤ 10) (h2 : 1 ≤ w ∧ w ≤ 10) : Tab gr w.toNat := by
  refine ⟨by have := h.len; omega, by have := h.len; omega, by omega, by omega, fun l hl => ⟨?_, (h.row l hl).2⟩⟩
  have := (h.row l hl).1
  omega
abbrev stT (p : D) (g m rows w style : Int) (f x : Slot) : SS := [.dat 1 p, .dat 0 (.int g), .dat 0 (.int m), .dat 0 (.int rows), .dat 0 (.int w), .dat 0 (.int style), f, x, .bot, .bot, .bot, .bot, .bot, .bot, .bot]
/-- tuples of the rows -/
def asTup : D → D
  | .list xs => .tuple xs
  | d => d
theorem asTup_grid (gr : List (List Int)) : (gr.map lineD).map asTup = gr.map rowD := by
  rw [List.map_map]
  rfl
theorem fits_row (n : Nat) (l : List Int) : fits n (rowD l) = true := by unfold rowD; simp
theorem fits_tab (n : Nat) (t : List (List Int)) : fits n (tabD t) = true := by
  unfold tabD
  rw [fits_tup]
  refine fitsL_all fun d hd => ?_
  obtain ⟨l, _, rfl⟩ := List.mem_map.mp hd
  exact fits_row n l
theorem tups_of {s : VS} {gr : List (List Int)} (h : s[6]? = some (some (gridD gr))) (hl : s.length = 15) (hg : gr.length ≤ 1000) : vComp (vItL (vName 6)) (tgName 14) [14] vYes (vCall dTuple [vName 14]) s = .ok (.list (gr.map rowD)) := by
  rw [← asTup_grid]
  refine vComp_map asTup (by simp [h, gridD]) (by rw [List.length_map]; exact small_line hg) fun d hd => ?_
  obtain ⟨l, _, rfl⟩ := List.mem_map.mp hd
  refine ⟨_, rfl, ?_⟩
  simp [hl, lineD, asTup]
theorem wp_setSl {i m : Nat} {dx : SS → Rs (D × SS)} {d1 d2 d3 : VS → Rs D} {s : SS} {Qn : SS → Prop} {Qr : D → SS → Prop} {zs rows ds : List D} {x a c : Int} {j : Nat} (hx : dx s = .ok (.list zs, s)) (h1 : d1 (s.map viewOf) = .ok (.int x)) (hr : rowOf s[i]? x = some (m, rows, j, ds))
    (h2 : d2 (s.map viewOf) = .ok (.int a)) (h3 : d3 (s.map viewOf) = .ok (.int c)) (hc : 0 ≤ a ∧ a ≤ c ∧ c ≤ ds.length ∧ ds.length + zs.length ≤ sizeLine) (h : Qn (put s i (.dat (m + 2) (.list (rows.set j (.list (ds.take a.toNat ++ zs ++ ds.drop c.toNat))))))) : WP (oSetSl i m dx d1 d2 d3 s) Qn Qr := by
  unfold oSetSl
  rw [hx]
  dsimp only
  rw [h1]
  dsimp only
  rw [hr]
  dsimp only
  rw [h2]
  dsimp only
  rw [h3]
  dsimp only
  rw [if_pos ⟨rfl, hc⟩]
  exact h
theorem rowOf_grid {gr : List (List Int)} {x : Int} {l : List Int} (h0 : 0 ≤ x) (h : gr[x.toNat]? = some l) : rowOf (some (.dat 2 (gridD gr))) x = some (0, gr.map lineD, x.toNat, l.map .int) := by
  have hl := (List.getElem?_eq_some_iff.mp h).1
  unfold rowOf gridD
  dsimp only
  have e : ixN (gr.map lineD).length x = some x.toNat := by
    unfold ixN
    rw [if_pos h0, if_pos (by rw [List.length_map]; omega)]
  rw [e]
  dsimp only
  rw [List.getElem?_map, h]
  rfl
theorem Grid.setRow {gr : List (List Int)} {rows w : Int} (h : Grid gr rows w) {j : Nat} {l : List Int} (hj : gr[j]? = some l) {a c : Nat} {b : Int} (ha : a ≤ c) (hc : (c : Int) ≤ w) (hb : b = 0 ∨ b = 1) : Grid (gr.set j (l.take a ++ List.replicate (c - a) b ++ l.drop c)) rows w := by
  have hl := h.row l (List.mem_of_getElem? hj)
  refine ⟨by rw [List.length_set]; exact h.len, fun l' hl' => ?_⟩
  rcases List.mem_or_eq_of_mem_set hl' with q | rfl
  · exact h.row l' q
  · refine ⟨by simp; omega, fun x hx => ?_⟩
    simp only [List.mem_append] at hx
    rcases hx with (hx | hx) | hx
    · exact hl.2 x (List.mem_of_mem_take hx)
    · rw [(List.mem_replicate.mp hx).2]; exact hb
    · exact hl.2 x (List.mem_of_mem_drop hx)
theorem set_line {gr : List (List Int)} {j : Nat} {l2 : List Int} : (gr.map lineD).set j (.list (l2.map .int)) = (gr.set j l2).map lineD := by
  rw [List.map_set]
  rfl
theorem rep_ints (k : Nat) (b : Int) : (List.replicate k [PyData.int b]).flatten = (List.replicate k b).map .int := by
  induction k with
  | zero => rfl
  | succ k ih => rw [List.replicate_succ, List.flatten_cons, ih, List.replicate_succ, List.map_cons]; rfl
abbrev stU (p : D) (g m rows w style : Int) (f x : Slot) (k top left bottom right : Int) : SS := [.dat 1 p, .dat 0 (.int g), .dat 0 (.int m), .dat 0 (.int rows), .dat 0 (.int w), .dat 0 (.int style), f, x, .bot, .dat 0 (.int k), .dat 0 (.int top), .dat 0 (.int left), .dat 0 (.int bottom), .dat 0 (.int right), .bot]
/-- boxes laid: the rows of one box -/
theorem boxes_in (p : D) (g m rows w style k top left bottom right : Int) {gr : List (List Int)} (x : Slot) (hg : Grid gr rows w) (hw : w ≤ 10) (h1 : 0 ≤ top ∧ top ≤ bottom ∧ bottom ≤ rows) (h2 : 0 ≤ left ∧ left ≤ right ∧ right ≤ w) (hr : rows ≤ 10) {Qn : SS → Prop} {Qr : D → SS → Prop}
    (hQ : ∀ gr x, Grid gr rows w → Qn (stU p g m rows w style (.dat 2 (gridD gr)) x k top left bottom right)) :
    WP (oFor (xRng2 (xV 0 (vName 10)) (xV 0 (vName 12))) (xName 7) b__law_table_0 [] (stU p g m rows w style (.dat 2 (gridD gr)) x k top left bottom right)) Qn Qr := by
  have r1 : rngOk top = true := by unfold rngOk; exact decide_eq_true ⟨by omega, by omega⟩
  have r2 : rngOk bottom = true := by unfold rngOk; exact decide_eq_true ⟨by omega, by omega⟩
  refine wp_for (fun i s => ∃ gr x, Grid gr rows w ∧ s = stU p g m rows w style (.dat 2 (gridD gr)) x k top left bottom right) (ds := rngD top (bottom - top).toNat) (s0 := stU p g m rows w style (.dat 2 (gridD gr)) x k top left bottom right) (by simp [xRng2, r1, r2]) ⟨gr, x, hg, rfl⟩ ?_ (fun s ⟨gr, x, hg, e⟩ => e ▸ hQ gr x hg)
  rintro i d s hd ⟨gr, x, hg, rfl⟩
  obtain ⟨hi, rfl⟩ := rngD_get hd
  have ht : 0 ≤ top + (i : Int) := by omega
  have hlt : (top + (i : Int)).toNat < gr.length := by have := hg.len; omega
  have hgr := List.getElem?_eq_getElem hlt
  have hl := hg.row _ (List.mem_of_getElem? hgr)
  simp [b__law_table_0]
  refine wp_setSl (a := left) (c := right) (zs := (List.replicate (right - left).toNat (if style = 5 then 1 else 0)).map .int) ?_ (by simp) (rowOf_grid ht hgr) (by simp) (by simp) ⟨by omega, by omega, by rw [List.length_map]; omega, small_line (by simp; omega)⟩ ?_
  · have hz : right - left ≤ (sizeLine : Int) := by rw [sizeLine_eq]; omega
    simp [vRep]
    rw [if_pos ⟨by omega, by omega, hz⟩, bind_ok, if_pos]
    rw [fits_lst]
    exact fitsL_all (by simp)
  · simp
    refine ⟨gr.set (top + (i : Int)).toNat (gr[(top + (i : Int)).toNat].take left.toNat ++ List.replicate (right.toNat - left.toNat) (if style = 5 then 1 else 0) ++ gr[(top + (i : Int)).toNat].drop right.toNat), hg.setRow hgr (a := left.toNat) (c := right.toNat) (b := if style = 5 then 1 else 0) (by omega) (by omega) (by split <;> simp), ?_⟩
    unfold gridD
    rw [← set_line]
    simp [List.map_take, List.map_drop, show right.toNat - left.toNat = (right - left).toNat by omega]
theorem tail_table (g m rows w style : Int) (hr : 1 ≤ rows ∧ rows ≤ 10) (hw : 1 ≤ w ∧ w ≤ 10) (p : D) (hp : IsPool p) (gr : List (List Int)) (hg : Grid gr rows w) :
    WP (c__law_table_6 (stT p g m rows w style (.dat 2 (gridD gr)) .bot)) (PEnd 1 (fun d => ∃ t w, d = tabD t ∧ Tab t w) .none) (PEnd 1 fun d => ∃ t w, d = tabD t ∧ Tab t w) := by
  have fin : ∀ p gr x, IsPool p → Grid gr rows w → WP (oRet (xV 0 (vCall dTuple [(vComp (vItL (vName 6)) (tgName 14) [14] vYes (vCall dTuple [(vName 14)]))])) (stT p g m rows w style (.dat 2 (gridD gr)) x)) (PEnd 1 (fun d => ∃ t w, d = tabD t ∧ Tab t w) .none) (PEnd 1 fun d => ∃ t w, d = tabD t ∧ Tab t w) := fun p gr x hp hg => by
    have e := tups_of (s := (stT p g m rows w style (.dat 2 (gridD gr)) x).map viewOf) (gr := gr) (by simp) (by simp) (by have := hg.len; omega)
    rw [wp_ret, xV_ap, vCall_ap, vArgs_c, e]
    have f : fitsL 0 (gr.map rowD) = true := by
      have := fits_tab 0 gr
      unfold tabD at this
      rwa [fits_tup] at this
    simp [f, PEnd, hp]
    exact ⟨gr, rfl, _, hg.tab hr hw⟩
  unfold c__law_table_6
  rw [wp_seq, wp_if]
  simp only [xT_ap]
  simp
  have fin' := fin p gr .bot hp hg
  simp at fin'
  refine ⟨fun hs => ?_, fun _ _ => fin'⟩
  -- boxes over one another
  refine wp_forX (J := fun ds s0 => ∃ (k : Int) (p : D), ds = rngD 0 k.toNat ∧ IsPool p ∧ s0 = stT p g m rows w style (.dat 2 (gridD gr)) .bot) ?_ ?_
  · simp
    refine wx_draw (ds := [.int 4]) (drawn_draw 4 (by decide) (by decide +kernel)) rfl rfl hp (by simp [vIO]) fun r p' hp' ⟨v, e, hv⟩ => ?_
    subst e
    simp
    exact ⟨by unfold rngOk; exact decide_eq_true ⟨by omega, by omega⟩, ⟨_, rfl⟩, hp'⟩
  · rintro ds s0 ⟨k, p, rfl, hp, rfl⟩
    refine wp_for (fun i s => ∃ p gr x, IsPool p ∧ Grid gr rows w ∧ s = stT p g m rows w style (.dat 2 (gridD gr)) x) rfl ⟨p, gr, .bot, hp, hg, by simp⟩ ?_ ?_
    · rintro i d s hd ⟨p, gr, x, hp, hg, rfl⟩
      obtain ⟨hi, rfl⟩ := rngD_get hd
      simp [b__law_table_1]
      refine wx_draw (ds := [.int rows]) (drawn_draw rows (by omega) (by omega)) rfl rfl hp (by simp [vIO]) fun r p' hp' ⟨v, e, hv⟩ => ?_
      subst e
      simp
      refine wx_draw (ds := [.int w]) (drawn_draw w (by omega) (by omega)) rfl rfl hp' (by simp [vIO]) fun r p' hp' ⟨v2, e, hv2⟩ => ?_
      subst e
      simp
      refine ⟨fun h5 => ?_, fun h5 => ?_⟩
      · refine wx_draw (ds := [.int (rows - v)]) (drawn_draw (rows - v) (by omega) (by omega)) rfl rfl hp' (by simp [vIO]) fun r p' hp' ⟨v3, e, hv3⟩ => ?_
        subst e
        simp
        refine wx_draw (ds := [.int (w - v2)]) (drawn_draw (w - v2) (by omega) (by omega)) rfl rfl hp' (by simp [vIO]) fun r p' hp' ⟨v4, e, hv4⟩ => ?_
        subst e
        simp
        exact boxes_in p' g m rows w style i v v2 (v + 1 + v3) (v2 + 1 + v4) _ hg hw.2 (by omega) (by omega) hr.2 fun gr x hg => ⟨p', hp', gr, hg, x, by simp⟩
      · exact boxes_in p' g m rows w style i v v2 (v + 1) (v2 + 1) _ hg hw.2 (by omega) (by omega) hr.2 fun gr x hg => ⟨p', hp', gr, hg, x, by simp⟩
    · rintro s ⟨p, gr, x, hp, hg, rfl⟩
      have q := fin p gr x hp hg
      simp at q ⊢
      exact q
/-- the cells drawn -/
theorem mid_table (g m rows w style : Int) (hr : 1 ≤ rows ∧ rows ≤ 10) (hw : 1 ≤ w ∧ w ≤ 10) (p : D) (hp : IsPool p) (gr : List (List Int)) (hg : Grid gr rows w) :
    WP (c__law_table_5 (stT p g m rows w style (.dat 2 (gridD gr)) .bot)) (PEnd 1 (fun d => ∃ t w, d = tabD t ∧ Tab t w) .none) (PEnd 1 fun d => ∃ t w, d = tabD t ∧ Tab t w) := by
  unfold c__law_table_5
  rw [wp_seq, wp_if]
  simp
  have fin := tail_table g m rows w style hr hw p hp gr hg
  refine ⟨fun hs => ?_, fun _ _ _ _ => by simpa using fin⟩
  have r1 : rngOk rows = true := by unfold rngOk; exact decide_eq_true ⟨by omega, by omega⟩
  have r2 : rngOk w = true := by unfold rngOk; exact decide_eq_true ⟨by omega, by omega⟩
  refine wx_comp (fun s => ∃ p, IsPool p ∧ s = stT p g m rows w style (.dat 2 (gridD gr)) .bot) (fun d => ∃ l : List Int, d = lineD l ∧ (l.length : Int) = w ∧ ∀ x ∈ l, x = 0 ∨ x = 1) (ds := rngD 0 rows.toNat) (s0 := stT p g m rows w style (.dat 2 (gridD gr)) .bot) (by simp [xRng1, r1]) (by rw [rngD_len]; exact small_line (by omega)) ⟨p, hp, by simp⟩ ?_ ?_
  · rintro d s hd ⟨p, hp, rfl⟩
    obtain ⟨i, hi, rfl⟩ := mem_rngD.mp hd
    simp
    refine wx_comp (fun s => ∃ p, IsPool p ∧ s = stT p g m rows w style (.dat 2 (gridD gr)) (.dat 0 (.int i))) (fun d => ∃ v : Int, d = .int v ∧ (v = 0 ∨ v = 1)) (ds := rngD 0 w.toNat) (s0 := stT p g m rows w style (.dat 2 (gridD gr)) (.dat 0 (.int i))) (by simp [xRng1, r2]) (by rw [rngD_len]; exact small_line (by omega)) ⟨p, hp, by simp⟩ ?_ ?_
    · rintro d s hd ⟨p, hp, rfl⟩
      obtain ⟨j, hj, rfl⟩ := mem_rngD.mp hd
      simp
      refine wx_draw (ds := [.int style, .int i, .int j]) (drawn_cell style i j) rfl rfl hp (by simp [vIO]) fun r p' hp' ⟨v, e, hv⟩ => ?_
      subst e
      simp
      exact ⟨hv, hp'⟩
    · rintro ys s hl hy ⟨p, hp, rfl⟩
      simp
      obtain ⟨vs, rfl, hvs⟩ := ex_map hy
      refine ⟨⟨vs, rfl, ?_, hvs⟩, hp⟩
      simp [rngD_len] at hl
      omega
  · rintro ys s hl hy ⟨p, hp, rfl⟩
    simp
    obtain ⟨gs, rfl, hgs⟩ := ex_map hy
    have fin := tail_table g m rows w style hr hw p hp gs ⟨by simp [rngD_len] at hl; omega, hgs⟩
    simpa [gridD] using fin
theorem drawn_table (g : Int) (hg : 5 ≤ g ∧ g ≤ 10) : Drawn f__law_table [.int g] fun d => ∃ t w, d = tabD t ∧ Tab t w := drawn_of rfl rfl fun p hp => by
  show WP (d__law_table [.dat 1 p, .dat 0 (.int g), .bot, .bot, .bot, .bot, .bot, .bot, .bot, .bot, .bot, .bot, .bot, .bot, .bot]) _ _
  unfold d__law_table
  simp
  refine wx_draw (ds := [.int 8]) (drawn_draw 8 (by decide) (by decide +kernel)) rfl rfl hp (by simp [vIO]) fun r p hp ⟨v, e, hv⟩ => ?_
  subst e
  obtain ⟨m, em, hm⟩ : ∃ m : Int, atI [PyData.int 5, .int 5, .int 5, .int 5, .int 5, .int 5, .int 5, .int g] v = some (.int m) ∧ (1 ≤ m ∧ m ≤ 10) := by
    have : v.toNat = 0 ∨ v.toNat = 1 ∨ v.toNat = 2 ∨ v.toNat = 3 ∨ v.toNat = 4 ∨ v.toNat = 5 ∨ v.toNat = 6 ∨ v.toNat = 7 := by omega
    rcases this with h | h | h | h | h | h | h | h
    all_goals exact ⟨_, atI_of hv.1 (by rw [h]; rfl), by omega⟩
  simp [em]
  refine wx_draw (ds := [.int m]) (drawn_draw m (by omega) (by omega)) rfl rfl hp (by simp [vIO]) fun r p hp ⟨v1, e, hv1⟩ => ?_
  subst e
  simp
  refine wx_draw (ds := [.int m]) (drawn_draw m (by omega) (by omega)) rfl rfl hp (by simp [vIO]) fun r p hp ⟨v2, e, hv2⟩ => ?_
  subst e
  simp
  refine wx_draw (ds := [.int 8]) (drawn_draw 8 (by decide) (by decide +kernel)) rfl rfl hp (by simp [vIO]) fun r p hp ⟨style, e, hs⟩ => ?_
  subst e
  simp
  have r1 : rngOk (1 + v1) = true := by unfold rngOk; exact decide_eq_true ⟨by omega, by omega⟩
  refine wx_comp (fun s => s = stT p g m (1 + v1) (1 + v2) style .bot .bot) (fun d => ∃ l : List Int, d = lineD l ∧ (l.length : Int) = 1 + v2 ∧ ∀ x ∈ l, x = 0 ∨ x = 1) (ds := rngD 0 (1 + v1).toNat) (s0 := stT p g m (1 + v1) (1 + v2) style .bot .bot) (by simp [xRng1, r1]) (by rw [rngD_len]; exact small_line (by omega)) (by simp) ?_ ?_
  · rintro d s hd rfl
    obtain ⟨i, hi, rfl⟩ := mem_rngD.mp hd
    have hz : 1 + v2 ≤ (sizeLine : Int) := by rw [sizeLine_eq]; omega
    simp [vRep]
    refine ⟨⟨by omega, by omega, hz⟩, fitsL_all (by simp), List.replicate (1 + v2).toNat (if 0 = style ∨ 7 = style then 1 else 0), by simp [lineD], by simp; omega, fun x hx => ?_⟩
    rw [(List.mem_replicate.mp hx).2]
    split <;> simp
  · rintro ys s hl hy rfl
    obtain ⟨gs, rfl, hgs⟩ := ex_map hy
    have fin := mid_table g m (1 + v1) (1 + v2) style (by omega) (by omega) p hp gs ⟨by simp [rngD_len] at hl; omega, hgs⟩
    simpa [gridD] using fin
end PL

set_option maxRecDepth 100000
namespace PL
open PySem PySem.Spec PyProof.Rows L2
/-! ### cells -/
def cell (t : List (List Int)) (r c : Nat) : Int := (t[r]?.getD [])[c]?.getD 0
theorem row_at {t : List (List Int)} {r : Int} (h0 : 0 ≤ r) (h : r < t.length) : atI (t.map rowD) r = some (rowD (t[r.toNat]?.getD [])) := by
  refine atI_of h0 ?_
  have hl : r.toNat < t.length := by omega
  rw [List.getElem?_map, List.getElem?_eq_getElem hl]
  rfl
theorem Tab.row_len {t : List (List Int)} {w : Nat} (h : Tab t w) {r : Nat} (hr : r < t.length) : (t[r]?.getD []).length = w ∧ ∀ x ∈ t[r]?.getD [], x = 0 ∨ x = 1 := by
  rw [List.getElem?_eq_getElem hr]
  exact h.row _ (List.getElem_mem hr)
theorem cell_at {l : List Int} {c : Int} (h0 : 0 ≤ c) (h : c < l.length) : atI (l.map PyData.int) c = some (.int (l[c.toNat]?.getD 0)) := by
  refine atI_of h0 ?_
  have hl : c.toNat < l.length := by omega
  rw [List.getElem?_map, List.getElem?_eq_getElem hl]
  rfl
theorem item_tab {t : List (List Int)} {r : Int} (h0 : 0 ≤ r) (h : r < t.length) : dItem (tabD t) (.int r) = .ok (rowD (t[r.toNat]?.getD [])) := by
  unfold tabD
  rw [dItem_t, row_at h0 h]
theorem item_row {l : List Int} {c : Int} (h0 : 0 ≤ c) (h : c < l.length) : dItem (rowD l) (.int c) = .ok (.int (l[c.toNat]?.getD 0)) := by
  unfold rowD
  rw [dItem_t, cell_at h0 h]
/-- all cells of the box are yes -/
def Full (t : List (List Int)) (T L B R : Int) : Prop := ∀ r c : Nat, T ≤ r → (r : Int) < B → L ≤ c → (c : Int) < R → cell t r c = 1
open Classical in
noncomputable def fullB (t : List (List Int)) (T L B R : Int) : Bool := decide (Full t T L B R)
theorem fullB_iff {t : List (List Int)} {T L B R : Int} : fullB t T L B R = true ↔ Full t T L B R := by
  unfold fullB
  exact @decide_eq_true_iff _ (Classical.propDecidable _)
theorem fullB_eq {t : List (List Int)} {T L B R : Int} {b : Bool} (h : b = true ↔ Full t T L B R) : b = fullB t T L B R := Bool.eq_iff_iff.mpr (h.trans fullB_iff.symm)
theorem is_whole_int (i : Int) : f_is_whole [.int i] = .ok (.bool true) := fnV0_of (by simp [d_is_whole, init, isiB, tyName])
def isI : D → Bool
  | .int _ => true
  | _ => false
theorem is_whole_ok (d : D) : f_is_whole [d] = .ok (.bool (isI d)) := fnV0_of (by cases d <;> simp [d_is_whole, init, isiB, tyName, isI])
theorem tabD_len {t : List (List Int)} : dLen [tabD t] = .ok (.int t.length) := by unfold tabD; simp
theorem rowD_len {l : List Int} : dLen [rowD l] = .ok (.int l.length) := by unfold rowD; simp
theorem size_ok {t : List (List Int)} {w : Nat} (h : Tab t w) : f_size_of [tabD t] = .ok (.tuple [.int t.length, .int w]) := fnV0_of (by
  have h1 := h.h1
  have e := (h.row_len (r := 0) (by omega)).1
  have i := item_tab (t := t) (r := 0) (by omega) (by omega)
  simp only [Int.toNat_zero] at i
  simp [d_size_of, init, i, tabD_len, rowD_len]
  rw [← e])
/-! ### the cells of a box -/
def cellsD (T L B R : Int) : List D := (rngD T (B - T).toNat).flatMap fun r => (rngD L (R - L).toNat).map fun c => .tuple [r, c]
theorem flat_len {α β : Type} {f : α → List β} {k : Nat} : ∀ {l : List α}, (∀ a ∈ l, (f a).length = k) → (l.flatMap f).length = l.length * k
  | [], _ => by simp
  | a :: l, h => by
    rw [List.flatMap_cons, List.length_append, h a (by simp), flat_len (l := l) fun b hb => h b (by simp [hb]), List.length_cons, Nat.succ_mul]
    omega
theorem cells_ok {T L B R : Int} (h1 : 0 ≤ T ∧ B ≤ 10) (h2 : 0 ≤ L ∧ R ≤ 10) (h3 : -100 ≤ B ∧ T ≤ 100) (h4 : -100 ≤ R ∧ L ≤ 100) : f_cells_of [.tuple [.int T, .int L, .int B, .int R]] = .ok (.list (cellsD T L B R)) := fnV0_of (by
  have r1 := rng_ok (i := T) ⟨by omega, by omega⟩
  have r2 := rng_ok (i := B) ⟨by omega, by omega⟩
  have r3 := rng_ok (i := L) ⟨by omega, by omega⟩
  have r4 := rng_ok (i := R) ⟨by omega, by omega⟩
  show WP (d_cells_of [.dat 0 (.tuple [.int T, .int L, .int B, .int R]), .bot, .bot, .bot, .bot, .bot, .bot, .bot]) _ _
  unfold d_cells_of
  simp
  let st : List D → SS := fun ds => [.dat 0 (.tuple [.int T, .int L, .int B, .int R]), .dat 0 (.int T), .dat 0 (.int L), .dat 0 (.int B), .dat 0 (.int R), .dat 1 (.list ds), .bot, .bot]
  refine wp_for (fun i s => s = st (((rngD T (B - T).toNat).take i).flatMap fun r => (rngD L (R - L).toNat).map fun c => .tuple [r, c])) (ds := rngD T (B - T).toNat) (s0 := st []) (by simp [xRng2, r1, r2, st]) (by simp [st]) ?_ ?_
  · rintro i d s hd rfl
    have hi := rngD_get hd
    simp [b_cells_of_0, st]
    refine wp_ext (m := 0) (ds := ((rngD T (B - T).toNat).take i).flatMap fun r => (rngD L (R - L).toNat).map fun c => .tuple [r, c]) (by simp) ?_
    have len : (((rngD T (B - T).toNat).take i).flatMap fun r => (rngD L (R - L).toNat).map fun c => PyData.tuple [r, c]).length = i * (R - L).toNat := by
      rw [flat_len (k := (R - L).toNat) (by simp [rngD_len]), List.length_take, rngD_len, Nat.min_eq_left (by omega)]
    have hsz : i * (R - L).toNat + (R - L).toNat ≤ 1000 := by
      have : i * (R - L).toNat ≤ 10 * 10 := Nat.mul_le_mul (by omega) (by omega)
      omega
    rw [xV_ap, WX_bind]
    refine wd_map (fun c => .tuple [d, c]) (ds := rngD L (R - L).toNat) (by simp [r3, r4]) (by rw [rngD_len]; exact small_line (by omega)) (fun c hc => by simp) ?_
    simp
    refine ⟨fitsL_all ?_, ?_, ?_⟩
    · intro x hx
      obtain ⟨c, hc, rfl⟩ := List.mem_map.mp hx
      obtain ⟨j, _, rfl⟩ := mem_rngD.mp hc
      rw [hi.2]
      simp
    · rw [List.length_flatMap] at len
      simp only [List.length_map] at len
      rw [List.map_take] at len
      rw [len, rngD_len]
      exact small_line hsz
    · rw [List.take_succ, hd]
      simp
  · rintro s rfl
    simp [st, xMove, cellsD])
theorem mem_cellsD {T L B R : Int} (h1 : 0 ≤ T) (h2 : 0 ≤ L) {d : D} : d ∈ cellsD T L B R ↔ ∃ r c : Nat, T ≤ r ∧ (r : Int) < B ∧ L ≤ c ∧ (c : Int) < R ∧ d = .tuple [.int r, .int c] := by
  unfold cellsD
  simp only [List.mem_flatMap, List.mem_map]
  constructor
  · rintro ⟨a, ha, b, hb, rfl⟩
    obtain ⟨i, hi, rfl⟩ := mem_rngD.mp ha
    obtain ⟨j, hj, rfl⟩ := mem_rngD.mp hb
    refine ⟨(T + i).toNat, (L + j).toNat, by omega, by omega, by omega, by omega, ?_⟩
    rw [show (((T + i).toNat : Nat) : Int) = T + i by omega, show (((L + j).toNat : Nat) : Int) = L + j by omega]
  · rintro ⟨r, c, h1, h2, h3, h4, rfl⟩
    refine ⟨.int r, mem_rngD.mpr ⟨(r - T).toNat, by omega, by rw [show T + (((r - T).toNat : Nat) : Int) = r by omega]⟩, .int c, mem_rngD.mpr ⟨(c - L).toNat, by omega, by rw [show L + (((c - L).toNat : Nat) : Int) = c by omega]⟩, rfl⟩
def yesAt (t : List (List Int)) : D → Bool
  | .tuple [.int r, .int c] => cell t r.toNat c.toNat == 1
  | _ => false
theorem is_full_ok {t : List (List Int)} {w : Nat} (h : Tab t w) {T L B R : Int} (h1 : 0 ≤ T ∧ B ≤ t.length) (h2 : 0 ≤ L ∧ R ≤ w) (h3 : -100 ≤ B ∧ T ≤ 100) (h4 : -100 ≤ R ∧ L ≤ 100) : f_is_full [tabD t, .tuple [.int T, .int L, .int B, .int R]] = .ok (.bool (fullB t T L B R)) := fnV0_of (by
  have a1 := h.h2
  have a2 := h.w2
  show WP (d_is_full [.dat 0 (tabD t), .dat 0 (.tuple [.int T, .int L, .int B, .int R]), .bot, .bot]) _ _
  unfold d_is_full
  have len : (cellsD T L B R).length ≤ 100 := by
    unfold cellsD
    rw [flat_len (k := (R - L).toNat) (by simp [rngD_len]), rngD_len]
    have e1 : (B - T).toNat ≤ 10 := by omega
    have e2 : (R - L).toNat ≤ 10 := by omega
    exact Nat.le_trans (Nat.mul_le_mul e1 e2) (by decide)
  rw [wp_ret, xV_ap, vCall_ap, vArgs_c, WX_bind, WD_bind, WD_bind]
  refine wd_map (fun d => .bool (yesAt t d)) (ds := cellsD T L B R) (by simp [cells_ok (T := T) (L := L) (B := B) (R := R) (by omega) (by omega) h3 h4]) (small_line (by omega)) (fun d hd => ?_) ?_
  rotate_left
  · simp [dAll_map]
    refine fullB_eq ?_
    rw [List.all_eq_true]
    constructor
    · intro k r c h1' h2' h3' h4'
      have := k _ ((mem_cellsD h1.1 h2.1).mpr ⟨r, c, h1', h2', h3', h4', rfl⟩)
      simpa [yesAt] using this
    · intro k d hd
      obtain ⟨r, c, k1, k2, k3, k4, rfl⟩ := (mem_cellsD h1.1 h2.1).mp hd
      simpa [yesAt] using k r c k1 k2 k3 k4
  · obtain ⟨r, c, k1, k2, k3, k4, rfl⟩ := (mem_cellsD h1.1 h2.1).mp hd
    have hr := h.row_len (r := r) (by omega)
    simp [item_tab (t := t) (r := r) (by omega) (by omega), item_row (l := t[r]?.getD []) (c := c) (by omega) (by omega), yesAt, cell])
/-! ### the law's own look -/
theorem cut_row {l : List Int} {a c : Int} (h : 0 ≤ a ∧ a ≤ c ∧ c ≤ l.length) : dCut (some a) (some c) (rowD l) = .ok (.tuple (((l.drop a.toNat).take (c.toNat - a.toNat)).map .int)) := by
  have e1 : HT.sIx l.length 0 (some a) = a.toNat := by
    simp only [HT.sIx]
    split <;> omega
  have e2 : HT.sIx l.length l.length (some c) = c.toNat := by
    simp only [HT.sIx]
    split <;> omega
  unfold rowD dCut cutD
  dsimp only
  rw [List.length_map, e1, e2, ← List.map_drop, ← List.map_take]
theorem mem_cut {l : List Int} {a n : Nat} {x : Int} (h : x ∈ (l.drop a).take n) : ∃ c, a ≤ c ∧ c < a + n ∧ l[c]? = some x := by
  obtain ⟨k, hk⟩ := List.getElem?_of_mem h
  have hk2 : k < n := by
    have := (List.getElem?_eq_some_iff.mp hk).1
    rw [List.length_take] at this
    omega
  rw [List.getElem?_take_of_lt hk2, List.getElem?_drop] at hk
  exact ⟨a + k, by omega, by omega, hk⟩
theorem cut_mem {l : List Int} {a n c : Nat} {x : Int} (h1 : a ≤ c) (h2 : c < a + n) (h : l[c]? = some x) : x ∈ (l.drop a).take n := by
  refine List.mem_of_getElem? (i := c - a) ?_
  rw [List.getElem?_take_of_lt (by omega), List.getElem?_drop, show a + (c - a) = c by omega]
  exact h
def noNo (t : List (List Int)) (L R : Int) : D → Bool
  | .int r => !(((t[r.toNat]?.getD []).drop L.toNat).take (R.toNat - L.toNat)).any fun y => y == 0
  | _ => false
theorem law_full_ok {t : List (List Int)} {w : Nat} (h : Tab t w) {T L B R : Int} (h1 : 0 ≤ T ∧ T ≤ B ∧ B ≤ t.length) (h2 : 0 ≤ L ∧ L ≤ R ∧ R ≤ w) : f__law_is_full [tabD t, .int T, .int L, .int B, .int R] = .ok (.bool (fullB t T L B R)) := fnV0_of (by
  have a1 := h.h2
  have a2 := h.w2
  have r1 := rng_ok (i := T) ⟨by omega, by omega⟩
  have r2 := rng_ok (i := B) ⟨by omega, by omega⟩
  show WP (d__law_is_full [.dat 0 (tabD t), .dat 0 (.int T), .dat 0 (.int L), .dat 0 (.int B), .dat 0 (.int R), .bot]) _ _
  unfold d__law_is_full
  rw [wp_ret, xV_ap, vCall_ap, vArgs_c, WX_bind, WD_bind, WD_bind]
  refine wd_map (fun d => .bool (noNo t L R d)) (ds := rngD T (B - T).toNat) (by simp [r1, r2]) (by rw [rngD_len]; exact small_line (by omega)) (fun d hd => ?_) ?_
  · obtain ⟨i, hi, rfl⟩ := mem_rngD.mp hd
    have hr := h.row_len (r := (T + (i : Int)).toNat) (by omega)
    simp [vCut, vPart, item_tab (t := t) (r := T + i) (by omega) (by omega)]
    rw [cut_row (by omega)]
    simp only [bind_ok, dNotIn_ints, noNo]
  · simp [dAll_map]
    refine fullB_eq ?_
    rw [List.all_eq_true]
    constructor
    · intro k r c k1 k2 k3 k4
      have q := k (.int r) (mem_rngD.mpr ⟨(r - T).toNat, by omega, by rw [show T + (((r - T).toNat : Nat) : Int) = r by omega]⟩)
      have hr := h.row_len (r := r) (by omega)
      have hl : c < (t[r]?.getD []).length := by omega
      have e := List.getElem?_eq_getElem hl
      have m := cut_mem (a := L.toNat) (n := R.toNat - L.toNat) (by omega) (by omega) e
      unfold cell
      rw [e]
      rcases hr.2 _ (List.mem_of_getElem? e) with z | z
      · rw [z] at m
        simp only [noNo, Int.toNat_natCast, Bool.not_eq_true', List.any_eq_false] at q
        exact (q 0 m (by decide)).elim
      · simpa using z
    · intro k d hd
      obtain ⟨i, hi, rfl⟩ := mem_rngD.mp hd
      simp only [noNo, Bool.not_eq_true', List.any_eq_false]
      intro x hx
      obtain ⟨c, c1, c2, c3⟩ := mem_cut hx
      have q := k (T + i).toNat c (by omega) (by omega) (by omega) (by omega)
      unfold cell at q
      rw [c3] at q
      simp at q ⊢
      omega)
/-! ### worn tables -/
noncomputable def wornAt (t : List (List Int)) (a b : Int) (r : D) : D → D
  | .int c => match r with
    | .int r => .int (if fullB t r c (r + a) (c + b) = true then 1 else 0)
    | _ => .none
  | _ => .none
noncomputable def wornRow (t : List (List Int)) (w : Nat) (a b : Int) (r : D) : D := .tuple ((rngD 0 ((w : Int) - b + 1).toNat).map (wornAt t a b r))
noncomputable def wornL (t : List (List Int)) (w : Nat) (a b : Int) : List D := (rngD 0 ((t.length : Int) - a + 1).toNat).map (wornRow t w a b)
theorem fits_wornRow {t : List (List Int)} {w : Nat} {a b : Int} {r : D} (hr : ∃ i : Int, r = .int i) (n : Nat) : fits n (wornRow t w a b r) = true := by
  obtain ⟨i, rfl⟩ := hr
  unfold wornRow
  rw [fits_tup]
  refine fitsL_all fun d hd => ?_
  obtain ⟨c, hc, rfl⟩ := List.mem_map.mp hd
  obtain ⟨j, _, rfl⟩ := mem_rngD.mp hc
  simp [wornAt]
theorem fits_wornL {t : List (List Int)} {w : Nat} {a b : Int} (n : Nat) : fitsL n (wornL t w a b) = true := fitsL_all fun d hd => by
  unfold wornL at hd
  obtain ⟨c, hc, rfl⟩ := List.mem_map.mp hd
  obtain ⟨j, _, rfl⟩ := mem_rngD.mp hc
  exact fits_wornRow ⟨_, rfl⟩ n
/-- whether a size is one -/
def sizeOk (n : Int) : D → Bool
  | .int i => decide (1 ≤ i) && decide (i ≤ n)
  | _ => false
theorem look_ok {t : List (List Int)} {w : Nat} (h : Tab t w) (x y : D) : f_look_at_worn [tabD t, x, y] = if sizeOk t.length x = true ∧ sizeOk w y = true then .ok .none else .ex "NoSize" := by
  unfold f_look_at_worn fnV d_look_at_worn
  have i : init 5 [tabD t, x, y] = [.dat 0 (tabD t), .dat 0 x, .dat 0 y, .bot, .bot] := rfl
  rw [i]
  simp [oSeq_ap, oUnp_ap, size_ok h, oIf_ap, is_whole_ok]
  cases x <;> try simp [isI, sizeOk]
  rename_i a
  cases y <;> try simp [isI, sizeOk]
  rename_i b
  by_cases h1 : 1 ≤ a <;> by_cases h2 : a ≤ t.length <;> by_cases h3 : 1 ≤ b <;> by_cases h4 : b ≤ w <;> simp [vChain, h1, h2, h3, h4, oNil_ap]
theorem worn_no {t : List (List Int)} {w : Nat} (h : Tab t w) (x y : D) (hn : ¬ (sizeOk t.length x = true ∧ sizeOk w y = true)) : f_worn_table [tabD t, x, y] = .ex "NoSize" := by
  unfold f_worn_table fnV d_worn_table
  have i : init 8 [tabD t, x, y] = [.dat 0 (tabD t), .dat 0 x, .dat 0 y, .bot, .bot, .bot, .bot, .bot] := rfl
  rw [i]
  have e := look_ok h x y
  rw [if_neg hn] at e
  simp [oSeq_ap, oDrop_ap, e]
end PL

set_option maxRecDepth 100000
namespace PL
open PySem PySem.Spec PyProof.Rows L2
theorem worn_step {t : List (List Int)} {w : Nat} (h : Tab t w) {a b i j : Int} (ha : 1 ≤ a ∧ a ≤ t.length) (hb : 1 ≤ b ∧ b ≤ w) (hi : 0 ≤ i ∧ i + a ≤ t.length) (hj : 0 ≤ j ∧ j + b ≤ w) : (f_is_full [tabD t, .tuple [.int i, .int j, .int (i + a), .int (j + b)]]) = .ok (.bool (fullB t i j (i + a) (j + b))) := by
  have a1 := h.h2
  have a2 := h.w2
  exact is_full_ok h (by omega) (by omega) (by omega) (by omega)
theorem worn_elt {T x3 x4 x5 : D} {a b i j : Int} {k : Bool} (q : f_is_full [T, .tuple [.int i, .int j, .int (i + a), .int (j + b)]] = .ok (.bool k)) :
    vCall dInt [vCall f_is_full [vName 0, vTup [vName 6, vName 7, vOp dAdd (vName 6) (vName 1), vOp dAdd (vName 7) (vName 2)]]] [some T, some (.int a), some (.int b), some x3, some x4, some x5, some (.int i), some (.int j)] = .ok (.int (if k = true then 1 else 0)) := by
  rw [vCall_ap, vArgs_c, vCall_ap, vArgs_c, vArgs_c, vTup_ap]
  generalize hf : f_is_full = f at q ⊢
  simp [q]
theorem worn_ok {t : List (List Int)} {w : Nat} (h : Tab t w) {a b : Int} (ha : 1 ≤ a ∧ a ≤ t.length) (hb : 1 ≤ b ∧ b ≤ w) : f_worn_table [tabD t, .int a, .int b] = .ok (.tuple (wornL t w a b)) := fnV_of (by
  have a1 := h.h2
  have a2 := h.w2
  show WP (d_worn_table [.dat 0 (tabD t), .dat 0 (.int a), .dat 0 (.int b), .bot, .bot, .bot, .bot, .bot]) _ _
  have e := look_ok h (.int a) (.int b)
  rw [if_pos (by simp [sizeOk]; omega)] at e
  unfold d_worn_table
  simp [e, size_ok h]
  have r1 := rng_ok (i := (t.length : Int) - a + 1) ⟨by omega, by omega⟩
  have r2 := rng_ok (i := (w : Int) - b + 1) ⟨by omega, by omega⟩
  let st : List D → SS := fun ds => [.dat 0 (tabD t), .dat 0 (.int a), .dat 0 (.int b), .dat 0 (.int t.length), .dat 0 (.int w), .dat 1 (.list ds), .bot, .bot]
  refine wp_for (fun i s => ∃ ds, ds = ((rngD 0 ((t.length : Int) - a + 1).toNat).take i).map (wornRow t w a b) ∧ s = st ds) (ds := rngD 0 ((t.length : Int) - a + 1).toNat) (s0 := st []) (by simp [xRng1, r1, st]) ⟨[], rfl, rfl⟩ ?_ ?_
  · rintro i d s hd ⟨ds, hds, rfl⟩
    obtain ⟨hi, ed⟩ := rngD_get hd
    have hlen : ds.length ≤ 10 := by
      rw [hds, List.length_map, List.length_take, rngD_len]; omega
    have hnext : ds ++ [wornRow t w a b d] = ((rngD 0 ((t.length : Int) - a + 1).toNat).take (i + 1)).map (wornRow t w a b) := by
      rw [List.take_succ, hd, hds]
      simp
    rw [Int.zero_add] at ed
    clear hds
    subst ed
    have frow : fits 0 (wornRow t w a b (.int i)) = true := fits_wornRow ⟨_, rfl⟩ 0
    unfold wornRow at frow
    rw [fits_tup] at frow
    simp [b_worn_table_0, st]
    refine wp_app (m := 0) (ds := ds) (by simp) ?_
    rw [xV_ap, WX_bind, vCall_ap, vArgs_c, WD_bind, WD_bind]
    refine wd_map (wornAt t a b (.int i)) (ds := rngD 0 ((w : Int) - b + 1).toNat) (by simp [r2]) (by rw [rngD_len]; exact small_line (by omega)) (fun c hc => ?_) ?_
    · obtain ⟨j, hj, rfl⟩ := mem_rngD.mp hc
      rw [Int.zero_add]
      have q := worn_step h (i := (i : Int)) (j := (j : Int)) ha hb (by omega) (by omega)
      exact worn_elt q
    · simp [frow]
      refine ⟨by rw [sizeLine_eq]; omega, ?_⟩
      rw [← List.map_take]
      exact hnext
  · rintro s ⟨ds, hds, rfl⟩
    rw [rngD_len, List.take_of_length_le (by rw [rngD_len]; omega)] at hds
    have hd : ds = wornL t w a b := hds
    rw [hd]
    simp [st, fits_wornL])
/-! ### the law's own worn tables -/
theorem law_elt {T x3 : D} {a b i j : Int} {k : Bool} (q : f__law_is_full [T, .int i, .int j, .int (i + a), .int (j + b)] = .ok (.bool k)) :
    vCall dInt [vCall f__law_is_full [vName 0, vName 4, vName 5, vOp dAdd (vName 4) (vName 1), vOp dAdd (vName 5) (vName 2)]] [some T, some (.int a), some (.int b), some x3, some (.int i), some (.int j)] = .ok (.int (if k = true then 1 else 0)) := by
  rw [vCall_ap, vArgs_c, vCall_ap, vArgs_c, vArgs_c, vArgs_c]
  generalize hf : f__law_is_full = f at q ⊢
  simp [q]
theorem law_worn_ok {t : List (List Int)} {w : Nat} (h : Tab t w) {a b : Int} (ha : 1 ≤ a ∧ a ≤ t.length) (hb : 1 ≤ b ∧ b ≤ w) : f__law_worn [tabD t, .int a, .int b] = .ok (.tuple (wornL t w a b)) := fnV0_of (by
  have a1 := h.h2
  have a2 := h.w2
  show WP (d__law_worn [.dat 0 (tabD t), .dat 0 (.int a), .dat 0 (.int b), .bot, .bot, .bot]) _ _
  unfold d__law_worn
  simp
  have r1 := rng_ok (i := (t.length : Int) - a + 1) ⟨by omega, by omega⟩
  have r2 := rng_ok (i := (w : Int) - b + 1) ⟨by omega, by omega⟩
  have e0 := (h.row_len (r := 0) (by have := h.h1; omega)).1
  have i0 := item_tab (t := t) (r := 0) (by omega) (by have := h.h1; omega)
  simp only [Int.toNat_zero] at i0
  let st : List D → SS := fun ds => [.dat 0 (tabD t), .dat 0 (.int a), .dat 0 (.int b), .dat 1 (.list ds), .bot, .bot]
  refine wp_for (fun i s => ∃ ds, ds = ((rngD 0 ((t.length : Int) - a + 1).toNat).take i).map (wornRow t w a b) ∧ s = st ds) (ds := rngD 0 ((t.length : Int) - a + 1).toNat) (s0 := st []) (by simp [xRng1, r1, st, tabD_len]) ⟨[], rfl, rfl⟩ ?_ ?_
  · rintro i d s hd ⟨ds, hds, rfl⟩
    obtain ⟨hi, ed⟩ := rngD_get hd
    have hlen : ds.length ≤ 10 := by
      rw [hds, List.length_map, List.length_take, rngD_len]; omega
    have hnext : ds ++ [wornRow t w a b d] = ((rngD 0 ((t.length : Int) - a + 1).toNat).take (i + 1)).map (wornRow t w a b) := by
      rw [List.take_succ, hd, hds]
      simp
    rw [Int.zero_add] at ed
    clear hds
    subst ed
    have frow : fits 0 (wornRow t w a b (.int i)) = true := fits_wornRow ⟨_, rfl⟩ 0
    unfold wornRow at frow
    rw [fits_tup] at frow
    simp [b__law_worn_0, st]
    refine wp_app (m := 0) (ds := ds) (by simp) ?_
    rw [xV_ap, WX_bind, vCall_ap, vArgs_c, WD_bind, WD_bind]
    refine wd_map (wornAt t a b (.int i)) (ds := rngD 0 ((w : Int) - b + 1).toNat) (by simp [i0, rowD_len]; rw [e0, if_pos r2]) (by rw [rngD_len]; exact small_line (by omega)) (fun c hc => ?_) ?_
    · obtain ⟨j, hj, rfl⟩ := mem_rngD.mp hc
      rw [Int.zero_add]
      exact law_elt (law_full_ok h (by omega) (by omega))
    · simp [frow]
      refine ⟨by rw [sizeLine_eq]; omega, ?_⟩
      rw [← List.map_take]
      exact hnext
  · rintro s ⟨ds, hds, rfl⟩
    rw [rngD_len, List.take_of_length_le (by rw [rngD_len]; omega)] at hds
    have hd : ds = wornL t w a b := hds
    rw [hd]
    simp [st, fits_wornL])
/-! ### worn tables as tables -/
noncomputable def wornT (t : List (List Int)) (w : Nat) (a b : Int) : List (List Int) := (List.range ((t.length : Int) - a + 1).toNat).map fun (r : Nat) => (List.range ((w : Int) - b + 1).toNat).map fun (c : Nat) => if fullB t r c (r + a) (c + b) = true then 1 else 0
theorem wornL_eq {t : List (List Int)} {w : Nat} {a b : Int} : PyData.tuple (wornL t w a b) = tabD (wornT t w a b) := by
  unfold wornL tabD wornT rngD
  congr 1
  rw [List.map_map, List.map_map]
  refine List.map_congr_left fun r _ => ?_
  simp only [Function.comp_apply, wornRow, rowD, rngD]
  congr 1
  rw [List.map_map, List.map_map]
  refine List.map_congr_left fun c _ => ?_
  simp [wornAt]
structure Small (t : List (List Int)) : Prop where
  len : t.length ≤ 10
  row : ∀ l ∈ t, l.length ≤ 10
theorem small_worn {t : List (List Int)} {w : Nat} (h : Tab t w) {a b : Int} (ha : 1 ≤ a ∧ a ≤ t.length) (hb : 1 ≤ b ∧ b ≤ w) : Small (wornT t w a b) := by
  have a1 := h.h2
  have a2 := h.w2
  refine ⟨by unfold wornT; rw [List.length_map, List.length_range]; omega, fun l hl => ?_⟩
  unfold wornT at hl
  obtain ⟨r, _, rfl⟩ := List.mem_map.mp hl
  rw [List.length_map, List.length_range]
  omega
theorem Tab.small {t : List (List Int)} {w : Nat} (h : Tab t w) : Small t := ⟨h.h2, fun l hl => by rw [(h.row l hl).1]; exact h.w2⟩
theorem plain_row (l : List Int) : (rowD l).plain = true := by
  unfold rowD
  rw [plain_tuple]
  exact plainAll_of fun d hd => by
    obtain ⟨x, _, rfl⟩ := List.mem_map.mp hd
    exact plain_i
theorem plain_tab (t : List (List Int)) : (tabD t).plain = true := by
  unfold tabD
  rw [plain_tuple]
  exact plainAll_of fun d hd => by
    obtain ⟨x, _, rfl⟩ := List.mem_map.mp hd
    exact plain_row x
theorem depth_tab (t : List (List Int)) : (tabD t).depth ≤ 3 := by
  have hr : ∀ l : List Int, (rowD l).depth ≤ 2 := fun l => by
    have := depthAll_le (k := 1) (ds := l.map PyData.int) fun d hd => by
      obtain ⟨x, _, rfl⟩ := List.mem_map.mp hd
      exact depth_int
    unfold rowD
    simp only [PyData.depth]
    omega
  have := depthAll_le (k := 2) (ds := t.map rowD) fun d hd => by
    obtain ⟨x, _, rfl⟩ := List.mem_map.mp hd
    exact hr x
  unfold tabD
  simp only [PyData.depth]
  omega
theorem dNe_self (t : List (List Int)) : dNe (tabD t) (tabD t) = .ok (.bool false) := by
  have e : eqOk (tabD t) (tabD t) = true := by
    have := depth_tab t
    unfold eqOk
    rw [plain_tab]
    simp
    omega
  unfold dNe
  rw [if_pos e, SeqAt.eqv_refl_plain _ (plain_tab t)]
  rfl
theorem same_ok {t : List (List Int)} (h : Small t) : f__law_same [tabD t, tabD t] = .ok (.bool true) := fnV0_of (by
  show WP (d__law_same [.dat 0 (tabD t), .dat 0 (tabD t), .bot, .bot]) _ _
  have hl := h.len
  have ty : ∀ l : List Int, isiB "tuple" (rowD l) = true := fun l => by simp [isiB, tyName, rowD]
  have ty2 : isiB "tuple" (tabD t) = true := by simp [isiB, tyName, tabD]
  have c1 : vComp (vItT (vName 0)) (tgName 2) [2] vYes (vIsi "tuple" (vName 2)) [some (tabD t), some (tabD t), none, none] = .ok (.list ((t.map rowD).map fun d => .bool (isiB "tuple" d))) := vComp_map _ (ds := t.map rowD) (by simp [tabD]) (by rw [List.length_map]; exact small_line (by omega)) fun d hd => ⟨_, rfl, by simp⟩
  have c2 : dAll [.list ((t.map rowD).map fun d => PyData.bool (isiB "tuple" d))] = .ok (.bool true) := by
    rw [dAll_map]
    congr 2
    rw [List.all_eq_true]
    intro d hd
    obtain ⟨l, _, rfl⟩ := List.mem_map.mp hd
    exact ty l
  unfold d__law_same
  rw [wp_seq, wp_if]
  obtain ⟨L, e1, e2⟩ : ∃ L, vComp (vItT (vName 0)) (tgName 2) [2] vYes (vIsi "tuple" (vName 2)) [some (tabD t), some (tabD t), none, none] = .ok (.list L) ∧ dAll [.list L] = .ok (.bool true) := ⟨_, c1, c2⟩
  clear c1 c2
  simp [ty2, e1, e2, dNe_self]
  refine wp_for (fun i s => ∃ x, s = [.dat 0 (tabD t), .dat 0 (tabD t), x, .bot]) (ds := t.map rowD) (s0 := [.dat 0 (tabD t), .dat 0 (tabD t), .bot, .bot]) (by simp [xItT, fits_tab]; rfl) ⟨.bot, by simp⟩ ?_ ?_
  · rintro i d s hd ⟨x, rfl⟩
    obtain ⟨l, hl', rfl⟩ := List.mem_map.mp (List.mem_of_getElem? hd)
    have c3 : vComp (vItT (vName 2)) (tgName 3) [3] vYes (vAnd (vIsi "int" (vName 3)) (vNot (vIsi "bool" (vName 3)))) [some (tabD t), some (tabD t), some (rowD l), none] = .ok (.list ((l.map PyData.int).map fun d => .bool (isI d))) := vComp_map _ (ds := l.map PyData.int) (by simp [rowD]) (by rw [List.length_map]; exact small_line (by have := h.row l hl'; omega)) fun d hd => by
      obtain ⟨v, _, rfl⟩ := List.mem_map.mp hd
      exact ⟨_, rfl, by simp [isiB, tyName, isI]⟩
    have c4 : dAll [.list ((l.map PyData.int).map fun d => PyData.bool (isI d))] = .ok (.bool true) := by
      rw [dAll_map]
      congr 2
      rw [List.all_eq_true]
      intro d hd
      obtain ⟨v, _, rfl⟩ := List.mem_map.mp hd
      rfl
    obtain ⟨L2, e3, e4⟩ : ∃ L, vComp (vItT (vName 2)) (tgName 3) [3] vYes (vAnd (vIsi "int" (vName 3)) (vNot (vIsi "bool" (vName 3)))) [some (tabD t), some (tabD t), some (rowD l), none] = .ok (.list L) ∧ dAll [.list L] = .ok (.bool true) := ⟨_, c3, c4⟩
    clear c3 c4
    simp [b__law_same_0, e3, e4]
  · rintro s ⟨x, rfl⟩
    simp)
end PL

set_option maxRecDepth 100000
namespace PL
open PySem PySem.Spec PyProof.Rows L2
theorem full_one {t : List (List Int)} {r c : Nat} : fullB t r c (r + 1) (c + 1) = true ↔ cell t r c = 1 := by
  rw [fullB_iff]
  constructor
  · intro h
    exact h r c (by omega) (by omega) (by omega) (by omega)
  · intro h r' c' h1 h2 h3 h4
    have e1 : r' = r := by omega
    have e2 : c' = c := by omega
    subst e1 e2
    exact h
theorem worn_one {t : List (List Int)} {w : Nat} (h : Tab t w) : wornT t w 1 1 = t := by
  unfold wornT
  rw [show ((t.length : Int) - 1 + 1).toNat = t.length by omega, show ((w : Int) - 1 + 1).toNat = w by omega]
  refine List.ext_getElem (by simp) fun r h1 h2 => ?_
  have hr := h.row_len h2
  rw [List.getElem?_eq_getElem h2] at hr
  simp only [Option.getD_some] at hr
  rw [List.getElem_map]
  refine List.ext_getElem (by simp [hr.1]) fun c h3 h4 => ?_
  simp only [List.getElem_map, List.getElem_range]
  have e : cell t r c = t[r][c] := by
    unfold cell
    rw [List.getElem?_eq_getElem h2, Option.getD_some, List.getElem?_eq_getElem h4, Option.getD_some]
  rcases hr.2 _ (List.getElem_mem h4) with z | z
  · rw [if_neg (by rw [full_one, e, z]; decide), z]
  · rw [if_pos (by rw [full_one, e, z]), z]
/-! ### sizes that are none -/
theorem wx_ixF {j : Nat} {di : SS → Rs (D × SS)} {s : SS} {Q : D → SS → Prop} {n : Nat} {d : D} (hs : s[j]? = some (.dat n d)) (h : WX (di s) fun i s' => ∃ xs, s'[j]? = some (.dat 0 xs) ∧ WD (dItem xs i) fun r => Q r s') : WX (xIxF j di s) Q := by
  unfold xIxF
  rw [hs]
  dsimp only
  cases e : di s with
  | no => rw [e] at h; exact h.elim
  | ex c => rw [e] at h; exact h.elim
  | ok x =>
    obtain ⟨i, s'⟩ := x
    rw [e] at h
    obtain ⟨xs, h1, h2⟩ := h
    simp only [bind_ok, h1, WX_bind]
    exact h2
theorem lt_big {n : Int} (h : n ≤ 10 ^ 60) : n < 2 ^ 1000 := Int.lt_of_le_of_lt h (by decide +kernel)
theorem drawn_pick (ds : List D) (h0 : 0 < ds.length) (h1 : ds.length ≤ 1000) : Drawn f__law_pick [.list ds] fun d => d ∈ ds := drawn_of rfl rfl fun p hp => by
  show WP (d__law_pick [.dat 1 p, .dat 0 (.list ds)]) _ _
  unfold d__law_pick
  rw [wp_ret]
  refine wx_ixF (n := 0) (d := .list ds) rfl ?_
  refine wx_draw (ds := [.int ds.length]) (drawn_draw ds.length (by omega) (lt_big (by omega))) rfl rfl hp (by simp [vIO]) fun r p' hp' ⟨v, e, hv⟩ => ?_
  subst e
  have hl : v.toNat < ds.length := by omega
  refine ⟨.list ds, by simp, ?_⟩
  rw [dItem_l, atI_of hv.1 (List.getElem?_eq_getElem hl)]
  simp [PEnd, hp']
theorem pow58 : dPow (.int 10) (.int 58) = .ok (.int (10 ^ 58)) := by
  dsimp only [dPow]
  rw [if_pos (by decide)]
  rfl
theorem pow18 : dPow (.int 10) (.int 18) = .ok (.int (10 ^ 18)) := by
  dsimp only [dPow]
  rw [if_pos (by decide)]
  rfl
/-- no size for fewer -/
def NoSz (least : Int) (d : D) : Prop := ∀ n : Int, n < least → sizeOk n d = false
theorem drawn_none (least : Int) (h0 : 1 ≤ least) : Drawn f__law_no_number [.int least] (NoSz least) := drawn_of rfl rfl fun p hp => by
  show WP (d__law_no_number [.dat 1 p, .dat 0 (.int least), .bot, .bot]) _ _
  unfold d__law_no_number
  simp [pow58]
  refine wx_draw (ds := [.int (10 ^ 58)]) (drawn_draw (10 ^ 58) (by decide +kernel) (lt_big (by decide +kernel))) rfl rfl hp (by simp [vIO, pow58]) fun r p' hp' ⟨far, e, hf⟩ => ?_
  subst e
  simp
  refine wx_draw (ds := [.list [.int 0, .int (-1), .int least, .int (least + far), .int (-far), .bool true, .bool false, .none, .str "1", .tuple [.int 1], .list [.int 1], dDct, dDct, .tuple [], .str ""]]) (drawn_pick _ (by simp) (by simp)) rfl rfl hp' (by simp [vIO]) fun r p' hp' hr => ?_
  simp [PEnd, hp']
  intro n hn
  simp only [List.mem_cons, List.not_mem_nil, or_false] at hr
  rcases hr with rfl | rfl | rfl | rfl | rfl | rfl | rfl | rfl | rfl | rfl | rfl | rfl | rfl | rfl | rfl
  all_goals simp [sizeOk, dDct]
  all_goals omega
/-! ### the pool, the law -/
theorem pool_ok (c : Int) : f__law_pool [.int c] = .ok (.list [.int (max 0 (c - 10 ^ 18)), .int (c % 10 ^ 18), .int 0]) := fnV0_of (by
  simp [d__law_pool, init, pow18])
theorem refused_ok {t : List (List Int)} {w : Nat} (h : Tab t w) {x y : D} (hn : ¬ (sizeOk t.length x = true ∧ sizeOk w y = true)) : f__law_refused f_worn_table [tabD t, x, y] = .ok (.bool true) := by
  unfold f__law_refused refusedAs
  rw [worn_no h x y hn]
  rfl
end PL

set_option maxRecDepth 100000
namespace PL
open PySem PySem.Spec PyProof.Rows L2
theorem law_step (S : D) (c : Int) : WP (b_law_1 [.dat 0 S, .dat 0 (.int c), .bot, .bot, .bot, .bot, .bot, .bot, .bot, .bot, .bot, .bot]) (fun s2 => forget [1, 2, 3, 4, 5, 6, 7, 8, 9, 10, 11] s2 = [.dat 0 S, .bot, .bot, .bot, .bot, .bot, .bot, .bot, .bot, .bot, .bot, .bot]) (fun _ _ => False) := by
  have P1 := pool_ok c
  have D1 := drawn_table 10 (by decide)
  have W1 : ∀ t w, Tab t w → ∀ a b : Int, 1 ≤ a ∧ a ≤ t.length → 1 ≤ b ∧ b ≤ w → f_worn_table [tabD t, .int a, .int b] = .ok (tabD (wornT t w a b)) := fun t w h a b ha hb => by rw [worn_ok h ha hb, wornL_eq]
  have L1 : ∀ t w, Tab t w → ∀ a b : Int, 1 ≤ a ∧ a ≤ t.length → 1 ≤ b ∧ b ≤ w → f__law_worn [tabD t, .int a, .int b] = .ok (tabD (wornT t w a b)) := fun t w h a b ha hb => by rw [law_worn_ok h ha hb, wornL_eq]
  have S1 : ∀ t, Small t → f__law_same [tabD t, tabD t] = .ok (.bool true) := fun t h => same_ok h
  have N1 := drawn_none
  have R1 : ∀ t w, Tab t w → ∀ x y, ¬ (sizeOk t.length x = true ∧ sizeOk w y = true) → f__law_refused f_worn_table [tabD t, x, y] = .ok (.bool true) := fun t w h x y hn => refused_ok h hn
  have W2 : ∀ t w, Tab t w → f_worn_table [tabD t, .int 1, .int 1] = .ok (tabD t) := fun t w h => by
    have := h.h1
    have := h.w1
    rw [W1 t w h 1 1 (by omega) (by omega), worn_one h]
  unfold b_law_1 b_law_0
  generalize hR : f__law_refused f_worn_table = fR at R1 ⊢
  generalize hW : f_worn_table = fW at W1 W2 ⊢
  generalize hL : f__law_worn = fL at L1 ⊢
  generalize hS : f__law_same = fS at S1 ⊢
  generalize hP : f__law_pool = fP at P1 ⊢
  generalize hN : f__law_no_number = fN at N1 ⊢
  generalize hT : f__law_table = fT at D1 ⊢
  have N2 : ∀ m : Int, 1 ≤ m → Drawn fN [.int m] (NoSz m) := fun m hm => N1 m hm
  clear hR hW hL hS hP hN hT
  simp [P1]
  refine wx_draw (ds := [.int 10]) D1 rfl rfl ⟨_, _, _, rfl⟩ (by simp [vIO]) fun r p hp ⟨t, w, e, ht⟩ => ?_
  subst e
  have e0 := (ht.row_len (r := 0) (by have := ht.h1; omega)).1
  have i0 := item_tab (t := t) (r := 0) (by omega) (by have := ht.h1; omega)
  simp only [Int.toNat_zero] at i0
  have q1 := ht.h1
  have q2 := ht.h2
  have q3 := ht.w1
  have q4 := ht.w2
  simp [fits_tab, tabD_len, i0, rowD_len, e0]
  refine wx_draw (ds := [.int t.length]) (drawn_draw t.length (by omega) (lt_big (by omega))) rfl rfl hp (by simp [vIO]) fun r p hp ⟨va, e, ha⟩ => ?_
  subst e
  simp
  refine wx_draw (ds := [.int w]) (drawn_draw w (by omega) (lt_big (by omega))) rfl rfl hp (by simp [vIO]) fun r p hp ⟨vb, e, hb⟩ => ?_
  subst e
  have hs := small_worn ht (a := 1 + va) (b := 1 + vb) (by omega) (by omega)
  simp [W1 t w ht (1 + va) (1 + vb) (by omega) (by omega), L1 t w ht (1 + va) (1 + vb) (by omega) (by omega), S1 _ hs, S1 _ ht.small, W2 t w ht]
  refine wx_draw (ds := [.int (t.length + 1)]) (N2 _ (by omega)) rfl rfl hp (by simp [vIO]) fun odd p hp ho => ?_
  simp
  refine wx_draw (ds := [.int (w + 1)]) (N2 _ (by omega)) rfl rfl hp (by simp [vIO]) fun other p hp ho2 => ?_
  simp
  let st : SS := [.dat 0 S, .dat 0 (.int c), .dat 1 p, .dat 0 (tabD t), .dat 0 (.int t.length), .dat 0 (.int w), .dat 0 (.int (1 + va)), .dat 0 (.int (1 + vb)), .dat 0 odd, .dat 0 other, .bot, .bot]
  have no1 : ∀ y, ¬ (sizeOk t.length odd = true ∧ sizeOk w y = true) := fun y h => by
    have := ho t.length (by omega)
    rw [this] at h
    exact Bool.noConfusion h.1
  have no2 : ∀ x, ¬ (sizeOk t.length x = true ∧ sizeOk w other = true) := fun x h => by
    have := ho2 w (by omega)
    rw [this] at h
    exact Bool.noConfusion h.2
  refine wp_for (fun i s => s = st) (ds := [.tuple [odd, .int (1 + vb)], .tuple [.int (1 + va), other], .tuple [odd, other], .tuple [.int (t.length + 1), .int w], .tuple [.int t.length, .int (w + 1)]]) (s0 := st) (by simp [xItL, st]) (by simp [st]) ?_ ?_
  · rintro i d s hd rfl
    have hm := List.mem_of_getElem? hd
    have key : ∀ x y, ¬ (sizeOk t.length x = true ∧ sizeOk w y = true) → WD (xTup [10, 11] (.tuple [x, y]) st) fun s1 => WP (oIf (xNot (xCallV 0 fR [xV 0 (vName 3), xF (vName 10), xF (vName 11)])) (oRet (xV 0 (vC (.bool false)))) oNil s1) (fun s2 => forget [10, 11] s2 = st) (fun _ _ => False) := fun x y hn => by
      have e := R1 t w ht x y hn
      simp [st, fits_tab, e]
    simp only [List.mem_cons, List.not_mem_nil, or_false] at hm
    rcases hm with rfl | rfl | rfl | rfl | rfl
    · exact key _ _ (no1 _)
    · exact key _ _ (no2 _)
    · exact key _ _ (no1 _)
    · refine key _ _ fun h => ?_
      have := h.1
      simp [sizeOk] at this
      omega
    · refine key _ _ fun h => ?_
      have := h.2
      simp [sizeOk] at this
      omega
  · rintro s rfl
    simp [st]
def cutI (ns : List Int) : List Int := ns.take 24
theorem law_true (ns : List Int) (hn : ns.length ≤ 63) : f_law [.list (ns.map .int)] = .ok (.bool true) := fnV0_of (by
  show WP (d_law [.dat 0 (.list (ns.map .int)), .bot, .bot, .bot, .bot, .bot, .bot, .bot, .bot, .bot, .bot, .bot]) _ _
  generalize hS : PyData.list (ns.map .int) = S
  have hcut : ∃ ms : List Int, vOp dAdd (vCut (vName 0) none (some (vC (.int 24)))) (vLst [(vC (.int 0)), (vC (.int 1)), (vC (.int 2))]) [some S, none, none, none, none, none, none, none, none, none, none, none] = .ok (.list (ms.map .int)) := by
    subst hS
    refine ⟨(cutI ns) ++ [0, 1, 2], ?_⟩
    have e1 : HT.sIx ns.length ns.length (some 24) = min 24 ns.length := HT.sIx_nat _ _ 24
    have e2 : HT.sIx ns.length 0 none = 0 := rfl
    have e3 : List.take (min 24 ns.length) (List.map PyData.int ns) = List.take 24 (List.map PyData.int ns) := by
      by_cases h : ns.length ≤ 24
      · rw [Nat.min_eq_right h, List.take_of_length_le (by simp), List.take_of_length_le (by simpa using h)]
      · rw [Nat.min_eq_left (by omega)]
    simp [vCut, vPart, dCut, cutD, dAdd, cutI, e1, e2, e3]
    rw [sizeLine_eq]
    omega
  obtain ⟨ms, e⟩ := hcut
  unfold d_law
  rw [wp_seq]
  refine wp_for (fun i s => s = [.dat 0 S, .bot, .bot, .bot, .bot, .bot, .bot, .bot, .bot, .bot, .bot, .bot]) (ds := ms.map .int) (s0 := [.dat 0 S, .bot, .bot, .bot, .bot, .bot, .bot, .bot, .bot, .bot, .bot, .bot]) ?_ (by simp) ?_ ?_
  · unfold xItL
    rw [xF_ap]
    show (((vOp dAdd (vCut (vName 0) none (some (vC (.int 24)))) (vLst [(vC (.int 0)), (vC (.int 1)), (vC (.int 2))]) [some S, none, none, none, none, none, none, none, none, none, none, none]).bind _).bind _) = _
    rw [e]
    rfl
  · rintro i d s hd rfl
    obtain ⟨c, _, rfl⟩ := List.mem_map.mp (List.mem_of_getElem? hd)
    exact law_step S c
  · rintro s rfl
    simp)
end PL

set_option maxRecDepth 100000
set_option maxHeartbeats 0
namespace PL
open PySem PySem.Spec PyProof.Rows L2
def dd_is_whole : He.DefD := ⟨("is_whole", none), "is_whole", "is_whole", defArgs s_is_whole, defBody s_is_whole, defScope s_is_whole, [], []⟩
def dd_size_of : He.DefD := ⟨("size_of", none), "size_of", "size_of", defArgs s_size_of, defBody s_size_of, defScope s_size_of, [], []⟩
def dd_cells_of : He.DefD := ⟨("cells_of", none), "cells_of", "cells_of", defArgs s_cells_of, defBody s_cells_of, defScope s_cells_of, [], []⟩
def dd_is_full : He.DefD := ⟨("is_full", none), "is_full", "is_full", defArgs s_is_full, defBody s_is_full, defScope s_is_full, [], []⟩
def dd_look_at_worn : He.DefD := ⟨("look_at_worn", none), "look_at_worn", "look_at_worn", defArgs s_look_at_worn, defBody s_look_at_worn, defScope s_look_at_worn, [], []⟩
def dd_worn_table : He.DefD := ⟨("worn_table", none), "worn_table", "worn_table", defArgs s_worn_table, defBody s_worn_table, defScope s_worn_table, [], []⟩
def dd__law_pool : He.DefD := ⟨("_law_pool", none), "_law_pool", "_law_pool", defArgs s__law_pool, defBody s__law_pool, defScope s__law_pool, [], []⟩
def dd__law_draw : He.DefD := ⟨("_law_draw", none), "_law_draw", "_law_draw", defArgs s__law_draw, defBody s__law_draw, defScope s__law_draw, [], []⟩
def dd__law_pick : He.DefD := ⟨("_law_pick", none), "_law_pick", "_law_pick", defArgs s__law_pick, defBody s__law_pick, defScope s__law_pick, [], []⟩
def dd__law_cell : He.DefD := ⟨("_law_cell", none), "_law_cell", "_law_cell", defArgs s__law_cell, defBody s__law_cell, defScope s__law_cell, [], []⟩
def dd__law_table : He.DefD := ⟨("_law_table", none), "_law_table", "_law_table", defArgs s__law_table, defBody s__law_table, defScope s__law_table, [], []⟩
def dd__law_is_full : He.DefD := ⟨("_law_is_full", none), "_law_is_full", "_law_is_full", defArgs s__law_is_full, defBody s__law_is_full, defScope s__law_is_full, [], []⟩
def dd__law_worn : He.DefD := ⟨("_law_worn", none), "_law_worn", "_law_worn", defArgs s__law_worn, defBody s__law_worn, defScope s__law_worn, [], []⟩
def dd__law_same : He.DefD := ⟨("_law_same", none), "_law_same", "_law_same", defArgs s__law_same, defBody s__law_same, defScope s__law_same, [], []⟩
def dd__law_no_number : He.DefD := ⟨("_law_no_number", none), "_law_no_number", "_law_no_number", defArgs s__law_no_number, defBody s__law_no_number, defScope s__law_no_number, [], []⟩
def dd__law_refused : He.DefD := ⟨("_law_refused", none), "_law_refused", "_law_refused", defArgs s__law_refused, defBody s__law_refused, defScope s__law_refused, [], []⟩
def dd_law : He.DefD := ⟨("law", none), "law", "law", defArgs s_law, defBody s_law, defScope s_law, [], []⟩
def fns0 : List He.DefD := [dd_is_whole, dd_size_of, dd_cells_of, dd_is_full, dd_look_at_worn, dd_worn_table, dd__law_pool, dd__law_draw, dd__law_pick, dd__law_cell, dd__law_table, dd__law_is_full, dd__law_worn, dd__law_same, dd__law_no_number, dd__law_refused, dd_law]
def fns : List He.DefD := fns0
def fas0 : List He.Fa := [.glo "is_whole", .glo "size_of", .glo "cells_of", .glo "is_full", .glo "look_at_worn", .glo "worn_table", .glo "_law_pool", .glo "_law_draw", .glo "_law_pick", .glo "_law_cell", .glo "_law_table", .glo "_law_is_full", .glo "_law_worn", .glo "_law_same", .glo "_law_no_number", .glo "_law_refused", .glo "law", .glo "BadTable", .glo "NoCell", .glo "NoCount", .glo "NoMatch", .glo "NoSize", .glo "PaneError", .exc "BadTable", .exc "NoCell", .exc "NoCount", .exc "NoMatch", .exc "NoSize", .exc "PaneError", .free "ValueError"]
def fas1 : List He.Fa := [.free "all", .free "bool", .free "int", .free "isinstance", .free "len", .free "max", .free "range", .free "tuple"]
def fas : List He.Fa := fas0 ++ fas1
def loose0 : List Str := ["PaneError", "BadTable", "NoSize", "NoMatch", "NoCount", "NoCell", "is_whole", "size_of", "cells_of", "is_full", "look_at_worn", "worn_table", "_law_pool", "_law_draw", "_law_pick", "_law_cell", "_law_table", "_law_is_full", "_law_worn", "_law_same", "_law_no_number", "_law_refused"]
def loose : List Str := loose0
abbrev R0 : PySem.W.OpenRow := PySem.W.OpenLaw.row PySem.Challenge.rw_fullpanes_k28_tables_worn
abbrev hk0 : PySem.W.Hook := hookC 6 czB fas fns
def ob0 (s : PySem.W.SharedT) : AlC := obsCG 6 czB fas fns (HandSHeadRun.getT s)
theorem ob0_eq (s : PySem.W.SharedT) : ob0 s = hk0.obs s.abs := obsCG_eq (HandSHeadRun.getT_eq s)
theorem run0 (w : World) : HandSHeadRun.RunEq R0 (PySem.W.view R0.prog [26]) hk0 ob0 4000 loose w := by
  intro os
  kernel_rfl
theorem tx_of {K : PySem.W.Frag} {h : Heap} {mg : Str → Option Value} (X : K.In h) (G : h.Ns mainGlobals mg) (z : czB K = true) (c : He.SaysD fas fns K) : Tx K mg where
  d_is_whole := defAt_of X G (c.fact 0 (f := .glo "is_whole") (by rfl)) (c.def_ 0 (d := dd_is_whole) (by rfl)) fun _ _ _ _ _ _ us hl => match us, hl with | [_], _ => rfl
  d_size_of := defAt_of X G (c.fact 1 (f := .glo "size_of") (by rfl)) (c.def_ 1 (d := dd_size_of) (by rfl)) fun _ _ _ _ _ _ us hl => match us, hl with | [_], _ => rfl
  d_cells_of := defAt_of X G (c.fact 2 (f := .glo "cells_of") (by rfl)) (c.def_ 2 (d := dd_cells_of) (by rfl)) fun _ _ _ _ _ _ us hl => match us, hl with | [_], _ => rfl
  d_is_full := defAt_of X G (c.fact 3 (f := .glo "is_full") (by rfl)) (c.def_ 3 (d := dd_is_full) (by rfl)) fun _ _ _ _ _ _ us hl => match us, hl with | [_, _], _ => rfl
  d_look_at_worn := defAt_of X G (c.fact 4 (f := .glo "look_at_worn") (by rfl)) (c.def_ 4 (d := dd_look_at_worn) (by rfl)) fun _ _ _ _ _ _ us hl => match us, hl with | [_, _, _], _ => rfl
  d_worn_table := defAt_of X G (c.fact 5 (f := .glo "worn_table") (by rfl)) (c.def_ 5 (d := dd_worn_table) (by rfl)) fun _ _ _ _ _ _ us hl => match us, hl with | [_, _, _], _ => rfl
  d__law_pool := defAt_of X G (c.fact 6 (f := .glo "_law_pool") (by rfl)) (c.def_ 6 (d := dd__law_pool) (by rfl)) fun _ _ _ _ _ _ us hl => match us, hl with | [_], _ => rfl
  d__law_draw := defAt_of X G (c.fact 7 (f := .glo "_law_draw") (by rfl)) (c.def_ 7 (d := dd__law_draw) (by rfl)) fun _ _ _ _ _ _ us hl => match us, hl with | [_, _], _ => rfl
  d__law_pick := defAt_of X G (c.fact 8 (f := .glo "_law_pick") (by rfl)) (c.def_ 8 (d := dd__law_pick) (by rfl)) fun _ _ _ _ _ _ us hl => match us, hl with | [_, _], _ => rfl
  d__law_cell := defAt_of X G (c.fact 9 (f := .glo "_law_cell") (by rfl)) (c.def_ 9 (d := dd__law_cell) (by rfl)) fun _ _ _ _ _ _ us hl => match us, hl with | [_, _, _, _], _ => rfl
  d__law_table := defAt_of X G (c.fact 10 (f := .glo "_law_table") (by rfl)) (c.def_ 10 (d := dd__law_table) (by rfl)) fun _ _ _ _ _ _ us hl => match us, hl with | [_, _], _ => rfl
  d__law_is_full := defAt_of X G (c.fact 11 (f := .glo "_law_is_full") (by rfl)) (c.def_ 11 (d := dd__law_is_full) (by rfl)) fun _ _ _ _ _ _ us hl => match us, hl with | [_, _, _, _, _], _ => rfl
  d__law_worn := defAt_of X G (c.fact 12 (f := .glo "_law_worn") (by rfl)) (c.def_ 12 (d := dd__law_worn) (by rfl)) fun _ _ _ _ _ _ us hl => match us, hl with | [_, _, _], _ => rfl
  d__law_same := defAt_of X G (c.fact 13 (f := .glo "_law_same") (by rfl)) (c.def_ 13 (d := dd__law_same) (by rfl)) fun _ _ _ _ _ _ us hl => match us, hl with | [_, _], _ => rfl
  d__law_no_number := defAt_of X G (c.fact 14 (f := .glo "_law_no_number") (by rfl)) (c.def_ 14 (d := dd__law_no_number) (by rfl)) fun _ _ _ _ _ _ us hl => match us, hl with | [_, _], _ => rfl
  d__law_refused := defAt_of X G (c.fact 15 (f := .glo "_law_refused") (by rfl)) (c.def_ 15 (d := dd__law_refused) (by rfl)) fun _ _ _ _ _ _ us hl => match us, hl with | [_, _, _, _], _ => rfl
  d_law := defAt_of X G (c.fact 16 (f := .glo "law") (by rfl)) (c.def_ 16 (d := dd_law) (by rfl)) fun _ _ _ _ _ _ us hl => match us, hl with | [_], _ => rfl
  e_BadTable := errAt_of X G (c.fact 17 (f := .glo "BadTable") (by rfl)) (c.fact 23 (f := .exc "BadTable") (by rfl))
  e_NoCell := errAt_of X G (c.fact 18 (f := .glo "NoCell") (by rfl)) (c.fact 24 (f := .exc "NoCell") (by rfl))
  e_NoCount := errAt_of X G (c.fact 19 (f := .glo "NoCount") (by rfl)) (c.fact 25 (f := .exc "NoCount") (by rfl))
  e_NoMatch := errAt_of X G (c.fact 20 (f := .glo "NoMatch") (by rfl)) (c.fact 26 (f := .exc "NoMatch") (by rfl))
  e_NoSize := errAt_of X G (c.fact 21 (f := .glo "NoSize") (by rfl)) (c.fact 27 (f := .exc "NoSize") (by rfl))
  e_PaneError := errAt_of X G (c.fact 22 (f := .glo "PaneError") (by rfl)) (c.fact 28 (f := .exc "PaneError") (by rfl))
  n_ValueError := He.free_ok X G (c.fact 29 (f := .free "ValueError") (by rfl))
  n_all := He.free_ok X G (c.fact 30 (f := .free "all") (by rfl))
  n_bool := He.free_ok X G (c.fact 31 (f := .free "bool") (by rfl))
  n_int := He.free_ok X G (c.fact 32 (f := .free "int") (by rfl))
  n_isinstance := He.free_ok X G (c.fact 33 (f := .free "isinstance") (by rfl))
  n_len := He.free_ok X G (c.fact 34 (f := .free "len") (by rfl))
  n_max := He.free_ok X G (c.fact 35 (f := .free "max") (by rfl))
  n_range := He.free_ok X G (c.fact 36 (f := .free "range") (by rfl))
  n_tuple := He.free_ok X G (c.fact 37 (f := .free "tuple") (by rfl))
  z := czB_ok z
theorem facts0 {P : Program} {w : World} {K : PySem.W.Frag} {h : Heap} {mg : Str → Option Value} {f : Addr} (X : K.In h) (G : h.Ns mainGlobals mg) (hfa : mg ("law" : Str) = some (.ref f)) (z : czB K = true) (c : He.SaysD fas fns K) :
    ∃ fd : FuncData, (∀ (s : Shared) (v : Value), BindsTo s fd ⟨[v], []⟩ [("script", v)]) ∧ ∀ base : Heap, K.In base → base.Ns mainGlobals mg → FnOk P w K mg base CX0 12 f fd ["script"] (spLaw K) := by
  have T := tx_of X G z c
  have e := hfa.symm.trans T.d_law.g
  cases e
  obtain ⟨fd0, F0⟩ := c.def_ 16 (d := dd_law) (by rfl)
  have F1 : Fun K "law" "law" s_law (He.ga K "law") fd0 := fun_of (show FunD K "law" "law" (defArgs s_law) (defBody s_law) (defScope s_law) [] [] (He.ga K "law") fd0 from F0)
  obtain ⟨oc, od, kV, doc, pm, an, cdv, ct, osl, e1, e2, e3⟩ := F1.ex
  refine ⟨fd0, fun s v => ?_, fun base _ _ => ?_⟩
  · rw [e1]
    exact .of_eq rfl
  · obtain ⟨fd, Fk, _, ea⟩ := (ok_law (P := P) (w := w) (base := base) T).ex
    have e4 := (fdAt_of F1).symm.trans ea
    cases e4
    exact Fk.imp (law_of law_true)
end PL
open PySem PySem.W PySem.Calls PyProof.Rows
set_option maxRecDepth 100000 in
set_option maxHeartbeats 0 in
theorem PySem.Challenge.cw_fullpanes_k28_tables_worn_holds : PySem.Challenge.rw_fullpanes_k28_tables_worn.Holds := by
  w_on; o_law
  refine HandSHeadRun.head_any (r := OpenLaw.row PySem.Challenge.rw_fullpanes_k28_tables_worn) (q := view (OpenLaw.row PySem.Challenge.rw_fullpanes_k28_tables_worn).prog [26]) (H := PL.hk0) (ob := PL.ob0) (M := 4000) (loose := PL.loose) (d := HandSHeadRun.topDef (OpenLaw.row PySem.Challenge.rw_fullpanes_k28_tables_worn).prog 26) (kwd := []) PL.ob0_eq
    (by kernel_rfl) (fun s => by kernel_rfl) PL.run0 (by kernel_rfl) (by kernel_rfl) (by kernel_rfl) (by rfl) (by first | assumption | decide +kernel) (by decide +kernel) ⟨rfl, rfl, rfl, rfl, rfl, by decide +kernel⟩ ?hw ?hc
  case hw => w_witness2
  case hc =>
    refine L2.walk_ofE (l := PySem.Challenge.rw_fullpanes_k28_tables_worn) (n := 63) (k := 12) (x := "script") (CX := L2.CX0) rfl (by decide) (by kernel_rfl) ⟨rfl, by decide, by decide⟩ ?F (fun _ _ _ _ z => z)
    intro w mg fa h Y G hmg0
    obtain ⟨K, KX, z, c⟩ := Y
    have hmg : mg ("law" : PySem.Str) = some (.ref fa) := by
      have e : (HandSHeadRun.topDef (OpenLaw.row PySem.Challenge.rw_fullpanes_k28_tables_worn).prog 26).name = ("law" : PySem.Str) := by kernel_rfl
      rw [← e]
      exact hmg0
    obtain ⟨fd, hb, hF⟩ := PL.facts0 (P := (PySem.Challenge.rw_fullpanes_k28_tables_worn).prog) (w := w) KX G hmg z c
    exact ⟨K, fd, PL.spLaw K, KX, hb, fun H a ns hl _ hS => ⟨a, ns, rfl, hS, hl, fun _ _ e => e⟩, hF⟩

