import PyProof.Rows.All
import Wide.All
import OpenK.AllK
import Wide.FinOn
import HandS.ForMost
import HandS.Exc
import HandS.IsInst
import HandS.TupAny
import HandS.WideBits
import HandS.RaiseMore
import PySem.Challenge.RW_relinktree_k11_host_names_and_words
set_option Elab.async false
set_option linter.all false
set_option maxRecDepth 100000
set_option maxHeartbeats 4000000
/-! Rk: plain values over the layer. A tuple is a value; lists, dicts and instances stand in a plain heap. A judgement AE says that an expression does what a plain transformer of (slots, heap) says. -/
namespace Rk
open PySem PySem.Spec PyProof.Rows L2

/-- plain values -/
inductive Vl where
  | non | bl (b : Bool) | int (i : Int) | str (s : Str) | tup (xs : List Vl) | ref (a : Addr) | ty (n : String)
  deriving Inhabited

/-- what stands at a plain address -/
inductive Ob where
  | lst (xs : List Vl)
  | rol (xs : List Vl)
  | dct (kvs : List (Vl × Vl))
  | lok (kvs : List (Vl × Vl))
  | ins (C : Addr) (fs : List (Str × Vl))
abbrev Ah := Addr → Option Ob
def put (A : Ah) (a : Addr) (o : Ob) : Ah := fun b => if b = a then some o else A b
theorem put_same {A : Ah} {a : Addr} {o : Ob} : put A a o a = some o := if_pos rfl
theorem put_ne {A : Ah} {a b : Addr} {o : Ob} (h : b ≠ a) : put A a o b = A b := if_neg h

/-- an exception: its class, its fields -/
structure Xv where
  C : Addr
  fs : List (Str × Vl)

/-- a text that the machine can measure -/
def okS (s : Str) : Prop := s.length ≤ sizeLine ∧ PyData.strOk s = true
variable (K : PySem.W.Frag) in
mutual
def Re (H : Hp) : Vl → V → Prop
  | .non, v => v = .non
  | .bl b, v => v = .bl b
  | .int i, v => v = .int i
  | .str s, v => v = .str s ∧ okS s
  | .ref a, v => v = .ref a
  | .ty n, v => v = .ty n
  | .tup xs, v => ∃ a vs, v = .ref a ∧ SqT K H a vs ∧ Rl H xs vs
def Rl (H : Hp) : List Vl → List V → Prop
  | [], vs => vs = []
  | x :: xs, vs => ∃ v ws, vs = v :: ws ∧ Re H x v ∧ Rl H xs ws
end

/-- tuples and locked things stay -/
structure Keep (H H' : Hp) : Prop where
  tup : ∀ b xs, H b = some (.tup xs) → H' b = some (.tup xs)
  frz : ∀ b o u, H b = some (.frz o u) → H' b = some (.frz o u)
theorem Keep.refl {H : Hp} : Keep H H := ⟨fun _ _ h => h, fun _ _ _ h => h⟩
theorem Keep.trans {H H1 H2 : Hp} (a : Keep H H1) (b : Keep H1 H2) : Keep H H2 := ⟨fun c xs h => b.tup c xs (a.tup c xs h), fun c o u h => b.frz c o u (a.frz c o u h)⟩
theorem Keep.new {H : Hp} {p : Addr} {o : HO} (h : H p = none) : Keep H (upd H p o) :=
  ⟨fun b xs e => by rw [upd_ne (ne_of_none e h)]; exact e, fun b ob u e => by rw [upd_ne (ne_of_none e h)]; exact e⟩
theorem Keep.write {H : Hp} {p : Addr} {o : HO} (h : Mut (H p)) : Keep H (upd H p o) :=
  ⟨fun b xs e => by rw [upd_ne (fun z => by subst z; rw [e] at h; exact h)]; exact e, fun b ob u e => by rw [upd_ne (fun z => by subst z; rw [e] at h; exact h)]; exact e⟩
theorem sqT_keep {K : PySem.W.Frag} {H H' : Hp} {a : Addr} {xs : List V} (k : Keep H H') (h : SqT K H a xs) : SqT K H' a xs := by
  rcases h with (h | ⟨o, h⟩) | h
  · exact .inl (.inl (k.tup _ _ h))
  · exact .inl (.inr ⟨o, k.frz _ _ _ h⟩)
  · exact .inr h
variable {K : PySem.W.Frag}
mutual
theorem Re.keep {H H' : Hp} (k : Keep H H') : ∀ {x : Vl} {v : V}, Re K H x v → Re K H' x v
  | .non, _, h => by unfold Re at h ⊢; exact h
  | .bl _, _, h => by unfold Re at h ⊢; exact h
  | .int _, _, h => by unfold Re at h ⊢; exact h
  | .str _, _, h => by unfold Re at h ⊢; exact h
  | .ref _, _, h => by unfold Re at h ⊢; exact h
  | .ty _, _, h => by unfold Re at h ⊢; exact h
  | .tup _, _, h => by
    unfold Re at h ⊢
    obtain ⟨a, vs, e, s, r⟩ := h
    exact ⟨a, vs, e, sqT_keep k s, Rl.keep k r⟩
theorem Rl.keep {H H' : Hp} (k : Keep H H') : ∀ {xs : List Vl} {vs : List V}, Rl K H xs vs → Rl K H' xs vs
  | [], _, h => by unfold Rl at h ⊢; exact h
  | _ :: _, _, h => by
    unfold Rl at h ⊢
    obtain ⟨v, ws, e, r, t⟩ := h
    exact ⟨v, ws, e, Re.keep k r, Rl.keep k t⟩
end
theorem Rl.nil {H : Hp} : Rl K H [] [] := by unfold Rl; rfl
theorem Rl.cons {H : Hp} {x : Vl} {v : V} {xs : List Vl} {vs : List V} (a : Re K H x v) (b : Rl K H xs vs) : Rl K H (x :: xs) (v :: vs) := by unfold Rl; exact ⟨v, vs, rfl, a, b⟩
theorem Rl.nil_inv {H : Hp} {vs : List V} (h : Rl K H [] vs) : vs = [] := by unfold Rl at h; exact h
theorem Rl.cons_inv {H : Hp} {x : Vl} {xs : List Vl} {vs : List V} (h : Rl K H (x :: xs) vs) : ∃ v ws, vs = v :: ws ∧ Re K H x v ∧ Rl K H xs ws := by unfold Rl at h; exact h
theorem Rl.length {H : Hp} : ∀ {xs : List Vl} {vs : List V}, Rl K H xs vs → xs.length = vs.length
  | [], _, h => by rw [h.nil_inv]; rfl
  | _ :: _, _, h => by
    obtain ⟨v, ws, rfl, _, t⟩ := h.cons_inv
    simp [t.length]
theorem Rl.append {H : Hp} : ∀ {xs ys : List Vl} {vs ws : List V}, Rl K H xs vs → Rl K H ys ws → Rl K H (xs ++ ys) (vs ++ ws)
  | [], _, _, _, h, g => by rw [h.nil_inv]; exact g
  | _ :: _, _, _, _, h, g => by
    obtain ⟨v, us, rfl, r, t⟩ := h.cons_inv
    exact .cons r (t.append g)
theorem Rl.get {H : Hp} : ∀ {xs : List Vl} {vs : List V} {i : Nat} {x : Vl}, Rl K H xs vs → xs[i]? = some x → ∃ v, vs[i]? = some v ∧ Re K H x v
  | [], _, _, _, _, e => by simp at e
  | y :: _, _, 0, x, h, e => by
    obtain ⟨v, us, rfl, r, t⟩ := h.cons_inv
    simp at e; subst e
    exact ⟨v, rfl, r⟩
  | _ :: _, _, i + 1, x, h, e => by
    obtain ⟨v, us, rfl, r, t⟩ := h.cons_inv
    simpa using t.get (i := i) (by simpa using e)
theorem Rl.get' {H : Hp} : ∀ {xs : List Vl} {vs : List V} {i : Nat} {v : V}, Rl K H xs vs → vs[i]? = some v → ∃ x, xs[i]? = some x ∧ Re K H x v
  | [], _, _, _, h, e => by rw [h.nil_inv] at e; simp at e
  | y :: _, _, 0, x, h, e => by
    obtain ⟨v, us, rfl, r, t⟩ := h.cons_inv
    simp at e; subst e
    exact ⟨y, rfl, r⟩
  | _ :: _, _, i + 1, x, h, e => by
    obtain ⟨v, us, rfl, r, t⟩ := h.cons_inv
    simpa using t.get' (i := i) (by simpa using e)
theorem Rl.set {H : Hp} {x : Vl} {v : V} (r : Re K H x v) : ∀ {xs : List Vl} {vs : List V} (i : Nat), Rl K H xs vs → Rl K H (xs.set i x) (vs.set i v)
  | [], _, _, h => by rw [h.nil_inv]; exact .nil
  | _ :: _, _, 0, h => by obtain ⟨w, us, rfl, q, t⟩ := h.cons_inv; exact .cons r t
  | _ :: _, _, i + 1, h => by obtain ⟨w, us, rfl, q, t⟩ := h.cons_inv; exact .cons q (t.set r i)
theorem Rl.take {H : Hp} : ∀ {xs : List Vl} {vs : List V} (n : Nat), Rl K H xs vs → Rl K H (xs.take n) (vs.take n)
  | _, _, 0, _ => by simp; exact .nil
  | [], _, _ + 1, h => by rw [h.nil_inv]; simp; exact .nil
  | _ :: _, _, n + 1, h => by obtain ⟨w, us, rfl, q, t⟩ := h.cons_inv; exact .cons q (t.take n)
theorem Rl.drop {H : Hp} : ∀ {xs : List Vl} {vs : List V} (n : Nat), Rl K H xs vs → Rl K H (xs.drop n) (vs.drop n)
  | _, _, 0, h => by simpa using h
  | [], _, _ + 1, h => by rw [h.nil_inv]; simp; exact .nil
  | _ :: _, _, n + 1, h => by obtain ⟨w, us, rfl, q, t⟩ := h.cons_inv; simpa using t.drop n
theorem Rl.reverse {H : Hp} : ∀ {xs : List Vl} {vs : List V}, Rl K H xs vs → Rl K H xs.reverse vs.reverse
  | [], _, h => by rw [h.nil_inv]; exact .nil
  | _ :: _, _, h => by
    obtain ⟨w, us, rfl, q, t⟩ := h.cons_inv
    simpa using t.reverse.append (.cons q .nil)
theorem Rl.erase {H : Hp} : ∀ {xs : List Vl} {vs : List V} (i : Nat), Rl K H xs vs → Rl K H (xs.eraseIdx i) (vs.eraseIdx i)
  | [], _, _, h => by rw [h.nil_inv]; simp; exact .nil
  | _ :: _, _, 0, h => by obtain ⟨w, us, rfl, q, t⟩ := h.cons_inv; simpa using t
  | _ :: _, _, i + 1, h => by obtain ⟨w, us, rfl, q, t⟩ := h.cons_inv; simpa using Rl.cons q (t.erase i)
theorem Rl.dropLast {H : Hp} : ∀ {xs : List Vl} {vs : List V}, Rl K H xs vs → Rl K H xs.dropLast vs.dropLast
  | [], _, h => by rw [h.nil_inv]; exact .nil
  | [_], _, h => by obtain ⟨w, us, rfl, q, t⟩ := h.cons_inv; rw [t.nil_inv]; exact .nil
  | _ :: y :: _, _, h => by
    obtain ⟨w, us, rfl, q, t⟩ := h.cons_inv
    obtain ⟨w', us', rfl, q', t'⟩ := t.cons_inv
    simpa using Rl.cons q (Rl.cons q' t').dropLast

/-- named fields -/
def Fr (K : PySem.W.Frag) (H : Hp) : List (Str × Vl) → List (Str × V) → Prop
  | [], gs => gs = []
  | (n, x) :: fs, gs => ∃ v hs, gs = (n, v) :: hs ∧ Re K H x v ∧ Fr K H fs hs
theorem Fr.keep {H H' : Hp} (k : Keep H H') : ∀ {fs : List (Str × Vl)} {gs : List (Str × V)}, Fr K H fs gs → Fr K H' fs gs
  | [], _, h => h
  | (_, _) :: _, _, ⟨v, hs, e, r, t⟩ => ⟨v, hs, e, r.keep k, Fr.keep k t⟩
theorem Fr.lookup {H : Hp} : ∀ {fs : List (Str × Vl)} {gs : List (Str × V)} {n : Str} {x : Vl}, Fr K H fs gs → fs.lookup n = some x → ∃ v, gs.lookup n = some v ∧ Re K H x v
  | [], _, _, _, _, e => by simp at e
  | (m, y) :: fs, _, n, x, ⟨v, hs, rfl, r, t⟩, e => by
    rw [List.lookup_cons] at e ⊢
    by_cases h : n == m
    · rw [h] at e ⊢; cases e; exact ⟨v, rfl, r⟩
    · simp only [Bool.not_eq_true] at h
      rw [h] at e ⊢; exact Fr.lookup t e
theorem Fr.lookup_none {H : Hp} : ∀ {fs : List (Str × Vl)} {gs : List (Str × V)} {n : Str}, Fr K H fs gs → fs.lookup n = none → gs.lookup n = none
  | [], _, _, h, e => by rw [show _ = [] from h]; rfl
  | (m, y) :: fs, _, n, ⟨v, hs, rfl, r, t⟩, e => by
    rw [List.lookup_cons] at e ⊢
    by_cases h : n == m
    · rw [h] at e; cases e
    · simp only [Bool.not_eq_true] at h
      rw [h] at e ⊢; exact Fr.lookup_none t e
theorem Fr.length {H : Hp} : ∀ {fs : List (Str × Vl)} {gs : List (Str × V)}, Fr K H fs gs → fs.length = gs.length
  | [], _, h => by rw [show _ = [] from h]; rfl
  | (_, _) :: _, _, ⟨v, hs, rfl, r, t⟩ => by simp [Fr.length t]
def putF' (f : Str) (v : Vl) : List (Str × Vl) → List (Str × Vl)
  | [] => [(f, v)]
  | (g, u) :: r => if g = f then (f, v) :: r else (g, u) :: putF' f v r

/-- keys -/
def kVl : Key → Vl
  | .inl i => .int i
  | .inr s => .str s
def kTl (k : List Key) : Vl := .tup (k.map kVl)
def Kr (K : PySem.W.Frag) (H : Hp) {κ : Type} (kf : κ → Vl) : List (Vl × Vl) → List (κ × V) → Prop
  | [], gs => gs = []
  | (k, x) :: fs, gs => ∃ c v hs, gs = (c, v) :: hs ∧ k = kf c ∧ Re K H x v ∧ Kr K H kf fs hs
theorem Kr.keep {H H' : Hp} (k : Keep H H') {κ : Type} {kf : κ → Vl} : ∀ {fs : List (Vl × Vl)} {gs : List (κ × V)}, Kr K H kf fs gs → Kr K H' kf fs gs
  | [], _, h => h
  | (_, _) :: _, _, ⟨c, v, hs, e, q, r, t⟩ => ⟨c, v, hs, e, q, r.keep k, Kr.keep k t⟩
def DcR (K : PySem.W.Frag) (H : Hp) (kvs : List (Vl × Vl)) (o : HO) : Prop :=
  (∃ kk : List (Key × V), o = .dK kk ∧ Kr K H kVl kvs kk) ∨ ∃ kk : List (List Key × V), o = .dT kk ∧ Kr K H kTl kvs kk
theorem DcR.keep {H H' : Hp} (k : Keep H H') {kvs : List (Vl × Vl)} {o : HO} (h : DcR K H kvs o) : DcR K H' kvs o := by
  rcases h with ⟨kk, e, r⟩ | ⟨kk, e, r⟩
  · exact .inl ⟨kk, e, r.keep k⟩
  · exact .inr ⟨kk, e, r.keep k⟩

def ObR (K : PySem.W.Frag) (H : Hp) (a : Addr) : Ob → Prop
  | .lst xs => ∃ vs, H a = some (.lst vs) ∧ Rl K H xs vs
  | .rol xs => ∃ vs, Rd H a (.lst vs) ∧ Rl K H xs vs
  | .dct kvs => ∃ o, H a = some o ∧ DcR K H kvs o
  | .lok kvs => ∃ o u, H a = some (.frz o u) ∧ DcR K H kvs u
  | .ins C fs => ∃ dx gs, H a = some (.ins C dx gs) ∧ Fr K H fs gs
def SA (K : PySem.W.Frag) (A : Ah) (H : Hp) : Prop := ∀ a o, A a = some o → ObR K H a o
theorem ObR.there {H : Hp} {a : Addr} : ∀ {o : Ob}, ObR K H a o → ∃ u, H a = some u
  | .lst _, ⟨_, e, _⟩ => ⟨_, e⟩
  | .rol _, ⟨_, e, _⟩ => by rcases e with e | ⟨_, e⟩ <;> exact ⟨_, e⟩
  | .dct _, ⟨_, e, _⟩ => ⟨_, e⟩
  | .lok _, ⟨_, _, e, _⟩ => ⟨_, e⟩
  | .ins _ _, ⟨_, _, e, _⟩ => ⟨_, e⟩
/-- the same objects, tuples kept -/
theorem ObR.move {H H' : Hp} {a : Addr} (k : Keep H H') (e : H' a = H a) : ∀ {o : Ob}, ObR K H a o → ObR K H' a o
  | .lst _, ⟨vs, h, r⟩ => ⟨vs, e.trans h, r.keep k⟩
  | .rol _, ⟨vs, h, r⟩ => ⟨vs, by rcases h with h | ⟨o, h⟩; exact .inl (e.trans h); exact .inr ⟨o, e.trans h⟩, r.keep k⟩
  | .dct _, ⟨o, h, r⟩ => ⟨o, e.trans h, r.keep k⟩
  | .lok _, ⟨o, u, h, r⟩ => ⟨o, u, e.trans h, r.keep k⟩
  | .ins _ _, ⟨dx, gs, h, r⟩ => ⟨dx, gs, e.trans h, r.keep k⟩
theorem SA.fresh {A : Ah} {H : Hp} {p : Addr} (s : SA K A H) (h : H p = none) : A p = none := by
  cases e : A p with
  | none => rfl
  | some o =>
    obtain ⟨u, q⟩ := (s p o e).there
    rw [h] at q; cases q
theorem SA.new {A : Ah} {H : Hp} {p : Addr} {o : Ob} {u : HO} (s : SA K A H) (h : H p = none) (n : ObR K (upd H p u) p o) : SA K (put A p o) (upd H p u) := fun b ob e => by
  by_cases hb : b = p
  · subst hb; rw [put_same] at e; cases e; exact n
  · rw [put_ne hb] at e
    exact (s b ob e).move (.new h) (upd_ne hb)
/-- a new object that is not told of -/
theorem SA.newU {A : Ah} {H : Hp} {p : Addr} {u : HO} (s : SA K A H) (h : H p = none) : SA K A (upd H p u) := fun b ob e =>
  (s b ob e).move (.new h) (upd_ne fun z => by
    subst z
    obtain ⟨u, q⟩ := (s _ ob e).there
    rw [h] at q; cases q)
theorem SA.write {A : Ah} {H : Hp} {p : Addr} {o : Ob} {u : HO} (s : SA K A H) (h : Mut (H p)) (n : ObR K (upd H p u) p o) : SA K (put A p o) (upd H p u) := fun b ob e => by
  by_cases hb : b = p
  · subst hb; rw [put_same] at e; cases e; exact n
  · rw [put_ne hb] at e
    exact (s b ob e).move (.write h) (upd_ne hb)

/-- slots -/
abbrev Sl := List (Option Vl)
structure SS (K : PySem.W.Frag) (H : Hp) (S : Sl) (σ : L2.St) : Prop where
  len : S.length = σ.length
  get : ∀ (i : Nat) (x : Vl), S[i]? = some (some x) → ∃ v, σ[i]? = some (some v) ∧ Re K H x v
theorem SS.keep {H H' : Hp} {S : Sl} {σ : L2.St} (k : Keep H H') (s : SS K H S σ) : SS K H' S σ := ⟨s.len, fun i x e => by
  obtain ⟨v, h, r⟩ := s.get i x e
  exact ⟨v, h, r.keep k⟩⟩
theorem SS.set {H : Hp} {S : Sl} {σ : L2.St} {x : Vl} {v : V} (s : SS K H S σ) (i : Nat) (r : Re K H x v) : SS K H (S.set i (some x)) (σ.set i (some v)) := ⟨by simp [s.len], fun j y e => by
  by_cases hj : i = j
  · subst hj
    by_cases hi : i < S.length
    · rw [List.getElem?_set_self hi] at e
      cases e
      exact ⟨v, by rw [List.getElem?_set_self (s.len ▸ hi)], r⟩
    · rw [List.getElem?_eq_none (by simpa using hi)] at e; cases e
  · rw [List.getElem?_set_ne hj] at e ⊢
    exact s.get j y e⟩
theorem SS.setNone {H : Hp} {S : Sl} {σ : L2.St} (s : SS K H S σ) (i : Nat) : SS K H (S.set i none) (σ.set i none) := ⟨by simp [s.len], fun j y e => by
  by_cases hj : i = j
  · subst hj
    by_cases hi : i < S.length
    · rw [List.getElem?_set_self hi] at e; cases e
    · rw [List.getElem?_eq_none (by simpa using hi)] at e; cases e
  · rw [List.getElem?_set_ne hj] at e ⊢
    exact s.get j y e⟩

/-- an exception in the air -/
def Xr (K : PySem.W.Frag) (H : Hp) (x : Xv) (cls : Value) (d : Option Addr) : Prop :=
  cls = .ref x.C ∧ ((x.fs = [] ∧ d = none) ∨ ∃ dd gs, d = some dd ∧ H dd = some (.xd gs) ∧ Fr K H x.fs gs)

/-! ### transformers and judgements -/
abbrev QE := Vl → Ah → Prop
abbrev EX := Xv → Ah → Prop
abbrev WE := Sl → Ah → QE → EX → Prop
abbrev WT := Sl → Ah → (Bool → Ah → Prop) → EX → Prop
abbrev WA := Sl → Ah → (List Vl → Ah → Prop) → EX → Prop
abbrev WF := List Vl → Ah → QE → EX → Prop
structure Es where
  nx : Sl → Ah → Prop
  rt : QE
  bk : Sl → Ah → Prop := fun _ _ => False
  ct : Sl → Ah → Prop := fun _ _ => False
  ex : Xv → Sl → Ah → Prop := fun _ _ _ => False
abbrev WS := Es → Sl → Ah → Prop

/-- a wish of plain values, as one of the layer -/
def QL (K : PySem.W.Frag) (H : Hp) (Qa : QE) (Q : VK) : Prop := ∀ x A' v H', Re K H' x v → SA K A' H' → Keep H H' → Qa x A' → Q v H'
def QLB (K : PySem.W.Frag) (H : Hp) (Qa : Bool → Ah → Prop) (Q : Bool → Hp → Prop) : Prop := ∀ b A' H', SA K A' H' → Keep H H' → Qa b A' → Q b H'
def QLA (K : PySem.W.Frag) (H : Hp) (Qa : List Vl → Ah → Prop) (Q : List V → Hp → Prop) : Prop := ∀ xs A' vs H', Rl K H' xs vs → SA K A' H' → Keep H H' → Qa xs A' → Q vs H'
def QX (K : PySem.W.Frag) (H : Hp) (Ea : EX) (E : XK) : Prop := ∀ x A' cls d H', Xr K H' x cls d → SA K A' H' → Keep H H' → Ea x A' → E cls d H'
def QS (K : PySem.W.Frag) (H : Hp) (Na : Sl → Ah → Prop) (N : L2.St → Hp → Prop) : Prop := ∀ S A' σ H', SS K H' S σ → SA K A' H' → Keep H H' → Na S A' → N σ H'
def QXS (K : PySem.W.Frag) (H : Hp) (Ea : Xv → Sl → Ah → Prop) (E : WX) : Prop := ∀ x S A' cls d σ H', Xr K H' x cls d → SS K H' S σ → SA K A' H' → Keep H H' → Ea x S A' → E cls d σ H'

def LE (K : PySem.W.Frag) (W : WX) (w : WE) : TE := fun σ H Q => ∃ S A Qa Ea, SS K H S σ ∧ SA K A H ∧ QL K H Qa Q ∧ QX K H Ea (fun c d H' => W c d σ H') ∧ w S A Qa Ea
def LT (K : PySem.W.Frag) (W : WX) (w : WT) : TT := fun σ H Q => ∃ S A Qa Ea, SS K H S σ ∧ SA K A H ∧ QLB K H Qa Q ∧ QX K H Ea (fun c d H' => W c d σ H') ∧ w S A Qa Ea
def LA (K : PySem.W.Frag) (W : WX) (w : WA) : TA := fun σ H Q => ∃ S A Qa Ea, SS K H S σ ∧ SA K A H ∧ QLA K H Qa Q ∧ QX K H Ea (fun c d H' => W c d σ H') ∧ w S A Qa Ea
structure QD (K : PySem.W.Frag) (W : WX) (H : Hp) (Da : Es) (D : Ends) : Prop where
  nx : QS K H Da.nx D.nx
  rt : QL K H Da.rt D.rt
  bk : QS K H Da.bk D.bk
  ct : QS K H Da.ct D.ct
  ex : QXS K H Da.ex W
def LS (K : PySem.W.Frag) (W : WX) (w : WS) : TS := fun D σ H => ∃ S A Da, SS K H S σ ∧ SA K A H ∧ QD K W H Da D ∧ w Da S A
/-- a def's promise -/
def LF (K : PySem.W.Frag) (n : Nat) (w : WF) : Sp := fun vs H Q E => ∃ xs A Qa Ea, Rl K H xs vs ∧ xs.length = n ∧ SA K A H ∧ QL K H Qa Q ∧ QX K H Ea E ∧ w xs A Qa Ea

theorem QL.keep {H H1 : Hp} {Qa : QE} {Q : VK} (q : QL K H Qa Q) (k : Keep H H1) : QL K H1 Qa Q := fun x A' v H' r s kk h => q x A' v H' r s (k.trans kk) h
theorem QLB.keep {H H1 : Hp} {Qa : Bool → Ah → Prop} {Q : Bool → Hp → Prop} (q : QLB K H Qa Q) (k : Keep H H1) : QLB K H1 Qa Q := fun x A' H' s kk h => q x A' H' s (k.trans kk) h
theorem QLA.keep {H H1 : Hp} {Qa : List Vl → Ah → Prop} {Q : List V → Hp → Prop} (q : QLA K H Qa Q) (k : Keep H H1) : QLA K H1 Qa Q := fun x A' v H' r s kk h => q x A' v H' r s (k.trans kk) h
theorem QX.keep {H H1 : Hp} {Ea : EX} {E : XK} (q : QX K H Ea E) (k : Keep H H1) : QX K H1 Ea E := fun x A' c d H' r s kk h => q x A' c d H' r s (k.trans kk) h
theorem QS.keep {H H1 : Hp} {Na : Sl → Ah → Prop} {N : L2.St → Hp → Prop} (q : QS K H Na N) (k : Keep H H1) : QS K H1 Na N := fun S A' σ H' r s kk h => q S A' σ H' r s (k.trans kk) h
theorem QXS.keep {H H1 : Hp} {Ea : Xv → Sl → Ah → Prop} {E : WX} (q : QXS K H Ea E) (k : Keep H H1) : QXS K H1 Ea E := fun x S A' c d σ H' r s1 s kk h => q x S A' c d σ H' r s1 s (k.trans kk) h
theorem QD.keep {W : WX} {H H1 : Hp} {Da : Es} {D : Ends} (q : QD K W H Da D) (k : Keep H H1) : QD K W H1 Da D := ⟨q.nx.keep k, q.rt.keep k, q.bk.keep k, q.ct.keep k, q.ex.keep k⟩
/-- an expression's exception, at the slots -/
theorem QXS.at {H : Hp} {Ea : Xv → Sl → Ah → Prop} {W : WX} {S : Sl} {σ : L2.St} (q : QXS K H Ea W) (s : SS K H S σ) : QX K H (fun x A' => Ea x S A') (fun c d H' => W c d σ H') := fun x A' c d H' r sa k h => q x S A' c d σ H' r (s.keep k) sa k h

abbrev AE (X : Cx) (W : WX) (e : Expr) (w : WE) : Prop := PE X e (LE X.K W w)
abbrev AT (X : Cx) (W : WX) (e : Expr) (w : WT) : Prop := PT X e (LT X.K W w)
abbrev AW (X : Cx) (W : WX) (e : Expr) (w : WT) : Prop := PW X e (LT X.K W w)
abbrev AA (X : Cx) (W : WX) (es : List Expr) (w : WA) : Prop := PA X es (LA X.K W w)
abbrev AS (X : Cx) (W : WX) (st : Stmt) (w : WS) : Prop := PS X st (LS X.K W w)
abbrev ASs (X : Cx) (W : WX) (st : List Stmt) (w : WS) : Prop := PSs X st (LS X.K W w)

section
variable {X : Cx}
theorem pe_imp {e : Expr} {t t' : TE} (h : PE X e t) (i : ∀ σ H Q, t' σ H Q → t σ H Q) : PE X e t' := ⟨fun pins s σ H Q I w => h.run pins s σ H Q I (i _ _ _ w)⟩
theorem pt_imp {e : Expr} {t t' : TT} (h : PT X e t) (i : ∀ σ H Q, t' σ H Q → t σ H Q) : PT X e t' := ⟨fun pins s σ H Q I w => h.run pins s σ H Q I (i _ _ _ w)⟩
theorem pw_imp {e : Expr} {t t' : TT} (h : PW X e t) (i : ∀ σ H Q, t' σ H Q → t σ H Q) : PW X e t' := ⟨fun wh pins s σ H Q I w => h.run wh pins s σ H Q I (i _ _ _ w)⟩
theorem pa_imp {es : List Expr} {t t' : TA} (h : PA X es t) (i : ∀ σ H Q, t' σ H Q → t σ H Q) : PA X es t' := ⟨fun p pins s σ H Q I w => h.run p pins s σ H Q I (i _ _ _ w)⟩
theorem ps_imp {e : Stmt} {t t' : TS} (h : PS X e t) (i : ∀ D σ H, t' D σ H → t D σ H) : PS X e t' := ⟨fun pins s σ H D I w => h.run pins s σ H D I (i _ _ _ w)⟩
theorem pss_imp {e : List Stmt} {t t' : TS} (h : PSs X e t) (i : ∀ D σ H, t' D σ H → t D σ H) : PSs X e t' := ⟨fun pins s σ H D I w => h.run pins s σ H D I (i _ _ _ w)⟩
end
end Rk

set_option Elab.async false
set_option linter.all false
set_option maxRecDepth 100000
set_option maxHeartbeats 4000000
namespace Rk
open PySem PySem.Spec PyProof.Rows L2
/-! ### syntax, by the head of an expression alone -/
section
variable {env : Env} {e o a b t v : Expr} {es : List Expr} {pos : Pos} {kws : List Keyword}
def noSt : Expr → Bool
  | .Starred .. => false
  | _ => true
def noSts : List Expr → Bool
  | [] => true
  | e :: es => noSt e && noSts es
theorem starOf (h : noSt e = true) : starEach (e :: es) env = (false, eval e env) :: starEach es env := by
  cases e <;> first | rfl | cases h
theorem starsOf (h : noSts es = true) : (backTo pos (starEach es env)).any (·.1) = false := by
  induction es with
  | nil => rfl
  | cons e es ih =>
    unfold noSts at h
    rw [Bool.and_eq_true] at h
    rw [starOf h.1]
    show (false || (backTo pos (starEach es env)).any (·.1)) = false
    rw [ih h.2]; rfl
theorem star1 (h : noSt a = true) : starEach [a] env = [(false, eval a env)] := starOf h
theorem star2 (h : noSts [a, b] = true) : starEach [a, b] env = [(false, eval a env), (false, eval b env)] := by
  unfold noSts noSts noSts at h
  simp only [Bool.and_true, Bool.and_eq_true] at h
  rw [starOf h.1, starOf h.2]; rfl
theorem fewOf (h : (noSts es && decide (es.length < 29)) = true) : ((backTo pos (starEach es env)).all (fun x => !x.1) && (backToKw pos (keywordEach [] env)).all (fun x => x.1.isSome)
      && decide (es.length + ([] : List Keyword).length + (if ([] : List Keyword).isEmpty then 0 else 1) < 30)) = true := by
  rw [Bool.and_eq_true] at h
  have h2 := of_decide_eq_true h.2
  have h3 : (backTo pos (starEach es env)).all (fun x => !x.1) = true := by
    have := starsOf (env := env) (pos := pos) h.1
    rw [List.all_eq_not_any_not]
    simpa using this
  rw [h3]
  simp only [keywordEach, backToKw, List.map_nil, List.all_nil, Bool.and_true, List.length_nil, List.isEmpty_nil, if_true, Bool.true_and]
  exact decide_eq_true (by omega)
def plainT : Expr → Bool
  | .UnaryOp .Not _ _ => false
  | .BoolOp .. => false
  | .IfExp .. => false
  | .Compare .. => false
  | _ => true
theorem trueOf (h : plainT e = true) : ∀ whole, isTrue e env whole = (do let v ← whole; standAt e.pos; holding [v] (truthy v)) := by
  intro w
  cases e with
  | UnaryOp op x p => cases op <;> first | rfl | cases h
  | _ => first | rfl | cases h
def noCmp : Expr → Bool
  | .ListComp .. => false
  | .SetComp .. => false
  | .DictComp .. => false
  | _ => true
theorem swapOf {t : Option Expr} {l : Nat} (h : noCmp e = true) : swapsWith e t l env = pure false := by
  cases e <;> first | rfl | cases h
theorem swap1 {l : Nat} (h : noCmp e = true) : swapsWithSole [t] e l env = pure false := swapOf h
def noTups : Expr → Expr → Bool
  | .Tuple .., .Tuple .. => false
  | .List .., .Tuple .. => false
  | _, _ => true
theorem storesOf (h : noTups t v = true) : swappedStores [t] v env = pure none := by
  cases t <;> first
    | rfl
    | (cases v <;> first | rfl | cases h)
theorem asg1 (h : noSt t = true) : (assignEach [t] env).map (·.2) = [assign t env] := by
  cases t <;> first | rfl | cases h
theorem asgN (h : noSt t = true) : (assignEach (t :: es) env).map (·.2) = assign t env :: (assignEach es env).map (·.2) := by
  cases t <;> first | rfl | cases h
theorem asgLen : (assignEach es env).length = es.length := by
  induction es with
  | nil => rfl
  | cons t es ih => cases t <;> exact congrArg (· + 1) ih
theorem asgLenOf {n : Nat} (h : es.length = n) : (assignEach es env).length = n := asgLen.trans h
theorem asgIdx (h : noSts es = true) : (assignEach es env).findIdx? (·.1) = none := by
  have : ∀ x ∈ assignEach es env, x.1 = false := by
    induction es with
    | nil => intro x hx; cases hx
    | cons t es ih =>
      unfold noSts at h
      rw [Bool.and_eq_true] at h
      intro x hx
      have : assignEach (t :: es) env = (false, assign t env) :: assignEach es env := by cases t <;> first | rfl | cases h.1
      rw [this] at hx
      rcases List.mem_cons.mp hx with rfl | hx
      · rfl
      · exact ih h.2 x hx
  rw [List.findIdx?_eq_none_iff]
  intro x hx
  rw [this x hx]
def baseB : Expr → Bool
  | .Call (.Name id _) [] [] _ => id != "super"
  | _ => true
theorem baseOf {n : Str} (h : baseB o = true) : attributeBase o n env (eval o env) = eval o env := by
  unfold attributeBase
  split
  · rename_i id _ _
    have h : (id != "super") = true := h
    rw [h]; rfl
  · rfl
def noSet : Expr → Bool
  | .Set .. => false
  | _ => true
theorem foldOf (h : noSet e = true) : ∀ x, foldedSetIterable e env x = pure x := by
  intro x
  cases e <;> first | rfl | cases h
def noSlc : Expr → Bool
  | .Slice .. => false
  | _ => true
theorem ixOf (h : noSlc e = true) : PlainIx e := by
  intro o i
  cases e <;> first | rfl | cases h
theorem kwsOf : (backToKw pos (keywordEach kws env)).map (·.1) = kws.map fun k => k.1 := by
  induction kws with
  | nil => rfl
  | cons k ks ih => obtain ⟨n, v, p⟩ := k; exact congrArg (n :: ·) ih
theorem kwNames {ks : List Str} (h : kws.filterMap (fun k => k.1) = ks) : (backToKw pos (keywordEach kws env)).filterMap (·.1) = ks := by
  rw [← h]
  have := congrArg (List.filterMap id) (kwsOf (pos := pos) (env := env) (kws := kws))
  simpa [List.filterMap_map] using this
theorem kwAll (h : kws.all (fun k => k.1.isSome) = true) : (backToKw pos (keywordEach kws env)).all (·.1.isSome) = true := by
  have := congrArg (List.all · Option.isSome) (kwsOf (pos := pos) (env := env) (kws := kws))
  simp only [List.all_map] at this
  exact this.trans h
theorem kwPl (h : noSts es = true) (g : kws.all (fun k => k.1.isSome) = true) : ((backTo pos (starEach es env)).any (·.1) || (backToKw pos (keywordEach kws env)).any (·.1.isNone)) = false := by
  rw [starsOf h, Bool.false_or]
  have := kwAll (env := env) (pos := pos) g
  rw [List.any_eq_false]
  intro x hx
  have q := List.all_eq_true.mp this x hx
  cases hn : x.1 with
  | none => rw [hn] at q; cases q
  | some _ => simp
theorem asgSub {i : Expr} (h : noSlc i = true) : ∀ v, assign (.Subscript o i pos) env v = (do
      let ov ← holding [v] (eval o env)
      let iv ← holding [v, ov] (eval i env)
      standAt pos
      holding [v, ov, iv] (setItem ov iv v)
      release [v, ov, iv] []) := by
  intro v
  cases i <;> first | rfl | cases h
end
section
variable {X : Cx} {W : WX} {a b c e o : Expr} {es : List Expr} {pos : Pos}

/-! ### names, constants -/
def wVar (i : Nat) : WE := fun S A Q _ => match S[i]? with
  | some (some x) => Q x A
  | _ => False
theorem ae_var {i : Nat} {x : Str} (hN : X.N[i]? = some x) (hv : Vis X.env.scope x) (hd : (x == ("__debug__" : Str)) = false := by decide) (hcd : (x == ("__classdict__" : Str)) = false := by decide) : AE X W (.Name x pos) (wVar i) :=
  pe_imp (pe_var hN hv hd hcd) fun σ H Q ⟨S, A, Qa, Ea, ss, sa, q, _, w⟩ => by
    unfold wVar at w
    split at w
    · rename_i y he
      obtain ⟨v, hv, r⟩ := ss.get _ _ he
      exact ⟨v, hv, q _ _ _ _ r sa .refl w⟩
    · exact w.elim
def wC (x : Vl) : WE := fun _ A Q _ => Q x A
theorem ae_c {x : Vl} {v : V} (h : PE X e (tC v)) (r : ∀ H, Re X.K H x v) : AE X W e (wC x) :=
  pe_imp h fun σ H Q ⟨S, A, Qa, Ea, ss, sa, q, _, w⟩ => q _ _ _ _ (r H) sa .refl w
theorem re_int {K : PySem.W.Frag} {i : Int} (H : Hp) : Re K H (.int i) (.int i) := by unfold Re; rfl
theorem re_bl {K : PySem.W.Frag} {i : Bool} (H : Hp) : Re K H (.bl i) (.bl i) := by unfold Re; rfl
theorem re_non {K : PySem.W.Frag} (H : Hp) : Re K H .non .non := by unfold Re; rfl
theorem re_ref {K : PySem.W.Frag} {a : Addr} (H : Hp) : Re K H (.ref a) (.ref a) := by unfold Re; rfl
theorem re_ty {K : PySem.W.Frag} {n : String} (H : Hp) : Re K H (.ty n) (.ty n) := by unfold Re; rfl
theorem re_str {K : PySem.W.Frag} {s : Str} (h : okS s) (H : Hp) : Re K H (.str s) (.str s) := by unfold Re; exact ⟨rfl, h⟩
theorem re_tup {K : PySem.W.Frag} {H : Hp} {p : Addr} {xs : List Vl} {vs : List V} (h : SqT K H p vs) (r : Rl K H xs vs) : Re K H (.tup xs) (.ref p) := by unfold Re; exact ⟨p, vs, rfl, h, r⟩
theorem re_new {K : PySem.W.Frag} {H : Hp} {p : Addr} {xs : List Vl} {vs : List V} (h : H p = none) (r : Rl K H xs vs) : Re K (upd H p (.tup vs)) (.tup xs) (.ref p) := re_tup (.of upd_same) (r.keep (.new h))
/-- a text's size within the line, by computation -/
def okB (s : Str) : Bool := decide (s.length ≤ 16777216) && PyData.strOk s
theorem okS_of {s : Str} (h : okB s = true) : okS s := by
  unfold okB at h
  rw [Bool.and_eq_true] at h
  exact ⟨by rw [sizeLine_eq]; exact of_decide_eq_true h.1, h.2⟩
theorem ae_int {i : Int} {k : Nat} : AE X W (.Constant (.int i) k pos) (wC (.int i)) := ae_c pe_int re_int
theorem ae_bl {i : Bool} {k : Nat} : AE X W (.Constant (.bool i) k pos) (wC (.bl i)) := ae_c pe_bl re_bl
theorem ae_non {k : Nat} : AE X W (.Constant .none k pos) (wC .non) := ae_c pe_non re_non
theorem ae_str {s : Str} {k : Nat} (h : okB s = true := by decide +kernel) : AE X W (.Constant (.str s) k pos) (wC (.str s)) := ae_c pe_str (re_str (okS_of h))
/-- a module's name -/
theorem ae_glob {x : Str} {y : Vl} {v : V} {u : Value} (hg : Gl X x) (hm : X.mg x = some u) (r : RelV v u) (r2 : ∀ H, Re X.K H y v) (hd : (x == ("__debug__" : Str)) = false := by decide) : AE X W (.Name x pos) (wC y) := ae_c (pe_glob hg hm r hd) r2
/-- a built-in's name as a value -/
theorem ae_bltn {x : Str} {y : Vl} {v : V} {u : Value} (hg : Gl X x) (hm : X.mg x = none) (hv : bootBuiltins x = some u) (r : RelV v u) (r2 : ∀ H, Re X.K H y v) (hn : x ≠ "__name__" := by decide) (hd : (x == ("__debug__" : Str)) = false := by decide) : AE X W (.Name x pos) (wC y) := ae_c (pe_bltn hg hm hv r hn hd) r2

/-! ### operators by values -/
abbrev F2 := Vl → Vl → Ah → QE → Prop
def Sim2 (K : PySem.W.Frag) (r : R2) (f : F2) : Prop := ∀ {x y : Vl} {v u : V} {A : Ah} {H : Hp} {Q : VK} {Qa : QE}, Re K H x v → Re K H y u → SA K A H → QL K H Qa Q → f x y A Qa → r v u H Q
def wBin (f : F2) (wa wb : WE) : WE := fun S A Q E => wa S A (fun x A1 => wb S A1 (fun y A2 => f x y A2 Q) E) E
theorem le_two {K : PySem.W.Frag} {r : R2} {f : F2} {wa wb : WE} (hs : Sim2 K r f) {σ : L2.St} {H : Hp} {Q : VK} (h : LE K W (wBin f wa wb) σ H Q) : tOp r (LE K W wa) (LE K W wb) σ H Q := by
  obtain ⟨S, A, Qa, Ea, ss, sa, q, qx, w⟩ := h
  refine ⟨S, A, _, Ea, ss, sa, ?_, qx, w⟩
  intro x A1 v H1 r1 sa1 k1 w1
  refine ⟨S, A1, _, Ea, ss.keep k1, sa1, ?_, qx.keep k1, w1⟩
  intro y A2 u H2 r2 sa2 k2 w2
  exact hs (r1.keep k2) r2 sa2 (q.keep (k1.trans k2)) w2
theorem ae_bin {op : Operator} {r : R2} {f : F2} {wa wb : WE} (ho : OpR X (binaryOp op) r) (hs : Sim2 X.K r f) (ha : AE X W a wa) (hb : AE X W b wb) : AE X W (.BinOp a op b pos) (wBin f wa wb) :=
  pe_imp (pe_op ho ha hb) fun _ _ _ h => le_two hs h
theorem ae_cmp {op : CmpOp} {r : R2} {f : F2} {wa wb : WE} (ho : OpR X (compareOp op) r) (hs : Sim2 X.K r f) (ha : AE X W a wa) (hb : AE X W b wb) (hm : behindInMarks op b = false := by first | rfl | exact nomark _) : AE X W (.Compare a [op] [b] pos) (wBin f wa wb) :=
  pe_imp (pe_cmpR ho ha hb hm) fun _ _ _ h => le_two hs h
def wUn (f : Vl → Ah → QE → Prop) (wa : WE) : WE := fun S A Q E => wa S A (fun x A1 => f x A1 Q) E
def Sim1 (K : PySem.W.Frag) (r : V → Hp → VK → Prop) (f : Vl → Ah → QE → Prop) : Prop := ∀ {x : Vl} {v : V} {A : Ah} {H : Hp} {Q : VK} {Qa : QE}, Re K H x v → SA K A H → QL K H Qa Q → f x A Qa → r v H Q
theorem ae_un {op : UnaryOp} {r : V → Hp → VK → Prop} {f : Vl → Ah → QE → Prop} {wa : WE} (ho : UnR X (unaryOp op) r) (hs : Sim1 X.K r f) (ha : AE X W a wa) : AE X W (.UnaryOp op a pos) (wUn f wa) :=
  pe_imp (pe_un ho ha) fun σ H Q ⟨S, A, Qa, Ea, ss, sa, q, qx, w⟩ => ⟨S, A, _, Ea, ss, sa, fun x A1 v H1 r1 sa1 k1 w1 => hs r1 sa1 (q.keep k1) w1, qx, w⟩
/-- a bool as a test -/
def wB (w : WE) : WT := fun S A Q E => w S A (fun x A1 => match x with
  | .bl k => Q k A1
  | _ => False) E
theorem lb_of {K : PySem.W.Frag} {w : WE} {σ : L2.St} {H : Hp} {Q : Bool → Hp → Prop} (h : LT K W (wB w) σ H Q) : LE K W w σ H fun x H1 => ∃ k, x = .bl k ∧ Q k H1 := by
  obtain ⟨S, A, Qa, Ea, ss, sa, q, qx, w⟩ := h
  refine ⟨S, A, _, Ea, ss, sa, ?_, qx, w⟩
  intro x A1 v H1 r1 sa1 k1 w1
  cases x with
  | bl k => unfold Re at r1; exact ⟨k, r1, q _ _ _ sa1 k1 w1⟩
  | _ => exact w1.elim
theorem at_cmp {op : CmpOp} {r : R2} {f : F2} {wa wb : WE} (ho : OpR X (compareOp op) r) (hs : Sim2 X.K r f) (ha : AE X W a wa) (hb : AE X W b wb) (hm : behindInMarks op b = false := by first | rfl | exact nomark _) : AT X W (.Compare a [op] [b] pos) (wB (wBin f wa wb)) :=
  pt_imp (pt_cmpR ho ha hb hm) fun _ _ _ h => le_two hs (lb_of h)
/-- a < b < c -/
def wChain (f g : F2) (wa wb wc : WE) : WE := fun S A Q E => wa S A (fun x A1 => wb S A1 (fun y A2 => f x y A2 fun z A3 => match z with
  | .bl true => wc S A3 (fun t A4 => g y t A4 Q) E
  | .bl false => Q (.bl false) A3
  | _ => False) E) E
theorem le_chain {K : PySem.W.Frag} {r r' : R2} {f g : F2} {wa wb wc : WE} (hs : Sim2 K r f) (hs' : Sim2 K r' g) {σ : L2.St} {H : Hp} {Q : VK} (h : LE K W (wChain f g wa wb wc) σ H Q) : tChain r r' (LE K W wa) (LE K W wb) (LE K W wc) σ H Q := by
  obtain ⟨S, A, Qa, Ea, ss, sa, q, qx, w⟩ := h
  refine ⟨S, A, _, Ea, ss, sa, ?_, qx, w⟩
  intro x A1 v H1 r1 sa1 k1 w1
  refine ⟨S, A1, _, Ea, ss.keep k1, sa1, ?_, qx.keep k1, w1⟩
  intro y A2 u H2 r2 sa2 k2 w2
  refine hs (r1.keep k2) r2 sa2 ?_ w2
  intro z A3 t H3 r3 sa3 k3 w3
  cases z with
  | bl k =>
    unfold Re at r3
    cases k with
    | true =>
      refine ⟨true, r3, ?_⟩
      rw [if_pos rfl]
      refine ⟨S, A3, _, Ea, ss.keep ((k1.trans k2).trans k3), sa3, ?_, qx.keep ((k1.trans k2).trans k3), w3⟩
      intro t A4 s H4 r4 sa4 k4 w4
      exact hs' (r2.keep (k3.trans k4)) r4 sa4 (q.keep (((k1.trans k2).trans k3).trans k4)) w4
    | false =>
      refine ⟨false, r3, ?_⟩
      rw [if_neg Bool.false_ne_true]
      exact q _ _ _ _ (re_bl _) sa3 ((k1.trans k2).trans k3) w3
  | _ => exact w3.elim
theorem ae_chain {op op' : CmpOp} {r r' : R2} {f g : F2} {wa wb wc : WE} (ho : OpR X (compareOp op) r) (hs : Sim2 X.K r f) (ho' : OpR X (compareOp op') r') (hs' : Sim2 X.K r' g) (ha : AE X W a wa) (hb : AE X W b wb) (hc : AE X W c wc)
    (hm : lastMarks [op, op'] [b, c] = false := by rfl) : AE X W (.Compare a [op, op'] [b, c] pos) (wChain f g wa wb wc) :=
  pe_imp (pe_chain ho ho' ha hb hc hm) fun _ _ _ h => le_chain hs hs' h
theorem at_chain {op op' : CmpOp} {r r' : R2} {f g : F2} {wa wb wc : WE} (ho : OpR X (compareOp op) r) (hs : Sim2 X.K r f) (ho' : OpR X (compareOp op') r') (hs' : Sim2 X.K r' g) (ha : AE X W a wa) (hb : AE X W b wb) (hc : AE X W c wc)
    (hm : lastMarks [op, op'] [b, c] = false := by rfl) : AT X W (.Compare a [op, op'] [b, c] pos) (wB (wChain f g wa wb wc)) :=
  pt_imp (pt_chain ho ho' ha hb hc hm) fun _ _ _ h => le_chain hs hs' (lb_of h)

/-! ### truth, and, or, not -/
def truR (o : Option Ob) (P : Bool → Prop) : Prop := match o with
  | some (.lst xs) => P (!xs.isEmpty)
  | some (.rol xs) => P (!xs.isEmpty)
  | _ => False
def truA (x : Vl) (A : Ah) (P : Bool → Prop) : Prop := match x with
  | .non => P false
  | .bl k => P k
  | .int i => P (i != 0)
  | .str s => P ((s.length : Int) != 0)
  | .tup xs => P (!xs.isEmpty)
  | .ref p => truR (A p) P
  | _ => False
theorem Rl.isEmpty {K : PySem.W.Frag} {H : Hp} {xs : List Vl} {vs : List V} (h : Rl K H xs vs) : (!xs.isEmpty) = !vs.isEmpty := by
  cases xs with
  | nil => rw [h.nil_inv]; rfl
  | cons x xs => obtain ⟨v, ws, rfl, _, _⟩ := h.cons_inv; rfl
theorem truA_ok {K : PySem.W.Frag} {x : Vl} {v : V} {A : Ah} {H : Hp} {P : Bool → Prop} (r : Re K H x v) (sa : SA K A H) (h : truA x A P) : ∃ k, TruV K v H k ∧ P k := by
  cases x with
  | non => unfold Re at r; subst r; exact ⟨_, rfl, h⟩
  | bl k => unfold Re at r; subst r; exact ⟨_, rfl, h⟩
  | int k => unfold Re at r; subst r; exact ⟨_, rfl, h⟩
  | str k => unfold Re at r; obtain ⟨rfl, hz, _⟩ := r; exact ⟨_, ⟨hz, rfl⟩, h⟩
  | tup xs => unfold Re at r; obtain ⟨p, vs, rfl, st, rl⟩ := r; exact ⟨_, .inr (.inl ⟨vs, st, rfl⟩), by rw [← rl.isEmpty]; exact h⟩
  | ty n => exact h.elim
  | ref p =>
    unfold Re at r; subst r
    have h : truR (A p) P := h
    unfold truR at h
    split at h
    · rename_i xs e
      obtain ⟨vs, hv, rl⟩ := sa _ _ e
      exact ⟨_, .inl ⟨vs, .of hv, rfl⟩, by rw [← rl.isEmpty]; exact h⟩
    · rename_i xs e
      obtain ⟨vs, hv, rl⟩ := sa _ _ e
      exact ⟨_, .inl ⟨vs, .inl hv, rfl⟩, by rw [← rl.isEmpty]; exact h⟩
    · exact h.elim
def wTru (w : WE) : WT := fun S A Q E => w S A (fun x A1 => truA x A1 fun k => Q k A1) E
theorem at_tru {w : WE} (h : AE X W e w) (he : ∀ whole, isTrue e X.env whole = (do let v ← whole; standAt e.pos; holding [v] (truthy v)) := by exact trueOf rfl) : AT X W e (wTru w) :=
  pt_imp (pt_truth h he) fun σ H Q ⟨S, A, Qa, Ea, ss, sa, q, qx, w⟩ => ⟨S, A, _, Ea, ss, sa, fun x A1 v H1 r1 sa1 k1 w1 => by
    obtain ⟨k, t, p⟩ := truA_ok r1 sa1 w1
    exact ⟨k, t, q _ _ _ sa1 k1 p⟩, qx, w⟩
def wNot (t : WT) : WT := fun S A Q E => t S A (fun k A1 => Q (!k) A1) E
theorem at_not {t : WT} (h : AT X W a t) : AT X W (.UnaryOp .Not a pos) (wNot t) :=
  pt_imp (pt_not h) fun σ H Q ⟨S, A, Qa, Ea, ss, sa, q, qx, w⟩ => ⟨S, A, _, Ea, ss, sa, fun k A1 H1 sa1 k1 w1 => q _ _ _ sa1 k1 w1, qx, w⟩
def wAnd (t u : WT) : WT := fun S A Q E => t S A (fun k A1 => if k = true then u S A1 Q E else Q false A1) E
def wOr (t u : WT) : WT := fun S A Q E => t S A (fun k A1 => if k = true then Q true A1 else u S A1 Q E) E
theorem aw_and1 {t : WT} (h : AT X W a t) : AW X W (.BoolOp .And [a] pos) t := pw_and1 h
theorem aw_or1 {t : WT} (h : AT X W a t) : AW X W (.BoolOp .Or [a] pos) t := pw_or1 h
theorem aw_and {t u : WT} (h : AT X W a t) (g : AW X W (.BoolOp .And (b :: es) pos) u) : AW X W (.BoolOp .And (a :: b :: es) pos) (wAnd t u) :=
  pw_imp (pw_and h g) fun σ H Q ⟨S, A, Qa, Ea, ss, sa, q, qx, w⟩ => ⟨S, A, _, Ea, ss, sa, fun k A1 H1 sa1 k1 w1 => by
    cases k with
    | true => rw [if_pos rfl] at w1 ⊢; exact ⟨S, A1, Qa, Ea, ss.keep k1, sa1, q.keep k1, qx.keep k1, w1⟩
    | false => rw [if_neg Bool.false_ne_true] at w1 ⊢; exact q _ _ _ sa1 k1 w1, qx, w⟩
theorem aw_or {t u : WT} (h : AT X W a t) (g : AW X W (.BoolOp .Or (b :: es) pos) u) : AW X W (.BoolOp .Or (a :: b :: es) pos) (wOr t u) :=
  pw_imp (pw_or h g) fun σ H Q ⟨S, A, Qa, Ea, ss, sa, q, qx, w⟩ => ⟨S, A, _, Ea, ss, sa, fun k A1 H1 sa1 k1 w1 => by
    cases k with
    | true => rw [if_pos rfl] at w1 ⊢; exact q _ _ _ sa1 k1 w1
    | false => rw [if_neg Bool.false_ne_true] at w1 ⊢; exact ⟨S, A1, Qa, Ea, ss.keep k1, sa1, q.keep k1, qx.keep k1, w1⟩, qx, w⟩
theorem at_w {t : WT} (h : AW X W e t) : AT X W e t := h.pt
/-- as values -/
def wNotV (w : WE) : WE := fun S A Q E => w S A (fun x A1 => match x with
  | .bl k => Q (.bl (!k)) A1
  | _ => False) E
theorem ae_not {w : WE} (h : AE X W a w) : AE X W (.UnaryOp .Not a pos) (wNotV w) :=
  pe_imp (pe_not h) fun σ H Q ⟨S, A, Qa, Ea, ss, sa, q, qx, w⟩ => ⟨S, A, _, Ea, ss, sa, fun x A1 v H1 r1 sa1 k1 w1 => by
    cases x with
    | bl k => unfold Re at r1; exact ⟨k, r1, q _ _ _ _ (re_bl _) sa1 k1 w1⟩
    | _ => exact w1.elim, qx, w⟩
def wAndV (wa wb : WE) : WE := fun S A Q E => wa S A (fun x A1 => match x with
  | .bl true => wb S A1 Q E
  | .bl false => Q (.bl false) A1
  | _ => False) E
def wOrV (wa wb : WE) : WE := fun S A Q E => wa S A (fun x A1 => match x with
  | .bl false => wb S A1 Q E
  | .bl true => Q (.bl true) A1
  | _ => False) E
theorem ae_one {op : BoolOp} {w : WE} (h : AE X W a w) : AE X W (.BoolOp op [a] pos) w := pe_one h
theorem ae_and {wa wb : WE} (h : AE X W a wa) (g : AE X W (.BoolOp .And (b :: es) pos) wb) : AE X W (.BoolOp .And (a :: b :: es) pos) (wAndV wa wb) :=
  pe_imp (pe_and h g) fun σ H Q ⟨S, A, Qa, Ea, ss, sa, q, qx, w⟩ => ⟨S, A, _, Ea, ss, sa, fun x A1 v H1 r1 sa1 k1 w1 => by
    cases x with
    | bl k =>
      unfold Re at r1
      cases k with
      | true => exact ⟨true, r1, by rw [if_pos rfl]; exact ⟨S, A1, Qa, Ea, ss.keep k1, sa1, q.keep k1, qx.keep k1, w1⟩⟩
      | false => exact ⟨false, r1, by rw [if_neg Bool.false_ne_true]; exact q _ _ _ _ (re_bl _) sa1 k1 w1⟩
    | _ => exact w1.elim, qx, w⟩
theorem ae_or {wa wb : WE} (h : AE X W a wa) (g : AE X W (.BoolOp .Or (b :: es) pos) wb) : AE X W (.BoolOp .Or (a :: b :: es) pos) (wOrV wa wb) :=
  pe_imp (pe_or h g) fun σ H Q ⟨S, A, Qa, Ea, ss, sa, q, qx, w⟩ => ⟨S, A, _, Ea, ss, sa, fun x A1 v H1 r1 sa1 k1 w1 => by
    cases x with
    | bl k =>
      unfold Re at r1
      cases k with
      | false => exact ⟨false, r1, by rw [if_neg Bool.false_ne_true]; exact ⟨S, A1, Qa, Ea, ss.keep k1, sa1, q.keep k1, qx.keep k1, w1⟩⟩
      | true => exact ⟨true, r1, by rw [if_pos rfl]; exact q _ _ _ _ (re_bl _) sa1 k1 w1⟩
    | _ => exact w1.elim, qx, w⟩
def wIf (t : WT) (wa wb : WE) : WE := fun S A Q E => t S A (fun k A1 => if k = true then wa S A1 Q E else wb S A1 Q E) E
theorem ae_if {t : WT} {wa wb : WE} (ht : AT X W c t) (h : AE X W a wa) (g : AE X W b wb) : AE X W (.IfExp c a b pos) (wIf t wa wb) :=
  pe_imp (pe_ifExp ht h g) fun σ H Q ⟨S, A, Qa, Ea, ss, sa, q, qx, w⟩ => ⟨S, A, _, Ea, ss, sa, fun k A1 H1 sa1 k1 w1 => by
    cases k with
    | true => rw [if_pos rfl] at w1 ⊢; exact ⟨S, A1, Qa, Ea, ss.keep k1, sa1, q.keep k1, qx.keep k1, w1⟩
    | false => rw [if_neg Bool.false_ne_true] at w1 ⊢; exact ⟨S, A1, Qa, Ea, ss.keep k1, sa1, q.keep k1, qx.keep k1, w1⟩, qx, w⟩

/-! ### arguments, displays -/
def wNil : WA := fun _ A Q _ => Q [] A
def wCons (w : WE) (r : WA) : WA := fun S A Q E => w S A (fun x A1 => r S A1 (fun xs A2 => Q (x :: xs) A2) E) E
theorem aa_nil : AA X W [] wNil := pa_imp pa_nil fun σ H Q ⟨S, A, Qa, Ea, ss, sa, q, qx, w⟩ => q _ _ _ _ .nil sa .refl w
theorem aa_cons {w : WE} {r : WA} (h : AE X W e w) (g : AA X W es r) (hs : starEach (e :: es) X.env = (false, eval e X.env) :: starEach es X.env := by exact starOf rfl) : AA X W (e :: es) (wCons w r) :=
  pa_imp (pa_cons h g hs) fun σ H Q ⟨S, A, Qa, Ea, ss, sa, q, qx, w⟩ => ⟨S, A, _, Ea, ss, sa, fun x A1 v H1 r1 sa1 k1 w1 =>
    ⟨S, A1, _, Ea, ss.keep k1, sa1, fun xs A2 vs H2 r2 sa2 k2 w2 => q _ _ _ _ (.cons (r1.keep k2) r2) sa2 (k1.trans k2) w2, qx.keep k1, w1⟩, qx, w⟩
def wTup (wa : WA) : WE := fun S A Q E => wa S A (fun xs A1 => xs.length ≤ sizeLine ∧ Q (.tup xs) A1) E
theorem ae_tup {wa : WA} {x1 : Nat} (h : AA X W es wa) : AE X W (.Tuple es x1 pos) (wTup wa) :=
  pe_imp (pe_tup h) fun σ H Q ⟨S, A, Qa, Ea, ss, sa, q, qx, w⟩ => ⟨S, A, _, Ea, ss, sa, fun xs A1 vs H1 r1 sa1 k1 w1 =>
    ⟨by rw [← r1.length]; exact w1.1, fun p hp => q _ _ _ _ (re_new hp r1) (sa1.newU hp) (k1.trans (.new hp)) w1.2⟩, qx, w⟩
def wLst (wa : WA) : WE := fun S A Q E => wa S A (fun xs A1 => xs.length ≤ sizeLine ∧ ∀ p, A1 p = none → Q (.ref p) (put A1 p (.lst xs))) E
theorem obr_lst {K : PySem.W.Frag} {H : Hp} {p : Addr} {xs : List Vl} {vs : List V} (k : Keep H (upd H p (.lst vs))) (r : Rl K H xs vs) : ObR K (upd H p (.lst vs)) p (.lst xs) := ⟨vs, upd_same, r.keep k⟩
theorem ae_lst {wa : WA} (h : AA X W es wa) : AE X W (.List es pos) (wLst wa) :=
  pe_imp (pe_lst h) fun σ H Q ⟨S, A, Qa, Ea, ss, sa, q, qx, w⟩ => ⟨S, A, _, Ea, ss, sa, fun xs A1 vs H1 r1 sa1 k1 w1 =>
    ⟨by rw [← r1.length]; exact w1.1, fun p hp => q _ _ _ _ (re_ref _) (sa1.new hp (obr_lst (.new hp) r1)) (k1.trans (.new hp)) (w1.2 p (sa1.fresh hp))⟩, qx, w⟩

/-! ### calls of built-ins -/
abbrev FC := List Vl → Ah → QE → Prop
def SimC (K : PySem.W.Frag) (r : List V → Hp → VK → Prop) (f : FC) : Prop := ∀ {xs : List Vl} {vs : List V} {A : Ah} {H : Hp} {Q : VK} {Qa : QE}, Rl K H xs vs → SA K A H → QL K H Qa Q → f xs A Qa → r vs H Q
def wCB (f : FC) (wa : WA) : WE := fun S A Q E => wa S A (fun xs A1 => f xs A1 Q) E
theorem le_cb {K : PySem.W.Frag} {r : List V → Hp → VK → Prop} {f : FC} {wa : WA} (hs : SimC K r f) {σ : L2.St} {H : Hp} {Q : VK} (h : LE K W (wCB f wa) σ H Q) : tCB r (LA K W wa) σ H Q := by
  obtain ⟨S, A, Qa, Ea, ss, sa, q, qx, w⟩ := h
  exact ⟨S, A, _, Ea, ss, sa, fun xs A1 vs H1 r1 sa1 k1 w1 => hs r1 sa1 (q.keep k1) w1, qx, w⟩
theorem ae_callB {x : Str} {id : String} {p : Pos} {r : List V → Hp → VK → Prop} {f : FC} {wa : WA} (hc : CallR X (.builtin id) r) (hs : SimC X.K r f) (hg : Gl X x) (hm : X.mg x = none) (hv : bootBuiltins x = some (.builtin id)) (ha : AA X W (e :: es) wa) (hn : x ≠ "__name__" := by decide) (hdb : (x == ("__debug__" : Str)) = false := by decide)
    (he : starEach (e :: es) X.env = (false, eval e X.env) :: starEach es X.env := by exact starOf rfl) (hpl : (backTo pos (starEach es X.env)).any (·.1) = false := by exact starsOf rfl) : AE X W (.Call (.Name x p) (e :: es) [] pos) (wCB f wa) :=
  pe_imp (pe_callB hc hg hm hv ha hn hdb he hpl) fun _ _ _ h => le_cb hs h
theorem ae_callTy {x : Str} {T : String} {p : Pos} {r : List V → Hp → VK → Prop} {f : FC} {wa : WA} (hc : CallR X (.type T) r) (hs : SimC X.K r f) (hg : Gl X x) (hm : X.mg x = none) (hv : bootBuiltins x = some (.type T)) (ha : AA X W (e :: es) wa) (hn : x ≠ "__name__" := by decide) (hdb : (x == ("__debug__" : Str)) = false := by decide)
    (he : starEach (e :: es) X.env = (false, eval e X.env) :: starEach es X.env := by exact starOf rfl) (hpl : (backTo pos (starEach es X.env)).any (·.1) = false := by exact starsOf rfl) : AE X W (.Call (.Name x p) (e :: es) [] pos) (wCB f wa) :=
  pe_imp (pe_callTy hc hg hm hv ha hn hdb he hpl) fun _ _ _ h => le_cb hs h

/-! ### subscripts, slices -/
theorem ae_ix {r : R2} {f : F2} {wa wb : WE} (hr : IxR X r) (hs : Sim2 X.K r f) (ha : AE X W a wa) (hb : AE X W b wb) (hp : PlainIx b := by exact ixOf rfl) : AE X W (.Subscript a b pos) (wBin f wa wb) :=
  pe_imp (pe_ix hr ha hb hp) fun _ _ _ h => le_two hs h
abbrev WO := Sl → Ah → (Option Int → Ah → Prop) → EX → Prop
def LO (K : PySem.W.Frag) (W : WX) (w : WO) : TO := fun σ H Q => ∃ S A Qa Ea, SS K H S σ ∧ SA K A H ∧ (∀ i A' H', SA K A' H' → Keep H H' → Qa i A' → Q i H') ∧ QX K H Ea (fun c d H' => W c d σ H') ∧ w S A Qa Ea
abbrev AO (X : Cx) (W : WX) (e : Option Expr) (w : WO) : Prop := PO X e (LO X.K W w)
def wNoP : WO := fun _ A Q _ => Q none A
def wPt (w : WE) : WO := fun S A Q E => w S A (fun x A1 => match x with
  | .int i => Q (some i) A1
  | _ => False) E
theorem po_imp {e : Option Expr} {t t' : TO} (h : PO X e t) (i : ∀ σ H Q, t' σ H Q → t σ H Q) : PO X e t' := ⟨fun pins s σ H Q I w => h.run pins s σ H Q I (i _ _ _ w)⟩
theorem ao_none : AO X W none wNoP := po_imp po_none fun σ H Q ⟨S, A, Qa, Ea, ss, sa, q, qx, w⟩ => q _ _ _ sa .refl w
theorem ao_some {w : WE} (h : AE X W e w) : AO X W (some e) (wPt w) := po_imp (po_some h) fun σ H Q ⟨S, A, Qa, Ea, ss, sa, q, qx, w⟩ => ⟨S, A, _, Ea, ss, sa, fun x A1 v H1 r1 sa1 k1 w1 => by
  cases x with
  | int i => unfold Re at r1; exact ⟨i, r1, q _ _ _ sa1 k1 w1⟩
  | _ => exact w1.elim, qx, w⟩
abbrev FS := Vl → Option Int → Option Int → Ah → QE → Prop
def SimS (K : PySem.W.Frag) (r : V → Option Int → Option Int → Hp → VK → Prop) (f : FS) : Prop := ∀ {x : Vl} {lo hi : Option Int} {v : V} {A : Ah} {H : Hp} {Q : VK} {Qa : QE}, Re K H x v → SA K A H → QL K H Qa Q → f x lo hi A Qa → r v lo hi H Q
def wSl (f : FS) (w : WE) (wl wh : WO) : WE := fun S A Q E => w S A (fun x A1 => wl S A1 (fun i A2 => wh S A2 (fun j A3 => f x i j A3 Q) E) E) E
theorem ae_slice {r : V → Option Int → Option Int → Hp → VK → Prop} {f : FS} {lo hi : Option Expr} {p2 : Pos} {w : WE} {wl wh : WO} (hr : SlR X r) (hs : SimS X.K r f) (he : AE X W e w) (hl : AO X W lo wl) (hu : AO X W hi wh) : AE X W (.Subscript e (.Slice lo hi none p2) pos) (wSl f w wl wh) :=
  pe_imp (pe_slice hr he hl hu) fun σ H Q ⟨S, A, Qa, Ea, ss, sa, q, qx, w⟩ => ⟨S, A, _, Ea, ss, sa, fun x A1 v H1 r1 sa1 k1 w1 =>
    ⟨S, A1, _, Ea, ss.keep k1, sa1, fun i A2 H2 sa2 k2 w2 => ⟨S, A2, _, Ea, ss.keep (k1.trans k2), sa2, fun j A3 H3 sa3 k3 w3 =>
      hs (r1.keep (k2.trans k3)) sa3 (q.keep ((k1.trans k2).trans k3)) w3, qx.keep (k1.trans k2), w2⟩, qx.keep k1, w1⟩, qx, w⟩
end
end Rk

set_option Elab.async false
set_option linter.all false
set_option maxRecDepth 100000
set_option maxHeartbeats 4000000
namespace Rk
open PySem PySem.Spec PyProof.Rows L2
/-! ### defs -/
def Sub (B A : Ah) : Prop := ∀ a o, B a = some o → A a = some o
theorem Sub.refl {A : Ah} : Sub A A := fun _ _ h => h
theorem Sub.trans {A B C : Ah} (x : Sub A B) (y : Sub B C) : Sub A C := fun a o h => y a o (x a o h)
theorem SA.sub {K : PySem.W.Frag} {A B : Ah} {H : Hp} (s : SA K A H) (h : Sub B A) : SA K B H := fun a o e => s a o (h a o e)
/-- the slots at a def's entry -/
def slots0 (n : Nat) (xs : List Vl) : Sl := xs.map some ++ List.replicate (n - xs.length) none
def wFun (n : Nat) (b : WS) : WF := fun xs A Q E => b { nx := fun _ A' => ∃ B, Sub B A' ∧ Q .non B, rt := fun v A' => ∃ B, Sub B A' ∧ Q v B, ex := fun x _ A' => ∃ B, Sub B A' ∧ E x B } (slots0 n xs) A
structure Gn (P : Program) (w : World) (K : PySem.W.Frag) (mg : Str → Option Value) (base : Heap) (k : Nat) (f : Addr) (fd : FuncData) (ps : List Str) (wf : WF) : Prop where
  run : ∀ (A : Around) (outer : List Env) (s : Shared) (H : Hp) (args : Args) (us : List Value) (vs : List V) (Q : VK) (E : XK), Room k A → A.guards = some [] → Env0 P w K mg base A outer s H → BindsTo s fd args (ps.zip us) → Vals vs us →
    LF K ps.length wf vs H Q E → codeAny (model P w) A (.call (.ref f) args) (CR (L2.CX P w) outer P w H s Q E) s
theorem Gn.mono {P : Program} {w : World} {K : PySem.W.Frag} {mg : Str → Option Value} {base : Heap} {j k : Nat} {f : Addr} {fd : FuncData} {ps : List Str} {wf : WF} (G : Gn P w K mg base j f fd ps wf) (h : j ≤ k) : Gn P w K mg base k f fd ps wf :=
  ⟨fun A outer s H args us vs Q E hr => G.run A outer s H args us vs Q E (hr.mono h)⟩
/-- the context of a def's body -/
abbrev bodyX (P : Program) (w : World) (K : PySem.W.Frag) (mg : Str → Option Value) (base : Heap) (N : List Str) (qual : Str) (scope : Scope) (f : Addr) (cd : Value) (A : Around) (outer : List Env) (s : Shared) (H : Hp) (E : XK) : Cx :=
  cxOf (L2.CX P w) P w K mg base N qual scope f cd A outer s H E
abbrev bodyW (E : XK) : WX := fun c d _ H => E c d H
/-- what a derivation of a body may lean on -/
structure Bd (k : Nat) (X : Cx) (W : WX) : Prop where
  room : Room k X.A
  gd : X.A.guards = some []
  calm : X.calm = true
  nd : X.N.Nodup
  tk : Takes X W
  pass : PassesOwn (model X.prog X.w) X.A X.env X.xe
theorem gn_of {P : Program} {w : World} {K : PySem.W.Frag} {mg : Str → Option Value} {base : Heap} {k : Nat} {f : Addr} {name qual : Str} {params : Arguments} {body : List Stmt} {scope : Scope} {dV kV doc pm cdv ct oc : Value} {an od : Option Addr}
    {osl : Array (Option Value)} {N ps : List Str} {wb : WS} (lk : K.lookup f = some ⟨oc, od, .func (PySem.W.fnOf name qual params body scope dV kV doc pm an cdv ct), osl⟩) (hcd : PySem.W.codeIn K cdv qual = true) (S : FnScope N ps scope)
    (hb : ∀ (A : Around) (outer : List Env) (s : Shared) (H : Hp) (E : XK), Bd k (bodyX P w K mg base N qual scope f cdv A outer s H E) (bodyW E) → ASs (bodyX P w K mg base N qual scope f cdv A outer s H E) (bodyW E) body wb) :
    Gn P w K mg base (k + 1) f (PySem.W.fnOf name qual params body scope dV kV doc pm an cdv ct) ps (wFun N.length wb) := by
  refine ⟨fun A outer s H args us vs Q E hr hgd e0 hbt r hsp => ?_⟩
  obtain ⟨xs, Ap, Qa, Ea, rl, hlen, sa, q, qx, wv⟩ := hsp
  have hl : vs.length = ps.length := rl.length.symm.trans hlen
  have inK : K.In s.heap := e0.mod.kin.keeps fun b o e => (e0.bs b o e).1
  have kinds : ∀ y ∈ ps.zip us, scope.names.lookup y.1 = some .local ∨ (scope.names.lookup y.1 = some .cell ∧ ((cellsFrom (s.heap.objs.size + 1) scope.names []).lookup y.1).isSome = true) := by
    rintro ⟨n, v⟩ hy
    rcases S.par n (List.of_mem_zip hy).1 with g | g
    · exact .inl g
    · exact .inr ⟨g, PySem.W.cellsFrom_some _ _ _ (.inl g)⟩
  refine codeAny_call_function hr.depth (inK _ _ lk) rfl S.co S.gen rfl (PySem.W.codeRec_of inK hcd) (hbt _ _ _ _ ?_)
  refine wpAny_newFunctionEnv_cells S.kind kinds fun env he s1 x => ?_
  subst he
  refine ⟨(e0.mod.nolimit.keeps fun b o e => (e0.bs b o e).1).keeps x.toInCall.keep, codeAny_func ?_⟩
  have B : Bd k (bodyX P w K mg base N qual scope f cdv A outer s H E) (bodyW E) :=
    ⟨hr.deeper _, by first | exact hgd | (simpa [Around.deeper] using hgd), rfl, S.nd, takes_of (E₁ := fun e' s'' => L2.CX P w outer H s E e' s'') rfl rfl rfl rfl, passes_of (K := fun e s'' => L2.CX P w outer H s E e s'') (E₁ := fun e' s'' => L2.CX P w outer H s E e' s'') rfl⟩
  have D := hb A outer s H E B
  have I : Inv (bodyX P w K mg base N qual scope f cdv A outer s H E) [] (L2.start N vs) H s1 := inv_start S hr.hd e0 hl r x
  have hN : ps.length ≤ N.length := by
    have := congrArg List.length S.pre
    rw [List.length_take] at this
    omega
  have s0 : SS K H (slots0 N.length xs) (L2.start N vs) := by
    refine ⟨by unfold slots0 L2.start; simp [rl.length], fun i y e => ?_⟩
    unfold slots0 at e
    by_cases hi : i < xs.length
    · rw [List.getElem?_append_left (by simpa using hi), List.getElem?_map] at e
      cases h : xs[i]? with
      | none => rw [h] at e; cases e
      | some z =>
        rw [h] at e
        cases e
        obtain ⟨v, hv, rv⟩ := rl.get h
        refine ⟨v, ?_, rv⟩
        unfold L2.start
        rw [List.getElem?_append_left (by rw [List.length_map, ← rl.length]; exact hi), List.getElem?_map, hv]
        rfl
    · rw [List.getElem?_append_right (by simpa using hi), List.getElem?_replicate] at e
      split at e <;> cases e
  refine wpAny_mono (D.run [] s1 (L2.start N vs) H { nx := fun _ H' => Q .non H', rt := Q } I ⟨_, Ap, _, s0, sa, ?_, wv⟩) (fun fl s' hs => ?_) fun e s' hs => hs
  · refine ⟨fun S' A' σ' H' _ sa' kk hq => ?_, fun v A' u H' rv sa' kk hq => ?_, fun _ _ _ _ _ _ _ hq => hq.elim, fun _ _ _ _ _ _ _ hq => hq.elim, fun xv S' A' c d σ' H' xr _ sa' kk hq => ?_⟩
    · obtain ⟨B', hs, hq⟩ := hq
      exact q _ _ _ _ (re_non _) (sa'.sub hs) kk hq
    · obtain ⟨B', hs, hq⟩ := hq
      exact q _ _ _ _ rv (sa'.sub hs) kk hq
    · obtain ⟨B', hs, hq⟩ := hq
      exact qx _ _ _ _ _ xr (sa'.sub hs) kk hq
  · have fin : ∀ {σ' : L2.St} {H' : Hp} {v : V} {u : Value}, Inv (bodyX P w K mg base N qual scope f cdv A outer s H E) [] σ' H' s' → RelV v u → Q v H' → CE outer P w H s Q u s' :=
      fun {σ' H' v u} J rv hq => ⟨v, H', J.os, J.bare, J.base, J.hok, rv, hq⟩
    cases fl with
    | ret u => obtain ⟨v, σ', H', J, rv, hq⟩ := hs; exact fin J rv hq
    | next => obtain ⟨σ', H', J, hq⟩ := hs; exact fin (v := V.non) (u := Value.none) J rfl hq
    | brk => obtain ⟨_, _, _, hq⟩ := hs; exact False.elim hq
    | cont => obtain ⟨_, _, _, hq⟩ := hs; exact False.elim hq

section
variable {X : Cx} {W : WX} {a b c e o : Expr} {es : List Expr} {pos : Pos}
variable {k : Nat} {f : Addr} {fd : FuncData} {ps : List Str} {wf : WF}
/-- a call of f with n positional values and the keywords ks does as wf says of all values, the keywords' behind -/
def Runs (X : Cx) (W : WX) (f : Addr) (n : Nat) (ks : List Str) (wf : WF) : Prop :=
  ∀ (pins : List (Addr × Obj)) (σ : L2.St) (H : Hp) (s : Shared) (Q : VK) (us ws : List Value) (vs zs : List V), Inv X pins σ H s → Vals vs us → Vals zs ws → us.length = n → ws.length = ks.length → LF X.K (n + ks.length) wf (vs ++ zs) H Q (fun c d H' => W c d σ H') →
    wpAny (model X.prog X.w) X.A (call (.ref f) us (ks.zip ws)) (EP X pins σ Q) X.xe s
/-- where a parameter's value comes from: a positional value, a keyword's, a default -/
inductive Src where
  | p (i : Nat)
  | d (u : Value) (v : V) (x : Vl)
def Src.mu (us : List Value) : Src → Value
  | .p i => us.getD i .none
  | .d u _ _ => u
def Src.mv (vs : List V) : Src → L2.V
  | .p i => vs.getD i .non
  | .d _ v _ => v
def Src.pl (xs : List Vl) : Src → Vl
  | .p i => xs.getD i .non
  | .d _ _ x => x
def Src.ok (K : PySem.W.Frag) (n : Nat) : Src → Prop
  | .p i => i < n
  | .d u v x => RelV v u ∧ ∀ H, Re K H x v
/-- parameters by sources -/
def wSel (l : List Src) (wf : WF) : WF := fun xs => wf (l.map (Src.pl xs))
theorem sel_vals {K : PySem.W.Frag} {n : Nat} {vs : List L2.V} {us : List Value} (r : Vals vs us) (hn : vs.length = n) : ∀ {l : List Src}, (∀ x ∈ l, x.ok K n) → Vals (l.map (Src.mv vs)) (l.map (Src.mu us))
  | [], _ => .nil
  | y :: l, h => by
    refine .cons ?_ (sel_vals r hn fun x hx => h x (List.mem_cons_of_mem _ hx))
    have q := h y List.mem_cons_self
    cases y with
    | p i =>
      have hi : i < vs.length := by rw [hn]; exact q
      obtain ⟨u, hu, ru⟩ := r.get (i := i) (x := vs[i]) (by simp [hi])
      show RelV (vs.getD i .non) (us.getD i .none)
      rw [List.getD_eq_getElem?_getD, List.getD_eq_getElem?_getD, hu, List.getElem?_eq_getElem hi]
      exact ru
    | d u v x => exact q.1
theorem sel_rl {K : PySem.W.Frag} {n : Nat} {H : Hp} {xs : List Vl} {vs : List L2.V} (r : Rl K H xs vs) (hn : vs.length = n) : ∀ {l : List Src}, (∀ x ∈ l, x.ok K n) → Rl K H (l.map (Src.pl xs)) (l.map (Src.mv vs))
  | [], _ => .nil
  | y :: l, h => by
    refine .cons ?_ (sel_rl r hn fun x hx => h x (List.mem_cons_of_mem _ hx))
    have q := h y List.mem_cons_self
    cases y with
    | p i =>
      have hi : i < xs.length := by rw [r.length, hn]; exact q
      obtain ⟨v, hv, rv⟩ := r.get (i := i) (x := xs[i]) (by simp [hi])
      show Re K H (xs.getD i .non) (vs.getD i .non)
      rw [List.getD_eq_getElem?_getD, List.getD_eq_getElem?_getD, hv, List.getElem?_eq_getElem hi]
      exact rv
    | d u v x => exact q.2 H
/-- a def's promise as calls of one form -/
theorem runs_sel {ks : List Str} {n : Nat} {l : List Src} (B : Bd k X W) (G : Gn X.prog X.w X.K X.mg X.base k f fd ps wf) (hl : l.length = ps.length) (ok : ∀ x ∈ l, x.ok X.K (n + ks.length))
    (hb : ∀ (s : Shared) (us ws : List Value), X.K.In s.heap → us.length = n → ws.length = ks.length → BindsTo s fd ⟨us, ks.zip ws⟩ (ps.zip (l.map (Src.mu (us ++ ws))))) : Runs X W f n ks (wSel l wf) := by
  intro pins σ H s Q us ws vs zs I r rz hu hw h
  obtain ⟨xs, Ap, Qa, Ea, rl, hlen, sa, q, qx, wv⟩ := h
  have hvl : (vs ++ zs).length = n + ks.length := by rw [← rl.length, hlen]
  refine wpAny_call (codeAny_mono (G.run X.A X.stack s H ⟨us, ks.zip ws⟩ _ _ Q (fun c d H' => W c d σ H') B.room B.gd I.env0 (hb s us ws I.kIn hu hw) (sel_vals (r.append rz) hvl ok) ⟨_, Ap, Qa, Ea, sel_rl rl hvl ok, by simp [hl], sa, q, qx, wv⟩) fun r s' hq => ?_)
  cases r with
  | error e => exact B.tk e s' (XE.of_call I (fun _ _ _ h => h) hq)
  | ok fl =>
    cases fl with
    | ret u => exact I.after hq
    | next => exact False.elim hq
    | brk => exact False.elim hq
    | cont => exact False.elim hq
/-- .. all positional, in order -/
theorem runs_all {n : Nat} (B : Bd k X W) (G : Gn X.prog X.w X.K X.mg X.base k f fd ps wf) (hn : ps.length = n) (hb : ∀ us : List Value, us.length = n → bindArgs fd ⟨us, []⟩ = pure (ps.zip us)) : Runs X W f n [] wf := by
  intro pins σ H s Q us ws vs zs I r rz hu hw h
  have e1 : ws = [] := by cases ws with | nil => rfl | cons _ _ => simp at hw
  subst e1
  cases rz
  rw [List.append_nil] at h
  subst hn
  refine wpAny_call (codeAny_mono (G.run X.A X.stack s H ⟨us, []⟩ us vs Q (fun c d H' => W c d σ H') B.room B.gd I.env0 (.of_eq (hb us hu)) r h) fun r s' hq => ?_)
  cases r with
  | error e => exact B.tk e s' (XE.of_call I (fun _ _ _ h => h) hq)
  | ok fl =>
    cases fl with
    | ret u => exact I.after hq
    | next => exact False.elim hq
    | brk => exact False.elim hq
    | cont => exact False.elim hq
def wCall (n : Nat) (wf : WF) (wa : WA) : WE := fun S A Q E => wa S A (fun xs A1 => xs.length = n ∧ wf xs A1 Q E) E
theorem la_call {K : PySem.W.Frag} {n : Nat} {wa : WA} {σ : L2.St} {H : Hp} {Q : VK} (h : LE K W (wCall n wf wa) σ H Q) : LA K W wa σ H (fun vs H1 => LF K n wf vs H1 Q (fun c d H' => W c d σ H')) := by
  obtain ⟨S, A, Qa, Ea, ss, sa, q, qx, w⟩ := h
  exact ⟨S, A, _, Ea, ss, sa, fun xs A1 vs H1 r1 sa1 k1 w1 => ⟨xs, A1, Qa, Ea, r1, w1.1, sa1, q.keep k1, qx.keep k1, w1.2⟩, qx, w⟩
/-- f(e, ..) -/
theorem ae_call {x : Str} {p : Pos} {wa : WA} {n : Nat} (R : Runs X W f n [] wf) (hg : Gl X x) (hm : X.mg x = some (.ref f)) (hk : PySem.W.keepIn X.K (.ref f) = true) (ha : AA X W (e :: es) wa)
    (hdb : (x == ("__debug__" : Str)) = false := by decide) (he : starEach (e :: es) X.env = (false, eval e X.env) :: starEach es X.env := by exact starOf rfl) (hpl : (backTo pos (starEach es X.env)).any (·.1) = false := by exact starsOf rfl) :
    AE X W (.Call (.Name x p) (e :: es) [] pos) (wCall n wf wa) := by
  refine ⟨fun pins s σ H Q I h => wpAny_Call_Name_kw (ld_glob I hg hm ?_ hdb)⟩
  refine PySem.W.callWith_K (h₀ := X.base) I.ok.mod.kin hk (thn (ha.run pos pins s σ H _ I (la_call h)) fun us s1 ⟨vs, H1, I1, r, q⟩ => ⟨I1.kIn, ?_⟩) he hpl
  have hu : us.length = n := by
    obtain ⟨xs, _, _, _, rl, hl, _⟩ := q
    rw [← r.length, ← rl.length, hl]
  exact R pins σ H1 s1 Q us [] vs [] I1 r .nil hu rfl (by simpa using q)
/-- f() -/
theorem ae_call0 {x : Str} {p : Pos} (R : Runs X W f 0 [] wf) (hg : Gl X x) (hm : X.mg x = some (.ref f)) (hk : PySem.W.keepIn X.K (.ref f) = true)
    (hdb : (x == ("__debug__" : Str)) = false := by decide) : AE X W (.Call (.Name x p) [] [] pos) (wCall 0 wf wNil) := by
  refine ⟨fun pins s σ H Q I h => wpAny_Call_Name_kw (ld_glob I hg hm ?_ hdb)⟩
  refine PySem.W.callWith_K0 I.kIn hk ?_
  obtain ⟨S, A, Qa, Ea, ss, sa, q, qx, w⟩ := h
  exact R pins σ H s Q [] [] [] [] I .nil .nil rfl rfl ⟨[], A, Qa, Ea, .nil, rfl, sa, q, qx, w.2⟩
/-- keywords' values -/
abbrev AK (X : Cx) (W : WX) (kws : List Keyword) (w : WA) : Prop := PK X kws (LA X.K W w)
theorem ak_nil : AK X W [] wNil := ⟨fun pos pins s σ H Q I ⟨S, A, Qa, Ea, ss, sa, q, qx, w⟩ => pk_nil.run pos pins s σ H Q I (q _ _ _ _ .nil sa .refl w)⟩
theorem ak_cons {w : WE} {r : WA} {kws : List Keyword} {nm : Option Str} {kpos : Pos} (h : AE X W e w) (g : AK X W kws r) : AK X W (⟨nm, e, kpos⟩ :: kws) (wCons w r) :=
  ⟨fun pos pins s σ H Q I ⟨S, A, Qa, Ea, ss, sa, q, qx, w⟩ => (pk_cons h g).run pos pins s σ H Q I ⟨S, A, _, Ea, ss, sa, fun x A1 v H1 r1 sa1 k1 w1 =>
    ⟨S, A1, _, Ea, ss.keep k1, sa1, fun xs A2 vs H2 r2 sa2 k2 w2 => q _ _ _ _ (.cons (r1.keep k2) r2) sa2 (k1.trans k2) w2, qx.keep k1, w1⟩, qx, w⟩⟩
/-- positional values, then the keywords' -/
def wCat (wa wk : WA) : WA := fun S A Q E => wa S A (fun xs A1 => wk S A1 (fun ys A2 => Q (xs ++ ys) A2) E) E
def wCallK (n m : Nat) (wf : WF) (wa wk : WA) : WE := fun S A Q E => wa S A (fun xs A1 => xs.length = n ∧ wk S A1 (fun ys A2 => ys.length = m ∧ wf (xs ++ ys) A2 Q E) E) E
/-- f(e, .., k = e, ..) -/
theorem ae_callK {x : Str} {p : Pos} {wa wk : WA} {n : Nat} {ks : List Str} {kws : List Keyword} (R : Runs X W f n ks wf) (hg : Gl X x) (hm : X.mg x = some (.ref f)) (hk : PySem.W.keepIn X.K (.ref f) = true) (ha : AA X W (e :: es) wa) (hkw : AK X W kws wk)
    (hks : (backToKw pos (keywordEach kws X.env)).filterMap (·.1) = ks := by exact kwNames rfl) (hall : (backToKw pos (keywordEach kws X.env)).all (·.1.isSome) = true := by exact kwAll rfl)
    (hdb : (x == ("__debug__" : Str)) = false := by decide) (he : starEach (e :: es) X.env = (false, eval e X.env) :: starEach es X.env := by exact starOf rfl)
    (hpl : ((backTo pos (starEach (e :: es) X.env)).any (·.1) || (backToKw pos (keywordEach kws X.env)).any (·.1.isNone)) = false := by exact kwPl rfl rfl) :
    AE X W (.Call (.Name x p) (e :: es) kws pos) (wCallK n ks.length wf wa wk) := by
  refine ⟨fun pins s σ H Q I h => wpAny_Call_Name_kw (ld_glob I hg hm ?_ hdb)⟩
  obtain ⟨S, A, Qa, Ea, ss, sa, q, qx, w⟩ := h
  refine PySem.W.callWith_KW (h₀ := X.base) I.ok.mod.kin hk hall (thn (ha.run pos pins s σ H (fun vs H1 => ∃ xs A1, Rl X.K H1 xs vs ∧ SA X.K A1 H1 ∧ Keep H H1 ∧ xs.length = n ∧ wk S A1 (fun ys A2 => ys.length = ks.length ∧ wf (xs ++ ys) A2 Qa Ea) Ea) I
    ⟨S, A, _, Ea, ss, sa, fun xs A1 vs H1 r1 sa1 k1 w1 => ⟨xs, A1, r1, sa1, k1, w1.1, w1.2⟩, qx, w⟩) fun us s1 ⟨vs, H1, I1, r, xs, A1, r1, sa1, k1, hn, w1⟩ => ?_) hpl he
  refine thn (hkw.run pos pins s1 σ H1 (fun zs H2 => ∃ ys A2, Rl X.K H2 ys zs ∧ SA X.K A2 H2 ∧ Keep H1 H2 ∧ ys.length = ks.length ∧ wf (xs ++ ys) A2 Qa Ea) I1
    ⟨S, A1, _, Ea, ss.keep k1, sa1, fun ys A2 zs H2 r2 sa2 k2 w2 => ⟨ys, A2, r2, sa2, k2, w2.1, w2.2⟩, qx.keep k1, w1⟩) fun ws s2 ⟨zs, H2, I2, rz, ys, A2, r2, sa2, k2, hm2, w2⟩ => ⟨I2.kIn, ?_⟩
  rw [hks]
  refine R pins σ H2 s2 Q us ws vs zs I2 r rz (by rw [← r.length, ← r1.length, hn]) (by rw [← rz.length, ← r2.length, hm2]) ⟨xs ++ ys, A2, Qa, Ea, (r1.keep k2).append r2, by simp [hn, hm2], sa2, q.keep (k1.trans k2), qx.keep (k1.trans k2), w2⟩
/-- f(k = e, ..) -/
theorem ae_callK0 {x : Str} {p : Pos} {wk : WA} {ks : List Str} {kws : List Keyword} (R : Runs X W f 0 ks wf) (hg : Gl X x) (hm : X.mg x = some (.ref f)) (hk : PySem.W.keepIn X.K (.ref f) = true) (hkw : AK X W kws wk)
    (hks : (backToKw pos (keywordEach kws X.env)).filterMap (·.1) = ks := by exact kwNames rfl) (hall : (backToKw pos (keywordEach kws X.env)).all (·.1.isSome) = true := by exact kwAll rfl)
    (hdb : (x == ("__debug__" : Str)) = false := by decide) 
    (hpl : ((backTo pos (starEach [] X.env)).any (·.1) || (backToKw pos (keywordEach kws X.env)).any (·.1.isNone)) = false := by exact kwPl rfl rfl) :
    AE X W (.Call (.Name x p) [] kws pos) (wCallK 0 ks.length wf wNil wk) := by
  refine ⟨fun pins s σ H Q I h => wpAny_Call_Name_kw (ld_glob I hg hm ?_ hdb)⟩
  obtain ⟨S, A, Qa, Ea, ss, sa, q, qx, w⟩ := h
  refine PySem.W.callWith_KW0 (h₀ := X.base) I.ok.mod.kin hk hall ?_ hpl
  refine thn (hkw.run pos pins s σ H (fun zs H2 => ∃ ys A2, Rl X.K H2 ys zs ∧ SA X.K A2 H2 ∧ Keep H H2 ∧ ys.length = ks.length ∧ wf ([] ++ ys) A2 Qa Ea) I
    ⟨S, A, _, Ea, ss, sa, fun ys A2 zs H2 r2 sa2 k2 w2 => ⟨ys, A2, r2, sa2, k2, w2.1, w2.2⟩, qx, w.2⟩) fun ws s2 ⟨zs, H2, I2, rz, ys, A2, r2, sa2, k2, hm2, w2⟩ => ⟨I2.kIn, ?_⟩
  rw [hks]
  exact R pins σ H2 s2 Q [] ws [] zs I2 .nil rz rfl (by rw [← rz.length, ← r2.length, hm2]) ⟨ys, A2, Qa, Ea, r2, by simp [hm2], sa2, q.keep k2, qx.keep k2, w2⟩
end
end Rk

set_option Elab.async false
set_option linter.all false
set_option maxRecDepth 100000
set_option maxHeartbeats 400000
namespace Rk
open PySem PySem.Spec PyProof.Rows L2
section
variable {X : Cx} {W : WX} {a b c e o tg iter : Expr} {es : List Expr} {pos : Pos} {K : PySem.W.Frag}
/-! ### what is walked: its items, and what must stay true of the heap meanwhile -/
structure Wk where
  its : List Vl
  ok : Ah → Prop
def SimIt (K : PySem.W.Frag) (k : Wk) (J : It) (H0 : Hp) : Prop := ∀ (i : Nat) (A : Ah) (H : Hp), SA K A H → Keep H0 H → k.ok A →
  (k.its.length ≤ i → J.stop i H) ∧ ∀ y, k.its[i]? = some y → J.go i H ∧ ∀ x H', J.yld i H x H' → Keep H H' ∧ SA K A H' ∧ Re K H' y x
abbrev WI := Sl → Ah → (Wk → Ah → Prop) → EX → Prop
def LI (K : PySem.W.Frag) (W : WX) (w : WI) : TI := fun σ H R => ∃ S A Qa Ea, SS K H S σ ∧ SA K A H ∧ (∀ k A' J H', SimIt K k J H' → SA K A' H' → Keep H H' → Qa k A' → R J H') ∧ QX K H Ea (fun c d H' => W c d σ H') ∧ w S A Qa Ea
abbrev AI (X : Cx) (W : WX) (tg iter : Expr) (w : WI) : Prop := PI X tg iter (LI X.K W w)
theorem pi_imp {wi wi' : TI} (h : PI X tg iter wi) (i : ∀ σ H R, wi' σ H R → wi σ H R) : PI X tg iter wi' := ⟨fun pins s σ H R I w => h.run pins s σ H R I (i _ _ _ w)⟩
theorem sim_lst {p : Addr} {xs : List Vl} {H0 : Hp} : SimIt K ⟨xs, fun A => A p = some (.lst xs)⟩ (Itl K p) H0 := fun i A H sa k hk => by
  obtain ⟨vs, hv, rl⟩ := sa _ _ hk
  refine ⟨fun hi => ⟨vs, .of hv, by rw [← rl.length]; exact hi⟩, fun y hy => ?_⟩
  obtain ⟨v, ev, rv⟩ := rl.get hy
  refine ⟨⟨vs, v, .of hv, ev⟩, fun x H' ⟨e, q⟩ => ?_⟩
  subst e
  have := q vs (.of hv)
  rw [ev] at this; cases this
  exact ⟨.refl, sa, rv⟩
theorem sim_rol {p : Addr} {xs : List Vl} {H0 : Hp} : SimIt K ⟨xs, fun A => A p = some (.rol xs)⟩ (Itl K p) H0 := fun i A H sa k hk => by
  obtain ⟨vs, hv, rl⟩ := sa _ _ hk
  refine ⟨fun hi => ⟨vs, .inl hv, by rw [← rl.length]; exact hi⟩, fun y hy => ?_⟩
  obtain ⟨v, ev, rv⟩ := rl.get hy
  refine ⟨⟨vs, v, .inl hv, ev⟩, fun x H' ⟨e, q⟩ => ?_⟩
  subst e
  have := q vs (.inl hv)
  rw [ev] at this; cases this
  exact ⟨.refl, sa, rv⟩
theorem sim_tup {p : Addr} {xs : List Vl} {vs : List V} {H0 : Hp} (st : SqT K H0 p vs) (rl : Rl K H0 xs vs) : SimIt K ⟨xs, fun _ => True⟩ (Itt K p) H0 := fun i A H sa k _ => by
  have st' := sqT_keep k st
  have rl' := rl.keep k
  refine ⟨fun hi => ⟨vs, st', by rw [← rl.length]; exact hi⟩, fun y hy => ?_⟩
  obtain ⟨v, ev, rv⟩ := rl'.get hy
  refine ⟨⟨vs, v, st', ev⟩, fun x H' ⟨e, q⟩ => ?_⟩
  subst e
  have := q vs st'
  rw [ev] at this; cases this
  exact ⟨.refl, sa, rv⟩
/-- a text's signs -/
def signs (s : Str) : List Vl := s.cps.toList.map fun c => .str ⟨#[c]⟩
theorem okS_sign {s : Str} (h : okS s) {c : Nat} (hc : c ∈ s.cps.toList) : okS ⟨#[c]⟩ := by
  have h2 := h.2
  unfold PyData.strOk at h2
  rw [Array.all_eq_true_iff_forall_mem] at h2
  have q := h2 c (by simpa using hc)
  refine ⟨by show 1 ≤ sizeLine; decide, ?_⟩
  unfold PyData.strOk
  simpa using q
theorem sim_str {s : Str} {H0 : Hp} (h : okS s) : SimIt K ⟨signs s, fun _ => True⟩ (Its s) H0 := fun i A H sa k _ => by
  refine ⟨fun hi => by unfold signs at hi; simpa [Its] using hi, fun y hy => ?_⟩
  unfold signs at hy
  rw [List.getElem?_map] at hy
  cases hc : s.cps.toList[i]? with
  | none => rw [hc] at hy; cases hy
  | some c =>
    rw [hc] at hy; cases hy
    have hi : i < s.cps.size := by simpa using (List.getElem?_eq_some_iff.mp hc).1
    refine ⟨hi, fun x H' ⟨e, c', hc', ex⟩ => ?_⟩
    subst e
    have e2 : s.cps[i]? = some c := by simpa using hc
    rw [e2] at hc'; cases hc'
    subst ex
    exact ⟨.refl, sa, re_str (okS_sign h (List.mem_of_getElem? hc)) _⟩
def rngL (lo : Int) (n : Nat) : List Vl := (List.range n).map fun i : Nat => .int (lo + i)
theorem sim_rng {lo : Int} {n : Nat} {H0 : Hp} : SimIt K ⟨rngL lo n, fun _ => True⟩ (Itr lo n) H0 := fun i A H sa k _ => by
  refine ⟨fun hi => by unfold rngL at hi; simpa [Itr] using hi, fun y hy => ?_⟩
  unfold rngL at hy
  rw [List.getElem?_map] at hy
  cases hc : (List.range n)[i]? with
  | none => rw [hc] at hy; cases hy
  | some j =>
    rw [hc] at hy; cases hy
    obtain ⟨hi, hj⟩ := List.getElem?_eq_some_iff.mp hc
    simp at hi hj; subst hj
    refine ⟨hi, fun x H' ⟨e, ex⟩ => ?_⟩
    subst e; subst ex
    exact ⟨.refl, sa, re_int _⟩
/-- a list, a tuple, a text, by value -/
def itR (o : Option Ob) (p : Addr) (Q : Wk → Prop) : Prop := match o with
  | some (.lst xs) => Q ⟨xs, fun A => A p = some (.lst xs)⟩
  | some (.rol xs) => Q ⟨xs, fun A => A p = some (.rol xs)⟩
  | _ => False
def itV (x : Vl) (A : Ah) (Q : Wk → Ah → Prop) : Prop := match x with
  | .tup xs => Q ⟨xs, fun _ => True⟩ A
  | .str s => Q ⟨signs s, fun _ => True⟩ A
  | .ref p => itR (A p) p fun k => Q k A
  | _ => False
def wiSeq (w : WE) : WI := fun S A Q E => w S A (fun x A1 => itV x A1 Q) E
theorem ai_seq {w : WE} (h : AE X W e w) : AI X W tg e (wiSeq w) := by
  refine ⟨fun pins s σ H R I hw => ?_⟩
  obtain ⟨S, A, Qa, Ea, ss, sa, q, qx, w⟩ := hw
  refine thn (h.run pins s σ H (fun v H1 => ∃ x A1, Re X.K H1 x v ∧ SA X.K A1 H1 ∧ Keep H H1 ∧ itV x A1 Qa) I ⟨S, A, _, Ea, ss, sa, fun x A1 v H1 r1 sa1 k1 w1 => ⟨x, A1, r1, sa1, k1, w1⟩, qx, w⟩) fun v s1 ⟨y, H1, I1, rv, x, A1, r1, sa1, k1, w1⟩ => ?_
  cases x with
  | tup xs =>
    unfold Re at r1
    obtain ⟨p, vs, rfl, st, rl⟩ := r1
    cases rv
    obtain ⟨its, rv, pl, hz⟩ := I1.tuple st
    refine wpAny_pyIter_tuple (show s1.heap.IsTuple p its.toArray from pl) ?_
    refine ⟨s1.heap.objs.size, [s1.heap.objs.size], _, _, H1, rfl, I1.kept (t' := s1.toks) fun b o e => Heap.get?_push_of_some _ e, turn_tuple p _, ⟨_, Heap.get?_push_size _ rfl, rfl, rfl⟩, fun b hb => ?_, q _ _ _ _ (sim_tup st rl) sa1 k1 w1⟩
    obtain rfl : b = s1.heap.objs.size := by simpa using hb
    exact I1.fpOk (Nat.le_refl _) (I1.hok.fresh (Nat.le_refl _))
  | str z =>
    unfold Re at r1
    obtain ⟨rfl, hz⟩ := r1
    obtain ⟨t, rfl⟩ := rv
    have qq := q _ _ _ _ (sim_str (K := X.K) (H0 := H1) hz) sa1 k1 w1
    cases ha : z.cps.all (· < 128)
    · exact wpAny_pyIter_wide ha (pi_one (tk := s1.toks) I1 _ (turn_str _ z t "str_iterator" (.inr rfl)) ⟨_, Heap.get?_push_size _ rfl, rfl, rfl⟩ qq)
    · exact wpAny_pyIter_ascii ha (pi_one (tk := s1.toks) I1 _ (turn_str _ z t "str_ascii_iterator" (.inl rfl)) ⟨_, Heap.get?_push_size _ rfl, rfl, rfl⟩ qq)
  | ref p =>
    unfold Re at r1
    subst r1
    cases rv
    have w1 : itR (A1 p) p fun k => Qa k A1 := w1
    unfold itR at w1
    have go : ∀ vs, SqL X.K H1 p vs → ∀ J, J = Itl X.K p → R J H1 → wpAny (model X.prog X.w) X.A (pyIter (.ref p)) (PIE X pins σ tg R) X.xe s1 := by
      intro vs hq J hJ hR
      subst hJ
      obtain ⟨its, rv, pl, hz⟩ := I1.list hq
      refine wpAny_pyIter_list pl.isList ?_
      refine ⟨s1.heap.objs.size, [s1.heap.objs.size], _, _, H1, rfl, I1.kept (t' := s1.toks) fun b o e => Heap.get?_push_of_some _ e, turn_list p _, ⟨_, Heap.get?_push_size _ rfl, rfl, rfl⟩, fun b hb => ?_, hR⟩
      obtain rfl : b = s1.heap.objs.size := by simpa using hb
      exact I1.fpOk (Nat.le_refl _) (I1.hok.fresh (Nat.le_refl _))
    split at w1
    · rename_i xs he
      obtain ⟨vs, hv, rl⟩ := sa1 _ _ he
      exact go vs (.of hv) _ rfl (q _ _ _ _ sim_lst sa1 k1 w1)
    · rename_i xs he
      obtain ⟨vs, hv, rl⟩ := sa1 _ _ he
      exact go vs (.inl hv) _ rfl (q _ _ _ _ sim_rol sa1 k1 w1)
    · exact w1.elim
  | _ => exact w1.elim
def int1 : List Vl → Option Int
  | [.int n] => some n
  | _ => none
theorem int1_of {xs : List Vl} {n : Int} (h : int1 xs = some n) : xs = [.int n] := by
  unfold int1 at h
  split at h
  · cases h; rfl
  · cases h
def int2 : List Vl → Option (Int × Int)
  | [.int m, .int n] => some (m, n)
  | _ => none
theorem int2_of {xs : List Vl} {m n : Int} (h : int2 xs = some (m, n)) : xs = [.int m, .int n] := by
  unfold int2 at h
  split at h
  · cases h; rfl
  · cases h
theorem Rl.one {H : Hp} {x : Vl} {vs : List V} (h : Rl K H [x] vs) : ∃ v, vs = [v] ∧ Re K H x v := by
  obtain ⟨v, ws, rfl, r, t⟩ := h.cons_inv
  have := t.nil_inv; subst this
  exact ⟨v, rfl, r⟩
theorem Rl.two {H : Hp} {x y : Vl} {vs : List V} (h : Rl K H [x, y] vs) : ∃ v u, vs = [v, u] ∧ Re K H x v ∧ Re K H y u := by
  obtain ⟨v, ws, rfl, r, t⟩ := h.cons_inv
  obtain ⟨u, rfl, q⟩ := t.one
  exact ⟨v, u, rfl, r, q⟩
def rngOk (m n : Int) : Prop := -(2 ^ 62) ≤ m ∧ m < 2 ^ 62 ∧ -(2 ^ 62) ≤ n ∧ n < 2 ^ 62
def wiR1 (wa : WA) : WI := fun S A Q E => wa S A (fun xs A1 => ∃ n, int1 xs = some n ∧ rngOk 0 n ∧ Q ⟨rngL 0 n.toNat, fun _ => True⟩ A1) E
theorem ai_range1 {wa : WA} {p : Pos} (hg : Gl X "range") (hm : X.mg "range" = none) (ha : AA X W [a] wa) (hs : starEach [a] X.env = [(false, eval a X.env)] := by exact star1 rfl) : AI X W tg (.Call (.Name "range" p) [a] [] pos) (wiR1 wa) :=
  pi_imp (pi_range1 hg hm ha hs) fun σ H R ⟨S, A, Qa, Ea, ss, sa, q, qx, w⟩ => ⟨S, A, _, Ea, ss, sa, fun xs A1 vs H1 r1 sa1 k1 w1 => by
    obtain ⟨n, e, ⟨_, _, h1, h2⟩, w1⟩ := w1
    rw [int1_of e] at r1
    obtain ⟨v, rfl, r⟩ := r1.one
    unfold Re at r; subst r
    exact ⟨n, rfl, h1, h2, q _ _ _ _ sim_rng sa1 k1 w1⟩, qx, w⟩
def wiR2 (wa : WA) : WI := fun S A Q E => wa S A (fun xs A1 => ∃ m n, int2 xs = some (m, n) ∧ rngOk m n ∧ Q ⟨rngL m (n - m).toNat, fun _ => True⟩ A1) E
theorem ai_range2 {wa : WA} {p : Pos} (hg : Gl X "range") (hm : X.mg "range" = none) (ha : AA X W [a, b] wa) (hs : starEach [a, b] X.env = [(false, eval a X.env), (false, eval b X.env)] := by exact star2 rfl) (hs2 : starEach [b] X.env = [(false, eval b X.env)] := by exact star1 rfl) : AI X W tg (.Call (.Name "range" p) [a, b] [] pos) (wiR2 wa) :=
  pi_imp (pi_range2 hg hm ha hs hs2) fun σ H R ⟨S, A, Qa, Ea, ss, sa, q, qx, w⟩ => ⟨S, A, _, Ea, ss, sa, fun xs A1 vs H1 r1 sa1 k1 w1 => by
    obtain ⟨m, n, e, ho, w1⟩ := w1
    rw [int2_of e] at r1
    obtain ⟨v, u, rfl, r, r'⟩ := r1.two
    unfold Re at r r'; subst r; subst r'
    exact ⟨m, n, rfl, ho, q _ _ _ _ sim_rng sa1 k1 w1⟩, qx, w⟩

/-! ### targets; vs: the slots that they may store -/
abbrev WG := Vl → Sl → Ah → (Sl → Ah → Prop) → Prop
abbrev WGs := List Vl → Sl → Ah → (Sl → Ah → Prop) → Prop
def QG (K : PySem.W.Frag) (vs : List Nat) (σ : L2.St) (H : Hp) (Na : Sl → Ah → Prop) (N : L2.St → Hp → Prop) : Prop := ∀ S A' σ' H', SS K H' S σ' → SA K A' H' → Keep H H' → wipe σ' vs = wipe σ vs → Na S A' → N σ' H'
def LG (K : PySem.W.Frag) (vs : List Nat) (w : WG) : TG := fun v σ H Q => ∃ x S A Qa, Re K H x v ∧ SS K H S σ ∧ SA K A H ∧ QG K vs σ H Qa Q ∧ w x S A Qa
def LGs (K : PySem.W.Frag) (vs : List Nat) (w : WGs) : TGs := fun v σ H Q => ∃ x S A Qa, Rl K H x v ∧ SS K H S σ ∧ SA K A H ∧ QG K vs σ H Qa Q ∧ w x S A Qa
abbrev AG (X : Cx) (vs : List Nat) (tg : Expr) (w : WG) : Prop := PG X tg (LG X.K vs w)
abbrev AGs (X : Cx) (vs : List Nat) (tgs : List Expr) (w : WGs) : Prop := PGs X tgs (LGs X.K vs w)
theorem wipe_get {σ : L2.St} {j : Nat} : ∀ {vs : List Nat}, (wipe σ vs)[j]? = if j ∈ vs then (if j < σ.length then some none else none) else σ[j]?
  | [] => by simp [wipe]
  | v :: vs => by
    unfold wipe
    by_cases h : v = j
    · subst h
      simp only [List.mem_cons, true_or, if_true]
      by_cases hl : v < σ.length
      · rw [if_pos hl, List.getElem?_set_self (by rw [wipe_length]; exact hl)]
      · rw [if_neg hl, List.getElem?_eq_none (by rw [List.length_set, wipe_length]; omega)]
    · rw [List.getElem?_set_ne h, wipe_get]
      have : (j ∈ v :: vs) ↔ j ∈ vs := by simp [Ne.symm h]
      simp only [this]
theorem wipe_set {σ : L2.St} {i : Nat} {x : Option V} {vs : List Nat} (h : i ∈ vs) : wipe (σ.set i x) vs = wipe σ vs := by
  apply List.ext_getElem?
  intro j
  rw [wipe_get, wipe_get, List.length_set]
  by_cases hj : j ∈ vs
  · rw [if_pos hj, if_pos hj]
  · rw [if_neg hj, if_neg hj, List.getElem?_set_ne (fun z => hj (by rw [← z]; exact h))]
def wipeA (S : Sl) : List Nat → Sl
  | [] => S
  | v :: vs => (wipeA S vs).set v none
theorem SS.wipe {H : Hp} {S : Sl} {σ : L2.St} (s : SS K H S σ) : ∀ vs : List Nat, SS K H (wipeA S vs) (wipe σ vs)
  | [] => s
  | v :: vs => (s.wipe vs).setNone v
def gN (i : Nat) : WG := fun x S A Q => Q (S.set i (some x)) A
theorem pg_imp {t t' : TG} (h : PG X tg t) (i : ∀ v σ H Q, t' v σ H Q → t v σ H Q) : PG X tg t' := ⟨fun pins s σ H v u Q I r w => h.run pins s σ H v u Q I r (i _ _ _ _ w)⟩
theorem pgs_imp {t t' : TGs} (h : PGs X es t) (i : ∀ v σ H Q, t' v σ H Q → t v σ H Q) : PGs X es t' := ⟨fun pins s σ H v u Q I r w => h.run pins s σ H v u Q I r (i _ _ _ _ w)⟩
theorem ag_name {i : Nat} {x : Str} {vs : List Nat} (hN : X.N.Nodup) (hi : X.N[i]? = some x) (hx : Loc X.env.scope x) (hv : i ∈ vs) (hf : X.fn x = true ∨ X.env.scope.names.lookup x = some .local := by first | exact .inl rfl | exact .inr rfl | assumption) : AG X vs (.Name x pos) (gN i) :=
  pg_imp (pg_name hN hi hx hf) fun v σ H Q ⟨y, S, A, Qa, r, ss, sa, q, w⟩ => q _ _ _ _ (ss.set i r) sa .refl (wipe_set hv) w
def gNl : WGs := fun xs S A Q => xs = [] ∧ Q S A
def gCn (g : WG) (r : WGs) : WGs := fun xs S A Q => match xs with
  | x :: xs => g x S A fun S1 A1 => r xs S1 A1 Q
  | [] => False
theorem ags_nil {vs : List Nat} : AGs X vs [] gNl := pgs_imp pgs_nil fun v σ H Q ⟨xs, S, A, Qa, r, ss, sa, q, w⟩ => by
  obtain ⟨rfl, w⟩ := w
  exact ⟨r.nil_inv, q _ _ _ _ ss sa .refl rfl w⟩
theorem ags_cons {g : WG} {r : WGs} {vs : List Nat} (h1 : AG X vs e g) (h2 : AGs X vs es r) (hs : (assignEach (e :: es) X.env).map (·.2) = assign e X.env :: (assignEach es X.env).map (·.2) := by exact asgN rfl) : AGs X vs (e :: es) (gCn g r) :=
  pgs_imp (pgs_cons h1 h2 hs) fun v σ H Q ⟨xs, S, A, Qa, rl, ss, sa, q, w⟩ => by
    cases xs with
    | nil => exact w.elim
    | cons x xs =>
      obtain ⟨u, us, rfl, r1, rr⟩ := rl.cons_inv
      refine ⟨u, us, rfl, x, S, A, _, r1, ss, sa, fun S1 A1 σ1 H1 ss1 sa1 k1 hw w1 => ?_, w⟩
      exact ⟨xs, S1, A1, Qa, rr.keep k1, ss1, sa1, fun S2 A2 σ2 H2 ss2 sa2 k2 hw2 w2 => q _ _ _ _ ss2 sa2 (k1.trans k2) (hw2.trans hw) w2, w1⟩
def gT (n : Nat) (g : WGs) : WG := fun x S A Q => match x with
  | .tup xs => xs.length = n ∧ g xs S A Q
  | _ => False
theorem ag_tup {g : WGs} {vs : List Nat} {n k : Nat} (hc : X.calm = true) (h : AGs X vs es g) (hn : (assignEach es X.env).length = n := by exact asgLenOf rfl) (hst : (assignEach es X.env).findIdx? (·.1) = none := by exact asgIdx rfl) : AG X vs (.Tuple es k pos) (gT n g) :=
  pg_imp (pg_tup hc h hn hst) fun v σ H Q ⟨x, S, A, Qa, r, ss, sa, q, w⟩ => by
    cases x with
    | tup xs =>
      unfold Re at r
      obtain ⟨p, us, rfl, st, rl⟩ := r
      exact ⟨p, us, rfl, st, by rw [← rl.length]; exact w.1, xs, S, A, Qa, rl, ss, sa, q, w.2⟩
    | _ => exact w.elim
/-- o[i] = x, by values -/
abbrev F3 := Vl → Vl → Vl → Ah → (Ah → Prop) → Prop
def Sim3 (K : PySem.W.Frag) (t : TSet) (f : F3) : Prop := ∀ {x y z : Vl} {o i v : V} {A : Ah} {H : Hp} {Q : Hp → Prop} {Qa : Ah → Prop}, Re K H x o → Re K H y i → Re K H z v → SA K A H → (∀ A' H', SA K A' H' → Keep H H' → Qa A' → Q H') → f x y z A Qa → t o i v H Q
def noE : EX := fun _ _ => False
theorem noE_qx {H : Hp} {E : XK} : QX K H noE E := fun _ _ _ _ _ _ _ _ h => h.elim
def gS (f : F3) (wo wi : WE) : WG := fun z S A Q => wo S A (fun x A1 => wi S A1 (fun y A2 => f x y z A2 fun A3 => Q S A3) noE) noE
theorem ag_sub {t : TSet} {f : F3} {wo wi : WE} {i : Expr} {vs : List Nat} (hp : PSet X t) (hs : Sim3 X.K t f) (ho : AE X W o wo) (hi : AE X W i wi)
    (ha : ∀ v, assign (.Subscript o i pos) X.env v = (do
      let ov ← holding [v] (eval o X.env)
      let iv ← holding [v, ov] (eval i X.env)
      standAt pos
      holding [v, ov, iv] (setItem ov iv v)
      release [v, ov, iv] []) := by exact asgSub rfl) : AG X vs (.Subscript o i pos) (gS f wo wi) :=
  pg_imp (pg_sub ho hi hp ha) fun v σ H Q ⟨z, S, A, Qa, r, ss, sa, q, w⟩ => ⟨S, A, _, noE, ss, sa, fun x A1 u H1 r1 sa1 k1 w1 =>
    ⟨S, A1, _, noE, ss.keep k1, sa1, fun y A2 t H2 r2 sa2 k2 w2 => hs (r1.keep k2) r2 (r.keep (k1.trans k2)) sa2 (fun A3 H3 sa3 k3 w3 => q _ _ _ _ (ss.keep ((k1.trans k2).trans k3)) sa3 ((k1.trans k2).trans k3) rfl w3) w2, noE_qx, w1⟩, noE_qx, w⟩

/-! ### statements -/
variable {st : Stmt} {sts : List Stmt} {body orelse : List Stmt}
theorem ass_nil : ASs X W [] (fun D S A => D.nx S A) := pss_imp pss_nil fun D σ H ⟨S, A, Da, ss, sa, q, w⟩ => q.nx _ _ _ _ ss sa .refl w
def wSeq (w1 w2 : WS) : WS := fun D S A => w1 { D with nx := w2 D } S A
theorem ass_cons {w1 w2 : WS} (h1 : AS X W st w1) (h2 : ASs X W sts w2) : ASs X W (st :: sts) (wSeq w1 w2) :=
  pss_imp (pss_cons h1 h2) fun D σ H ⟨S, A, Da, ss, sa, q, w⟩ => ⟨S, A, { Da with nx := w2 Da }, ss, sa, ⟨fun S1 A1 σ1 H1 ss1 sa1 k1 w1 => ⟨S1, A1, Da, ss1, sa1, q.keep k1, w1⟩, q.rt, q.bk, q.ct, q.ex⟩, w⟩
theorem ass_one {w1 : WS} (h1 : AS X W st w1) : ASs X W [st] w1 := pss_one h1
theorem as_pass : AS X W (.Pass pos) (fun D S A => D.nx S A) := ps_imp ps_pass fun D σ H ⟨S, A, Da, ss, sa, q, w⟩ => q.nx _ _ _ _ ss sa .refl w
theorem as_break : AS X W (.Break pos) (fun D S A => D.bk S A) := ps_imp ps_break fun D σ H ⟨S, A, Da, ss, sa, q, w⟩ => q.bk _ _ _ _ ss sa .refl w
theorem as_continue : AS X W (.Continue pos) (fun D S A => D.ct S A) := ps_imp ps_continue fun D σ H ⟨S, A, Da, ss, sa, q, w⟩ => q.ct _ _ _ _ ss sa .refl w
def wEx (w : WE) : WS := fun D S A => w S A (fun _ A1 => D.nx S A1) (fun x A1 => D.ex x S A1)
theorem as_expr {w : WE} (h : AE X W e w) (hs : swapsWith e none pos.line X.env = pure false := by exact swapOf rfl) : AS X W (.Expr e pos) (wEx w) :=
  ps_imp (ps_expr h hs) fun D σ H ⟨S, A, Da, ss, sa, q, w⟩ => ⟨S, A, _, _, ss, sa, fun x A1 v H1 r1 sa1 k1 w1 => q.nx _ _ _ _ (ss.keep k1) sa1 k1 w1, q.ex.at ss, w⟩
def wRet (w : WE) : WS := fun D S A => w S A D.rt (fun x A1 => D.ex x S A1)
theorem as_ret {w : WE} (h : AE X W e w) : AS X W (.Return (some e) pos) (wRet w) :=
  ps_imp (ps_ret h) fun D σ H ⟨S, A, Da, ss, sa, q, w⟩ => ⟨S, A, _, _, ss, sa, q.rt, q.ex.at ss, w⟩
theorem as_retN : AS X W (.Return none pos) (fun D S A => D.rt .non A) := ps_imp ps_retN fun D σ H ⟨S, A, Da, ss, sa, q, w⟩ => q.rt _ _ _ _ (re_non _) sa .refl w
def wIfS (t : WT) (w1 w2 : WS) : WS := fun D S A => t S A (fun k A1 => if k = true then w1 D S A1 else w2 D S A1) (fun x A1 => D.ex x S A1)
theorem as_if {t : WT} {w1 w2 : WS} (ht : AT X W c t) (h1 : ASs X W body w1) (h2 : ASs X W orelse w2) : AS X W (.If c body orelse pos) (wIfS t w1 w2) :=
  ps_imp (ps_if ht h1 h2) fun D σ H ⟨S, A, Da, ss, sa, q, w⟩ => ⟨S, A, _, _, ss, sa, fun k A1 H1 sa1 k1 w1 => by
    cases k with
    | true => rw [if_pos rfl] at w1 ⊢; exact ⟨S, A1, Da, ss.keep k1, sa1, q.keep k1, w1⟩
    | false => rw [if_neg Bool.false_ne_true] at w1 ⊢; exact ⟨S, A1, Da, ss.keep k1, sa1, q.keep k1, w1⟩, q.ex.at ss, w⟩
def wAsg (w : WE) (g : WG) : WS := fun D S A => w S A (fun x A1 => g x S A1 D.nx) (fun x A1 => D.ex x S A1)
theorem ls_asg {w : WE} {g : WG} {vs : List Nat} {D : Ends} {σ : L2.St} {H : Hp} (h : LS K W (wAsg w g) D σ H) : tAsg (LE K W w) (LG K vs g) D σ H := by
  obtain ⟨S, A, Da, ss, sa, q, w⟩ := h
  exact ⟨S, A, _, _, ss, sa, fun x A1 v H1 r1 sa1 k1 w1 => ⟨x, S, A1, _, r1, ss.keep k1, sa1, fun S2 A2 σ2 H2 ss2 sa2 k2 _ w2 => q.nx _ _ _ _ ss2 sa2 (k1.trans k2) w2, w1⟩, q.ex.at ss, w⟩
theorem as_asg {w : WE} {g : WG} {vs : List Nat} (h : AE X W e w) (hg : AG X vs tg g) (hs : swapsWithSole [tg] e pos.line X.env = pure false := by exact swap1 rfl) (hw : swappedStores [tg] e X.env = pure none := by exact storesOf rfl)
    (h1 : (assignEach [tg] X.env).map (·.2) = [assign tg X.env] := by exact asg1 rfl) : AS X W (.Assign [tg] e pos) (wAsg w g) := ps_imp (ps_asg h hg hs hw h1) fun _ _ _ h => ls_asg h
theorem as_set {i : Nat} {x : Str} {w : WE} {pos' : Pos} (hN : X.N.Nodup) (hi : X.N[i]? = some x) (hx : Loc X.env.scope x) (h : AE X W e w) (hs : swapsWith e (some (.Name x pos')) pos.line X.env = pure false := by exact swapOf rfl) (hf : X.fn x = true ∨ X.env.scope.names.lookup x = some .local := by first | exact .inl rfl | exact .inr rfl | assumption) :
    AS X W (.Assign [.Name x pos'] e pos) (wAsg w (gN i)) :=
  ps_imp (ps_set hN hi hx h hs hf) fun D σ H ⟨S, A, Da, ss, sa, q, w⟩ => ⟨S, A, _, _, ss, sa, fun x A1 v H1 r1 sa1 k1 w1 => q.nx _ _ _ _ ((ss.keep k1).set i r1) sa1 k1 w1, q.ex.at ss, w⟩
/-- a, b = x, y -/
def wPar (i j : Nat) (wa : WA) : WS := fun D S A => wa S A (fun xs A1 => ∃ x y, xs = [x, y] ∧ D.nx ((S.set i (some x)).set j (some y)) A1) (fun x A1 => D.ex x S A1)
theorem as_par {i j : Nat} {x y : Str} {px py pt : Pos} {kt k2 pt2} {wa : WA} (hc : X.calm = true) (hN : X.N.Nodup) (hi : X.N[i]? = some x) (hj : X.N[j]? = some y) (hij : i ≠ j)
    (hx : X.env.scope.names.lookup x = some .local) (hy : X.env.scope.names.lookup y = some .local) (ha : AA X W [a, b] wa) (h : ∀ {t}, PA X [a, b] t → PS X (.Assign [.Tuple [.Name x px, .Name y py] kt pt] (.Tuple [a, b] k2 pt2) pos) (tPar i j t)) :
    AS X W (.Assign [.Tuple [.Name x px, .Name y py] kt pt] (.Tuple [a, b] k2 pt2) pos) (wPar i j wa) :=
  ps_imp (h ha) fun D σ H ⟨S, A, Da, ss, sa, q, w⟩ => ⟨S, A, _, _, ss, sa, fun xs A1 vs H1 r1 sa1 k1 w1 => by
    obtain ⟨x, y, rfl, w1⟩ := w1
    obtain ⟨v, u, rfl, r, r'⟩ := r1.two
    exact ⟨v, u, rfl, q.nx _ _ _ _ (((ss.keep k1).set i r).set j r') sa1 k1 w1⟩, q.ex.at ss, w⟩

/-! ### loops -/
def forL (ok : Ah → Prop) (g : WG) (w : WS) (D : Es) : List Vl → Sl → Ah → Prop
  | [], S, A => ok A ∧ D.nx S A
  | x :: xs, S, A => ok A ∧ g x S A fun S1 A1 => w { D with nx := forL ok g w D xs, ct := forL ok g w D xs, bk := D.nx } S1 A1
def wFor (wi : WI) (g : WG) (w : WS) : WS := fun D S A => wi S A (fun k A1 => forL k.ok g w D k.its S A1) (fun x A1 => D.ex x S A1)
theorem as_for {wi : WI} {g : WG} {w : WS} {vs : List Nat} (hp : PassesOwn (model X.prog X.w) X.A X.env X.xe) (hc : X.calm = true) (hi : AI X W tg iter wi) (hg : AG X vs tg g) (hb : ASs X W body w)
    (hs : ∀ x, foldedSetIterable iter X.env x = pure x := by exact foldOf rfl) : AS X W (.For tg iter body [] pos) (wFor wi g w) :=
  ps_imp (ps_for hp hc hi hg hb hs) fun D σ H ⟨S, A, Da, ss, sa, q, wv⟩ => ⟨S, A, _, _, ss, sa, fun k A1 J H1 sim sa1 k1 w1 => by
    refine ⟨fun i m σ' H' => m = k.its.length - i ∧ i ≤ k.its.length ∧ ∃ S' A', SS X.K H' S' σ' ∧ SA X.K A' H' ∧ Keep H1 H' ∧ forL k.ok g w Da (k.its.drop i) S' A', ⟨_, rfl, Nat.zero_le _, S, A1, ss.keep k1, sa1, .refl, w1⟩, ?_⟩
    rintro i m σ2 H2 ⟨rfl, hi, S2, A2, ss2, sa2, k2, w2⟩
    by_cases hlt : i < k.its.length
    · rw [List.drop_eq_getElem_cons hlt] at w2
      obtain ⟨ok2, w2⟩ := w2
      obtain ⟨_, go⟩ := sim i A2 H2 sa2 k2 ok2
      obtain ⟨go, yl⟩ := go k.its[i] (by simp [hlt])
      refine .inr ⟨go, fun σ' H' => ∃ S' A', SS X.K H' S' σ' ∧ SA X.K A' H' ∧ Keep H1 H' ∧ forL k.ok g w Da (k.its.drop (i + 1)) S' A', fun σ' H' ⟨S', A', h1, h2, h3, h4⟩ => ⟨k.its.length - (i + 1), by omega, rfl, hlt, S', A', h1, h2, h3, h4⟩, fun x H3 y3 => ?_⟩
      obtain ⟨k3, sa3, r3⟩ := yl x H3 y3
      refine ⟨_, S2, A2, _, r3, ss2.keep k3, sa3, fun S4 A4 σ4 H4 ss4 sa4 k4 _ w4 => ?_, w2⟩
      have kk : Keep H H4 := ((k1.trans k2).trans k3).trans k4
      have k14 : Keep H1 H4 := (k2.trans k3).trans k4
      exact ⟨S4, A4, { Da with nx := forL k.ok g w Da (k.its.drop (i + 1)), ct := forL k.ok g w Da (k.its.drop (i + 1)), bk := Da.nx }, ss4, sa4, ⟨fun S5 A5 σ5 H5 ss5 sa5 k5 w5 => ⟨S5, A5, ss5, sa5, k14.trans k5, w5⟩, q.rt.keep kk, q.nx.keep kk, fun S5 A5 σ5 H5 ss5 sa5 k5 w5 => ⟨S5, A5, ss5, sa5, k14.trans k5, w5⟩, q.ex.keep kk⟩, w4⟩
    · rw [List.drop_eq_nil_of_le (by omega)] at w2
      obtain ⟨ok2, w2⟩ := w2
      obtain ⟨stop, _⟩ := sim i A2 H2 sa2 k2 ok2
      exact .inl ⟨stop (by omega), q.nx _ _ _ _ ss2 sa2 (k1.trans k2) w2⟩, q.ex.at ss, wv⟩
def whN (t : WT) (w : WS) (D : Es) : Nat → Sl → Ah → Prop
  | 0, _, _ => False
  | n + 1, S, A => t S A (fun k A1 => if k = true then w { D with nx := whN t w D n, ct := whN t w D n, bk := D.nx } S A1 else D.nx S A1) (fun x A1 => D.ex x S A1)
def wWh (t : WT) (w : WS) : WS := fun D S A => ∃ n, whN t w D n S A
theorem as_while {t : WT} {w : WS} (hp : PassesOwn (model X.prog X.w) X.A X.env X.xe) (ht : AT X W c t) (hb : ASs X W body w) : AS X W (.While c body [] pos) (wWh t w) :=
  ps_imp (ps_while hp ht hb) fun D σ H ⟨S, A, Da, ss, sa, q, n, wv⟩ => by
    refine ⟨fun m σ' H' => ∃ S' A', SS X.K H' S' σ' ∧ SA X.K A' H' ∧ Keep H H' ∧ whN t w Da m S' A', ⟨n, S, A, ss, sa, .refl, wv⟩, ?_⟩
    rintro m σ2 H2 ⟨S2, A2, ss2, sa2, k2, w2⟩
    cases m with
    | zero => exact w2.elim
    | succ m =>
      refine ⟨S2, A2, _, _, ss2, sa2, fun b A3 H3 sa3 k3 w3 => ?_, (q.ex.keep k2).at ss2, w2⟩
      have k23 := k2.trans k3
      cases b with
      | true =>
        rw [if_pos rfl] at w3
        simp only [if_true]
        refine ⟨fun σ' H' => ∃ S' A', SS X.K H' S' σ' ∧ SA X.K A' H' ∧ Keep H H' ∧ whN t w Da m S' A', fun σ' H' h => ⟨m, Nat.lt_succ_self _, h⟩, S2, A3, { Da with nx := whN t w Da m, ct := whN t w Da m, bk := Da.nx }, ss2.keep k3, sa3, ⟨fun S5 A5 σ5 H5 ss5 sa5 k5 w5 => ⟨S5, A5, ss5, sa5, k23.trans k5, w5⟩, q.rt.keep k23, q.nx.keep k23, fun S5 A5 σ5 H5 ss5 sa5 k5 w5 => ⟨S5, A5, ss5, sa5, k23.trans k5, w5⟩, q.ex.keep k23⟩, w3⟩
      | false =>
        rw [if_neg Bool.false_ne_true] at w3
        simp only [Bool.false_eq_true, if_false]
        exact q.nx _ _ _ _ (ss2.keep k3) sa3 k23 w3

/-! ### comprehensions -/
abbrev noW : WX := fun _ _ _ _ => False
def lcL (ok : Ah → Prop) (g : WG) (t : WT) (w : WE) (S : Sl) (p : Addr) (Q : Ah → Prop) : List Vl → Ah → Prop
  | [], A => ok A ∧ Q A
  | x :: xs, A => ok A ∧ g x S A fun S1 A1 => t S1 A1 (fun b A2 => if b = true then w S1 A2 (fun y A3 => match A3 p with
      | some (.lst acc) => acc.length < sizeLine ∧ lcL ok g t w S p Q xs (put A3 p (.lst (acc ++ [y])))
      | _ => False) noE else lcL ok g t w S p Q xs A2) noE
def wLc (wi : WI) (g : WG) (t : WT) (w : WE) (vs : List Nat) : WE := fun S A Q E => wi S A (fun k A1 => ∀ p, A1 p = none → lcL k.ok g t w (wipeA S vs) p (fun A2 => Q (.ref p) A2) k.its (put A1 p (.lst []))) E
abbrev ATs (X : Cx) (W : WX) (ifs : List Expr) (t : WT) : Prop := PTs X ifs (LT X.K W t)
def wYes : WT := fun _ A Q _ => Q true A
theorem ats_nil : ATs X W [] wYes := ⟨fun pins s σ H Q I ⟨S, A, Qa, Ea, ss, sa, q, qx, w⟩ => pts_nil.run pins s σ H Q I (q _ _ _ sa .refl w)⟩
theorem ats_one {t : WT} (h : AT X W c t) : ATs X W [c] t := pts_one h
theorem le_lc {wi : WI} {g : WG} {t : WT} {w : WE} {vs : List Nat} {σ : L2.St} {H : Hp} {Q : VK} (h : LE K W (wLc wi g t w vs) σ H Q) : tLc (LI K W wi) (LG K vs g) (LT K noW t) (LE K noW w) vs σ H Q := by
  obtain ⟨S, A, Qa, Ea, ss, sa, q, qx, wv⟩ := h
  refine ⟨S, A, _, _, ss, sa, fun k A1 J H1 sim sa1 k1 w1 => ?_, qx, wv⟩
  intro D hD
  have sa0 : SA K (put A1 D (.lst [])) (upd H1 D (.lst [])) := sa1.new hD ⟨[], upd_same, .nil⟩
  have kD : Keep H1 (upd H1 D (.lst [])) := .new hD
  have w0 := w1 D (sa1.fresh hD)
  refine ⟨fun i m H' => m = k.its.length - i ∧ i ≤ k.its.length ∧ ∃ A', SA K A' H' ∧ Keep H1 H' ∧ lcL k.ok g t w (wipeA S vs) D (fun A2 => Qa (.ref D) A2) (k.its.drop i) A', ⟨_, rfl, Nat.zero_le _, _, sa0, kD, w0⟩, ?_⟩
  rintro i m H2 ⟨rfl, hi, A2, sa2, k2, w2⟩
  by_cases hlt : i < k.its.length
  · rw [List.drop_eq_getElem_cons hlt] at w2
    obtain ⟨ok2, w2⟩ := w2
    obtain ⟨_, go⟩ := sim i A2 H2 sa2 k2 ok2
    obtain ⟨go, yl⟩ := go k.its[i] (by simp [hlt])
    refine .inr ⟨go, fun H' => ∃ A', SA K A' H' ∧ Keep H1 H' ∧ lcL k.ok g t w (wipeA S vs) D (fun A2 => Qa (.ref D) A2) (k.its.drop (i + 1)) A', fun H' ⟨A', h2, h3, h4⟩ => ⟨k.its.length - (i + 1), by omega, rfl, hlt, A', h2, h3, h4⟩, fun x H3 y3 => ?_⟩
    obtain ⟨k3, sa3, r3⟩ := yl x H3 y3
    have k13 := k2.trans k3
    refine ⟨_, wipeA S vs, A2, _, r3, (ss.keep (k1.trans k13)).wipe vs, sa3, fun S4 A4 σ4 H4 ss4 sa4 k4 hw w4 => ?_, w2⟩
    have ww : wipe (wipe σ vs) vs = wipe σ vs := by
      apply List.ext_getElem?
      intro j
      by_cases hj : j ∈ vs <;> simp only [wipe_get, wipe_length, hj, if_true, if_false]
    refine ⟨hw.trans ww, S4, A4, _, noE, ss4, sa4, fun b A5 H5 sa5 k5 w5 => ?_, noE_qx, w4⟩
    have k15 := (k13.trans k4).trans k5
    cases b with
    | false =>
      rw [if_neg Bool.false_ne_true] at w5
      simp only [Bool.false_eq_true, if_false]
      exact ⟨A5, sa5, k15, w5⟩
    | true =>
      rw [if_pos rfl] at w5
      simp only [if_true]
      refine ⟨S4, A5, _, noE, ss4.keep k5, sa5, fun y A6 v H6 r6 sa6 k6 w6 => ?_, noE_qx, w5⟩
      revert w6
      cases hp : A6 D with
      | none => exact fun h => h.elim
      | some ob =>
        cases ob with
        | lst acc =>
          rintro ⟨hz, w6⟩
          obtain ⟨us, hu, rl⟩ := sa6 _ _ hp
          refine ⟨us, hu, by rw [← rl.length]; exact hz, _, ?_, ?_, w6⟩
          · exact sa6.write (by rw [hu]; trivial) ⟨us ++ [v], upd_same, (rl.append (.cons r6 .nil)).keep (.write (by rw [hu]; trivial))⟩
          · exact (k15.trans k6).trans (.write (by rw [hu]; trivial))
        | _ => exact fun h => h.elim
  · rw [List.drop_eq_nil_of_le (by omega)] at w2
    obtain ⟨ok2, w2⟩ := w2
    obtain ⟨stop, _⟩ := sim i A2 H2 sa2 k2 ok2
    exact .inl ⟨stop (by omega), q _ _ _ _ (re_ref _) sa2 (k1.trans k2) w2⟩
theorem ae_lc {ifs : List Expr} {scope : Scope} {own : List (Str × Nat)} {vs : List Nat} {wi : WI} {g : WG} {t : WT} {w : WE} (hc : X.calm = true) (hN : X.N.Nodup) (hi : AI X W tg iter wi) (ok : BlkOk X.N X.env.scope scope own)
    (hg : ∀ (s : Shared) (H : Hp) (C : Addr) (cl : List (Str × Addr)) (fp : List Addr), AG (X.blk s H scope (compEnvC scope cl C X.env) fp) vs tg g)
    (ht : ∀ (s : Shared) (H : Hp) (C : Addr) (cl : List (Str × Addr)) (fp : List Addr), ATs (X.blk s H scope (compEnvC scope cl C X.env) fp) noW ifs t)
    (he : ∀ (s : Shared) (H : Hp) (C : Addr) (cl : List (Str × Addr)) (fp : List Addr), AE (X.blk s H scope (compEnvC scope cl C X.env) fp) noW e w) (hvs : own.map (·.2) = vs := by rfl) (hs : ∀ x, foldedSetIterable iter X.env x = pure x := by exact foldOf rfl) :
    AE X W (.ListComp e [⟨tg, iter, ifs, 0⟩] scope pos) (wLc wi g t w vs) := by
  subst hvs
  exact pe_imp (pe_lc hc hN hi ok hg ht he hs) fun _ _ _ h => le_lc h
theorem as_setLc {i : Nat} {y : Str} {py spos : Pos} {ifs : List Expr} {scope : Scope} {own : List (Str × Nat)} {vs : List Nat} {wi : WI} {g : WG} {t : WT} {w : WE} (hc : X.calm = true) (hN : X.N.Nodup) (hy : X.N[i]? = some y) (hyl : X.env.scope.names.lookup y = some .local)
    (hsw : swapsWith (.ListComp e [⟨tg, iter, ifs, 0⟩] scope pos) (some (.Name y py)) spos.line X.env = pure true) (hi : AI X W tg iter wi) (ok : BlkOk X.N X.env.scope scope own)
    (hg : ∀ (s : Shared) (H : Hp) (C : Addr) (cl : List (Str × Addr)) (fp : List Addr), AG (X.blk s H scope (compEnvC scope cl C X.env) fp) vs tg g)
    (ht : ∀ (s : Shared) (H : Hp) (C : Addr) (cl : List (Str × Addr)) (fp : List Addr), ATs (X.blk s H scope (compEnvC scope cl C X.env) fp) noW ifs t)
    (he : ∀ (s : Shared) (H : Hp) (C : Addr) (cl : List (Str × Addr)) (fp : List Addr), AE (X.blk s H scope (compEnvC scope cl C X.env) fp) noW e w) (hvs : own.map (·.2) = vs := by rfl) (hs : ∀ x, foldedSetIterable iter X.env x = pure x := by exact foldOf rfl) :
    AS X W (.Assign [.Name y py] (.ListComp e [⟨tg, iter, ifs, 0⟩] scope pos) spos) (wAsg (wLc wi g t w vs) (gN i)) := by
  subst hvs
  exact ps_imp (ps_setLc hc hN hy hyl hsw hi ok hg ht he hs) fun D σ H ⟨S, A, Da, ss, sa, q, wv⟩ =>
    le_lc ⟨S, A, _, _, ss, sa, fun x A1 v H1 r1 sa1 k1 w1 => q.nx _ _ _ _ ((ss.keep k1).set i r1) sa1 k1 w1, q.ex.at ss, wv⟩
/-- a block's context -/
theorem Bd.blk {k : Nat} (B : Bd k X W) (s : Shared) (H : Hp) (scope : Scope) (cenv : Env) (fp : List Addr) : Bd k (X.blk s H scope cenv fp) noW :=
  ⟨B.room, B.gd, B.calm, B.nd, fun _ _ ⟨_, _, _, _, _, _, _, _, _, _, _, _, _, _, _, _, w⟩ => w.elim, PassesOwn.never⟩
end
end Rk

set_option Elab.async false
set_option linter.all false
set_option maxRecDepth 100000
set_option maxHeartbeats 400000
namespace Rk
open PySem PySem.Spec PyProof.Rows L2
section
variable {X : Cx} {W : WX} {a b c e o tg iter : Expr} {es : List Expr} {pos : Pos} {K : PySem.W.Frag}
/-! ### operators by plain values -/
def R2of (K : PySem.W.Frag) (f : F2) : R2 := fun v u H Q => ∃ x y A Qa, Re K H x v ∧ Re K H y u ∧ SA K A H ∧ QL K H Qa Q ∧ f x y A Qa
abbrev O2 (X : Cx) (fn : Value → Value → Sem Value) (f : F2) : Prop := OpR X fn (R2of X.K f)
theorem sim2 {f : F2} : Sim2 K (R2of K f) f := fun r1 r2 sa q w => ⟨_, _, _, _, r1, r2, sa, q, w⟩
def RCof (K : PySem.W.Frag) (f : FC) : List V → Hp → VK → Prop := fun vs H Q => ∃ xs A Qa, Rl K H xs vs ∧ SA K A H ∧ QL K H Qa Q ∧ f xs A Qa
abbrev OC (X : Cx) (fn : Value) (f : FC) : Prop := CallR X fn (RCof X.K f)
theorem simC {f : FC} : SimC K (RCof K f) f := fun r sa q w => ⟨_, _, _, r, sa, q, w⟩
theorem re_int_inv {H : Hp} {i : Int} {v : V} (h : Re K H (.int i) v) : v = .int i := by unfold Re at h; exact h
theorem re_bl_inv {H : Hp} {i : Bool} {v : V} (h : Re K H (.bl i) v) : v = .bl i := by unfold Re at h; exact h
theorem re_non_inv {H : Hp} {v : V} (h : Re K H .non v) : v = .non := by unfold Re at h; exact h
theorem re_ref_inv {H : Hp} {i : Addr} {v : V} (h : Re K H (.ref i) v) : v = .ref i := by unfold Re at h; exact h
theorem re_ty_inv {H : Hp} {i : String} {v : V} (h : Re K H (.ty i) v) : v = .ty i := by unfold Re at h; exact h
theorem re_str_inv {H : Hp} {i : Str} {v : V} (h : Re K H (.str i) v) : v = .str i ∧ okS i := by unfold Re at h; exact h
theorem re_tup_inv {H : Hp} {xs : List Vl} {v : V} (h : Re K H (.tup xs) v) : ∃ p vs, v = .ref p ∧ SqT K H p vs ∧ Rl K H xs vs := by unfold Re at h; exact h
/-- a list at an address, tracked -/
def lstA (A : Ah) (p : Addr) (P : List Vl → Prop) : Prop := match A p with
  | some (.lst xs) => P xs
  | _ => False
theorem lstA_of {A : Ah} {p : Addr} {P : List Vl → Prop} (h : lstA A p P) : ∃ xs, A p = some (.lst xs) ∧ P xs := by
  unfold lstA at h
  split at h
  · exact ⟨_, by assumption, h⟩
  · exact h.elim
/-- .. or read alone -/
def seqA (A : Ah) (p : Addr) (P : List Vl → Prop) : Prop := match A p with
  | some (.lst xs) => P xs
  | some (.rol xs) => P xs
  | _ => False
theorem seqA_of {A : Ah} {H : Hp} {p : Addr} {P : List Vl → Prop} (sa : SA K A H) (h : seqA A p P) : ∃ xs vs, SqL K H p vs ∧ Rl K H xs vs ∧ P xs := by
  unfold seqA at h
  split at h
  · rename_i xs he
    obtain ⟨vs, hv, rl⟩ := sa _ _ he
    exact ⟨xs, vs, .of hv, rl, h⟩
  · rename_i xs he
    obtain ⟨vs, hv, rl⟩ := sa _ _ he
    exact ⟨xs, vs, .inl hv, rl, h⟩
  · exact h.elim
theorem strOk_append {s t : Str} (h : PyData.strOk s = true) (g : PyData.strOk t = true) : PyData.strOk (s ++ t) = true := by
  unfold PyData.strOk at *
  have e : (s ++ t).cps = s.cps ++ t.cps := rfl
  rw [e, Array.all_append, h, g]; rfl
/-! a new list -/
theorem ql_lst {A : Ah} {H : Hp} {Qa : QE} {Q : VK} {xs : List Vl} {vs : List V} (q : QL K H Qa Q) (sa : SA K A H) (rl : Rl K H xs vs) (h : ∀ p, A p = none → Qa (.ref p) (put A p (.lst xs))) : ∀ p, H p = none → Q (.ref p) (upd H p (.lst vs)) :=
  fun p hp => q _ _ _ _ (re_ref _) (sa.new hp (obr_lst (.new hp) rl)) (.new hp) (h p (sa.fresh hp))
theorem ql_tup {A : Ah} {H : Hp} {Qa : QE} {Q : VK} {xs : List Vl} {vs : List V} (q : QL K H Qa Q) (sa : SA K A H) (rl : Rl K H xs vs) (h : Qa (.tup xs) A) : ∀ p, H p = none → Q (.ref p) (upd H p (.tup vs)) :=
  fun p hp => q _ _ _ _ (re_new hp rl) (sa.newU hp) (.new hp) h
/-- a list written -/
theorem ql_wr {A : Ah} {H : Hp} {p : Addr} {us : List V} {xs : List Vl} {vs : List V} (sa : SA K A H) (hu : H p = some (.lst us)) (rl : Rl K H xs vs) : SA K (put A p (.lst xs)) (upd H p (.lst vs)) ∧ Keep H (upd H p (.lst vs)) :=
  have k : Keep H (upd H p (.lst vs)) := .write (by rw [hu]; trivial)
  ⟨sa.write (by rw [hu]; trivial) ⟨vs, upd_same, rl.keep k⟩, k⟩
/-! ### + - * % // ** -/
def fAdd : F2 := fun x y A Q => match x, y with
  | .int i, .int j => Q (.int (i + j)) A
  | .str s, .str t => s.length + t.length ≤ sizeLine ∧ Q (.str (s ++ t)) A
  | .tup xs, .tup ys => xs.length + ys.length ≤ sizeLine ∧ Q (.tup (xs ++ ys)) A
  | .ref p, .ref q => lstA A p fun xs => lstA A q fun ys => xs.length + ys.length ≤ sizeLine ∧ ∀ r, A r = none → Q (.ref r) (put A r (.lst (xs ++ ys)))
  | _, _ => False
theorem o_add : O2 X (binaryOp .Add) fAdd := by
  intro pins s σ H v u vv uu Q I rv ru ⟨x, y, A, Qa, r1, r2, sa, q, w⟩
  cases x with
  | int i =>
    cases y with
    | int j =>
      cases re_int_inv r1; cases re_int_inv r2
      exact op_add pins s σ H _ _ _ _ Q I rv ru ⟨i, j, rfl, rfl, q _ _ _ _ (re_int _) sa .refl w⟩
    | _ => exact w.elim
  | str i =>
    cases y with
    | str j =>
      obtain ⟨rfl, g1⟩ := re_str_inv r1
      obtain ⟨rfl, g2⟩ := re_str_inv r2
      exact op_add_str pins s σ H _ _ _ _ Q I rv ru ⟨i, j, rfl, rfl, w.1, q _ _ _ _ (re_str ⟨by rw [Str.length_append]; exact w.1, strOk_append g1.2 g2.2⟩ _) sa .refl w.2⟩
    | _ => exact w.elim
  | tup xs =>
    cases y with
    | tup ys =>
      obtain ⟨p, vs, rfl, s1, l1⟩ := re_tup_inv r1
      obtain ⟨p2, us, rfl, s2, l2⟩ := re_tup_inv r2
      refine op_catA pins s σ H _ _ _ _ Q I rv ru ⟨p, p2, vs, us, rfl, rfl, s1, s2, by rw [← l1.length, ← l2.length]; exact w.1, fun e => ?_, fun _ e => ?_, fun _ _ => ql_tup q sa (l1.append l2) w.2⟩
      · subst e
        have := l1.length
        have e2 : xs = [] := by cases xs with | nil => rfl | cons _ _ => simp at this
        subst e2
        exact q _ _ _ _ r2 sa .refl w.2
      · subst e
        have := l2.length
        have e2 : ys = [] := by cases ys with | nil => rfl | cons _ _ => simp at this
        subst e2
        exact q _ _ _ _ r1 sa .refl (by have := w.2; rwa [List.append_nil] at this)
    | _ => exact w.elim
  | ref p =>
    cases y with
    | ref p2 =>
      cases re_ref_inv r1; cases re_ref_inv r2
      obtain ⟨xs, h1, w⟩ := lstA_of w
      obtain ⟨ys, h2, w⟩ := lstA_of w
      obtain ⟨vs, g1, l1⟩ := sa _ _ h1
      obtain ⟨us, g2, l2⟩ := sa _ _ h2
      exact op_cat pins s σ H _ _ _ _ Q I rv ru ⟨p, p2, vs, us, rfl, rfl, g1, g2, by rw [← l1.length, ← l2.length]; exact w.1, ql_lst q sa (l1.append l2) w.2⟩
    | _ => exact w.elim
  | _ => exact w.elim
/-- two ints -/
def fI (C : Int → Int → Prop) (g : Int → Int → Vl) : F2 := fun x y A Q => match x, y with
  | .int i, .int j => C i j ∧ Q (g i j) A
  | _, _ => False
theorem o_I {fn : Value → Value → Sem Value} {C : Int → Int → Prop} {g : Int → Int → Vl} {gv : Int → Int → V} (h : OpR X fn (rI C gv)) (r : ∀ i j H, Re X.K H (g i j) (gv i j)) : O2 X fn (fI C g) := by
  intro pins s σ H v u vv uu Q I rv ru ⟨x, y, A, Qa, r1, r2, sa, q, w⟩
  cases x with
  | int i =>
    cases y with
    | int j =>
      cases re_int_inv r1; cases re_int_inv r2
      exact h pins s σ H _ _ _ _ Q I rv ru ⟨i, j, rfl, rfl, w.1, q _ _ _ _ (r i j _) sa .refl w.2⟩
    | _ => exact w.elim
  | _ => exact w.elim
theorem o_I0 {fn : Value → Value → Sem Value} {g : Int → Int → Vl} {gv : Int → Int → V} (h : OpR X fn (rI0 gv)) (r : ∀ i j H, Re X.K H (g i j) (gv i j)) : O2 X fn (fI (fun _ _ => True) g) := by
  intro pins s σ H v u vv uu Q I rv ru ⟨x, y, A, Qa, r1, r2, sa, q, w⟩
  cases x with
  | int i =>
    cases y with
    | int j =>
      cases re_int_inv r1; cases re_int_inv r2
      exact h pins s σ H _ _ _ _ Q I rv ru ⟨i, j, rfl, rfl, q _ _ _ _ (r i j _) sa .refl w.2⟩
    | _ => exact w.elim
  | _ => exact w.elim
def fSub : F2 := fI (fun _ _ => True) fun i j => .int (i - j)
theorem o_sub : O2 X (binaryOp .Sub) fSub := o_I0 op_sub fun _ _ H => re_int H
def fMod : F2 := fI (fun _ j => 0 < j) fun i j => .int (i % j)
theorem o_mod : O2 X (binaryOp .Mod) fMod := o_I op_mod fun _ _ H => re_int H
def fDiv : F2 := fI CDiv fun i j => .int (i / j)
theorem o_div : O2 X (binaryOp .FloorDiv) fDiv := o_I op_fdiv fun _ _ H => re_int H
def fPow : F2 := fI CPow fun i j => .int (i ^ j.toNat)
theorem o_pow : O2 X (binaryOp .Pow) fPow := o_I op_pow fun _ _ H => re_int H
def fMul : F2 := fun x y A Q => match x, y with
  | .int i, .int j => CMul i j ∧ Q (.int (i * j)) A
  | .ref p, .int k => lstA A p fun xs => (0 ≤ k ∧ k < 2 ^ 63 ∧ xs.length * k.toNat ≤ sizeLine) ∧ ∀ r, A r = none → Q (.ref r) (put A r (.lst (List.replicate k.toNat xs).flatten))
  | _, _ => False
theorem Rl.rep {H : Hp} {xs : List Vl} {vs : List V} (h : Rl K H xs vs) : ∀ k : Nat, Rl K H (List.replicate k xs).flatten (List.replicate k vs).flatten
  | 0 => by simp; exact .nil
  | k + 1 => by simpa [List.replicate_succ] using h.append (h.rep k)
/-! ### comparisons of ints and texts -/
def fLt : F2 := fun x y A Q => match x, y with
  | .int i, .int j => Q (.bl (decide (i < j))) A
  | .str s, .str t => Q (.bl (decide (s.cps.toList < t.cps.toList))) A
  | _, _ => False
def fLe : F2 := fun x y A Q => match x, y with
  | .int i, .int j => Q (.bl (decide (i ≤ j))) A
  | .str s, .str t => Q (.bl (!decide (t.cps.toList < s.cps.toList))) A
  | _, _ => False
def fGt : F2 := fun x y A Q => match x, y with
  | .int i, .int j => Q (.bl (decide (j < i))) A
  | .str s, .str t => Q (.bl (decide (t.cps.toList < s.cps.toList))) A
  | _, _ => False
def fGe : F2 := fun x y A Q => match x, y with
  | .int i, .int j => Q (.bl (decide (j ≤ i))) A
  | .str s, .str t => Q (.bl (!decide (s.cps.toList < t.cps.toList))) A
  | _, _ => False
theorem o_lt : O2 X (compareOp .Lt) fLt := by
  intro pins s σ H v u vv uu Q I rv ru ⟨x, y, A, Qa, r1, r2, sa, q, w⟩
  cases x <;> cases y <;> first
    | exact w.elim
    | (cases re_int_inv r1; cases re_int_inv r2; exact op_lt pins s σ H _ _ _ _ Q I rv ru ⟨_, _, rfl, rfl, q _ _ _ _ (re_bl _) sa .refl w⟩)
    | (obtain ⟨rfl, _⟩ := re_str_inv r1; obtain ⟨rfl, _⟩ := re_str_inv r2; exact op_lt_str pins s σ H _ _ _ _ Q I rv ru ⟨_, _, rfl, rfl, q _ _ _ _ (re_bl _) sa .refl w⟩)
theorem o_le : O2 X (compareOp .LtE) fLe := by
  intro pins s σ H v u vv uu Q I rv ru ⟨x, y, A, Qa, r1, r2, sa, q, w⟩
  cases x <;> cases y <;> first
    | exact w.elim
    | (cases re_int_inv r1; cases re_int_inv r2; exact op_le pins s σ H _ _ _ _ Q I rv ru ⟨_, _, rfl, rfl, q _ _ _ _ (re_bl _) sa .refl w⟩)
    | (obtain ⟨rfl, _⟩ := re_str_inv r1; obtain ⟨rfl, _⟩ := re_str_inv r2; exact op_le_str pins s σ H _ _ _ _ Q I rv ru ⟨_, _, rfl, rfl, q _ _ _ _ (re_bl _) sa .refl w⟩)
theorem o_gt : O2 X (compareOp .Gt) fGt := by
  intro pins s σ H v u vv uu Q I rv ru ⟨x, y, A, Qa, r1, r2, sa, q, w⟩
  cases x <;> cases y <;> first
    | exact w.elim
    | (cases re_int_inv r1; cases re_int_inv r2; exact op_gt pins s σ H _ _ _ _ Q I rv ru ⟨_, _, rfl, rfl, q _ _ _ _ (re_bl _) sa .refl w⟩)
    | (obtain ⟨rfl, _⟩ := re_str_inv r1; obtain ⟨rfl, _⟩ := re_str_inv r2; exact op_gt_str pins s σ H _ _ _ _ Q I rv ru ⟨_, _, rfl, rfl, q _ _ _ _ (re_bl _) sa .refl w⟩)
theorem o_ge : O2 X (compareOp .GtE) fGe := by
  intro pins s σ H v u vv uu Q I rv ru ⟨x, y, A, Qa, r1, r2, sa, q, w⟩
  cases x <;> cases y <;> first
    | exact w.elim
    | (cases re_int_inv r1; cases re_int_inv r2; exact op_ge pins s σ H _ _ _ _ Q I rv ru ⟨_, _, rfl, rfl, q _ _ _ _ (re_bl _) sa .refl w⟩)
    | (obtain ⟨rfl, _⟩ := re_str_inv r1; obtain ⟨rfl, _⟩ := re_str_inv r2; exact op_ge_str pins s σ H _ _ _ _ Q I rv ru ⟨_, _, rfl, rfl, q _ _ _ _ (re_bl _) sa .refl w⟩)
theorem o_mul : O2 X (binaryOp .Mult) fMul := by
  intro pins s σ H v u vv uu Q I rv ru ⟨x, y, A, Qa, r1, r2, sa, q, w⟩
  cases x with
  | int i =>
    cases y with
    | int j =>
      cases re_int_inv r1; cases re_int_inv r2
      exact op_mul pins s σ H _ _ _ _ Q I rv ru ⟨i, j, rfl, rfl, w.1, q _ _ _ _ (re_int _) sa .refl w.2⟩
    | _ => exact w.elim
  | ref p =>
    cases y with
    | int k =>
      cases re_ref_inv r1; cases re_int_inv r2
      obtain ⟨xs, h1, ⟨k0, k1, hz⟩, w⟩ := lstA_of w
      obtain ⟨vs, g1, l1⟩ := sa _ _ h1
      exact op_rep pins s σ H _ _ _ _ Q I rv ru ⟨p, k, vs, rfl, rfl, g1, by omega, k1, by rw [← l1.length]; exact hz, ql_lst q sa (l1.rep _) w⟩
    | _ => exact w.elim
  | _ => exact w.elim
/-! ### is None -/
def isNon : Vl → Bool
  | .non => true
  | _ => false
def fIsN (neg : Bool) : F2 := fun x y A Q => match y with
  | .non => Q (.bl (neg != isNon x)) A
  | _ => False
theorem is_non {H : Hp} {x : Vl} {v : V} (r : Re K H x v) : decide (v = V.non) = isNon x := by
  cases x <;> first
    | (cases re_non_inv r; rfl)
    | (cases re_bl_inv r; rfl)
    | (cases re_int_inv r; rfl)
    | (cases re_ref_inv r; rfl)
    | (cases re_ty_inv r; rfl)
    | (obtain ⟨rfl, _⟩ := re_str_inv r; rfl)
    | (obtain ⟨p, vs, rfl, _⟩ := re_tup_inv r; rfl)
theorem o_is : O2 X (compareOp .Is) (fIsN false) := by
  intro pins s σ H v u vv uu Q I rv ru ⟨x, y, A, Qa, r1, r2, sa, q, w⟩
  cases y with
  | non =>
    cases re_non_inv r2
    refine op_isN pins s σ H _ _ _ _ Q I rv ru ⟨rfl, q _ _ _ _ (re_bl _) sa .refl ?_⟩
    rw [is_non r1]
    simpa [fIsN] using w
  | _ => exact w.elim
theorem o_isnot : O2 X (compareOp .IsNot) (fIsN true) := by
  intro pins s σ H v u vv uu Q I rv ru ⟨x, y, A, Qa, r1, r2, sa, q, w⟩
  cases y with
  | non =>
    cases re_non_inv r2
    refine op_notN pins s σ H _ _ _ _ Q I rv ru ⟨rfl, q _ _ _ _ (re_bl _) sa .refl ?_⟩
    rw [is_non r1]
    simpa [fIsN] using w
  | _ => exact w.elim
/-! ### unary minus -/
def fNeg : Vl → Ah → QE → Prop := fun x A Q => match x with
  | .int i => Q (.int (-i)) A
  | _ => False
theorem s_neg : Sim1 K (rU fun i => V.int (-i)) fNeg := fun {x v A H Q Qa} r sa q w => by
  cases x with
  | int i => cases re_int_inv r; exact ⟨i, rfl, q _ _ _ _ (re_int _) sa .refl w⟩
  | _ => exact w.elim
/-! ### subscripts -/
abbrev OI (X : Cx) (f : F2) : Prop := IxR X (R2of X.K f)
def fIx : F2 := fun x y A Q => match x, y with
  | .tup xs, .int i => ∃ z, atI xs i = some z ∧ Q z A
  | .ref p, .int i => seqA A p fun xs => ∃ z, atI xs i = some z ∧ Q z A
  | .str s, .int i => ∃ c, atI s.cps.toList i = some c ∧ Q (.str ⟨#[c]⟩) A
  | _, _ => False
theorem Rl.atI {H : Hp} {xs : List Vl} {vs : List V} {i : Int} {z : Vl} (h : Rl K H xs vs) (e : L2.atI xs i = some z) : ∃ v, L2.atI vs i = some v ∧ Re K H z v := by
  unfold L2.atI at e ⊢
  rw [← h.length]
  cases hi : ixN xs.length i with
  | none => rw [hi] at e; cases e
  | some j =>
    rw [hi] at e
    exact h.get (i := j) e
theorem o_ix : OI X fIx := by
  intro va sl pins s σ H v u vv uu Q I rv ru ⟨x, y, A, Qa, r1, r2, sa, q, w⟩ hs
  cases x with
  | tup xs =>
    cases y with
    | int i =>
      cases re_int_inv r2
      obtain ⟨p, vs, rfl, st, rl⟩ := re_tup_inv r1
      obtain ⟨z, hz, w⟩ := w
      obtain ⟨t, ht, rt⟩ := rl.atI hz
      exact ix_tup va sl pins s σ H _ _ _ _ Q I rv ru ⟨p, vs, i, t, rfl, rfl, st, ht, q _ _ _ _ rt sa .refl w⟩ hs
    | _ => exact w.elim
  | ref p =>
    cases y with
    | int i =>
      cases re_int_inv r2; cases re_ref_inv r1
      obtain ⟨xs, vs, sq, rl, z, hz, w⟩ := seqA_of sa w
      obtain ⟨t, ht, rt⟩ := rl.atI hz
      exact ix_list va sl pins s σ H _ _ _ _ Q I rv ru ⟨p, vs, i, t, rfl, rfl, sq, ht, q _ _ _ _ rt sa .refl w⟩ hs
    | _ => exact w.elim
  | str z =>
    cases y with
    | int i =>
      cases re_int_inv r2
      obtain ⟨rfl, g⟩ := re_str_inv r1
      obtain ⟨k, hk, w⟩ := w
      refine ix_str va sl pins s σ H _ _ _ _ Q I rv ru ⟨z, i, k, rfl, rfl, g.1, hk, q _ _ _ _ (re_str (okS_sign g ?_) _) sa .refl w⟩ hs
      unfold L2.atI at hk
      cases hi : ixN z.cps.toList.length i with
      | none => rw [hi] at hk; cases hk
      | some j => rw [hi] at hk; exact List.mem_of_getElem? hk
    | _ => exact w.elim
  | _ => exact w.elim
/-- xs[i] = z -/
def fSet : F3 := fun x y z A Q => match x, y with
  | .ref p, .int k => lstA A p fun xs => ∃ j, ixN xs.length k = some j ∧ Q (put A p (.lst (xs.set j z)))
  | _, _ => False
theorem s_set : Sim3 K rSetL fSet := fun {x y z o i v A H Q Qa} r1 r2 r3 sa q w => by
  cases x with
  | ref p =>
    cases y with
    | int k =>
      cases re_int_inv r2; cases re_ref_inv r1
      obtain ⟨xs, h1, j, hj, w⟩ := lstA_of w
      obtain ⟨vs, g1, l1⟩ := sa _ _ h1
      obtain ⟨s2, k2⟩ := ql_wr sa g1 (l1.set r3 j)
      exact ⟨p, vs, k, j, rfl, rfl, g1, by rw [← l1.length]; exact hj, q _ _ s2 k2 w⟩
    | _ => exact w.elim
  | _ => exact w.elim
end
end Rk

set_option Elab.async false
set_option linter.all false
set_option maxRecDepth 100000
set_option maxHeartbeats 400000
namespace Rk
open PySem PySem.Spec PyProof.Rows L2
/-! ### values as data -/
def dats (f : Vl → Option PyData) : List Vl → Option (List PyData)
  | [] => some []
  | x :: xs => match f x, dats f xs with
    | some d, some ds => some (d :: ds)
    | _, _ => none
def datR (f : List Vl → Option (List PyData)) : Option Ob → Option PyData
  | some (.lst xs) => (f xs).map .list
  | some (.rol xs) => (f xs).map .list
  | some (.dct []) => some (.dict [])
  | _ => none
def dat : Nat → Ah → Vl → Option PyData
  | 0, _, _ => none
  | n + 1, A, v => match v with
    | .non => some .none
    | .bl b => some (.bool b)
    | .int i => some (.int i)
    | .str s => some (.str s)
    | .tup xs => (dats (dat n A) xs).map .tuple
    | .ref p => datR (dats (dat n A)) (A p)
    | .ty _ => none
/-! what stands there as data, empty dicts too -/
mutual
inductive Dq (K : PySem.W.Frag) (H : Hp) : Nat → V → PyData → Prop
  | non {n : Nat} : Dq K H n .non .none
  | bl {n : Nat} (b : Bool) : Dq K H n (.bl b) (.bool b)
  | int {n : Nat} (i : Int) : Dq K H n (.int i) (.int i)
  | str {n : Nat} (x : Str) : PyData.strOk x = true → Dq K H n (.str x) (.str x)
  | lst {n : Nat} {a : Addr} {xs : List V} {ds : List PyData} : SqL K H a xs → Dqs K H n xs ds → Dq K H (n + 1) (.ref a) (.list ds)
  | tup {n : Nat} {a : Addr} {xs : List V} {ds : List PyData} : SqT K H a xs → Dqs K H n xs ds → Dq K H (n + 1) (.ref a) (.tuple ds)
  | dct {n : Nat} {a : Addr} : (H a = some (.dK []) ∨ H a = some (.dT [])) → Dq K H (n + 1) (.ref a) (.dict [])
inductive Dqs (K : PySem.W.Frag) (H : Hp) : Nat → List V → List PyData → Prop
  | nil {n : Nat} : Dqs K H n [] []
  | cons {n : Nat} {v : V} {vs : List V} {d : PyData} {ds : List PyData} : Dq K H n v d → Dqs K H n vs ds → Dqs K H n (v :: vs) (d :: ds)
end
mutual
/-- no list within -/
def noList : PyData → Bool
  | .list _ => false
  | .tuple ds => noLists ds
  | _ => true
def noLists : List PyData → Bool
  | [] => true
  | d :: ds => noList d && noLists ds
end
section
variable {K : PySem.W.Frag} {A : Ah} {H : Hp}
theorem dats_ok {n : Nat} {f : Vl → Option PyData} (hf : ∀ x d v, f x = some d → Re K H x v → Dq K H n v d) : ∀ {xs : List Vl} {ds : List PyData} {vs : List V}, dats f xs = some ds → Rl K H xs vs → Dqs K H n vs ds
  | [], _, _, e, r => by cases e; rw [r.nil_inv]; exact .nil
  | x :: xs, _, _, e, r => by
    obtain ⟨v, ws, rfl, r1, r2⟩ := r.cons_inv
    unfold dats at e
    split at e
    · rename_i d ds h1 h2
      cases e
      exact .cons (hf _ _ _ h1 r1) (dats_ok hf h2 r2)
    · cases e
theorem dat_ok (sa : SA K A H) : ∀ {n : Nat} {x : Vl} {d : PyData} {v : V}, dat n A x = some d → Re K H x v → Dq K H n v d
  | 0, _, _, _, e, _ => by cases e
  | n + 1, x, d, v, e, r => by
    cases x with
    | non => cases e; cases re_non_inv r; exact .non
    | bl b => cases e; cases re_bl_inv r; exact .bl b
    | int i => cases e; cases re_int_inv r; exact .int i
    | str s => cases e; obtain ⟨rfl, g⟩ := re_str_inv r; exact .str s g.2
    | ty n => cases e
    | tup xs =>
      obtain ⟨p, vs, rfl, st, rl⟩ := re_tup_inv r
      have e : (dats (dat n A) xs).map .tuple = some d := e
      cases h : dats (dat n A) xs with
      | none => rw [h] at e; cases e
      | some ds =>
        rw [h] at e; cases e
        exact .tup st (dats_ok (fun _ _ _ a b => dat_ok sa a b) h rl)
    | ref p =>
      cases re_ref_inv r
      have e : datR (dats (dat n A)) (A p) = some d := e
      unfold datR at e
      split at e
      · rename_i xs hp
        obtain ⟨vs, hv, rl⟩ := sa _ _ hp
        cases h : dats (dat n A) xs with
        | none => rw [h] at e; cases e
        | some ds => rw [h] at e; cases e; exact .lst (.of hv) (dats_ok (fun _ _ _ a b => dat_ok sa a b) h rl)
      · rename_i xs hp
        obtain ⟨vs, hv, rl⟩ := sa _ _ hp
        cases h : dats (dat n A) xs with
        | none => rw [h] at e; cases e
        | some ds => rw [h] at e; cases e; exact .lst (.inl hv) (dats_ok (fun _ _ _ a b => dat_ok sa a b) h rl)
      · rename_i hp
        cases e
        obtain ⟨o, ho, dc⟩ := sa _ _ hp
        rcases dc with ⟨kk, rfl, r⟩ | ⟨kk, rfl, r⟩
        · have : kk = [] := r
          subst this
          exact .dct (.inl ho)
        · have : kk = [] := r
          subst this
          exact .dct (.inr ho)
      · cases e
end
mutual
theorem Dq.depth {K : PySem.W.Frag} {H : Hp} : ∀ (d : PyData) (n : Nat) (v : V), Dq K H n v d → d.depth ≤ n
  | .none, _, _, _ => by simp [PyData.depth]
  | .bool _, _, _, _ => by simp [PyData.depth]
  | .int _, _, _, _ => by simp [PyData.depth]
  | .str _, _, _, _ => by simp [PyData.depth]
  | .list ds, _, _, h => by cases h with | lst _ hp => simp only [PyData.depth]; exact Nat.succ_le_succ (Dq.depthAll ds _ _ hp)
  | .tuple ds, _, _, h => by cases h with | tup _ hp => simp only [PyData.depth]; exact Nat.succ_le_succ (Dq.depthAll ds _ _ hp)
  | .dict _, _, _, h => by cases h; simp [PyData.depth, PyData.depthKv]
theorem Dq.depthAll {K : PySem.W.Frag} {H : Hp} : ∀ (ds : List PyData) (n : Nat) (vs : List V), Dqs K H n vs ds → PyData.depthAll ds ≤ n
  | [], _, _, _ => by simp [PyData.depthAll]
  | d :: ds, n, _, h => by cases h with | cons h1 h2 => simp only [PyData.depthAll]; exact Nat.max_le.mpr ⟨Dq.depth d n _ h1, Dq.depthAll ds n _ h2⟩
end
mutual
theorem Dq.lay {K : PySem.W.Frag} {H : Hp} : ∀ (d : PyData) (n : Nat) (v : V), Dq K H n v d → d.hasDict = false → d.canLay0 = true
  | .none, _, _, _, _ => by simp [PyData.canLay0]
  | .bool _, _, _, _, _ => by simp [PyData.canLay0]
  | .int _, _, _, _, _ => by simp [PyData.canLay0]
  | .str _, _, _, h, _ => by cases h with | str _ g => simpa [PyData.canLay0] using g
  | .list ds, _, _, h, e => by cases h with | lst _ hp => simp only [PyData.canLay0]; exact Dq.layAll ds _ _ hp (by simpa [PyData.hasDict] using e)
  | .tuple ds, _, _, h, e => by cases h with | tup _ hp => simp only [PyData.canLay0]; exact Dq.layAll ds _ _ hp (by simpa [PyData.hasDict] using e)
  | .dict _, _, _, _, e => by simp [PyData.hasDict] at e
theorem Dq.layAll {K : PySem.W.Frag} {H : Hp} : ∀ (ds : List PyData) (n : Nat) (vs : List V), Dqs K H n vs ds → PyData.hasDictAll ds = false → PyData.canLayAll0 ds = true
  | [], _, _, _, _ => by simp [PyData.canLayAll0]
  | d :: ds, n, _, h, e => by
    cases h with
    | cons h1 h2 =>
      simp only [PyData.hasDictAll, Bool.or_eq_false_iff] at e
      simp only [PyData.canLayAll0, Bool.and_eq_true]
      exact ⟨Dq.lay d n _ h1 e.1, Dq.layAll ds n _ h2 e.2⟩
end
section
variable {X : Cx} {pins : List (Addr × Obj)} {σ : L2.St} {H : Hp} {s : Shared}
mutual
theorem Dq.reads (I : Inv X pins σ H s) : ∀ (d : PyData) (n : Nat) (v : V) (u : Value), Dq X.K H n v d → RelV v u → ∃ as, Reads s.heap u d as ∧ (noList d = true → sysModules ∉ as)
  | .none, _, _, _, h, r => by cases h; cases r; exact ⟨_, Reads.none, by simp⟩
  | .bool b, _, _, _, h, r => by cases h; cases r; exact ⟨_, Reads.bool b, by simp⟩
  | .int i, _, _, _, h, r => by cases h; obtain ⟨t, rfl⟩ := r; exact ⟨_, Reads.int i t, by simp⟩
  | .str x, _, _, _, h, r => by cases h; obtain ⟨t, rfl⟩ := r; exact ⟨_, Reads.str x t, by simp⟩
  | .list ds, _, _, _, h, r => by
    cases h with
    | lst hs ha =>
      cases r
      obtain ⟨its, rv, ⟨o, n, ho, hc, _, hd⟩, _⟩ := I.list hs
      obtain ⟨as, hr, hno⟩ := Dq.readsAll I ds _ _ its ha rv
      exact ⟨_, Reads.list ho hc hd hr, fun z => by unfold noList at z; cases z⟩
  | .tuple ds, _, _, _, h, r => by
    cases h with
    | tup hs ha =>
      cases r
      obtain ⟨its, rv, ⟨o, ho, hc, n, hd⟩, _⟩ := I.tuple hs
      obtain ⟨as, hr, hno⟩ := Dq.readsAll I ds _ _ its ha rv
      exact ⟨_, Reads.tuple ho hc hd hr, fun z => hno (by unfold noList at z; exact z)⟩
  | .dict _, _, _, _, h, r => by
    cases h with
    | dct hk =>
      cases r
      rcases hk with hk | hk
      · obtain ⟨_, hm, vs, kv, o, es, ep, ho, hc, hd, _, he, _⟩ := I.hok _ _ hk
        cases kv
        have e0 : es.toList = [] := by
          cases hz : es.toList with
          | nil => rfl
          | cons a b => rw [hz] at he; cases he
        refine ⟨_, Reads.dict ho hc.1 hd (by rw [e0]; exact ReadsAll.nil) (by rw [e0]; exact ReadsAll.nil), fun _ => by simpa using fun z => (beq_eq_false_iff_ne.mp hm) z.symm⟩
      · obtain ⟨_, hm, xs, kv, o, es, ep, ho, hc, hd, he, _⟩ := I.hok _ _ hk
        cases kv
        have e0 : es.toList = [] := he
        refine ⟨_, Reads.dict ho hc.1 hd (by rw [e0]; exact ReadsAll.nil) (by rw [e0]; exact ReadsAll.nil), fun _ => by simpa using fun z => (beq_eq_false_iff_ne.mp hm) z.symm⟩
theorem Dq.readsAll (I : Inv X pins σ H s) : ∀ (ds : List PyData) (n : Nat) (vs : List V) (us : List Value), Dqs X.K H n vs ds → Vals vs us → ∃ as, ReadsAll s.heap us ds as ∧ (noLists ds = true → sysModules ∉ as)
  | [], _, _, _, h, r => by cases h; cases r; exact ⟨_, ReadsAll.nil, by simp⟩
  | d :: ds, _, _, _, h, r => by
    cases h with
    | cons h1 h2 =>
      cases r with
      | cons r1 r2 =>
        obtain ⟨as, q1, n1⟩ := Dq.reads I d _ _ _ h1 r1
        obtain ⟨bs, q2, n2⟩ := Dq.readsAll I ds _ _ _ h2 r2
        refine ⟨_, ReadsAll.cons q1 q2, fun z => ?_⟩
        unfold noLists at z
        rw [Bool.and_eq_true] at z
        rw [List.mem_append]
        exact fun h => h.elim (n1 z.1) (n2 z.2)
end
/-! ### == and != -/
def fEq (neg : Bool) : F2 := fun x y A Q => ∃ d e, dat 12 A x = some d ∧ dat 12 A y = some e ∧ d.hasDict = false ∧ e.hasDict = false ∧ Q (.bl (neg != PyData.eqv d e)) A
theorem shaped_of {K : PySem.W.Frag} {H : Hp} {d : PyData} {v : V} (h : Dq K H 12 v d) (e : d.hasDict = false) : SeqAt.shaped d = true := by
  unfold SeqAt.shaped
  rw [Dq.lay d _ _ h e, Bool.true_and]
  have := Dq.depth d _ _ h
  exact decide_eq_true (by omega)
theorem o_eq (hu : X.A.units + 64 < cLine) : O2 X (compareOp .Eq) (fEq false) := by
  intro pins s σ H v u vv uu Q I rv ru ⟨x, y, A, Qa, r1, r2, sa, q, d, e, hd, he, nd, ne, w⟩
  have h1 := dat_ok sa hd r1
  have h2 := dat_ok sa he r2
  obtain ⟨as, k1, _⟩ := Dq.reads I d _ _ _ h1 rv
  obtain ⟨bs, k2, _⟩ := Dq.reads I e _ _ _ h2 ru
  exact SeqAt.compareEq_shaped k1 k2 (shaped_of h1 nd) (shaped_of h2 ne) hu ⟨.bl _, H, I, rfl, q _ _ _ _ (re_bl _) sa .refl (by simpa using w)⟩
theorem o_ne (hu : X.A.units + 64 < cLine) : O2 X (compareOp .NotEq) (fEq true) := by
  intro pins s σ H v u vv uu Q I rv ru ⟨x, y, A, Qa, r1, r2, sa, q, d, e, hd, he, nd, ne, w⟩
  have h1 := dat_ok sa hd r1
  have h2 := dat_ok sa he r2
  obtain ⟨as, k1, _⟩ := Dq.reads I d _ _ _ h1 rv
  obtain ⟨bs, k2, _⟩ := Dq.reads I e _ _ _ h2 ru
  exact SeqAt.compareNe_shaped k1 k2 (shaped_of h1 nd) (shaped_of h2 ne) hu ⟨.bl _, H, I, rfl, q _ _ _ _ (re_bl _) sa .refl (by simpa using w)⟩
/-! ### repr -/
def fRepr : FC := fun xs A Q => ∃ x d, xs = [x] ∧ dat 12 A x = some d ∧ (d.hasDict = false ∨ noList d = true) ∧ d.showable = true ∧ okS d.shown ∧ Q (.str d.shown) A
theorem o_repr (hg : X.A.guards = some []) (hu : X.A.units + 64 < cLine) : OC X (.builtin "repr") fRepr := by
  intro pins s σ H vs us Q I r ⟨xs, A, Qa, rl, sa, q, x, d, hx, hd, hl, hs, hz, w⟩
  subst hx
  obtain ⟨v, rfl, rx⟩ := rl.one
  obtain ⟨u, rfl, ru⟩ := vals1 r
  have h1 := dat_ok sa hd rx
  obtain ⟨as, k1, hno⟩ := Dq.reads I d _ _ _ h1 ru
  have dp := Dq.depth d _ _ h1
  have qq : ∀ (h' : Heap) (t : Tok) (tk : Nat), (∀ b o, s.heap.get? b = some o → h'.get? b = some o) → EP X pins σ Q (.str d.shown t) { s with heap := h', toks := tk } := fun h' t tk hk =>
    ⟨.str _, H, I.kept (t' := tk) hk, ⟨_, rfl⟩, q _ _ _ _ (re_str hz _) sa .refl w⟩
  cases u with
  | ref a =>
    refine repr_of_reads' k1 hs (fun z => ?_) hg (by omega) (fun _ _ h => h) (fun h' t tk hk => qq h' t tk hk) hz.1
    rcases hl with e | e
    · rw [e] at z; cases z
    · exact hno e
  | none => cases k1; exact PySem.P.repr_of_none (qq s.heap _ _ fun _ _ h => h)
  | bool b => cases k1; exact PySem.P.repr_of_bool (qq s.heap _ _ fun _ _ h => h)
  | int i t => cases k1; exact PySem.P.repr_of_int (by simpa [PyData.showable] using hs) (qq s.heap _ _ fun _ _ h => h)
  | str x t => cases k1; exact PySem.P.repr_of_str (qq s.heap _ _ fun _ _ h => h) hz.1
  | _ => cases k1
end
end Rk

set_option Elab.async false
set_option linter.all false
set_option maxRecDepth 100000
set_option maxHeartbeats 400000
namespace Rk
open PySem PySem.Spec PyProof.Rows L2
section
variable {X : Cx} {W : WX} {a b c e o tg iter : Expr} {es : List Expr} {pos : Pos} {K : PySem.W.Frag}
/-! ### built-ins by plain values -/
def lenA (A : Ah) (x : Vl) (P : Int → Prop) : Prop := match x with
  | .str s => P s.length
  | .tup xs => P xs.length
  | .ref p => (match A p with
    | some (.lst xs) => P xs.length
    | some (.rol xs) => P xs.length
    | _ => False)
  | _ => False
def fLen : FC := fun xs A Q => match xs with
  | [x] => lenA A x fun n => Q (.int n) A
  | _ => False
theorem fc1 {f : Vl → Ah → QE → Prop} {xs : List Vl} {A : Ah} {Q : QE} (h : (match xs with | [x] => f x A Q | _ => False)) : ∃ x, xs = [x] ∧ f x A Q := by
  split at h
  · exact ⟨_, rfl, h⟩
  · exact h.elim
theorem o_len : OC X (.builtin "len") fLen := by
  intro pins s σ H vs us Q I r ⟨xs, A, Qa, rl, sa, q, w⟩
  obtain ⟨x, rfl, w⟩ := fc1 (f := fun x A Q => lenA A x fun n => Q (.int n) A) w
  obtain ⟨v, rfl, rx⟩ := rl.one
  cases x with
  | str z =>
    obtain ⟨rfl, g⟩ := re_str_inv rx
    exact call_len pins s σ H _ us Q I r ⟨.str z, z.length, rfl, ⟨g.1, rfl⟩, q _ _ _ _ (re_int _) sa .refl w⟩
  | tup ys =>
    obtain ⟨p, ws, rfl, st, l⟩ := re_tup_inv rx
    exact call_len pins s σ H _ us Q I r ⟨.ref p, ws.length, rfl, .inr ⟨ws, st, rfl⟩, q _ _ _ _ (re_int _) sa .refl (by rw [← l.length]; exact w)⟩
  | ref p =>
    cases re_ref_inv rx
    have w : (match A p with
      | some (.lst xs) => Qa (.int xs.length) A
      | some (.rol xs) => Qa (.int xs.length) A
      | _ => False) := w
    split at w
    · rename_i ys he
      obtain ⟨ws, hv, l⟩ := sa _ _ he
      exact call_len pins s σ H _ us Q I r ⟨.ref p, ws.length, rfl, .inl ⟨ws, .of hv, rfl⟩, q _ _ _ _ (re_int _) sa .refl (by rw [← l.length]; exact w)⟩
    · rename_i ys he
      obtain ⟨ws, hv, l⟩ := sa _ _ he
      exact call_len pins s σ H _ us Q I r ⟨.ref p, ws.length, rfl, .inl ⟨ws, .inl hv, rfl⟩, q _ _ _ _ (re_int _) sa .refl (by rw [← l.length]; exact w)⟩
    · exact w.elim
  | _ => exact w.elim
def fAbs : FC := fun xs A Q => ∃ n, int1 xs = some n ∧ Q (.int (if n < 0 then -n else n)) A
theorem o_abs : OC X (.builtin "abs") fAbs := by
  intro pins s σ H vs us Q I r ⟨xs, A, Qa, rl, sa, q, n, e, w⟩
  rw [int1_of e] at rl
  obtain ⟨v, rfl, rx⟩ := rl.one
  cases re_int_inv rx
  exact call_abs pins s σ H _ us Q I r ⟨n, rfl, q _ _ _ _ (re_int _) sa .refl w⟩
/-- two ints -/
def fC2 (g : Int → Int → Int) : FC := fun xs A Q => ∃ m n, int2 xs = some (m, n) ∧ Q (.int (g m n)) A
def fMax : FC := fC2 fun i j => if j > i then j else i
def fMin : FC := fC2 fun i j => if j < i then j else i
theorem o_max (hc : X.calm = true) : OC X (.builtin "max") fMax := by
  intro pins s σ H vs us Q I r ⟨xs, A, Qa, rl, sa, q, m, n, e, w⟩
  rw [int2_of e] at rl
  obtain ⟨v, u, rfl, rx, ry⟩ := rl.two
  cases re_int_inv rx; cases re_int_inv ry
  exact call_max2 hc pins s σ H _ us Q I r ⟨m, n, rfl, q _ _ _ _ (re_int _) sa .refl w⟩
theorem o_min (hc : X.calm = true) : OC X (.builtin "min") fMin := by
  intro pins s σ H vs us Q I r ⟨xs, A, Qa, rl, sa, q, m, n, e, w⟩
  rw [int2_of e] at rl
  obtain ⟨v, u, rfl, rx, ry⟩ := rl.two
  cases re_int_inv rx; cases re_int_inv ry
  exact call_min2 hc pins s σ H _ us Q I r ⟨m, n, rfl, q _ _ _ _ (re_int _) sa .refl w⟩
def fDivmod : FC := fun xs A Q => ∃ m n, int2 xs = some (m, n) ∧ CDiv m n ∧ Q (.tup [.int (m / n), .int (m % n)]) A
theorem o_divmod : OC X (.builtin "divmod") fDivmod := by
  intro pins s σ H vs us Q I r ⟨xs, A, Qa, rl, sa, q, m, n, e, hc, w⟩
  rw [int2_of e] at rl
  obtain ⟨v, u, rfl, rx, ry⟩ := rl.two
  cases re_int_inv rx; cases re_int_inv ry
  exact call_divmod pins s σ H _ us Q I r ⟨m, n, rfl, hc, ql_tup q sa (.cons (re_int _) (.cons (re_int _) .nil)) w⟩
/-- a list of bools -/
def bls (xs : List Vl) : Option (List Bool) := match xs with
  | [] => some []
  | .bl b :: r => (bls r).map (b :: ·)
  | _ => none
theorem bls_of {H : Hp} : ∀ {xs : List Vl} {bs : List Bool} {vs : List V}, bls xs = some bs → Rl K H xs vs → vs = bs.map V.bl
  | [], _, _, e, r => by cases e; rw [r.nil_inv]; rfl
  | x :: xs, bs, vs, e, r => by
    obtain ⟨v, ws, rfl, r1, r2⟩ := r.cons_inv
    cases x with
    | bl b =>
      have e : (bls xs).map (b :: ·) = some bs := e
      cases h : bls xs with
      | none => rw [h] at e; cases e
      | some cs => rw [h] at e; cases e; cases re_bl_inv r1; rw [bls_of h r2]; rfl
    | _ => cases e
def fAll : FC := fun xs A Q => match xs with
  | [.ref p] => seqA A p fun xs => ∃ bs, bls xs = some bs ∧ Q (.bl (bs.all id)) A
  | _ => False
def fAny : FC := fun xs A Q => match xs with
  | [.ref p] => seqA A p fun xs => ∃ bs, bls xs = some bs ∧ Q (.bl (bs.any id)) A
  | _ => False
theorem fc_ref {P : Addr → Prop} {xs : List Vl} (h : (match xs with | [.ref p] => P p | _ => False)) : ∃ p, xs = [.ref p] ∧ P p := by
  split at h
  · exact ⟨_, rfl, h⟩
  · exact h.elim
theorem o_all (hc : X.calm = true) : OC X (.builtin "all") fAll := by
  intro pins s σ H vs us Q I r ⟨xs, A, Qa, rl, sa, q, w⟩
  obtain ⟨p, rfl, w⟩ := fc_ref (P := fun p => seqA A p fun xs => ∃ bs, bls xs = some bs ∧ Qa (.bl (bs.all id)) A) w
  obtain ⟨v, rfl, rx⟩ := rl.one
  cases re_ref_inv rx
  obtain ⟨ys, ws, sq, l, bs, hb, w⟩ := seqA_of sa w
  rw [bls_of hb l] at sq
  exact cr_all hc pins s σ H _ us Q I r ⟨p, bs, rfl, sq, q _ _ _ _ (re_bl _) sa .refl w⟩
theorem o_any (hc : X.calm = true) : OC X (.builtin "any") fAny := by
  intro pins s σ H vs us Q I r ⟨xs, A, Qa, rl, sa, q, w⟩
  obtain ⟨p, rfl, w⟩ := fc_ref (P := fun p => seqA A p fun xs => ∃ bs, bls xs = some bs ∧ Qa (.bl (bs.any id)) A) w
  obtain ⟨v, rfl, rx⟩ := rl.one
  cases re_ref_inv rx
  obtain ⟨ys, ws, sq, l, bs, hb, w⟩ := seqA_of sa w
  rw [bls_of hb l] at sq
  exact cr_any hc pins s σ H _ us Q I r ⟨p, bs, rfl, sq, q _ _ _ _ (re_bl _) sa .refl w⟩
/-! ### isinstance of built-in classes -/
inductive Kd | non | bl | int | str | tup | lst | dct
  deriving DecidableEq
def Kd.n : Kd → String
  | .non => "NoneType" | .bl => "bool" | .int => "int" | .str => "str" | .tup => "tuple" | .lst => "list" | .dct => "dict"
def kdOf : String → Option Kd
  | "bool" => some .bl | "int" => some .int | "str" => some .str | "tuple" => some .tup | "list" => some .lst | "dict" => some .dct | _ => none
def Kd.sub : Kd → Kd → Bool
  | .bl, .int => true
  | a, b => decide (a = b)
theorem kit_kd : ∀ (x y : Kd), y ≠ .non → kitB x.n y.n = some (x.sub y) := by
  intro x y h
  cases x <;> cases y <;> first | exact absurd rfl h | decide +kernel
theorem kdOf_n {n : String} {y : Kd} (h : kdOf n = some y) : n = y.n ∧ y ≠ .non := by
  unfold kdOf at h
  split at h <;> cases h <;> exact ⟨rfl, by decide⟩
def kdR : Option Ob → Option Kd
  | some (.lst _) => some .lst
  | some (.rol _) => some .lst
  | some (.dct _) => some .dct
  | some (.lok _) => none
  | _ => none
def kd (A : Ah) : Vl → Option Kd
  | .non => some .non | .bl _ => some .bl | .int _ => some .int | .str _ => some .str | .tup _ => some .tup
  | .ref p => kdR (A p)
  | .ty _ => none
theorem kd_ok {A : Ah} {H : Hp} {x : Vl} {v : V} {y : Kd} (sa : SA K A H) (r : Re K H x v) (h : kd A x = some y) : TyX K H v (.type y.n) := by
  cases x with
  | non => cases h; cases re_non_inv r; exact .base .non
  | bl b => cases h; cases re_bl_inv r; exact .base (.bl b)
  | int b => cases h; cases re_int_inv r; exact .base (.int b)
  | str b => cases h; obtain ⟨rfl, _⟩ := re_str_inv r; exact .base (.str b)
  | ty n => cases h
  | tup xs =>
    cases h
    obtain ⟨p, vs, rfl, st, _⟩ := re_tup_inv r
    rcases st with (st | ⟨o, st⟩) | ⟨o, its, n, hk, hc, _⟩
    · exact .base (.tup st)
    · exact .fTuple st
    · exact .kTuple hk hc
  | ref p =>
    cases re_ref_inv r
    have h : kdR (A p) = some y := h
    unfold kdR at h
    split at h <;> cases h
    · rename_i he
      obtain ⟨vs, hv, _⟩ := sa _ _ he
      exact .base (.lst hv)
    · rename_i he
      obtain ⟨vs, hv, _⟩ := sa _ _ he
      rcases hv with hv | ⟨o, hv⟩
      · exact .base (.lst hv)
      · exact .base (.frz hv)
    · rename_i he
      obtain ⟨ob, ho, dc⟩ := sa _ _ he
      rcases dc with ⟨kk, rfl, _⟩ | ⟨kk, rfl, _⟩
      · exact .base (.dK ho)
      · exact .base (.dT ho)
def subAny (y : Kd) : List Vl → Option Bool
  | [] => some false
  | .ty n :: r => match kdOf n, subAny y r with
    | some z, some b => some (y.sub z || b)
    | _, _ => none
  | _ => none
def fIsi : FC := fun xs A Q => ∃ x y, kd A x = some y ∧ ((∃ n z, xs = [x, .ty n] ∧ kdOf n = some z ∧ Q (.bl (y.sub z)) A) ∨ ∃ cs k, xs = [x, .tup cs] ∧ subAny y cs = some k ∧ Q (.bl k) A)
theorem subAny_ok {H : Hp} {y : Kd} : ∀ {cs : List Vl} {vs : List V} {us : List Value} {k : Bool}, subAny y cs = some k → Rl K H cs vs → Vals vs us → PySem.W.kitAny K (.type y.n) us = some k
  | [], _, _, _, e, r, q => by cases e; have := r.nil_inv; subst this; cases q; rfl
  | x :: cs, _, _, _, e, r, q => by
    obtain ⟨v, ws, rfl, r1, r2⟩ := r.cons_inv
    cases q with
    | cons q1 q2 =>
      cases x with
      | ty n =>
        unfold subAny at e
        split at e
        · rename_i z b hz hb
          cases e
          cases re_ty_inv r1
          cases q1
          obtain ⟨rfl, hn⟩ := kdOf_n hz
          refine kitAny_cons (kit_ty (kit_kd y z hn)) (fun h => ?_) (fun h => by rw [h]; rfl)
          rw [subAny_ok hb r2 q2, h]; rfl
        · cases e
      | _ => cases e
theorem o_isi : OC X (.builtin "isinstance") fIsi := by
  intro pins s σ H vs us Q I r ⟨xs, A, Qa, rl, sa, q, x, y, hk, w⟩
  rcases w with ⟨n, z, rfl, hz, w⟩ | ⟨cs, k, rfl, hs, w⟩
  · obtain ⟨v, u, rfl, rx, ry⟩ := rl.two
    cases re_ty_inv ry
    obtain ⟨rfl, hn⟩ := kdOf_n hz
    exact call_isi pins s σ H _ us Q I r ⟨v, .ty z.n, .type y.n, .type z.n, y.sub z, rfl, .ty _, kd_ok sa rx hk, kit_ty (kit_kd y z hn), q _ _ _ _ (re_bl _) sa .refl w⟩
  · obtain ⟨v, u, rfl, rx, ry⟩ := rl.two
    obtain ⟨tp, ws, rfl, st, l⟩ := re_tup_inv ry
    obtain ⟨u1, u2, rfl, q1, q2⟩ := vals2 r
    cases (show u2 = Value.ref tp from q2)
    obtain ⟨P, Z, pp, hx⟩ := kit_of I q1 (kd_ok sa rx hk)
    obtain ⟨its, rv, ⟨ob, h1, h2, n, h3⟩, _⟩ := I.tuple st
    obtain ⟨oc, od, dt, sl⟩ := ob
    simp only at h2 h3
    subst h2 h3
    exact PySem.W.kia_tup Z I.kIn pp h1 (subAny_ok hs l rv) hx fun tk => ⟨.bl k, H, I.tok tk, rfl, q _ _ _ _ (re_bl _) sa .refl w⟩
/-! ### list(..), tuple(..) -/
def fList : FC := fun xs A Q => match xs with
  | [.tup ys] => ∀ p, A p = none → Q (.ref p) (put A p (.lst ys))
  | [.ref p] => seqA A p fun ys => ∀ p, A p = none → Q (.ref p) (put A p (.lst ys))
  | _ => False
theorem o_list : OC X (.type "list") fList := by
  intro pins s σ H vs us Q I r ⟨xs, A, Qa, rl, sa, q, w⟩
  unfold fList at w
  split at w
  · obtain ⟨v, rfl, rx⟩ := rl.one
    obtain ⟨p, ws, rfl, st, l⟩ := re_tup_inv rx
    exact call_list_of pins s σ H _ us Q I r ⟨p, ws, rfl, .inr st, ql_lst q sa l w⟩
  · obtain ⟨v, rfl, rx⟩ := rl.one
    cases re_ref_inv rx
    obtain ⟨ys, ws, sq, l, w⟩ := seqA_of sa w
    exact call_list_of pins s σ H _ us Q I r ⟨_, ws, rfl, .inl sq, ql_lst q sa l w⟩
  · exact w.elim
def fTupO : FC := fun xs A Q => match xs with
  | [.tup ys] => Q (.tup ys) A
  | [.ref p] => seqA A p fun ys => Q (.tup ys) A
  | _ => False
theorem o_tuple : OC X (.type "tuple") fTupO := by
  intro pins s σ H vs us Q I r ⟨xs, A, Qa, rl, sa, q, w⟩
  unfold fTupO at w
  split at w
  · obtain ⟨v, rfl, rx⟩ := rl.one
    obtain ⟨p, ws, rfl, st, l⟩ := re_tup_inv rx
    exact call_tuple_of pins s σ H _ us Q I r ⟨p, ws, rfl, .inr ⟨st, q _ _ _ _ rx sa .refl w⟩⟩
  · obtain ⟨v, rfl, rx⟩ := rl.one
    cases re_ref_inv rx
    obtain ⟨ys, ws, sq, l, w⟩ := seqA_of sa w
    exact call_tuple_of pins s σ H _ us Q I r ⟨_, ws, rfl, .inl ⟨sq, ql_tup q sa l w⟩⟩
  · exact w.elim
/-! ### methods of built-in types: chosen by the receiver's kind -/
def kdM (A : Ah) : Vl → Option Kd
  | .str _ => some .str
  | .ref p => kdR (A p)
  | _ => none
/-- what a method of the type does -/
structure Mt (X : Cx) (k : Kd) (name : Str) (f : Vl → List Vl → Ah → QE → Prop) : Prop where
  ex : ∃ id, PlainAttrs k.n ∧ Slot k.n name id ∧ typeOf (.builtin id) = pure (.type "method_descriptor") ∧ MtR X id (fun v vs H Q => ∃ x xs A Qa, Re X.K H x v ∧ Rl X.K H xs vs ∧ SA X.K A H ∧ QL X.K H Qa Q ∧ kdM A x = some k ∧ f x xs A Qa)
theorem kdM_is {pins : List (Addr × Obj)} {σ : L2.St} {H : Hp} {s : Shared} {A : Ah} {x : Vl} {v : V} {u : Value} {k : Kd} (I : Inv X pins σ H s) (sa : SA X.K A H) (r : Re X.K H x v) (rv : RelV v u) (h : kdM A x = some k) :
    s.TypeIs u k.n ∧ ∀ a, u = .ref a → ∃ ob, s.heap.get? a = some ob ∧ ob.dict = none := by
  cases x with
  | str z =>
    cases h
    obtain ⟨rfl, _⟩ := re_str_inv r
    obtain ⟨t, rfl⟩ := rv
    exact ⟨typeIs_str s z t, fun _ e => nomatch e⟩
  | ref p =>
    cases re_ref_inv r
    cases rv
    have h : kdR (A p) = some k := h
    unfold kdR at h
    split at h <;> cases h
    · rename_i he
      obtain ⟨vs, hv, _⟩ := sa _ _ he
      exact tyV_is (x := .ref p) I rfl (.inl ⟨rfl, vs, .of hv⟩)
    · rename_i he
      obtain ⟨vs, hv, _⟩ := sa _ _ he
      exact tyV_is (x := .ref p) I rfl (.inl ⟨rfl, vs, .inl hv⟩)
    · rename_i he
      obtain ⟨ob, ho, dc⟩ := sa _ _ he
      rcases dc with ⟨kk, rfl, _⟩ | ⟨kk, rfl, _⟩
      · exact tyV_is (x := .ref p) I rfl (.inr (.inr (.inl ⟨rfl, .inl ⟨_, ho⟩⟩)))
      · exact tyV_is (x := .ref p) I rfl (.inr (.inr (.inl ⟨rfl, .inr ⟨_, ho⟩⟩)))
  | _ => cases h
def wMt (fs : Kd → Option (Vl → List Vl → Ah → QE → Prop)) (wo : WE) (wa : WA) : WE := fun S A Q E => wo S A (fun x A1 => ∃ k f, kdM A1 x = some k ∧ fs k = some f ∧ wa S A1 (fun xs A2 => kdM A2 x = some k ∧ f x xs A2 Q) E) E
theorem ae_mt0 {name : Str} {apos : Pos} {fs : Kd → Option (Vl → List Vl → Ah → QE → Prop)} {wo : WE} (hm : ∀ k f, fs k = some f → Mt X k name f) (ho : AE X W o wo)
    (hbase : attributeBase o name X.env (eval o X.env) = eval o X.env := by exact baseOf rfl) (hline : (apos.endLine == pos.line) = true := by rfl) : AE X W (.Call (.Attribute o name apos) [] [] pos) (wMt fs wo wNil) := by
  refine ⟨fun pins s σ H Q I ⟨S, A, Qa, Ea, ss, sa, q, qx, w⟩ => ?_⟩
  refine wpAny_Call_method0_late hbase hline (thn (ho.run pins s σ H (fun v H1 => ∃ x A1, Re X.K H1 x v ∧ SA X.K A1 H1 ∧ Keep H H1 ∧ ∃ k f, kdM A1 x = some k ∧ fs k = some f ∧ (kdM A1 x = some k ∧ f x [] A1 Qa)) I
    ⟨S, A, _, Ea, ss, sa, fun x A1 v H1 r1 sa1 k1 w1 => ⟨x, A1, r1, sa1, k1, w1⟩, qx, w⟩) fun v s1 ⟨y, H1, I1, rv, x, A1, r1, sa1, k1, k, f, hk, hf, _, w1⟩ => ?_)
  obtain ⟨id, pa, slot, ty, m⟩ := (hm k f hf).ex
  obtain ⟨h1, h2⟩ := kdM_is I1 sa1 r1 rv hk
  exact ⟨k.n, id, pa, slot, ty, h1, h2, Calls.callWith_builtin rfl (PySem.evalArgs_none (m pins s1 σ H1 y [] v [] Q I1 rv .nil ⟨x, [], A1, Qa, r1, .nil, sa1, q.keep k1, hk, w1⟩))⟩
theorem ae_mt {name : Str} {apos : Pos} {fs : Kd → Option (Vl → List Vl → Ah → QE → Prop)} {wo : WE} {wa : WA} (hm : ∀ k f, fs k = some f → Mt X k name f) (ho : AE X W o wo) (ha : AA X W (e :: es) wa)
    (hbase : attributeBase o name X.env (eval o X.env) = eval o X.env := by exact baseOf rfl)
    (hfew : ((backTo pos (starEach (e :: es) X.env)).all (fun x => !x.1) && (backToKw pos (keywordEach [] X.env)).all (fun x => x.1.isSome)
      && decide ((e :: es).length + ([] : List Keyword).length + (if ([] : List Keyword).isEmpty then 0 else 1) < 30)) = true := by exact fewOf rfl)
    (hline : (apos.endLine == pos.line) = true := by rfl) (hs : starEach (e :: es) X.env = (false, eval e X.env) :: starEach es X.env := by exact starOf rfl) (hplain : (backTo pos (starEach es X.env)).any (·.1) = false := by exact starsOf rfl) :
    AE X W (.Call (.Attribute o name apos) (e :: es) [] pos) (wMt fs wo wa) := by
  refine ⟨fun pins s σ H Q I ⟨S, A, Qa, Ea, ss, sa, q, qx, w⟩ => ?_⟩
  refine wpAny_Call_method_late hbase hfew hline rfl (thn (ho.run pins s σ H (fun v H1 => ∃ x A1, Re X.K H1 x v ∧ SA X.K A1 H1 ∧ Keep H H1 ∧ ∃ k f, kdM A1 x = some k ∧ fs k = some f ∧ wa S A1 (fun xs A2 => kdM A2 x = some k ∧ f x xs A2 Qa) Ea) I
    ⟨S, A, _, Ea, ss, sa, fun x A1 v H1 r1 sa1 k1 w1 => ⟨x, A1, r1, sa1, k1, w1⟩, qx, w⟩) fun v s1 ⟨y, H1, I1, rv, x, A1, r1, sa1, k1, k, f, hk, hf, w1⟩ => ?_)
  obtain ⟨id, pa, slot, ty, m⟩ := (hm k f hf).ex
  obtain ⟨h1, h2⟩ := kdM_is I1 sa1 r1 rv hk
  refine ⟨k.n, id, pa, slot, ty, h1, h2, ?_⟩
  have hA := ha.run pos pins s1 σ H1 (fun vs H2 => ∃ xs A2, Rl X.K H2 xs vs ∧ SA X.K A2 H2 ∧ Keep H1 H2 ∧ kdM A2 x = some k ∧ f x xs A2 Qa) I1
    ⟨S, A1, _, Ea, ss.keep k1, sa1, fun xs A2 vs H2 r2 sa2 k2 w2 => ⟨xs, A2, r2, sa2, k2, w2⟩, qx.keep k1, w1⟩
  rw [hs] at hA ⊢
  refine Calls.callWith_builtin (by show (false || (backTo pos (starEach es X.env)).any (·.1)) = false; rw [hplain] <;> rfl) (Calls.evalArgs_plain ?_)
  exact thn hA fun us s2 ⟨vs, H2, I2, r2, xs, A2, rl, sa2, k2, hk2, w2⟩ => m pins s2 σ H2 y vs v us Q I2 rv r2 ⟨x, xs, A2, Qa, r1.keep k2, rl, sa2, q.keep (k1.trans k2), hk2, w2⟩
end
end Rk

set_option Elab.async false
set_option linter.all false
set_option maxRecDepth 100000
set_option maxHeartbeats 400000
namespace Rk
open PySem PySem.Spec PyProof.Rows L2
section
variable {X : Cx} {K : PySem.W.Frag}
/-! ### methods of lists -/
abbrev FM := Vl → List Vl → Ah → QE → Prop
def fAppend : FM := fun x xs A Q => ∃ p y, x = .ref p ∧ xs = [y] ∧ lstA A p fun ys => ys.length < sizeLine ∧ Q .non (put A p (.lst (ys ++ [y])))
theorem m_append : Mt X .lst "append" fAppend := ⟨⟨_, PySem.F.plainAttrs_list, PySem.F.slot_list_append, PySem.F.type_list_append, by
  intro pins s σ H v vs vv us Q I rv rs ⟨x, xs, A, Qa, r, rl, sa, q, _, p, y, hx, hxs, w⟩
  subst hx hxs
  obtain ⟨u, rfl, ru⟩ := rl.one
  cases re_ref_inv r
  obtain ⟨ys, hp, hz, w⟩ := lstA_of w
  obtain ⟨ws, hw, l⟩ := sa _ _ hp
  obtain ⟨s2, k2⟩ := ql_wr sa hw (l.append (.cons ru .nil))
  exact mt_append pins s σ H _ _ vv us Q I rv rs ⟨p, ws, u, rfl, rfl, hw, by rw [← l.length]; exact hz, q _ _ _ _ (re_non _) s2 k2 w⟩⟩⟩
def fPop : FM := fun x xs A Q => ∃ p, x = .ref p ∧ lstA A p fun ys => (xs = [] ∧ ∃ z, ys[ys.length - 1]? = some z ∧ Q z (put A p (.lst ys.dropLast))) ∨
  ∃ i k z, xs = [.int i] ∧ rngOk i i ∧ seqIndex? i ys.length = some k ∧ ys[k]? = some z ∧ Q z (put A p (.lst (ys.eraseIdx k)))
theorem m_pop : Mt X .lst "pop" fPop := ⟨⟨_, PySem.F.plainAttrs_list, PySem.F.slot_list_pop, PySem.F.type_list_pop, by
  intro pins s σ H v vs vv us Q I rv rs ⟨x, xs, A, Qa, r, rl, sa, q, _, p, hx, w⟩
  subst hx
  cases re_ref_inv r
  obtain ⟨ys, hp, w⟩ := lstA_of w
  obtain ⟨ws, hw, l⟩ := sa _ _ hp
  rcases w with ⟨rfl, z, hz, w⟩ | ⟨i, k, z, rfl, ho, hi, hz, w⟩
  · have := rl.nil_inv; subst this
    obtain ⟨u, hu, ru⟩ := l.get hz
    obtain ⟨s2, k2⟩ := ql_wr sa hw l.dropLast
    exact mt_pop pins s σ H _ _ vv us Q I rv rs ⟨p, ws, u, rfl, rfl, hw, by rw [← l.length]; exact hu, q _ _ _ _ (ru.keep k2) s2 k2 w⟩
  · obtain ⟨t, rfl, rt⟩ := rl.one
    cases re_int_inv rt
    obtain ⟨u, hu, ru⟩ := l.get hz
    obtain ⟨s2, k2⟩ := ql_wr sa hw (l.erase k)
    have h1 := ho.1
    have h2 := ho.2.1
    exact mt_popAt pins s σ H _ _ vv us Q I rv rs ⟨p, ws, i, k, u, rfl, rfl, hw, by omega, by omega, by rw [← l.length]; exact hi, hu, q _ _ _ _ (ru.keep k2) s2 k2 w⟩⟩⟩
def fExtend : FM := fun x xs A Q => ∃ p p2, x = .ref p ∧ xs = [.ref p2] ∧ lstA A p fun ys => lstA A p2 fun zs => ys.length + zs.length ≤ sizeLine ∧ Q .non (put A p (.lst (ys ++ zs)))
theorem m_extend : Mt X .lst "extend" fExtend := ⟨⟨_, PySem.F.plainAttrs_list, PySem.F.slot_list_extend, PySem.F.type_list_extend, by
  intro pins s σ H v vs vv us Q I rv rs ⟨x, xs, A, Qa, r, rl, sa, q, _, p, p2, hx, hxs, w⟩
  subst hx hxs
  obtain ⟨u, rfl, ru⟩ := rl.one
  cases re_ref_inv ru
  cases re_ref_inv r
  obtain ⟨ys, hp, w⟩ := lstA_of w
  obtain ⟨zs, hp2, hz, w⟩ := lstA_of w
  obtain ⟨ws, hw, l⟩ := sa _ _ hp
  obtain ⟨ws2, hw2, l2⟩ := sa _ _ hp2
  obtain ⟨s2, k2⟩ := ql_wr sa hw (l.append l2)
  exact mt_extend pins s σ H _ _ vv us Q I rv rs ⟨p, p2, ws, ws2, rfl, rfl, hw, hw2, by rw [← l.length, ← l2.length]; exact hz, q _ _ _ _ (re_non _) s2 k2 w⟩⟩⟩
def fReverse : FM := fun x xs A Q => ∃ p, x = .ref p ∧ xs = [] ∧ lstA A p fun ys => Q .non (put A p (.lst ys.reverse))
theorem m_reverse : Mt X .lst "reverse" fReverse := ⟨⟨_, PySem.F.plainAttrs_list, PySem.F.slot_list_reverse, PySem.F.type_list_reverse, by
  intro pins s σ H v vs vv us Q I rv rs ⟨x, xs, A, Qa, r, rl, sa, q, _, p, hx, hxs, w⟩
  subst hx hxs
  have := rl.nil_inv; subst this
  cases re_ref_inv r
  obtain ⟨ys, hp, w⟩ := lstA_of w
  obtain ⟨ws, hw, l⟩ := sa _ _ hp
  obtain ⟨s2, k2⟩ := ql_wr sa hw l.reverse
  exact mt_reverse pins s σ H _ _ vv us Q I rv rs ⟨p, ws, rfl, rfl, hw, q _ _ _ _ (re_non _) s2 k2 w⟩⟩⟩
def fClear : FM := fun x xs A Q => ∃ p, x = .ref p ∧ xs = [] ∧ lstA A p fun ys => Q .non (put A p (.lst []))
theorem m_clear : Mt X .lst "clear" fClear := ⟨⟨_, PySem.F.plainAttrs_list, PySem.F.slot_list_clear, PySem.F.type_list_clear, by
  intro pins s σ H v vs vv us Q I rv rs ⟨x, xs, A, Qa, r, rl, sa, q, _, p, hx, hxs, w⟩
  subst hx hxs
  have := rl.nil_inv; subst this
  cases re_ref_inv r
  obtain ⟨ys, hp, w⟩ := lstA_of w
  obtain ⟨ws, hw, l⟩ := sa _ _ hp
  obtain ⟨s2, k2⟩ := ql_wr (xs := []) (vs := []) sa hw .nil
  exact mt_clear pins s σ H _ _ vv us Q I rv rs ⟨p, ws, rfl, rfl, hw, q _ _ _ _ (re_non _) s2 k2 w⟩⟩⟩
/-! ### methods of texts -/
def strL : List Vl → Option (List Str)
  | [] => some []
  | .str s :: r => (strL r).map (s :: ·)
  | _ => none
theorem strL_of {H : Hp} : ∀ {xs : List Vl} {ss : List Str} {vs : List V}, strL xs = some ss → Rl K H xs vs → vs = ss.map V.str
  | [], _, _, e, r => by cases e; rw [r.nil_inv]; rfl
  | x :: xs, ss, vs, e, r => by
    obtain ⟨v, ws, rfl, r1, r2⟩ := r.cons_inv
    cases x with
    | str b =>
      have e : (strL xs).map (b :: ·) = some ss := e
      cases h : strL xs with
      | none => rw [h] at e; cases e
      | some cs => rw [h] at e; cases e; obtain ⟨rfl, _⟩ := re_str_inv r1; rw [strL_of h r2]; rfl
    | _ => cases e
def joinOk (a : Str) (ys : List Str) : Prop := (ys.map (·.length)).sum + ys.length * a.length ≤ 16777216 ∧ okS (Txt.join a ys)
def fJoin : FM := fun x xs A Q => ∃ a, x = .str a ∧ ((∃ p, xs = [.ref p] ∧ seqA A p fun ys => ∃ ss, strL ys = some ss ∧ joinOk a ss ∧ Q (.str (Txt.join a ss)) A) ∨ ∃ ys ss, xs = [.tup ys] ∧ strL ys = some ss ∧ joinOk a ss ∧ Q (.str (Txt.join a ss)) A)
theorem m_join : Mt X .str "join" fJoin := ⟨⟨_, PySem.F.plainAttrs_str, PySem.F.slot_str_join, PySem.F.type_str_join, by
  intro pins s σ H v vs vv us Q I rv rs ⟨x, xs, A, Qa, r, rl, sa, q, _, a, hx, w⟩
  subst hx
  obtain ⟨rfl, _⟩ := re_str_inv r
  rcases w with ⟨p, rfl, w⟩ | ⟨ys, ss, rfl, hs, hj, w⟩
  · obtain ⟨u, rfl, ru⟩ := rl.one
    cases re_ref_inv ru
    obtain ⟨ys, ws, sq, l, ss, hs, hj, w⟩ := seqA_of sa w
    rw [strL_of hs l] at sq
    exact mt_join pins s σ H _ _ vv us Q I rv rs ⟨a, p, ss, rfl, rfl, .inl sq, hj.1, q _ _ _ _ (re_str hj.2 _) sa .refl w⟩
  · obtain ⟨u, rfl, ru⟩ := rl.one
    obtain ⟨p, ws, rfl, st, l⟩ := re_tup_inv ru
    rw [strL_of hs l] at st
    exact mt_join pins s σ H _ _ vv us Q I rv rs ⟨a, p, ss, rfl, rfl, .inr st, hj.1, q _ _ _ _ (re_str hj.2 _) sa .refl w⟩⟩⟩
def fUpper : FM := fun x xs A Q => ∃ a, x = .str a ∧ xs = [] ∧ a.length ≤ 5592405 ∧ okS (Txt.upper a) ∧ Q (.str (Txt.upper a)) A
theorem m_upper : Mt X .str "upper" fUpper := ⟨⟨_, PySem.F.plainAttrs_str, PySem.F.slot_str_upper, PySem.F.type_str_upper, by
  intro pins s σ H v vs vv us Q I rv rs ⟨x, xs, A, Qa, r, rl, sa, q, _, a, hx, hxs, hz, ho, w⟩
  subst hx hxs
  have := rl.nil_inv; subst this
  obtain ⟨rfl, _⟩ := re_str_inv r
  exact mt_upper pins s σ H _ _ vv us Q I rv rs ⟨a, rfl, rfl, hz, q _ _ _ _ (re_str ho _) sa .refl w⟩⟩⟩
/-! ### which method by the receiver's kind -/
def only (k : Kd) (f : FM) : Kd → Option FM := fun j => if j = k then some f else none
theorem only_mt {name : Str} {k : Kd} {f : FM} (h : Mt X k name f) : ∀ j g, only k f j = some g → Mt X j name g := fun j g e => by
  unfold only at e
  split at e
  · rename_i hj; cases e; subst hj; exact h
  · cases e
/-! ### in, not in, over texts -/
def fIn (neg : Bool) : F2 := fun x y A Q => match x, y with
  | .str s, .str t => Q (.bl (neg != !(Builtin.Str.occurrences t s 0 t.length 1).isEmpty)) A
  | _, _ => False
theorem o_in : O2 X (compareOp .In) (fIn false) := by
  intro pins s σ H v u vv uu Q I rv ru ⟨x, y, A, Qa, r1, r2, sa, q, w⟩
  cases x <;> cases y <;> first
    | exact w.elim
    | (obtain ⟨rfl, _⟩ := re_str_inv r1; obtain ⟨rfl, _⟩ := re_str_inv r2; exact op_in_str pins s σ H _ _ _ _ Q I rv ru ⟨_, _, rfl, rfl, q _ _ _ _ (re_bl _) sa .refl (by simpa [fIn] using w)⟩)
theorem o_notin : O2 X (compareOp .NotIn) (fIn true) := by
  intro pins s σ H v u vv uu Q I rv ru ⟨x, y, A, Qa, r1, r2, sa, q, w⟩
  cases x <;> cases y <;> first
    | exact w.elim
    | (obtain ⟨rfl, _⟩ := re_str_inv r1; obtain ⟨rfl, _⟩ := re_str_inv r2; exact op_notIn_str pins s σ H _ _ _ _ Q I rv ru ⟨_, _, rfl, rfl, q _ _ _ _ (re_bl _) sa .refl (by simpa [fIn] using w)⟩)
/-- {} -/
def wDct0 : WE := fun _ A Q _ => ∀ p, A p = none → Q (.ref p) (put A p (.dct []))
theorem ae_dct0 {W : WX} {pos : Pos} : AE X W (.Dict [] [] pos) wDct0 := pe_imp pe_dnewK fun σ H Q ⟨S, A, Qa, Ea, ss, sa, q, qx, w⟩ => fun p hp =>
  q _ _ _ _ (re_ref _) (sa.new (o := .dct []) hp ⟨_, upd_same, .inl ⟨[], rfl, rfl⟩⟩) (.new hp) (w p (sa.fresh hp))
/-! ### short forms for printed derivations -/
theorem av {W : WX} {pos : Pos} (i : Nat) {x : Str} (hN : X.N[i]? = some x := by rfl) (hv : Vis X.env.scope x := by first | exact Or.inl rfl | exact Or.inr (Or.inl rfl) | exact Or.inr (Or.inr rfl)) (hd : (x == ("__debug__" : Str)) = false := by decide) (hcd : (x == ("__classdict__" : Str)) = false := by decide) : AE X W (.Name x pos) (wVar i) := ae_var hN hv hd hcd
theorem agn {pos : Pos} (i : Nat) {x : Str} {vs : List Nat} (hN : X.N.Nodup) (hi : X.N[i]? = some x := by rfl) (hx : Loc X.env.scope x := by first | exact Or.inl rfl | exact Or.inr rfl) (hv : i ∈ vs := by decide) (hf : X.fn x = true ∨ X.env.scope.names.lookup x = some .local := by first | exact .inl rfl | exact .inr rfl) : AG X vs (.Name x pos) (gN i) := ag_name hN hi hx hv hf
theorem bb_len : bootBuiltins "len" = some (.builtin "len") := by decide +kernel
theorem bb_abs : bootBuiltins "abs" = some (.builtin "abs") := by decide +kernel
theorem bb_max : bootBuiltins "max" = some (.builtin "max") := by decide +kernel
theorem bb_min : bootBuiltins "min" = some (.builtin "min") := by decide +kernel
theorem bb_divmod : bootBuiltins "divmod" = some (.builtin "divmod") := by decide +kernel
theorem bb_all : bootBuiltins "all" = some (.builtin "all") := by decide +kernel
theorem bb_any : bootBuiltins "any" = some (.builtin "any") := by decide +kernel
theorem bb_isinstance : bootBuiltins "isinstance" = some (.builtin "isinstance") := by decide +kernel
theorem bb_repr : bootBuiltins "repr" = some (.builtin "repr") := by decide +kernel
theorem bb_sorted : bootBuiltins "sorted" = some (.builtin "sorted") := by decide +kernel
theorem bb_sum : bootBuiltins "sum" = some (.builtin "sum") := by decide +kernel
theorem bb_list : bootBuiltins "list" = some (.type "list") := by decide +kernel
theorem bb_tuple : bootBuiltins "tuple" = some (.type "tuple") := by decide +kernel
theorem bb_int : bootBuiltins "int" = some (.type "int") := by decide +kernel
theorem bb_str : bootBuiltins "str" = some (.type "str") := by decide +kernel
theorem bb_bool : bootBuiltins "bool" = some (.type "bool") := by decide +kernel
theorem bb_dict : bootBuiltins "dict" = some (.type "dict") := by decide +kernel
theorem bb_set : bootBuiltins "set" = some (.type "set") := by decide +kernel
/-- a def of the text, defaults and all -/
structure Df (K : PySem.W.Frag) (x qual : Str) (st : Stmt) (f : Addr) (fd : FuncData) (dV : Value) : Prop where
  ex : ∃ (oc : Value) (od : Option Addr) (kV doc pm : Value) (an : Option Addr) (cdv ct : Value) (osl : Array (Option Value)),
    fd = PySem.W.fnOf x qual (defArgs st) (defBody st) (defScope st) dV kV doc pm an cdv ct ∧ K.lookup f = some ⟨oc, od, .func fd, osl⟩ ∧ PySem.W.codeIn K cdv qual = true
  kp : PySem.W.keepIn K (.ref f) = true
theorem Df.gn {P : Program} {w : World} {K : PySem.W.Frag} {mg : Str → Option Value} {base : Heap} {x qual : Str} {st : Stmt} {f : Addr} {fd : FuncData} {dV : Value} {N ps : List Str} {k : Nat} {wb : WS} (F : Df K x qual st f fd dV) (S : FnScope N ps (defScope st))
    (hb : ∀ (cdv : Value) (A : Around) (outer : List Env) (s : Shared) (H : Hp) (E : XK), Bd k (bodyX P w K mg base N qual (defScope st) f cdv A outer s H E) (bodyW E) → ASs (bodyX P w K mg base N qual (defScope st) f cdv A outer s H E) (bodyW E) (defBody st) wb) :
    Gn P w K mg base (k + 1) f fd ps (wFun N.length wb) := by
  obtain ⟨oc, od, kV, doc, pm, an, cdv, ct, osl, rfl, lk, hcd⟩ := F.ex
  exact gn_of lk hcd S fun A outer s H E => hb cdv A outer s H E
theorem Df.bind {K : PySem.W.Frag} {x qual : Str} {st : Stmt} {f : Addr} {fd : FuncData} {dV : Value} {ps : List Str} {n : Nat} (F : Df K x qual st f fd dV)
    (h : ∀ (kV doc pm : Value) (an : Option Addr) (cdv ct : Value) (us : List Value), us.length = n → bindArgs (PySem.W.fnOf x qual (defArgs st) (defBody st) (defScope st) dV kV doc pm an cdv ct) ⟨us, []⟩ = pure (ps.zip us)) : ∀ us : List Value, us.length = n → bindArgs fd ⟨us, []⟩ = pure (ps.zip us) := by
  obtain ⟨oc, od, kV, doc, pm, an, cdv, ct, osl, rfl, lk, hcd⟩ := F.ex
  exact h kV doc pm an cdv ct
theorem Df.bindK {K : PySem.W.Frag} {x qual : Str} {st : Stmt} {f : Addr} {fd : FuncData} {dV : Value} {ps ks : List Str} {n : Nat} {l : List Src} (F : Df K x qual st f fd dV)
    (h : ∀ (kV doc pm : Value) (an : Option Addr) (cdv ct : Value) (us ws : List Value), us.length = n → ws.length = ks.length → bindArgs (PySem.W.fnOf x qual (defArgs st) (defBody st) (defScope st) dV kV doc pm an cdv ct) ⟨us, ks.zip ws⟩ = pure (ps.zip (l.map (Src.mu (us ++ ws))))) :
    ∀ (s : Shared) (us ws : List Value), K.In s.heap → us.length = n → ws.length = ks.length → BindsTo s fd ⟨us, ks.zip ws⟩ (ps.zip (l.map (Src.mu (us ++ ws)))) := by
  obtain ⟨oc, od, kV, doc, pm, an, cdv, ct, osl, rfl, lk, hcd⟩ := F.ex
  exact fun s us ws _ hu hw => .of_eq (h kV doc pm an cdv ct us ws hu hw)
theorem Bd.u64 {W : WX} {k : Nat} (B : Bd k X W) : X.A.units + 64 < cLine := B.room.units
end
end Rk

set_option Elab.async false
set_option linter.all false
set_option maxRecDepth 100000
set_option maxHeartbeats 400000
namespace Rk
open PySem PySem.Spec PyProof.Rows L2
/-! ### the law's own call -/
def noLst (K : PySem.W.Frag) : Bool := K.all fun p => match p.2.cls with
  | .type n => n != "list"
  | _ => true
theorem mem_of_lk {a : Addr} {o : Obj} : ∀ {K : List (Addr × Obj)}, K.lookup a = some o → (a, o) ∈ K
  | [], h => by cases h
  | (b, u) :: K, h => by
    rw [List.lookup_cons] at h
    by_cases e : a = b
    · subst e
      simp at h; subst h
      exact List.mem_cons_self
    · have e2 : (a == b) = false := by simpa using e
      rw [e2] at h
      exact List.mem_cons_of_mem _ (mem_of_lk h)
theorem noLst_no {K : PySem.W.Frag} {a : Addr} {o : Obj} (h : noLst K = true) (c : o.cls = .type "list") : K.lookup a ≠ some o := fun e => by
  have m : (a, o) ∈ K := mem_of_lk e
  have := List.all_eq_true.mp h _ m
  simp only [c] at this
  simp at this
theorem rl_ints {K : PySem.W.Frag} {H : Hp} : ∀ ns : List Int, Rl K H (ns.map Vl.int) (ns.map V.int)
  | [] => .nil
  | n :: ns => .cons (re_int _) (rl_ints ns)
theorem gn_law {P : Program} {w : World} {K : PySem.W.Frag} {mg mb : Str → Option Value} {k : Nat} {fa a : Addr} {fd : FuncData} {x : Str} {wf : WF} {s₁ : Shared} {vs : List Value} {ns : List Int}
    (inK : K.In s₁.heap) (hns : s₁.heap.Ns mainGlobals mg) (hb : s₁.heap.Ns builtinsNs mb) (hbb : ∀ y : Str, y ≠ "__name__" → mb y = bootBuiltins y) (hlim : s₁.heap.NoLimit) (hg : s₁.gens = #[])
    (ha : s₁.heap.get? a = some { cls := .type "list", data := .seq vs.toArray }) (hi : IntsAre vs ns) (hl : ns.length ≤ sizeLine) (hr : Room k callerA) (nl : noLst K = true)
    (F : ∀ base : Heap, K.In base → base.Ns mainGlobals mg → Gn P w K mg base k fa fd [x] wf) (hbind : ∀ (s : Shared) (u : Value), BindsTo s fd ⟨[u], []⟩ [(x, u)])
    (hw : ∀ (A : Ah) (Q : QE) (E : EX), A a = some (.rol (ns.map .int)) → (∀ A', Q (.bl true) A') → wf [.ref a] A Q E) :
    codeAny (model P w) callerA (.call (.ref fa) ⟨[.ref a], []⟩) (fun r s' => r = .ok (.ret (.bool true)) ∧ OldK s₁.heap s'.heap ∧ s'.os = s₁.os ∧ AllBare s'.gens) s₁ := by
  have rv := vals_ints hi
  have hka : K.lookup a = none := by
    cases e : K.lookup a with
    | none => rfl
    | some o =>
      have z := inK a o e
      rw [ha] at z; cases z
      exact absurd e (noLst_no nl rfl)
  obtain ⟨H, hH⟩ : ∃ H : Hp, H = fun b => if b = a then some (.frz { cls := .type "list", data := .seq vs.toArray } (.lst (ns.map V.int))) else none := ⟨_, rfl⟩
  have Ha : H a = some (.frz { cls := .type "list", data := .seq vs.toArray } (.lst (ns.map V.int))) := by rw [hH]; exact if_pos rfl
  have Hn : ∀ b, b ≠ a → H b = none := fun b h => by rw [hH]; exact if_neg h
  have hok : HOk P w H s₁.heap := fun b u e => by
    by_cases hba : b = a
    · subst hba
      rw [Ha] at e; cases e
      exact ⟨ha, by rw [List.length_map]; exact hl, vs, _, rv, ha⟩
    · rw [Hn b hba] at e; cases e
  have ground : ∀ {b : Addr} {o : Obj}, s₁.heap.get? b = some o → b ≠ a → (hidT s₁.heap H).get? b = some o := fun e h => hidT_get e (Hn _ h)
  have nsK : ∀ {b : Addr} {m : Str → Option Value}, s₁.heap.Ns b m → (hidT s₁.heap H).Ns b m := fun {b m} ⟨o, es, ep, e, d, r⟩ => ⟨o, es, ep, ground e (fun z => by
    subst z
    rw [ha] at e; cases e
    cases (show Data.seq vs.toArray _ = Data.dict es ep from d)), d, r⟩
  have inB : K.In (hidT s₁.heap H) := fun b o e => ground (inK b o e) fun z => by subst z; rw [hka] at e; cases e
  have md : Mod K mg (hidT s₁.heap H) := ⟨inB, nsK hns, ⟨mb, nsK hb, hbb⟩, let ⟨mc, h1, h2⟩ := hlim; ⟨mc, nsK h1, h2⟩⟩
  have e0 : Env0 P w K mg (hidT s₁.heap H) callerA [] s₁ H := ⟨rfl, md, fun b o e => of_hidT e, Nat.le_of_eq (hidT_size _ _), trivial, fun b hb => absurd (show b ∈ ([] : List Addr) from hb) (by simp), hok, .of_eq hg⟩
  have sa : SA K (fun b => if b = a then some (.rol (ns.map Vl.int)) else none) H := fun b o e => by
    by_cases hba : b = a
    · subst hba
      simp only [if_true] at e; cases e
      exact ⟨_, .inr ⟨_, Ha⟩, rl_ints ns⟩
    · simp only [hba, if_false] at e; cases e
  have prom : LF K 1 wf [.ref a] H (fun v _ => v = .bl true) (fun _ _ _ => False) :=
    ⟨[.ref a], _, fun y _ => y = .bl true, fun _ _ => False, .cons (re_ref _) .nil, rfl, sa, fun y A' v H' r _ _ e => by subst e; exact re_bl_inv r, fun _ _ _ _ _ _ _ _ z => z, hw _ _ _ (if_pos rfl) fun _ => rfl⟩
  refine codeAny_mono ((F _ inB (nsK hns)).run callerA [] s₁ H ⟨[.ref a], []⟩ [.ref a] [.ref a] _ _ hr rfl e0 (hbind s₁ (.ref a)) (.cons rfl .nil) prom) fun r s' h => ?_
  cases r with
  | error e =>
    obtain ⟨_, _, _, _, _, _, _, _, _, _, _, _, hf⟩ := h
    exact hf.elim
  | ok fl =>
    cases fl with
    | next => exact False.elim h
    | brk => exact False.elim h
    | cont => exact False.elim h
    | ret u =>
      obtain ⟨v, H', os, bare, un, hok', r', q⟩ := h
      have q' : v = .bl true := q
      subst q'
      obtain rfl : u = Value.bool true := r'
      refine ⟨rfl, OldK.of_keep fun b o e => ?_, os, bare⟩
      by_cases hba : b = a
      · subst hba
        obtain ⟨e2, _⟩ := hok' b _ (un.frzs b _ _ Ha)
        rw [ha] at e; cases e
        exact e2
      · exact un.keep b o e (Hn b hba) (by intro z; exact absurd (show b ∈ ([] : List Addr) from z) (by simp)) (by simp)
theorem gn_walk {l : PySem.W.OpenLaw} {n k : Nat} {q : Program} {loose : List Str} {XP : (Str → Option Value) → Heap → Prop} {YP : World → Heap → Prop} {d : DefRec} {K : Params → PySem.W.Frag} {x : Str} {wf : WF}
    (hn : l.most = some n) (hn2 : n ≤ sizeLine) (hdf : d.params.defaults = []) (hr : Room k callerA) (hY : ∀ (w : World) (h : Heap), YP w h → (K w.params).In h) (nl : ∀ w : World, noLst (K w.params) = true)
    (F : ∀ (w : World) (mg : Str → Option Value) (fa : Addr) (h : Heap), (K w.params).In h → h.Ns mainGlobals mg → mg d.name = some (.ref fa) →
      ∃ fd : FuncData, (∀ (s : Shared) (u : Value), BindsTo s fd ⟨[u], []⟩ [(x, u)]) ∧ ∀ base : Heap, (K w.params).In base → base.Ns mainGlobals mg → Gn l.prog w (K w.params) mg base k fa fd [x] wf)
    (hw : ∀ (a : Addr) (ns : List Int) (A : Ah) (Q : QE) (E : EX), ns.length ≤ n → A a = some (.rol (ns.map .int)) → (∀ A', Q (.bl true) A') → wf [.ref a] A Q E) :
    PySem.W.WalkO q loose XP YP l.row.toRowW d [] (fun f vs => PySem.call f vs) := by
  refine Att.attach_call hn hdf fun w s₀ s₁ mg mb fa o pm cd doc a vs ns G Y ho hd hcd hmg hobj hints hlen hg => ?_
  have inK := hY w _ Y
  obtain ⟨fd, hb, hF⟩ := F w mg fa _ inK G.T.g hmg
  exact gn_law inK G.T.g G.T.b G.T.builtins G.T.nolimit hg hobj hints (Nat.le_trans hlen hn2) hr (nl w) hF hb fun A Q E h1 h2 => hw a ns A Q E hlen h1 h2
end Rk

set_option Elab.async false
set_option linter.all false
set_option maxRecDepth 100000
set_option maxHeartbeats 400000
namespace Rk
open PySem PySem.Spec PyProof.Rows L2
/-! ### loops and comprehensions by what holds between the turns -/
theorem forL_ind {ok : Ah → Prop} {g : WG} {w : WS} {D : Es} {xs : List Vl} {S : Sl} {A : Ah} (I : Nat → Sl → Ah → Prop) (h0 : I 0 S A) (hok : ∀ i S A, I i S A → ok A)
    (step : ∀ (i : Nat) (x : Vl) (S : Sl) (A : Ah) (N : Sl → Ah → Prop), xs[i]? = some x → I i S A → (∀ S' A', I (i + 1) S' A' → N S' A') → g x S A fun S1 A1 => w { D with nx := N, ct := N, bk := D.nx } S1 A1)
    (hend : ∀ S A, I xs.length S A → D.nx S A) : forL ok g w D xs S A := by
  have : ∀ (r : List Vl) (i : Nat) (S : Sl) (A : Ah), xs.drop i = r → i ≤ xs.length → I i S A → forL ok g w D r S A := by
    intro r
    induction r with
    | nil =>
      intro i S A e hi h
      have : i = xs.length := by
        have := congrArg List.length e
        simp at this; omega
      subst this
      exact ⟨hok _ _ _ h, hend _ _ h⟩
    | cons x r ih =>
      intro i S A e hi h
      have hlt : i < xs.length := by
        have := congrArg List.length e
        simp at this; omega
      rw [List.drop_eq_getElem_cons hlt] at e
      injection e with e1 e2
      refine ⟨hok _ _ _ h, ?_⟩
      exact step i x S A _ (by rw [← e1]; simp [hlt]) h fun S' A' h' => ih (i + 1) S' A' e2 hlt h'
  exact this xs 0 S A rfl (Nat.zero_le _) h0
theorem lcL_ind {ok : Ah → Prop} {g : WG} {t : WT} {w : WE} {S : Sl} {p : Addr} {Q : Ah → Prop} {xs : List Vl} {A : Ah} (I : Nat → List Vl → Ah → Prop) (h0 : I 0 [] A) (hok : ∀ i acc A, I i acc A → ok A)
    (step : ∀ (i : Nat) (x : Vl) (acc : List Vl) (A : Ah) (K1 : Vl → Ah → Prop) (K2 : Ah → Prop), xs[i]? = some x → I i acc A →
      (∀ y A3, A3 p = some (.lst acc) → acc.length < sizeLine → I (i + 1) (acc ++ [y]) (put A3 p (.lst (acc ++ [y]))) → K1 y A3) → (∀ A2, I (i + 1) acc A2 → K2 A2) →
      g x S A fun S1 A1 => t S1 A1 (fun b A2 => if b = true then w S1 A2 K1 noE else K2 A2) noE)
    (hend : ∀ acc A, I xs.length acc A → Q A) : lcL ok g t w S p Q xs A := by
  have : ∀ (r : List Vl) (i : Nat) (acc : List Vl) (A : Ah), xs.drop i = r → i ≤ xs.length → I i acc A → lcL ok g t w S p Q r A := by
    intro r
    induction r with
    | nil =>
      intro i acc A e hi h
      have : i = xs.length := by
        have := congrArg List.length e
        simp at this; omega
      subst this
      exact ⟨hok _ _ _ h, hend _ _ h⟩
    | cons x r ih =>
      intro i acc A e hi h
      have hlt : i < xs.length := by
        have := congrArg List.length e
        simp at this; omega
      rw [List.drop_eq_getElem_cons hlt] at e
      injection e with e1 e2
      refine ⟨hok _ _ _ h, ?_⟩
      refine step i x acc A _ (fun A2 => lcL ok g t w S p Q r A2) (by rw [← e1]; simp [hlt]) h (fun y A3 h1 h2 h3 => ?_) fun A2 h2 => ih (i + 1) acc A2 e2 hlt h2
      show (match A3 p with
      | some (.lst acc) => acc.length < sizeLine ∧ lcL ok g t w S p Q r (put A3 p (.lst (acc ++ [y])))
      | _ => False)
      rw [h1]
      exact ⟨h2, ih (i + 1) (acc ++ [y]) _ e2 hlt h3⟩
  exact this xs 0 [] A rfl (Nat.zero_le _) h0
theorem put_put {A : Ah} {p : Addr} {o u : Ob} : put (put A p o) p u = put A p u := by
  funext b; unfold put; split <;> rfl
theorem ne_of_nn {A : Ah} {a p : Addr} {o : Ob} (h : A a = some o) (hp : A p = none) : a ≠ p := by
  rintro rfl; rw [h] at hp; cases hp
theorem Sub.new {A : Ah} {p : Addr} {o : Ob} (h : A p = none) : Sub A (put A p o) := fun a u e => by rw [put_ne (ne_of_nn e h)]; exact e
theorem Sub.put {A B : Ah} {p : Addr} {o : Ob} (h : Sub A B) : Sub (put A p o) (put B p o) := fun a u e => by
  by_cases ha : a = p
  · subst ha; rw [put_same] at e ⊢; exact e
  · rw [put_ne ha] at e ⊢; exact h a u e
theorem Sub.put_new {A B : Ah} {p : Addr} {o : Ob} (h : Sub A B) (hp : B p = none) : Sub A (Rk.put B p o) := h.trans (.new hp)
theorem lcL_map {ok : Ah → Prop} {i : Nat} {w : WE} {S : Sl} {A : Ah} {p : Addr} {Q : Ah → Prop} {xs : List Vl} (f : Vl → Vl) (hz : xs.length ≤ sizeLine)
    (hok : ∀ acc, ok (put A p (.lst acc)))
    (hw : ∀ x ∈ xs, ∀ acc (K1 : QE), K1 (f x) (put A p (.lst acc)) → w (S.set i (some x)) (put A p (.lst acc)) K1 noE)
    (hq : Q (put A p (.lst (xs.map f)))) : lcL ok (gN i) wYes w S p Q xs (put A p (.lst [])) := by
  refine lcL_ind (fun j acc B => acc = (xs.take j).map f ∧ B = put A p (.lst acc)) ⟨by simp, rfl⟩ (fun _ _ _ ⟨_, e⟩ => by subst e; exact hok _) ?_ ?_
  · rintro j x acc B K1 K2 hx ⟨rfl, rfl⟩ h1 h2
    obtain ⟨hj, hjx⟩ := List.getElem?_eq_some_iff.mp hx
    simp only [gN, wYes, if_true]
    refine hw x (List.mem_of_getElem? hx) _ K1 (h1 _ _ put_same (by simp; omega) ⟨?_, put_put⟩)
    rw [← List.take_append_getElem hj, List.map_append, hjx]
    rfl
  · rintro acc B ⟨rfl, rfl⟩
    simpa using hq
end Rk

set_option Elab.async false
set_option linter.all false
set_option maxRecDepth 100000
set_option maxHeartbeats 400000
namespace Rk
open PySem PySem.Spec PyProof.Rows L2
/-! ### the transformers, run from the head -/
def onB (z : Vl) (P R : Prop) : Prop := match z with
  | .bl true => P
  | .bl false => R
  | _ => False
@[simp ↓] theorem e_onB {b : Bool} {P R : Prop} : onB (.bl b) P R = if b = true then P else R := by cases b <;> rfl
section
variable {S : Sl} {A : Ah} {Q : QE} {E : EX} {D : Es} {QB : Bool → Ah → Prop} {QA : List Vl → Ah → Prop} {QW : Wk → Ah → Prop} {QO : Option Int → Ah → Prop} {N : Sl → Ah → Prop}
variable {w wa wb wc wo : WE} {t u : WT} {s1 s2 : WS} {f g : F2} {i j n : Nat} {x y z : Vl} {b : Bool} {xs ys : List Vl} {P : Bool → Prop}
@[simp ↓] theorem e_wVar : wVar i S A Q E = match S[i]? with | some (some x) => Q x A | _ => False := id rfl
@[simp ↓] theorem e_wC : wC x S A Q E = Q x A := id rfl
@[simp ↓] theorem e_wBin : wBin f wa wb S A Q E = wa S A (fun x A1 => wb S A1 (fun y A2 => f x y A2 Q) E) E := id rfl
@[simp ↓] theorem e_wUn {h : Vl → Ah → QE → Prop} : wUn h wa S A Q E = wa S A (fun x A1 => h x A1 Q) E := id rfl
@[simp ↓] theorem e_wB : wB w S A QB E = w S A (fun x A1 => match x with | .bl k => QB k A1 | _ => False) E := id rfl
@[simp ↓] theorem e_wTru : wTru w S A QB E = w S A (fun x A1 => truA x A1 fun k => QB k A1) E := id rfl
@[simp ↓] theorem e_wNot : wNot t S A QB E = t S A (fun k A1 => QB (!k) A1) E := id rfl
@[simp ↓] theorem e_wAnd : wAnd t u S A QB E = t S A (fun k A1 => if k = true then u S A1 QB E else QB false A1) E := id rfl
@[simp ↓] theorem e_wOr : wOr t u S A QB E = t S A (fun k A1 => if k = true then QB true A1 else u S A1 QB E) E := id rfl
@[simp ↓] theorem e_wNotV : wNotV w S A Q E = w S A (fun x A1 => match x with | .bl k => Q (.bl (!k)) A1 | _ => False) E := id rfl
@[simp ↓] theorem e_wAndV : wAndV wa wb S A Q E = wa S A (fun x A1 => onB x (wb S A1 Q E) (Q (.bl false) A1)) E := id rfl
@[simp ↓] theorem e_wOrV : wOrV wa wb S A Q E = wa S A (fun x A1 => onB x (Q (.bl true) A1) (wb S A1 Q E)) E := by
  show wa S A _ E = _
  congr 1; funext x A1; cases x <;> first | rfl | (rename_i b; cases b <;> rfl)
@[simp ↓] theorem e_wIf : wIf t wa wb S A Q E = t S A (fun k A1 => if k = true then wa S A1 Q E else wb S A1 Q E) E := id rfl
@[simp ↓] theorem e_wChain : wChain f g wa wb wc S A Q E = wa S A (fun x A1 => wb S A1 (fun y A2 => f x y A2 fun z A3 => onB z (wc S A3 (fun t A4 => g y t A4 Q) E) (Q (.bl false) A3)) E) E := id rfl
@[simp ↓] theorem e_wNil : wNil S A QA E = QA [] A := id rfl
@[simp ↓] theorem e_wCons {r : WA} : wCons w r S A QA E = w S A (fun x A1 => r S A1 (fun xs A2 => QA (x :: xs) A2) E) E := id rfl
@[simp ↓] theorem e_wTup {r : WA} : wTup r S A Q E = r S A (fun xs A1 => xs.length ≤ sizeLine ∧ Q (.tup xs) A1) E := id rfl
@[simp ↓] theorem e_wLst {r : WA} : wLst r S A Q E = r S A (fun xs A1 => xs.length ≤ sizeLine ∧ ∀ p, A1 p = none → Q (.ref p) (put A1 p (.lst xs))) E := id rfl
@[simp ↓] theorem e_wCB {h : FC} {r : WA} : wCB h r S A Q E = r S A (fun xs A1 => h xs A1 Q) E := id rfl
@[simp ↓] theorem e_wCall {h : WF} {r : WA} : wCall n h r S A Q E = r S A (fun xs A1 => xs.length = n ∧ h xs A1 Q E) E := id rfl
@[simp ↓] theorem e_wCallK {h : WF} {m : Nat} {r k : WA} : wCallK n m h r k S A Q E = r S A (fun xs A1 => xs.length = n ∧ k S A1 (fun ys A2 => ys.length = m ∧ h (xs ++ ys) A2 Q E) E) E := id rfl
@[simp ↓] theorem e_wSel {h : WF} {l : List Src} : wSel l h xs A Q E = h (l.map (Src.pl xs)) A Q E := id rfl
@[simp ↓] theorem e_wNoP : wNoP S A QO E = QO none A := id rfl
@[simp ↓] theorem e_wPt : wPt w S A QO E = w S A (fun x A1 => match x with | .int i => QO (some i) A1 | _ => False) E := id rfl
@[simp ↓] theorem e_wSl {h : FS} {wl wh : WO} : wSl h w wl wh S A Q E = w S A (fun x A1 => wl S A1 (fun i A2 => wh S A2 (fun j A3 => h x i j A3 Q) E) E) E := id rfl
@[simp ↓] theorem e_wMt {fs : Kd → Option FM} {r : WA} : wMt fs wo r S A Q E = wo S A (fun x A1 => ∃ k f, kdM A1 x = some k ∧ fs k = some f ∧ r S A1 (fun xs A2 => kdM A2 x = some k ∧ f x xs A2 Q) E) E := id rfl
@[simp ↓] theorem e_wDct0 : wDct0 S A Q E = ∀ p, A p = none → Q (.ref p) (put A p (.dct [])) := id rfl
@[simp ↓] theorem e_wiSeq : wiSeq w S A QW E = w S A (fun x A1 => itV x A1 QW) E := id rfl
@[simp ↓] theorem e_wiR1 {r : WA} : wiR1 r S A QW E = r S A (fun xs A1 => ∃ n, int1 xs = some n ∧ rngOk 0 n ∧ QW ⟨rngL 0 n.toNat, fun _ => True⟩ A1) E := id rfl
@[simp ↓] theorem e_wiR2 {r : WA} : wiR2 r S A QW E = r S A (fun xs A1 => ∃ m n, int2 xs = some (m, n) ∧ rngOk m n ∧ QW ⟨rngL m (n - m).toNat, fun _ => True⟩ A1) E := id rfl
@[simp ↓] theorem e_wLc {wi : WI} {gg : WG} {vs : List Nat} : wLc wi gg t w vs S A Q E = wi S A (fun k A1 => ∀ p, A1 p = none → lcL k.ok gg t w (wipeA S vs) p (fun A2 => Q (.ref p) A2) k.its (put A1 p (.lst []))) E := id rfl
@[simp ↓] theorem e_wSeq : wSeq s1 s2 D S A = s1 { D with nx := s2 D } S A := id rfl
@[simp ↓] theorem e_wEx : wEx w D S A = w S A (fun _ A1 => D.nx S A1) (fun x A1 => D.ex x S A1) := id rfl
@[simp ↓] theorem e_wRet : wRet w D S A = w S A D.rt (fun x A1 => D.ex x S A1) := id rfl
@[simp ↓] theorem e_wIfS : wIfS t s1 s2 D S A = t S A (fun k A1 => if k = true then s1 D S A1 else s2 D S A1) (fun x A1 => D.ex x S A1) := id rfl
@[simp ↓] theorem e_wAsg {gg : WG} : wAsg w gg D S A = w S A (fun x A1 => gg x S A1 D.nx) (fun x A1 => D.ex x S A1) := id rfl
@[simp ↓] theorem e_wPar {r : WA} : wPar i j r D S A = r S A (fun xs A1 => ∃ x y, xs = [x, y] ∧ D.nx ((S.set i (some x)).set j (some y)) A1) (fun x A1 => D.ex x S A1) := id rfl
@[simp ↓] theorem e_wFor {wi : WI} {gg : WG} : wFor wi gg s1 D S A = wi S A (fun k A1 => forL k.ok gg s1 D k.its S A1) (fun x A1 => D.ex x S A1) := id rfl
@[simp ↓] theorem e_gN : gN i x S A N = N (S.set i (some x)) A := id rfl
@[simp ↓] theorem e_gT {gg : WGs} : gT n gg x S A N = match x with | .tup xs => xs.length = n ∧ gg xs S A N | _ => False := id rfl
@[simp ↓] theorem e_gNl : gNl xs S A N = (xs = [] ∧ N S A) := id rfl
@[simp ↓] theorem e_gCn {gg : WG} {r : WGs} : gCn gg r (x :: xs) S A N = gg x S A fun S1 A1 => r xs S1 A1 N := id rfl
@[simp ↓] theorem e_gS {h : F3} : gS h wa wb z S A N = wa S A (fun x A1 => wb S A1 (fun y A2 => h x y z A2 fun A3 => N S A3) noE) noE := id rfl
@[simp ↓] theorem e_wYes : wYes S A QB E = QB true A := id rfl
/-! values -/
@[simp ↓] theorem e_addI {p q : Int} : fAdd (.int p) (.int q) A Q = Q (.int (p + q)) A := id rfl
@[simp ↓] theorem e_addS {p q : Str} : fAdd (.str p) (.str q) A Q = (p.length + q.length ≤ sizeLine ∧ Q (.str (p ++ q)) A) := id rfl
@[simp ↓] theorem e_addT : fAdd (.tup xs) (.tup ys) A Q = (xs.length + ys.length ≤ sizeLine ∧ Q (.tup (xs ++ ys)) A) := id rfl
@[simp ↓] theorem e_addL {p q : Addr} : fAdd (.ref p) (.ref q) A Q = lstA A p fun xs => lstA A q fun ys => xs.length + ys.length ≤ sizeLine ∧ ∀ r, A r = none → Q (.ref r) (put A r (.lst (xs ++ ys))) := id rfl
@[simp ↓] theorem e_fI {C : Int → Int → Prop} {h : Int → Int → Vl} {p q : Int} : fI C h (.int p) (.int q) A Q = (C p q ∧ Q (h p q) A) := id rfl
@[simp ↓] theorem e_sub {p q : Int} : fSub (.int p) (.int q) A Q = Q (.int (p - q)) A := by unfold fSub; simp [fI]
@[simp ↓] theorem e_mod {p q : Int} : fMod (.int p) (.int q) A Q = (0 < q ∧ Q (.int (p % q)) A) := id rfl
@[simp ↓] theorem e_div {p q : Int} : fDiv (.int p) (.int q) A Q = (CDiv p q ∧ Q (.int (p / q)) A) := id rfl
@[simp ↓] theorem e_pow {p q : Int} : fPow (.int p) (.int q) A Q = (CPow p q ∧ Q (.int (p ^ q.toNat)) A) := id rfl
@[simp ↓] theorem e_mulI {p q : Int} : fMul (.int p) (.int q) A Q = (CMul p q ∧ Q (.int (p * q)) A) := id rfl
@[simp ↓] theorem e_mulL {p : Addr} {k : Int} : fMul (.ref p) (.int k) A Q = lstA A p fun xs => (0 ≤ k ∧ k < 2 ^ 63 ∧ xs.length * k.toNat ≤ sizeLine) ∧ ∀ r, A r = none → Q (.ref r) (put A r (.lst (List.replicate k.toNat xs).flatten)) := id rfl
@[simp ↓] theorem e_neg {p : Int} : fNeg (.int p) A Q = Q (.int (-p)) A := id rfl
@[simp ↓] theorem e_ltI {p q : Int} : fLt (.int p) (.int q) A Q = Q (.bl (decide (p < q))) A := id rfl
@[simp ↓] theorem e_leI {p q : Int} : fLe (.int p) (.int q) A Q = Q (.bl (decide (p ≤ q))) A := id rfl
@[simp ↓] theorem e_gtI {p q : Int} : fGt (.int p) (.int q) A Q = Q (.bl (decide (q < p))) A := id rfl
@[simp ↓] theorem e_geI {p q : Int} : fGe (.int p) (.int q) A Q = Q (.bl (decide (q ≤ p))) A := id rfl
@[simp ↓] theorem e_ltS {p q : Str} : fLt (.str p) (.str q) A Q = Q (.bl (decide (p.cps.toList < q.cps.toList))) A := id rfl
@[simp ↓] theorem e_leS {p q : Str} : fLe (.str p) (.str q) A Q = Q (.bl (!decide (q.cps.toList < p.cps.toList))) A := id rfl
@[simp ↓] theorem e_isN : fIsN b x .non A Q = Q (.bl (b != isNon x)) A := id rfl
@[simp ↓] theorem e_ixT {p : Int} : fIx (.tup xs) (.int p) A Q = ∃ z, atI xs p = some z ∧ Q z A := id rfl
@[simp ↓] theorem e_ixL {p : Addr} {k : Int} : fIx (.ref p) (.int k) A Q = seqA A p fun xs => ∃ z, atI xs k = some z ∧ Q z A := id rfl
@[simp ↓] theorem e_ixS {p : Str} {k : Int} : fIx (.str p) (.int k) A Q = ∃ c, atI p.cps.toList k = some c ∧ Q (.str ⟨#[c]⟩) A := id rfl
@[simp ↓] theorem e_set {p : Addr} {k : Int} {M : Ah → Prop} : fSet (.ref p) (.int k) z A M = lstA A p fun xs => ∃ j, ixN xs.length k = some j ∧ M (put A p (.lst (xs.set j z))) := id rfl
theorem lstA_eq {p : Addr} {R : List Vl → Prop} (h : A p = some (.lst xs)) : lstA A p R = R xs := by unfold lstA; rw [h]
theorem seqA_eq {p : Addr} {R : List Vl → Prop} (h : A p = some (.lst xs)) : seqA A p R = R xs := by unfold seqA; rw [h]
theorem seqA_eqR {p : Addr} {R : List Vl → Prop} (h : A p = some (.rol xs)) : seqA A p R = R xs := by unfold seqA; rw [h]
@[simp ↓] theorem e_len : fLen [x] A Q = lenA A x fun n => Q (.int n) A := id rfl
@[simp ↓] theorem e_lenS {p : Str} {R : Int → Prop} : lenA A (.str p) R = R p.length := id rfl
@[simp ↓] theorem e_lenT {R : Int → Prop} : lenA A (.tup xs) R = R xs.length := id rfl
theorem lenA_eq {p : Addr} {R : Int → Prop} (h : A p = some (.lst xs)) : lenA A (.ref p) R = R xs.length := by simp only [lenA, h]
theorem lenA_eqR {p : Addr} {R : Int → Prop} (h : A p = some (.rol xs)) : lenA A (.ref p) R = R xs.length := by simp only [lenA, h]
@[simp ↓] theorem e_abs {p : Int} : fAbs [.int p] A Q = Q (.int (if p < 0 then -p else p)) A := by simp [fAbs, int1]
@[simp ↓] theorem e_max {p q : Int} : fMax [.int p, .int q] A Q = Q (.int (if q > p then q else p)) A := propext ⟨fun ⟨_, _, e, h⟩ => by cases e; exact h, fun h => ⟨_, _, rfl, h⟩⟩
@[simp ↓] theorem e_min {p q : Int} : fMin [.int p, .int q] A Q = Q (.int (if q < p then q else p)) A := propext ⟨fun ⟨_, _, e, h⟩ => by cases e; exact h, fun h => ⟨_, _, rfl, h⟩⟩
@[simp ↓] theorem e_divmod {p q : Int} : fDivmod [.int p, .int q] A Q = (CDiv p q ∧ Q (.tup [.int (p / q), .int (p % q)]) A) := propext ⟨fun ⟨_, _, e, h⟩ => by cases e; exact h, fun h => ⟨_, _, rfl, h⟩⟩
@[simp ↓] theorem e_all {p : Addr} : fAll [.ref p] A Q = seqA A p fun xs => ∃ bs, bls xs = some bs ∧ Q (.bl (bs.all id)) A := id rfl
@[simp ↓] theorem e_any {p : Addr} : fAny [.ref p] A Q = seqA A p fun xs => ∃ bs, bls xs = some bs ∧ Q (.bl (bs.any id)) A := id rfl
@[simp ↓] theorem e_truB {k : Bool} : truA (.bl k) A P = P k := id rfl
@[simp ↓] theorem e_itT : itV (.tup xs) A QW = QW ⟨xs, fun _ => True⟩ A := id rfl
@[simp ↓] theorem e_itS {p : Str} : itV (.str p) A QW = QW ⟨signs p, fun _ => True⟩ A := id rfl
theorem itV_eq {p : Addr} (h : A p = some (.lst xs)) : itV (.ref p) A QW = QW ⟨xs, fun A => A p = some (.lst xs)⟩ A := by simp only [itV, itR, h]
@[simp] theorem e_int1 {p : Int} : int1 [.int p] = some p := id rfl
@[simp] theorem e_int2 {p q : Int} : int2 [.int p, .int q] = some (p, q) := id rfl
@[simp ↓] theorem e_tupO : fTupO [.tup xs] A Q = Q (.tup xs) A := id rfl
@[simp ↓] theorem e_tupL {p : Addr} : fTupO [.ref p] A Q = seqA A p fun ys => Q (.tup ys) A := id rfl
@[simp ↓] theorem e_listT : fList [.tup xs] A Q = ∀ p, A p = none → Q (.ref p) (put A p (.lst xs)) := id rfl
@[simp ↓] theorem e_listL {p : Addr} : fList [.ref p] A Q = seqA A p fun ys => ∀ p, A p = none → Q (.ref p) (put A p (.lst ys)) := id rfl
@[simp ↓] theorem e_inS {p q : Str} : fIn b (.str p) (.str q) A Q = Q (.bl (b != !(Builtin.Str.occurrences q p 0 q.length 1).isEmpty)) A := id rfl
@[simp] theorem e_kdM_s {p : Str} : kdM A (.str p) = some .str := id rfl
theorem kdM_l {p : Addr} (h : A p = some (.lst xs)) : kdM A (.ref p) = some .lst := by show kdR (A p) = _; rw [h]; rfl
@[simp] theorem e_only {k : Kd} {h : FM} : only k h k = some h := if_pos rfl
end
/-- isinstance(x, T), x of a known kind -/
theorem e_isi {x : Vl} {n : String} {A : Ah} {Q : QE} {y z : Kd} (h : kd A x = some y) (g : kdOf n = some z) (q : Q (.bl (y.sub z)) A) : fIsi [x, .ty n] A Q := ⟨x, y, h, .inl ⟨n, z, rfl, g, q⟩⟩
theorem e_isiT {x : Vl} {cs : List Vl} {A : Ah} {Q : QE} {y : Kd} {k : Bool} (h : kd A x = some y) (g : subAny y cs = some k) (q : Q (.bl k) A) : fIsi [x, .tup cs] A Q := ⟨x, y, h, .inr ⟨cs, k, rfl, g, q⟩⟩
/-- a def's body from its entry -/
theorem wFun_eq {n : Nat} {b : WS} {xs : List Vl} {A : Ah} {Q : QE} {E : EX} : wFun n b xs A Q E = b { nx := fun _ A' => ∃ B, Sub B A' ∧ Q .non B, rt := fun v A' => ∃ B, Sub B A' ∧ Q v B, ex := fun x _ A' => ∃ B, Sub B A' ∧ E x B } (xs.map some ++ List.replicate (n - xs.length) none) A := rfl
end Rk

set_option Elab.async false
set_option linter.all false
set_option maxRecDepth 100000
set_option maxHeartbeats 400000
namespace Rk
open PySem PySem.Spec PyProof.Rows L2
/-! ### sums the laws' own helpers do, once -/
theorem ixN_nat {n j : Nat} (h : j < n) : ixN n (j : Int) = some j := by
  unfold ixN; rw [if_pos (by omega), if_pos (by omega)]; simp
theorem ixN_lo {n : Nat} {k : Int} (h : 0 ≤ k) (h2 : k < n) : ixN n k = some k.toNat := by
  unfold ixN; rw [if_pos h, if_pos h2]
theorem atI_nat {α : Type} {xs : List α} {j : Nat} (h : j < xs.length) : atI xs (j : Int) = some xs[j] := by
  unfold atI; rw [ixN_nat h]; simp [h]
theorem atI_lo {α : Type} {xs : List α} {k : Int} (h : 0 ≤ k) (h2 : k < xs.length) : atI xs k = some (xs[k.toNat]'(by omega)) := by
  unfold atI; rw [ixN_lo h h2]; simp
theorem atI_map {α β : Type} {f : α → β} {xs : List α} {k : Int} (h : 0 ≤ k) (h2 : k < xs.length) : ∃ z, atI (xs.map f) k = some (f z) ∧ z ∈ xs :=
  ⟨_, by rw [atI_lo h (by simpa using h2), List.getElem_map], List.getElem_mem _⟩
theorem cMul_l {i j : Int} (h : -(2 ^ 64) < i := by omega) (h2 : i < 2 ^ 64 := by omega) : CMul i j := .inl ⟨h, h2⟩
theorem cMul_r {i j : Int} (h : -(2 ^ 64) < j := by omega) (h2 : j < 2 ^ 64 := by omega) : CMul i j := .inr ⟨h, h2⟩
theorem cPow18 : CPow 10 18 := ⟨by decide, by decide, by decide⟩
theorem sz_le {n : Nat} (h : n ≤ 16777216) : n ≤ sizeLine := h
@[simp] theorem sz_lt {n : Nat} : (n ≤ sizeLine) = (n ≤ 16777216) := rfl
def b_rng : WS :=
    (wSeq (wAsg (wIf (wB (wBin fLt (wVar 1) (wCB fLen (wCons (wVar 0) wNil)))) (wBin fIx (wVar 0) (wVar 1)) (wBin fAdd (wBin fMul (wC (.int 7)) (wVar 1)) (wC (.int 2)))) (gN 2))
    (wRet (wLst (wCons (wCB fMax (wCons (wC (.int 0)) (wCons (wBin fSub (wCB fAbs (wCons (wVar 2) wNil)) (wBin fPow (wC (.int 10)) (wC (.int 18)))) wNil))) (wCons (wBin fAdd (wBin fAdd (wBin fMod (wCB fAbs (wCons (wVar 2) wNil)) (wC (.int 2147483587))) (wBin fMul (wC (.int 211)) (wVar 1))) (wC (.int 5))) wNil)))))
theorem c_rng {a : Addr} {k : Int} {ns : List Int} {A : Ah} {Q : QE} {E : EX} (hA : A a = some (.rol (ns.map .int))) (hl : ns.length ≤ 63) (hk : 0 ≤ k) (hk2 : k ≤ 100) (hq : ∀ p x y, A p = none → 0 ≤ x → 0 ≤ y → Q (.ref p) (put A p (.lst [.int x, .int y]))) : wFun 3 b_rng [.ref a, .int k] A Q E := by
  rw [wFun_eq]
  simp [b_rng, lenA_eqR hA, seqA_eqR hA]
  split
  · rename_i h
    obtain ⟨z, hz, _⟩ := atI_map (f := Vl.int) hk h
    refine ⟨_, hz, ?_⟩
    simp
    exact ⟨cPow18, cMul_l, fun p hp => ⟨_, .refl, hq _ _ _ hp (by split <;> omega) (by split <;> omega)⟩⟩
  · exact ⟨cMul_l, cPow18, cMul_l, fun p hp => ⟨_, .refl, hq _ _ _ hp (by split <;> omega) (by split <;> omega)⟩⟩
def b_draw : WS :=
    (wSeq (wIfS (wB (wBin fGt (wBin fIx (wVar 0) (wC (.int 0))) (wC (.int 0)))) (wSeq (wAsg (wCB fDivmod (wCons (wBin fIx (wVar 0) (wC (.int 0))) (wCons (wVar 1) wNil))) (gT 2 (gCn (gS fSet (wVar 0) (wC (.int 0))) (gCn (gN 2) gNl))))
    (wRet (wVar 2))) (fun D S A => D.nx S A))
    (wSeq (wAsg (wBin fMod (wBin fAdd (wBin fMul (wBin fIx (wVar 0) (wC (.int 1))) (wC (.int 40692))) (wC (.int 12211))) (wC (.int 2147483399))) (gS fSet (wVar 0) (wC (.int 1))))
    (wRet (wBin fMod (wBin fDiv (wBin fMod (wBin fMul (wBin fIx (wVar 0) (wC (.int 1))) (wBin fIx (wVar 0) (wC (.int 1)))) (wC (.int 2147483323))) (wC (.int 17))) (wVar 1)))))
/-- a list of two ints, neither below nought: a law's own draws -/
def isG (A : Ah) (g : Addr) : Prop := ∃ x y : Int, 0 ≤ x ∧ 0 ≤ y ∧ A g = some (.lst [.int x, .int y])
theorem c_draw {g : Addr} {n : Int} {A : Ah} {Q : QE} {E : EX} (hA : isG A g) (hn : 0 < n) (hn2 : n < 1073741824) (hq : ∀ r x y, 0 ≤ r → r < n → 0 ≤ x → 0 ≤ y → Q (.int r) (put A g (.lst [.int x, .int y]))) : wFun 3 b_draw [.ref g, .int n] A Q E := by
  obtain ⟨x, y, hx, hy, hA⟩ := hA
  rw [wFun_eq]
  have i0 : ∀ x y : Int, atI [Vl.int x, Vl.int y] 0 = some (.int x) := fun _ _ => rfl
  have i1 : ∀ x y : Int, atI [Vl.int x, Vl.int y] 1 = some (.int y) := fun _ _ => rfl
  have n0 : ixN 2 0 = some 0 := rfl
  have n1 : ixN 2 1 = some 1 := rfl
  have hp : ∀ o, put A g o g = some o := fun o => put_same
  simp [b_draw, lstA_eq hA, seqA_eq hA, seqA_eq (hp _), lstA_eq (hp _), i0, i1, n0, n1]
  split
  · exact ⟨⟨hn, hn2⟩, _, .refl, hq _ _ _ (Int.emod_nonneg _ (by omega)) (Int.emod_lt_of_pos _ hn) (Int.ediv_nonneg hx (by omega)) hy⟩
  · refine ⟨cMul_r, cMul_l (by omega) (by omega), ⟨by decide, by decide⟩, hn, _, .refl, hq _ _ _ (Int.emod_nonneg _ (by omega)) (Int.emod_lt_of_pos _ hn) hx (by omega)⟩
theorem isG.put {A : Ah} {g p : Addr} {o : Ob} (h : isG A g) (hp : A p = none) : isG (put A p o) g := by
  obtain ⟨x, y, a, b, e⟩ := h
  exact ⟨x, y, a, b, by rw [put_ne (ne_of_nn e hp)]; exact e⟩
theorem isG.new {A : Ah} {p : Addr} {x y : Int} (hx : 0 ≤ x) (hy : 0 ≤ y) : isG (Rk.put A p (.lst [.int x, .int y])) p := ⟨x, y, hx, hy, put_same⟩
end Rk

set_option Elab.async false
set_option linter.all false
set_option maxRecDepth 100000
set_option maxHeartbeats 1000000
/-! printed by gen.py -/
namespace Lw
open PySem PySem.Spec PyProof.Rows L2 Rk
def top (i : Nat) : Stmt := PySem.Challenge.pw_relinktree_k11_host_names_and_words.main.body.getD i (.Pass ⟨0, 0, 0, 0⟩)
abbrev s_law_rng : Stmt := top 9
abbrev n_law_rng : List Str := ["_law_script", "_law_k", "_law_cell"]
theorem sc_law_rng : FnScope n_law_rng ["_law_script", "_law_k"] (defScope s_law_rng) := ⟨rfl, rfl, rfl, by decide +kernel, rfl, by decide +kernel, by decide +kernel⟩
def b_law_rng : WS :=
    (wSeq (wAsg (wIf (wB (wBin fLt (wVar 1) (wCB fLen (wCons (wVar 0) wNil)))) (wBin fIx (wVar 0) (wVar 1)) (wBin fAdd (wBin fMul (wC (.int 7)) (wVar 1)) (wC (.int 2)))) (gN 2))
    (wRet (wLst (wCons (wCB fMax (wCons (wC (.int 0)) (wCons (wBin fSub (wCB fAbs (wCons (wVar 2) wNil)) (wBin fPow (wC (.int 10)) (wC (.int 18)))) wNil))) (wCons (wBin fAdd (wBin fAdd (wBin fMod (wCB fAbs (wCons (wVar 2) wNil)) (wC (.int 2147483587))) (wBin fMul (wC (.int 211)) (wVar 1))) (wC (.int 5))) wNil)))))
def w_law_rng : WF := wFun 3 b_law_rng
abbrev s_law_draw : Stmt := top 10
abbrev n_law_draw : List Str := ["_law_rng_here", "_law_many", "_law_digit"]
theorem sc_law_draw : FnScope n_law_draw ["_law_rng_here", "_law_many"] (defScope s_law_draw) := ⟨rfl, rfl, rfl, by decide +kernel, rfl, by decide +kernel, by decide +kernel⟩
def b_law_draw : WS :=
    (wSeq (wIfS (wB (wBin fGt (wBin fIx (wVar 0) (wC (.int 0))) (wC (.int 0)))) (wSeq (wAsg (wCB fDivmod (wCons (wBin fIx (wVar 0) (wC (.int 0))) (wCons (wVar 1) wNil))) (gT 2 (gCn (gS fSet (wVar 0) (wC (.int 0))) (gCn (gN 2) gNl))))
    (wRet (wVar 2))) (fun D S A => D.nx S A))
    (wSeq (wAsg (wBin fMod (wBin fAdd (wBin fMul (wBin fIx (wVar 0) (wC (.int 1))) (wC (.int 40692))) (wC (.int 12211))) (wC (.int 2147483399))) (gS fSet (wVar 0) (wC (.int 1))))
    (wRet (wBin fMod (wBin fDiv (wBin fMod (wBin fMul (wBin fIx (wVar 0) (wC (.int 1))) (wBin fIx (wVar 0) (wC (.int 1)))) (wC (.int 2147483323))) (wC (.int 17))) (wVar 1)))))
def w_law_draw : WF := wFun 3 b_law_draw
abbrev s_law_is_of : Stmt := top 13
abbrev n_law_is_of : List Str := ["_law_thing", "_law_most", "_law_has_digits", "_law_sign"]
theorem sc_law_is_of : FnScope n_law_is_of ["_law_thing", "_law_most", "_law_has_digits"] (defScope s_law_is_of) := ⟨rfl, rfl, rfl, by decide +kernel, rfl, by decide +kernel, by decide +kernel⟩
def b_law_is_of : WS :=
    (wSeq (wIfS (wOr (wNot (wTru (wCB fIsi (wCons (wVar 0) (wCons (wC (.ty "str")) wNil))))) (wOr (wB (wBin fLt (wCB fLen (wCons (wVar 0) wNil)) (wC (.int 1)))) (wB (wBin fGt (wCB fLen (wCons (wVar 0) wNil)) (wVar 1))))) (wRet (wC (.bl false))) (fun D S A => D.nx S A))
    (wSeq (wFor (wiSeq (wVar 0)) (gN 3) (wIfS (wAnd (wNot (wB (wChain fLe fLe (wC (.str "a")) (wVar 3) (wC (.str "z"))))) (wNot (wAnd (wTru (wVar 2)) (wB (wChain fLe fLe (wC (.str "0")) (wVar 3) (wC (.str "9"))))))) (wRet (wC (.bl false))) (fun D S A => D.nx S A)))
    (wRet (wC (.bl true)))))
def w_law_is_of : WF := wFun 4 b_law_is_of
abbrev s_is_string_of : Stmt := top 5
abbrev n_is_string_of : List Str := ["value", "characters", "longest", "character"]
theorem sc_is_string_of : FnScope n_is_string_of ["value", "characters", "longest"] (defScope s_is_string_of) := ⟨rfl, rfl, rfl, by decide +kernel, rfl, by decide +kernel, by decide +kernel⟩
def b_is_string_of : WS :=
    (wSeq (wIfS (wOr (wNot (wTru (wCB fIsi (wCons (wVar 0) (wCons (wC (.ty "str")) wNil))))) (wNot (wB (wChain fLe fLe (wC (.int 1)) (wCB fLen (wCons (wVar 0) wNil)) (wVar 2))))) (wRet (wC (.bl false))) (fun D S A => D.nx S A))
    (wRet (wCB fAll (wCons (wLc (wiSeq (wVar 0)) (gN 3) wYes (wBin (fIn false) (wVar 3) (wVar 1)) [3]) wNil))))
def w_is_string_of : WF := wFun 4 b_is_string_of
abbrev s_is_host_name : Stmt := top 6
abbrev n_is_host_name : List Str := ["value"]
theorem sc_is_host_name : FnScope n_is_host_name ["value"] (defScope s_is_host_name) := ⟨rfl, rfl, rfl, by decide +kernel, rfl, by decide +kernel, by decide +kernel⟩
def b_is_host_name : WS :=
    (wRet (wCall 3 w_is_string_of (wCons (wVar 0) (wCons (wC (.str "abcdefghijklmnopqrstuvwxyz")) (wCons (wC (.int 8)) wNil)))))
def w_is_host_name : WF := wFun 1 b_is_host_name
abbrev s_is_word : Stmt := top 7
abbrev n_is_word : List Str := ["value"]
theorem sc_is_word : FnScope n_is_word ["value"] (defScope s_is_word) := ⟨rfl, rfl, rfl, by decide +kernel, rfl, by decide +kernel, by decide +kernel⟩
def b_is_word : WS :=
    (wRet (wCall 3 w_is_string_of (wCons (wVar 0) (wCons (wC (.str "abcdefghijklmnopqrstuvwxyz0123456789")) (wCons (wC (.int 12)) wNil)))))
def w_is_word : WF := wFun 1 b_is_word
abbrev s_law_right : Stmt := top 14
abbrev n_law_right : List Str := ["_law_thing", "_law_due", "_law_turn"]
theorem sc_law_right : FnScope n_law_right ["_law_thing"] (defScope s_law_right) := ⟨rfl, rfl, rfl, by decide +kernel, rfl, by decide +kernel, by decide +kernel⟩
def b_law_right : WS :=
    (wSeq (wAsg (wLst (wCons (wCall 3 w_law_is_of (wCons (wVar 0) (wCons (wC (.int 8)) (wCons (wC (.bl false)) wNil)))) (wCons (wCall 3 w_law_is_of (wCons (wVar 0) (wCons (wC (.int 12)) (wCons (wC (.bl true)) wNil)))) wNil))) (gN 1))
    (wSeq (wFor (wiR1 (wCons (wC (.int 2)) wNil)) (gN 2) (wIfS (wB (wBin (fEq true) (wCB fRepr (wCons (wLst (wCons (wCall 1 w_is_host_name (wCons (wVar 0) wNil)) (wCons (wCall 1 w_is_word (wCons (wVar 0) wNil)) wNil))) wNil)) (wCB fRepr (wCons (wVar 1) wNil)))) (wRet (wC (.bl false))) (fun D S A => D.nx S A)))
    (wRet (wBin (fEq false) (wCB fRepr (wCons (wLst (wCons (wCallK 0 1 (wSel [.p 0] w_is_host_name) wNil (wCons (wVar 0) wNil)) (wCons (wCallK 0 1 (wSel [.p 0] w_is_word) wNil (wCons (wVar 0) wNil)) wNil))) wNil)) (wCB fRepr (wCons (wVar 1) wNil))))))
def w_law_right : WF := wFun 3 b_law_right
abbrev s_law_string : Stmt := top 11
abbrev n_law_string : List Str := ["_law_rng_here", "_law_letters", "_law_digits", "_law_others", "_law_signs", "_law_size", "_law_turn"]
theorem sc_law_string : FnScope n_law_string ["_law_rng_here"] (defScope s_law_string) := ⟨rfl, rfl, rfl, by decide +kernel, rfl, by decide +kernel, by decide +kernel⟩
def b_law_string : WS :=
    (wSeq (wAsg (wC (.str "abcdefghijklmnopqrstuvwxyz")) (gN 1))
    (wSeq (wAsg (wC (.str "0123456789")) (gN 2))
    (wSeq (wAsg (wBin fAdd (wBin fAdd (wC (.str " !\"#$&'()*+,-./:;<=>?@")) (wMt (only .str fUpper) (wVar 1) wNil)) (wC (.str "[\\]^_`{|}~\n"))) (gN 3))
    (wSeq (wAsg (wBin fIx (wLst (wCons (wVar 1) (wCons (wVar 1) (wCons (wBin fAdd (wVar 1) (wVar 2)) (wCons (wBin fAdd (wBin fAdd (wVar 1) (wVar 2)) (wVar 3)) wNil))))) (wCall 2 w_law_draw (wCons (wVar 0) (wCons (wC (.int 4)) wNil)))) (gN 4))
    (wSeq (wAsg (wBin fIx (wLst (wCons (wCall 2 w_law_draw (wCons (wVar 0) (wCons (wC (.int 15)) wNil))) (wCons (wC (.int 1)) (wCons (wC (.int 8)) (wCons (wC (.int 9)) (wCons (wC (.int 12)) (wCons (wC (.int 13)) wNil))))))) (wCall 2 w_law_draw (wCons (wVar 0) (wCons (wC (.int 6)) wNil)))) (gN 5))
    (wRet (wMt (only .str fJoin) (wC (.str "")) (wCons (wLc (wiR1 (wCons (wVar 5) wNil)) (gN 6) wYes (wBin fIx (wVar 4) (wCall 2 w_law_draw (wCons (wVar 0) (wCons (wCB fLen (wCons (wVar 4) wNil)) wNil)))) [6]) wNil))))))))
def w_law_string : WF := wFun 7 b_law_string
abbrev s_law_odd : Stmt := top 12
abbrev n_law_odd : List Str := ["_law_rng_here", "_law_some"]
theorem sc_law_odd : FnScope n_law_odd ["_law_rng_here"] (defScope s_law_odd) := ⟨rfl, rfl, rfl, by decide +kernel, rfl, by decide +kernel, by decide +kernel⟩
def b_law_odd : WS :=
    (wSeq (wAsg (wLst (wCons (wC .non) (wCons (wC (.bl true)) (wCons (wC (.bl false)) (wCons (wC (.int 0)) (wCons (wC (.int 1)) (wCons (wUn fNeg (wC (.int 7))) (wCons (wC (.str "")) (wCons (wC (.str "A")) (wCons (wC (.str "a1")) (wCons (wC (.str "a b")) (wCons (wC (.str "abcdefghi")) (wCons (wC (.str "a\n")) (wCons (wC (.str " a")) (wCons (wLst wNil) (wCons (wTup wNil) (wCons wDct0 wNil))))))))))))))))) (gN 1))
    (wRet (wBin fIx (wBin fAdd (wVar 1) (wLst (wCons (wLst (wCons (wC (.str "a")) wNil)) (wCons (wTup (wCons (wC (.str "a")) wNil)) (wCons (wC (.str "z-")) wNil))))) (wCall 2 w_law_draw (wCons (wVar 0) (wCons (wC (.int 19)) wNil))))))
def w_law_odd : WF := wFun 2 b_law_odd
abbrev s_law : Stmt := top 15
abbrev n_law : List Str := ["_law_script", "_law_k", "_law_rng_here", "_law_near", "_law_thing"]
theorem sc_law : FnScope n_law ["_law_script"] (defScope s_law) := ⟨rfl, rfl, rfl, by decide +kernel, rfl, by decide +kernel, by decide +kernel⟩
def b_law : WS :=
    (wSeq (wFor (wiR1 (wCons (wCB fMax (wCons (wC (.int 1)) (wCons (wCB fMin (wCons (wC (.int 12)) (wCons (wCB fLen (wCons (wVar 0) wNil)) wNil))) wNil))) wNil)) (gN 1) (wSeq (wAsg (wCall 2 w_law_rng (wCons (wVar 0) (wCons (wVar 1) wNil))) (gN 2))
    (wSeq (wAsg (wBin fIx (wC (.str "`az{/09:@AZ[ -_")) (wCall 2 w_law_draw (wCons (wVar 2) (wCons (wC (.int 14)) wNil)))) (gN 3))
    (wIfS (wNot (wTru (wCB fAll (wCons (wLc (wiSeq (wLst (wCons (wCall 1 w_law_string (wCons (wVar 2) wNil)) (wCons (wVar 3) (wCons (wCall 1 w_law_odd (wCons (wVar 2) wNil)) (wCons (wBin fAdd (wVar 3) (wC (.str "a"))) wNil)))))) (gN 4) wYes (wCall 1 w_law_right (wCons (wVar 4) wNil)) [4]) wNil)))) (wRet (wC (.bl false))) (fun D S A => D.nx S A)))))
    (wRet (wC (.bl true))))
def w_law : WF := wFun 5 b_law
/-- where the defs stand -/
structure Ad where
  f_law_rng : Addr
  fd_law_rng : FuncData
  f_law_draw : Addr
  fd_law_draw : FuncData
  f_law_is_of : Addr
  fd_law_is_of : FuncData
  f_is_string_of : Addr
  fd_is_string_of : FuncData
  f_is_host_name : Addr
  fd_is_host_name : FuncData
  f_is_word : Addr
  fd_is_word : FuncData
  f_law_right : Addr
  fd_law_right : FuncData
  f_law_string : Addr
  fd_law_string : FuncData
  f_law_odd : Addr
  fd_law_odd : FuncData
  f_law : Addr
  fd_law : FuncData
/-- what the top has written -/
structure Tx (K : PySem.W.Frag) (mg : Str → Option Value) (F : Ad) : Prop where
  m_law_rng : mg "_law_rng" = some (.ref F.f_law_rng)
  d_law_rng : Df K "_law_rng" "_law_rng" s_law_rng F.f_law_rng F.fd_law_rng .none
  m_law_draw : mg "_law_draw" = some (.ref F.f_law_draw)
  d_law_draw : Df K "_law_draw" "_law_draw" s_law_draw F.f_law_draw F.fd_law_draw .none
  m_law_is_of : mg "_law_is_of" = some (.ref F.f_law_is_of)
  d_law_is_of : Df K "_law_is_of" "_law_is_of" s_law_is_of F.f_law_is_of F.fd_law_is_of .none
  m_is_string_of : mg "is_string_of" = some (.ref F.f_is_string_of)
  d_is_string_of : Df K "is_string_of" "is_string_of" s_is_string_of F.f_is_string_of F.fd_is_string_of .none
  m_is_host_name : mg "is_host_name" = some (.ref F.f_is_host_name)
  d_is_host_name : Df K "is_host_name" "is_host_name" s_is_host_name F.f_is_host_name F.fd_is_host_name .none
  m_is_word : mg "is_word" = some (.ref F.f_is_word)
  d_is_word : Df K "is_word" "is_word" s_is_word F.f_is_word F.fd_is_word .none
  m_law_right : mg "_law_right" = some (.ref F.f_law_right)
  d_law_right : Df K "_law_right" "_law_right" s_law_right F.f_law_right F.fd_law_right .none
  m_law_string : mg "_law_string" = some (.ref F.f_law_string)
  d_law_string : Df K "_law_string" "_law_string" s_law_string F.f_law_string F.fd_law_string .none
  m_law_odd : mg "_law_odd" = some (.ref F.f_law_odd)
  d_law_odd : Df K "_law_odd" "_law_odd" s_law_odd F.f_law_odd F.fd_law_odd .none
  m_law : mg "law" = some (.ref F.f_law)
  d_law : Df K "law" "law" s_law F.f_law F.fd_law .none
  n_abs : mg "abs" = none
  n_all : mg "all" = none
  n_divmod : mg "divmod" = none
  n_isinstance : mg "isinstance" = none
  n_len : mg "len" = none
  n_max : mg "max" = none
  n_min : mg "min" = none
  n_range : mg "range" = none
  n_repr : mg "repr" = none
  n_str : mg "str" = none
  e_LETTERS : ∃ t, mg "LETTERS" = some (.str "abcdefghijklmnopqrstuvwxyz" t)
  e_LONGEST_NAME : ∃ t, mg "LONGEST_NAME" = some (.int 8 t)
  e_LONGEST_WORD : ∃ t, mg "LONGEST_WORD" = some (.int 12 t)
  e_WORD_CHARACTERS : ∃ t, mg "WORD_CHARACTERS" = some (.str "abcdefghijklmnopqrstuvwxyz0123456789" t)
section
variable {P : Program} {w : World} {K : PySem.W.Frag} {mg : Str → Option Value} {base : Heap} {F : Ad}
theorem bd_law_rng (T : Tx K mg F) : ∀ us : List Value, us.length = 2 → bindArgs F.fd_law_rng ⟨us, []⟩ = pure ((["_law_script", "_law_k"] : List Str).zip us) := T.d_law_rng.bind fun _ _ _ _ _ _ us hu => match us, hu with | [_, _], _ => rfl
theorem ok_law_rng (T : Tx K mg F) : Gn P w K mg base 1 F.f_law_rng F.fd_law_rng ["_law_script", "_law_k"] w_law_rng := by
  refine T.d_law_rng.gn (N := n_law_rng) sc_law_rng fun cdv A outer s H E B => ?_
  exact (ass_cons (as_set (i := 2) B.nd rfl (by first | exact Or.inl rfl | exact Or.inr rfl) (ae_if (at_cmp o_lt sim2 (av 1) (ae_callB o_len simC (by rfl) T.n_len bb_len (aa_cons (av 0) aa_nil))) (ae_ix o_ix sim2 (av 0) (av 1)) (ae_bin o_add sim2 (ae_bin o_mul sim2 ae_int (av 1)) ae_int)))
    (ass_one (as_ret (ae_lst (aa_cons (ae_callB (o_max B.calm) simC (by rfl) T.n_max bb_max (aa_cons ae_int (aa_cons (ae_bin o_sub sim2 (ae_callB o_abs simC (by rfl) T.n_abs bb_abs (aa_cons (av 2) aa_nil)) (ae_bin o_pow sim2 ae_int ae_int)) aa_nil))) (aa_cons (ae_bin o_add sim2 (ae_bin o_add sim2 (ae_bin o_mod sim2 (ae_callB o_abs simC (by rfl) T.n_abs bb_abs (aa_cons (av 2) aa_nil)) ae_int) (ae_bin o_mul sim2 ae_int (av 1))) ae_int) aa_nil))))))
theorem bd_law_draw (T : Tx K mg F) : ∀ us : List Value, us.length = 2 → bindArgs F.fd_law_draw ⟨us, []⟩ = pure ((["_law_rng_here", "_law_many"] : List Str).zip us) := T.d_law_draw.bind fun _ _ _ _ _ _ us hu => match us, hu with | [_, _], _ => rfl
theorem ok_law_draw (T : Tx K mg F) : Gn P w K mg base 1 F.f_law_draw F.fd_law_draw ["_law_rng_here", "_law_many"] w_law_draw := by
  refine T.d_law_draw.gn (N := n_law_draw) sc_law_draw fun cdv A outer s H E B => ?_
  exact (ass_cons (as_if (at_cmp o_gt sim2 (ae_ix o_ix sim2 (av 0) ae_int) ae_int) (ass_cons (as_asg (vs := [2]) (ae_callB o_divmod simC (by rfl) T.n_divmod bb_divmod (aa_cons (ae_ix o_ix sim2 (av 0) ae_int) (aa_cons (av 1) aa_nil))) (ag_tup B.calm (ags_cons (ag_sub (W := bodyW E) set_list s_set (av 0) ae_int) (ags_cons (agn 2 B.nd) ags_nil))))
    (ass_one (as_ret (av 2)))) ass_nil)
    (ass_cons (as_asg (vs := []) (ae_bin o_mod sim2 (ae_bin o_add sim2 (ae_bin o_mul sim2 (ae_ix o_ix sim2 (av 0) ae_int) ae_int) ae_int) ae_int) (ag_sub (W := bodyW E) set_list s_set (av 0) ae_int))
    (ass_one (as_ret (ae_bin o_mod sim2 (ae_bin o_div sim2 (ae_bin o_mod sim2 (ae_bin o_mul sim2 (ae_ix o_ix sim2 (av 0) ae_int) (ae_ix o_ix sim2 (av 0) ae_int)) ae_int) ae_int) (av 1))))))
theorem bd_law_is_of (T : Tx K mg F) : ∀ us : List Value, us.length = 3 → bindArgs F.fd_law_is_of ⟨us, []⟩ = pure ((["_law_thing", "_law_most", "_law_has_digits"] : List Str).zip us) := T.d_law_is_of.bind fun _ _ _ _ _ _ us hu => match us, hu with | [_, _, _], _ => rfl
theorem ok_law_is_of (T : Tx K mg F) : Gn P w K mg base 1 F.f_law_is_of F.fd_law_is_of ["_law_thing", "_law_most", "_law_has_digits"] w_law_is_of := by
  refine T.d_law_is_of.gn (N := n_law_is_of) sc_law_is_of fun cdv A outer s H E B => ?_
  exact (ass_cons (as_if (at_w (aw_or (at_not (at_tru (ae_callB o_isi simC (by rfl) T.n_isinstance bb_isinstance (aa_cons (av 0) (aa_cons (ae_bltn (v := .ty "str") (by rfl) T.n_str bb_str rfl re_ty) aa_nil))))) (aw_or (at_cmp o_lt sim2 (ae_callB o_len simC (by rfl) T.n_len bb_len (aa_cons (av 0) aa_nil)) ae_int) (aw_or1 (at_cmp o_gt sim2 (ae_callB o_len simC (by rfl) T.n_len bb_len (aa_cons (av 0) aa_nil)) (av 1)))))) (ass_one (as_ret ae_bl)) ass_nil)
    (ass_cons (as_for (vs := [3]) B.pass B.calm (ai_seq (av 0)) (agn 3 B.nd) (ass_one (as_if (at_w (aw_and (at_not (at_chain o_le sim2 o_le sim2 ae_str (av 3) ae_str)) (aw_and1 (at_not (at_w (aw_and (at_tru (av 2)) (aw_and1 (at_chain o_le sim2 o_le sim2 ae_str (av 3) ae_str)))))))) (ass_one (as_ret ae_bl)) ass_nil)))
    (ass_one (as_ret ae_bl))))
theorem bd_is_string_of (T : Tx K mg F) : ∀ us : List Value, us.length = 3 → bindArgs F.fd_is_string_of ⟨us, []⟩ = pure ((["value", "characters", "longest"] : List Str).zip us) := T.d_is_string_of.bind fun _ _ _ _ _ _ us hu => match us, hu with | [_, _, _], _ => rfl
theorem ok_is_string_of (T : Tx K mg F) : Gn P w K mg base 1 F.f_is_string_of F.fd_is_string_of ["value", "characters", "longest"] w_is_string_of := by
  refine T.d_is_string_of.gn (N := n_is_string_of) sc_is_string_of fun cdv A outer s H E B => ?_
  exact (ass_cons (as_if (at_w (aw_or (at_not (at_tru (ae_callB o_isi simC (by rfl) T.n_isinstance bb_isinstance (aa_cons (av 0) (aa_cons (ae_bltn (v := .ty "str") (by rfl) T.n_str bb_str rfl re_ty) aa_nil))))) (aw_or1 (at_not (at_chain o_le sim2 o_le sim2 ae_int (ae_callB o_len simC (by rfl) T.n_len bb_len (aa_cons (av 0) aa_nil)) (av 2)))))) (ass_one (as_ret ae_bl)) ass_nil)
    (ass_one (as_ret (ae_callB (o_all B.calm) simC (by rfl) T.n_all bb_all (aa_cons (ae_lc B.calm B.nd (ai_seq (av 0)) (blkOk_by (own := [(("character" : Str), 3)]) (N := n_is_string_of) (sc := defScope s_is_string_of) (by decide +kernel)) (fun _ _ _ _ _ => (agn 3 (B.blk _ _ _ _ _).nd)) (fun _ _ _ _ _ => ats_nil) (fun _ _ _ _ _ => (ae_cmp o_in sim2 (av 3) (av 1)))) aa_nil)))))
theorem bd_is_host_name (T : Tx K mg F) : ∀ us : List Value, us.length = 1 → bindArgs F.fd_is_host_name ⟨us, []⟩ = pure ((["value"] : List Str).zip us) := T.d_is_host_name.bind fun _ _ _ _ _ _ us hu => match us, hu with | [_], _ => rfl
theorem ok_is_host_name (T : Tx K mg F) : Gn P w K mg base 2 F.f_is_host_name F.fd_is_host_name ["value"] w_is_host_name := by
  obtain ⟨t_LETTERS, h_LETTERS⟩ := T.e_LETTERS
  obtain ⟨t_LONGEST_NAME, h_LONGEST_NAME⟩ := T.e_LONGEST_NAME
  refine T.d_is_host_name.gn (N := n_is_host_name) sc_is_host_name fun cdv A outer s H E B => ?_
  exact (ass_one (as_ret (ae_call (runs_all (n := 3) B ((ok_is_string_of T).mono (by decide)) rfl (bd_is_string_of T)) (by rfl) T.m_is_string_of T.d_is_string_of.kp (aa_cons (av 0) (aa_cons (ae_glob (v := .str "abcdefghijklmnopqrstuvwxyz") (by rfl) h_LETTERS ⟨_, rfl⟩ (re_str (okS_of (by decide +kernel)))) (aa_cons (ae_glob (v := .int 8) (by rfl) h_LONGEST_NAME ⟨_, rfl⟩ re_int) aa_nil))))))
theorem bd_is_word (T : Tx K mg F) : ∀ us : List Value, us.length = 1 → bindArgs F.fd_is_word ⟨us, []⟩ = pure ((["value"] : List Str).zip us) := T.d_is_word.bind fun _ _ _ _ _ _ us hu => match us, hu with | [_], _ => rfl
theorem ok_is_word (T : Tx K mg F) : Gn P w K mg base 2 F.f_is_word F.fd_is_word ["value"] w_is_word := by
  obtain ⟨t_LONGEST_WORD, h_LONGEST_WORD⟩ := T.e_LONGEST_WORD
  obtain ⟨t_WORD_CHARACTERS, h_WORD_CHARACTERS⟩ := T.e_WORD_CHARACTERS
  refine T.d_is_word.gn (N := n_is_word) sc_is_word fun cdv A outer s H E B => ?_
  exact (ass_one (as_ret (ae_call (runs_all (n := 3) B ((ok_is_string_of T).mono (by decide)) rfl (bd_is_string_of T)) (by rfl) T.m_is_string_of T.d_is_string_of.kp (aa_cons (av 0) (aa_cons (ae_glob (v := .str "abcdefghijklmnopqrstuvwxyz0123456789") (by rfl) h_WORD_CHARACTERS ⟨_, rfl⟩ (re_str (okS_of (by decide +kernel)))) (aa_cons (ae_glob (v := .int 12) (by rfl) h_LONGEST_WORD ⟨_, rfl⟩ re_int) aa_nil))))))
theorem bd_law_right (T : Tx K mg F) : ∀ us : List Value, us.length = 1 → bindArgs F.fd_law_right ⟨us, []⟩ = pure ((["_law_thing"] : List Str).zip us) := T.d_law_right.bind fun _ _ _ _ _ _ us hu => match us, hu with | [_], _ => rfl
theorem ok_law_right (T : Tx K mg F) : Gn P w K mg base 3 F.f_law_right F.fd_law_right ["_law_thing"] w_law_right := by
  refine T.d_law_right.gn (N := n_law_right) sc_law_right fun cdv A outer s H E B => ?_
  exact (ass_cons (as_set (i := 1) B.nd rfl (by first | exact Or.inl rfl | exact Or.inr rfl) (ae_lst (aa_cons (ae_call (runs_all (n := 3) B ((ok_law_is_of T).mono (by decide)) rfl (bd_law_is_of T)) (by rfl) T.m_law_is_of T.d_law_is_of.kp (aa_cons (av 0) (aa_cons ae_int (aa_cons ae_bl aa_nil)))) (aa_cons (ae_call (runs_all (n := 3) B ((ok_law_is_of T).mono (by decide)) rfl (bd_law_is_of T)) (by rfl) T.m_law_is_of T.d_law_is_of.kp (aa_cons (av 0) (aa_cons ae_int (aa_cons ae_bl aa_nil)))) aa_nil))))
    (ass_cons (as_for (vs := [2]) B.pass B.calm (ai_range1 (by rfl) T.n_range (aa_cons ae_int aa_nil)) (agn 2 B.nd) (ass_one (as_if (at_cmp (o_ne B.u64) sim2 (ae_callB (o_repr B.gd B.u64) simC (by rfl) T.n_repr bb_repr (aa_cons (ae_lst (aa_cons (ae_call (runs_all (n := 1) B ((ok_is_host_name T).mono (by decide)) rfl (bd_is_host_name T)) (by rfl) T.m_is_host_name T.d_is_host_name.kp (aa_cons (av 0) aa_nil)) (aa_cons (ae_call (runs_all (n := 1) B ((ok_is_word T).mono (by decide)) rfl (bd_is_word T)) (by rfl) T.m_is_word T.d_is_word.kp (aa_cons (av 0) aa_nil)) aa_nil))) aa_nil)) (ae_callB (o_repr B.gd B.u64) simC (by rfl) T.n_repr bb_repr (aa_cons (av 1) aa_nil))) (ass_one (as_ret ae_bl)) ass_nil)))
    (ass_one (as_ret (ae_cmp (o_eq B.u64) sim2 (ae_callB (o_repr B.gd B.u64) simC (by rfl) T.n_repr bb_repr (aa_cons (ae_lst (aa_cons (ae_callK0 (runs_sel (n := 0) (ks := [("value" : Str)]) (l := [.p 0]) B ((ok_is_host_name T).mono (by decide)) rfl (by simp [Src.ok]) (T.d_is_host_name.bindK fun _ _ _ _ _ _ us ws hu hw => match us, ws, hu, hw with | [], [_], _, _ => rfl)) (by rfl) T.m_is_host_name T.d_is_host_name.kp (ak_cons (av 0) ak_nil)) (aa_cons (ae_callK0 (runs_sel (n := 0) (ks := [("value" : Str)]) (l := [.p 0]) B ((ok_is_word T).mono (by decide)) rfl (by simp [Src.ok]) (T.d_is_word.bindK fun _ _ _ _ _ _ us ws hu hw => match us, ws, hu, hw with | [], [_], _, _ => rfl)) (by rfl) T.m_is_word T.d_is_word.kp (ak_cons (av 0) ak_nil)) aa_nil))) aa_nil)) (ae_callB (o_repr B.gd B.u64) simC (by rfl) T.n_repr bb_repr (aa_cons (av 1) aa_nil)))))))
theorem bd_law_string (T : Tx K mg F) : ∀ us : List Value, us.length = 1 → bindArgs F.fd_law_string ⟨us, []⟩ = pure ((["_law_rng_here"] : List Str).zip us) := T.d_law_string.bind fun _ _ _ _ _ _ us hu => match us, hu with | [_], _ => rfl
theorem ok_law_string (T : Tx K mg F) : Gn P w K mg base 2 F.f_law_string F.fd_law_string ["_law_rng_here"] w_law_string := by
  refine T.d_law_string.gn (N := n_law_string) sc_law_string fun cdv A outer s H E B => ?_
  exact (ass_cons (as_set (i := 1) B.nd rfl (by first | exact Or.inl rfl | exact Or.inr rfl) ae_str)
    (ass_cons (as_set (i := 2) B.nd rfl (by first | exact Or.inl rfl | exact Or.inr rfl) ae_str)
    (ass_cons (as_set (i := 3) B.nd rfl (by first | exact Or.inl rfl | exact Or.inr rfl) (ae_bin o_add sim2 (ae_bin o_add sim2 ae_str (ae_mt0 (only_mt m_upper) (av 1))) ae_str))
    (ass_cons (as_set (i := 4) B.nd rfl (by first | exact Or.inl rfl | exact Or.inr rfl) (ae_ix o_ix sim2 (ae_lst (aa_cons (av 1) (aa_cons (av 1) (aa_cons (ae_bin o_add sim2 (av 1) (av 2)) (aa_cons (ae_bin o_add sim2 (ae_bin o_add sim2 (av 1) (av 2)) (av 3)) aa_nil))))) (ae_call (runs_all (n := 2) B ((ok_law_draw T).mono (by decide)) rfl (bd_law_draw T)) (by rfl) T.m_law_draw T.d_law_draw.kp (aa_cons (av 0) (aa_cons ae_int aa_nil)))))
    (ass_cons (as_set (i := 5) B.nd rfl (by first | exact Or.inl rfl | exact Or.inr rfl) (ae_ix o_ix sim2 (ae_lst (aa_cons (ae_call (runs_all (n := 2) B ((ok_law_draw T).mono (by decide)) rfl (bd_law_draw T)) (by rfl) T.m_law_draw T.d_law_draw.kp (aa_cons (av 0) (aa_cons ae_int aa_nil))) (aa_cons ae_int (aa_cons ae_int (aa_cons ae_int (aa_cons ae_int (aa_cons ae_int aa_nil))))))) (ae_call (runs_all (n := 2) B ((ok_law_draw T).mono (by decide)) rfl (bd_law_draw T)) (by rfl) T.m_law_draw T.d_law_draw.kp (aa_cons (av 0) (aa_cons ae_int aa_nil)))))
    (ass_one (as_ret (ae_mt (only_mt m_join) ae_str (aa_cons (ae_lc B.calm B.nd (ai_range1 (by rfl) T.n_range (aa_cons (av 5) aa_nil)) (blkOk_by (own := [(("_law_turn" : Str), 6)]) (N := n_law_string) (sc := defScope s_law_string) (by decide +kernel)) (fun _ _ _ _ _ => (agn 6 (B.blk _ _ _ _ _).nd)) (fun _ _ _ _ _ => ats_nil) (fun _ _ _ _ _ => (ae_ix o_ix sim2 (av 4) (ae_call (runs_all (n := 2) (B.blk _ _ _ _ _) ((ok_law_draw T).mono (by decide)) rfl (bd_law_draw T)) (by rfl) T.m_law_draw T.d_law_draw.kp (aa_cons (av 0) (aa_cons (ae_callB o_len simC (by rfl) T.n_len bb_len (aa_cons (av 4) aa_nil)) aa_nil)))))) aa_nil)))))))))
theorem bd_law_odd (T : Tx K mg F) : ∀ us : List Value, us.length = 1 → bindArgs F.fd_law_odd ⟨us, []⟩ = pure ((["_law_rng_here"] : List Str).zip us) := T.d_law_odd.bind fun _ _ _ _ _ _ us hu => match us, hu with | [_], _ => rfl
theorem ok_law_odd (T : Tx K mg F) : Gn P w K mg base 2 F.f_law_odd F.fd_law_odd ["_law_rng_here"] w_law_odd := by
  refine T.d_law_odd.gn (N := n_law_odd) sc_law_odd fun cdv A outer s H E B => ?_
  exact (ass_cons (as_set (i := 1) B.nd rfl (by first | exact Or.inl rfl | exact Or.inr rfl) (ae_lst (aa_cons ae_non (aa_cons ae_bl (aa_cons ae_bl (aa_cons ae_int (aa_cons ae_int (aa_cons (ae_un un_neg s_neg ae_int) (aa_cons ae_str (aa_cons ae_str (aa_cons ae_str (aa_cons ae_str (aa_cons ae_str (aa_cons ae_str (aa_cons ae_str (aa_cons (ae_lst aa_nil) (aa_cons (ae_tup aa_nil) (aa_cons ae_dct0 aa_nil))))))))))))))))))
    (ass_one (as_ret (ae_ix o_ix sim2 (ae_bin o_add sim2 (av 1) (ae_lst (aa_cons (ae_lst (aa_cons ae_str aa_nil)) (aa_cons (ae_tup (aa_cons ae_str aa_nil)) (aa_cons ae_str aa_nil))))) (ae_call (runs_all (n := 2) B ((ok_law_draw T).mono (by decide)) rfl (bd_law_draw T)) (by rfl) T.m_law_draw T.d_law_draw.kp (aa_cons (av 0) (aa_cons ae_int aa_nil)))))))
theorem bd_law (T : Tx K mg F) : ∀ us : List Value, us.length = 1 → bindArgs F.fd_law ⟨us, []⟩ = pure ((["_law_script"] : List Str).zip us) := T.d_law.bind fun _ _ _ _ _ _ us hu => match us, hu with | [_], _ => rfl
theorem ok_law (T : Tx K mg F) : Gn P w K mg base 4 F.f_law F.fd_law ["_law_script"] w_law := by
  refine T.d_law.gn (N := n_law) sc_law fun cdv A outer s H E B => ?_
  exact (ass_cons (as_for (vs := [1]) B.pass B.calm (ai_range1 (by rfl) T.n_range (aa_cons (ae_callB (o_max B.calm) simC (by rfl) T.n_max bb_max (aa_cons ae_int (aa_cons (ae_callB (o_min B.calm) simC (by rfl) T.n_min bb_min (aa_cons ae_int (aa_cons (ae_callB o_len simC (by rfl) T.n_len bb_len (aa_cons (av 0) aa_nil)) aa_nil))) aa_nil))) aa_nil)) (agn 1 B.nd) (ass_cons (as_set (i := 2) B.nd rfl (by first | exact Or.inl rfl | exact Or.inr rfl) (ae_call (runs_all (n := 2) B ((ok_law_rng T).mono (by decide)) rfl (bd_law_rng T)) (by rfl) T.m_law_rng T.d_law_rng.kp (aa_cons (av 0) (aa_cons (av 1) aa_nil))))
    (ass_cons (as_set (i := 3) B.nd rfl (by first | exact Or.inl rfl | exact Or.inr rfl) (ae_ix o_ix sim2 ae_str (ae_call (runs_all (n := 2) B ((ok_law_draw T).mono (by decide)) rfl (bd_law_draw T)) (by rfl) T.m_law_draw T.d_law_draw.kp (aa_cons (av 2) (aa_cons ae_int aa_nil)))))
    (ass_one (as_if (at_not (at_tru (ae_callB (o_all B.calm) simC (by rfl) T.n_all bb_all (aa_cons (ae_lc B.calm B.nd (ai_seq (ae_lst (aa_cons (ae_call (runs_all (n := 1) B ((ok_law_string T).mono (by decide)) rfl (bd_law_string T)) (by rfl) T.m_law_string T.d_law_string.kp (aa_cons (av 2) aa_nil)) (aa_cons (av 3) (aa_cons (ae_call (runs_all (n := 1) B ((ok_law_odd T).mono (by decide)) rfl (bd_law_odd T)) (by rfl) T.m_law_odd T.d_law_odd.kp (aa_cons (av 2) aa_nil)) (aa_cons (ae_bin o_add sim2 (av 3) ae_str) aa_nil)))))) (blkOk_by (own := [(("_law_thing" : Str), 4)]) (N := n_law) (sc := defScope s_law) (by decide +kernel)) (fun _ _ _ _ _ => (agn 4 (B.blk _ _ _ _ _).nd)) (fun _ _ _ _ _ => ats_nil) (fun _ _ _ _ _ => (ae_call (runs_all (n := 1) (B.blk _ _ _ _ _) ((ok_law_right T).mono (by decide)) rfl (bd_law_right T)) (by rfl) T.m_law_right T.d_law_right.kp (aa_cons (av 4) aa_nil)))) aa_nil)))) (ass_one (as_ret ae_bl)) ass_nil)))))
    (ass_one (as_ret ae_bl)))
end
end Lw

set_option Elab.async false
set_option linter.all false
set_option maxRecDepth 100000
set_option maxHeartbeats 400000
namespace Lw
open PySem PySem.Spec PyProof.Rows L2 Rk
variable {A : Ah} {Q : QE} {E : EX}
theorem rng_is : w_law_rng = wFun 3 b_rng := rfl
theorem draw_is : w_law_draw = wFun 3 b_draw := rfl
def okC (m : Int) (cs s : Str) : Bool := decide (1 ≤ s.length) && decide ((s.length : Int) ≤ m) && s.cps.toList.all fun c => decide (c ∈ cs.cps.toList)
theorem isi_str {s : Str} {QB : QE} (q : QB (.bl true) A) : fIsi [.str s, .ty "str"] A QB := e_isi (y := .str) (z := .str) rfl rfl q
theorem isi_no {x : Vl} {y : Kd} {QB : QE} (h : kd A x = some y) (hy : y ≠ .str) (q : QB (.bl false) A) : fIsi [x, .ty "str"] A QB := e_isi (y := y) (z := .str) h rfl (by cases y <;> first | exact absurd rfl hy | exact q)
theorem bls_map {α : Type} (f : α → Bool) : ∀ xs : List α, bls (xs.map fun x => .bl (f x)) = some (xs.map f)
  | [] => rfl
  | x :: xs => by simp [bls, bls_map f xs]
/-- a text's sign, as its code -/
def cod : Vl → Nat
  | .str s => s.cps.toList.headD 0
  | _ => 0
theorem c_isof {s cs : Str} {m : Int} (hz : s.length ≤ 16777216) (q : Q (.bl (okC m cs s)) A) : w_is_string_of [.str s, .str cs, .int m] A Q E := by
  have hq : ∀ b, okC m cs s = b → ∃ B, Rk.Sub B A ∧ Q (.bl b) B := fun b e => ⟨A, .refl, e ▸ q⟩
  rw [w_is_string_of, wFun_eq]
  simp [b_is_string_of]
  refine isi_str ?_
  simp
  split
  · rename_i h1
    split
    · rename_i h2
      exact hq _ (by simp [okC]; omega)
    · rename_i h2
      intro p hp
      refine lcL_map (i := 3) (fun x => .bl (decide (cod x ∈ cs.cps.toList))) ?_ (fun _ => trivial) ?_ ?_
      · simp [Rk.signs]; exact hz
      · intro x hx acc K1 h
        simp only [Rk.signs, List.mem_map] at hx
        obtain ⟨c, _, rfl⟩ := hx
        simp [wipeA]
        rw [StrLaws.found_one]
        exact h
      · rw [seqA_eq put_same]
        refine ⟨_, bls_map _ _, _, .new hp, ?_⟩
        have : okC m cs s = (((Rk.signs s).map fun x => decide (cod x ∈ cs.cps.toList)).all id) := by
          simp only [Rk.signs, List.all_map, okC]
          rw [show (decide (1 ≤ s.length) && decide ((s.length : Int) ≤ m)) = true by simp; omega, Bool.true_and]
          rfl
        rw [← this]; exact q
  · rename_i h1
    exact hq _ (by simp [okC]; omega)
theorem c_isofN {x : Vl} {y : Kd} {cs : Str} {m : Int} (h : kd A x = some y) (hy : y ≠ .str) (q : Q (.bl false) A) : w_is_string_of [x, .str cs, .int m] A Q E := by
  rw [w_is_string_of, wFun_eq]
  simp [b_is_string_of]
  refine isi_no h hy ?_
  simp
  exact ⟨_, .refl, q⟩
def okD (d : Bool) (c : Nat) : Bool := decide (97 ≤ c ∧ c ≤ 122) || d && decide (48 ≤ c ∧ c ≤ 57)
theorem c_lofN {x : Vl} {y : Kd} {d : Bool} {m : Int} (h : kd A x = some y) (hy : y ≠ .str) (q : Q (.bl false) A) : w_law_is_of [x, .int m, .bl d] A Q E := by
  rw [w_law_is_of, wFun_eq]
  simp [b_law_is_of]
  refine isi_no h hy ?_
  simp
  exact ⟨_, .refl, q⟩
theorem c_lof {s : Str} {m : Int} {d : Bool} (hz : s.length ≤ 16777216) (q : Q (.bl (decide (1 ≤ s.length) && decide ((s.length : Int) ≤ m) && s.cps.toList.all (okD d))) A) : w_law_is_of [.str s, .int m, .bl d] A Q E := by
  have hq : ∀ b, (decide (1 ≤ s.length) && decide ((s.length : Int) ≤ m) && s.cps.toList.all (okD d)) = b → ∃ B, Rk.Sub B A ∧ Q (.bl b) B := fun b e => ⟨A, .refl, e ▸ q⟩
  rw [w_law_is_of, wFun_eq]
  simp [b_law_is_of]
  refine isi_str ?_
  simp
  split
  · exact hq _ (by simp; omega)
  split
  · exact hq _ (by simp; omega)
  refine forL_ind (fun i S' A' => A' = A ∧ (∃ u, S' = [some (.str s), some (.int m), some (.bl d), u]) ∧ (s.cps.toList.take i).all (okD d) = true) ⟨rfl, ⟨_, rfl⟩, by simp⟩ (fun _ _ _ _ => trivial) ?_ ?_
  · rintro i x S' A' N hx ⟨rfl, ⟨u, rfl⟩, h⟩ hN
    simp only [Rk.signs, List.getElem?_map, Option.map_eq_some_iff] at hx
    obtain ⟨c, hc, rfl⟩ := hx
    have ea : (Str.ofString "a").cps.toList = [97] := by decide +kernel
    have ez : (Str.ofString "z").cps.toList = [122] := by decide +kernel
    have e0 : (Str.ofString "0").cps.toList = [48] := by decide +kernel
    have e9 : (Str.ofString "9").cps.toList = [57] := by decide +kernel
    simp [ea, ez, e0, e9, List.cons_le_cons_iff, List.cons_lt_cons_iff]
    have hi : i < s.cps.toList.length := (List.getElem?_eq_some_iff.mp hc).1
    have hci : s.cps.toList[i] = c := (List.getElem?_eq_some_iff.mp hc).2
    have good : okD d c = true → N [some (Vl.str s), some (Vl.int m), some (Vl.bl d), some (Vl.str { cps := #[c] })] A' := fun g =>
      hN _ _ ⟨rfl, ⟨_, rfl⟩, by rw [← List.take_append_getElem hi, List.all_append, h, hci]; simp [g]⟩
    have bad : okD d c = false → ∃ B, Rk.Sub B A' ∧ Q (Vl.bl false) B := fun g =>
      hq _ (by
        rw [show s.cps.toList.all (okD d) = false from ?_]; simp
        rw [List.all_eq_false]
        exact ⟨c, hci ▸ List.getElem_mem hi, by simp [g]⟩)
    have d1 : okD d c = (decide (97 ≤ c ∧ c ≤ 122) || d && decide (48 ≤ c ∧ c ≤ 57)) := rfl
    cases d <;> simp at d1 ⊢ <;> repeat' split
    all_goals first | exact good (by rw [d1]; simp; omega) | exact bad (by rw [d1]; simp; omega)
  · rintro S' A' ⟨rfl, ⟨u, rfl⟩, h⟩
    simp
    refine hq _ ?_
    simp only [Rk.signs, List.length_map, List.take_length] at h
    rw [h]; simp; omega
theorem le_mem (c : Nat) : c ∈ (Str.ofString "abcdefghijklmnopqrstuvwxyz").cps.toList ↔ (97 ≤ c ∧ c ≤ 122) := by
  rw [show (Str.ofString "abcdefghijklmnopqrstuvwxyz").cps.toList = List.range' 97 26 by decide +kernel, List.mem_range'_1]; omega
theorem wo_mem (c : Nat) : c ∈ (Str.ofString "abcdefghijklmnopqrstuvwxyz0123456789").cps.toList ↔ ((97 ≤ c ∧ c ≤ 122) ∨ 48 ≤ c ∧ c ≤ 57) := by
  rw [show (Str.ofString "abcdefghijklmnopqrstuvwxyz0123456789").cps.toList = List.range' 97 26 ++ List.range' 48 10 by decide +kernel, List.mem_append, List.mem_range'_1, List.mem_range'_1]; omega
/-- a value of a kind that is known -/
def KN (A : Ah) (x : Vl) : Prop := (∃ s, x = .str s ∧ s.length ≤ 16777216) ∨ ∃ y, kd A x = some y ∧ y ≠ .str
theorem kd_sub {B : Ah} {x : Vl} {y : Kd} (h : kd A x = some y) (s : Rk.Sub A B) : kd B x = some y := by
  cases x with
  | ref p =>
    show kdR (B p) = _
    have h : kdR (A p) = _ := h
    cases e : A p with
    | none => rw [e] at h; cases h
    | some o => rw [e] at h; rw [s _ _ e]; exact h
  | _ => exact h
theorem KN.sub {B : Ah} {x : Vl} (h : KN A x) (s : Rk.Sub A B) : KN B x := h.imp id fun ⟨y, a, b⟩ => ⟨y, kd_sub a s, b⟩
def due (m : Int) (d : Bool) : Vl → Bool
  | .str s => decide (1 ≤ s.length) && decide ((s.length : Int) ≤ m) && s.cps.toList.all (okD d)
  | _ => false
theorem due_no {m : Int} {d : Bool} {x : Vl} {y : Kd} (h : kd A x = some y) (g : y ≠ .str) : due m d x = false := by
  cases x with
  | str s => cases h; exact absurd rfl g
  | _ => rfl
theorem c_due {x : Vl} {m : Int} {d : Bool} (h : KN A x) (q : Q (.bl (due m d x)) A) : w_law_is_of [x, .int m, .bl d] A Q E := by
  rcases h with ⟨s, rfl, hz⟩ | ⟨y, h, g⟩
  · exact c_lof hz q
  · rw [due_no h g] at q; exact c_lofN h g q
theorem c_host {x : Vl} (h : KN A x) (q : Q (.bl (due 8 false x)) A) : w_is_host_name [x] A Q E := by
  rw [w_is_host_name, wFun_eq]
  simp [b_is_host_name]
  rcases h with ⟨s, rfl, hz⟩ | ⟨y, h, g⟩
  · refine c_isof hz ⟨A, .refl, ?_⟩
    rw [show okC 8 (Str.ofString "abcdefghijklmnopqrstuvwxyz") s = due 8 false (.str s) from ?_]
    · exact q
    · rw [due, show okD false = fun c => decide (97 ≤ c ∧ c ≤ 122) from funext fun c => by simp [okD]]
      simp only [okC, le_mem]
  · rw [due_no h g] at q; exact c_isofN h g ⟨A, .refl, q⟩
theorem c_word {x : Vl} (h : KN A x) (q : Q (.bl (due 12 true x)) A) : w_is_word [x] A Q E := by
  rw [w_is_word, wFun_eq]
  simp [b_is_word]
  rcases h with ⟨s, rfl, hz⟩ | ⟨y, h, g⟩
  · refine c_isof hz ⟨A, .refl, ?_⟩
    rw [show okC 12 (Str.ofString "abcdefghijklmnopqrstuvwxyz0123456789") s = due 12 true (.str s) from ?_]
    · exact q
    · rw [due, show okD true = fun c => decide (97 ≤ c ∧ c ≤ 122) || decide (48 ≤ c ∧ c ≤ 57) from funext fun c => by simp [okD]]
      simp only [okC, wo_mem, Bool.decide_or]
  · rw [due_no h g] at q; exact c_isofN h g ⟨A, .refl, q⟩
def sh (b c : Bool) : Str := PyData.shown (.list [.bool b, .bool c])
theorem c_repr {p : Addr} {b c : Bool} (h : A p = some (.lst [.bl b, .bl c])) (q : Q (.str (sh b c)) A) : fRepr [.ref p] A Q := by
  refine ⟨_, .list [.bool b, .bool c], rfl, ?_, Or.inl rfl, by cases b <;> cases c <;> decide +kernel, by cases b <;> cases c <;> exact ⟨by decide +kernel, by decide +kernel⟩, q⟩
  simp [dat, h, datR, dats]
theorem eqv_str (s : Str) : PyData.eqv (.str s) (.str s) = true := by simp [PyData.eqv]
theorem c_eqS {k : Bool} {s : Str} (q : Q (.bl (!k)) A) : fEq k (.str s) (.str s) A Q := ⟨_, _, rfl, rfl, rfl, rfl, by rw [eqv_str]; cases k <;> exact q⟩
/-- what stood there stands there still, the draws apart -/
def Off (A : Ah) (g : Addr) (B : Ah) : Prop := (∀ a o, a ≠ g → A a = some o → B a = some o) ∧ isG B g
theorem Off.new {B : Ah} {g p : Addr} {o : Ob} (h : Off A g B) (hp : B p = none) : Off A g (put B p o) :=
  ⟨fun a u ha e => Sub.new hp a u (h.1 a u ha e), h.2.put hp⟩
theorem Off.drawn {B : Ah} {g : Addr} {x y : Int} (h : Off A g B) (hx : 0 ≤ x) (hy : 0 ≤ y) : Off A g (put B g (.lst [.int x, .int y])) :=
  ⟨fun a u ha e => by rw [put_ne ha]; exact h.1 a u ha e, x, y, hx, hy, put_same⟩
theorem Off.refl {g : Addr} (h : isG A g) : Off A g A := ⟨fun _ _ _ e => e, h⟩
theorem Off.trans {B C : Ah} {g : Addr} (h : Off A g B) (k : Off B g C) : Off A g C := ⟨fun a u ha e => k.1 a u ha (h.1 a u ha e), k.2⟩
theorem Off.sub {B C : Ah} {g : Addr} (h : Off A g B) (k : Rk.Sub B C) : Off A g C := ⟨fun a u ha e => k _ _ (h.1 a u ha e), h.2.choose, h.2.choose_spec.choose, h.2.choose_spec.choose_spec.1, h.2.choose_spec.choose_spec.2.1, k _ _ h.2.choose_spec.choose_spec.2.2⟩
theorem c_draw' {g : Addr} {n : Int} {A0 : Ah} (h : Off A0 g A) (hn : 0 < n) (hn2 : n < 1073741824) (hq : ∀ r A', 0 ≤ r → r < n → Off A0 g A' → (∀ a, a ≠ g → A' a = A a) → Q (.int r) A') : w_law_draw [.ref g, .int n] A Q E :=
  c_draw h.2 hn hn2 fun r x y a b c d => hq _ _ a b (h.drawn c d) fun a ha => put_ne ha
theorem c_right {x : Vl} (h : KN A x) (q : Q (.bl true) A) : w_law_right [x] A Q E := by
  rw [w_law_right, wFun_eq]
  simp [b_law_right]
  refine c_due h ?_
  refine c_due h ?_
  try simp
  intro p hp
  have s0 : Rk.Sub A (put A p (Ob.lst [Vl.bl (due 8 false x), Vl.bl (due 12 true x)])) := .new hp
  refine ⟨⟨by decide, by decide, by decide, by decide⟩, ?_⟩
  refine forL_ind (fun i S' A' => Rk.Sub (put A p (Ob.lst [Vl.bl (due 8 false x), Vl.bl (due 12 true x)])) A' ∧ ∃ u, S' = [some x, some (.ref p), u]) ⟨.refl, _, rfl⟩ (fun _ _ _ _ => trivial) ?_ ?_
  · rintro i y S' A' N hy ⟨s1, u, rfl⟩ hN
    simp
    have h1 := h.sub (s0.trans s1)
    refine c_host h1 ?_
    refine c_word h1 ?_
    try simp
    intro p2 hp2
    refine c_repr put_same ?_
    have e1 := s1 _ _ put_same
    have e2 : put A' p2 (.lst [Vl.bl (due 8 false x), Vl.bl (due 12 true x)]) p = _ := (put_ne (ne_of_nn e1 hp2)).trans e1
    refine c_repr e2 ?_
    refine c_eqS ?_
    simp
    exact hN _ _ ⟨s1.trans (.new hp2), _, rfl⟩
  · rintro S' A' ⟨s1, u, rfl⟩
    simp
    have h1 := h.sub (s0.trans s1)
    refine c_host h1 ?_
    refine c_word h1 ?_
    try simp
    intro p2 hp2
    refine c_repr put_same ?_
    have e1 := s1 _ _ put_same
    have e2 : put A' p2 (.lst [Vl.bl (due 8 false x), Vl.bl (due 12 true x)]) p = _ := (put_ne (ne_of_nn e1 hp2)).trans e1
    refine c_repr e2 ?_
    refine c_eqS ?_
    exact ⟨A, (s0.trans s1).trans (.new hp2), q⟩
theorem join_chars : ∀ cs : List Nat, Txt.join (Str.ofString "") (cs.map fun c => ⟨#[c]⟩) = ⟨cs.toArray⟩ := by
  intro cs
  rw [TL.join_eq]
  have : ∀ cs : List Nat, TL.joinL [] ((cs.map fun c => (⟨#[c]⟩ : Str)).map TL.tl) = cs := by
    intro cs
    induction cs with
    | nil => rfl
    | cons c cs ih =>
      cases cs with
      | nil => rfl
      | cons d cs => simp only [List.map_cons, TL.joinL] at ih ⊢; rw [ih]; rfl
  have h := TL.tl_join (Str.ofString "") (cs.map fun c => ⟨#[c]⟩)
  rw [show TL.tl (Str.ofString "") = [] by decide +kernel, this] at h
  have : ∀ s : Str, TL.tl s = cs → s = ⟨cs.toArray⟩ := by
    rintro ⟨a⟩ e
    have e : a.toList = cs := e
    rw [← e]
  exact this _ h
theorem okS_chars {cs : List Nat} (h : cs.length ≤ 16777216) (g : ∀ c ∈ cs, c < 1114112) : okS ⟨cs.toArray⟩ :=
  ⟨by simpa [Str.length] using h, by simpa [PyData.strOk] using g⟩
theorem mapM_strL : ∀ cs : List Nat, strL (cs.map fun c => .str ⟨#[c]⟩) = some (cs.map fun c => (⟨#[c]⟩ : Str))
  | [] => rfl
  | c :: cs => by simp [strL, mapM_strL cs]
theorem pick {xs : List Vl} {r : Int} (h : 0 ≤ r) (g : r < xs.length) : ∃ z, atI xs r = some z ∧ z ∈ xs := ⟨_, atI_lo h g, List.getElem_mem _⟩
theorem join_sum (cs : List Nat) : ((cs.map fun c => (⟨#[c]⟩ : Str)).map (·.length)).sum + (cs.map fun c => (⟨#[c]⟩ : Str)).length * (Str.ofString "").length ≤ cs.length := by
  rw [show (Str.ofString "").length = 0 by decide +kernel]
  induction cs with
  | nil => simp
  | cons c cs ih =>
    simp only [List.map_cons, List.sum_cons, List.length_cons] at ih ⊢
    have : (⟨#[c]⟩ : Str).length = 1 := rfl
    omega
theorem c_string {g : Addr} (hg : isG A g) (q : ∀ s A', s.length ≤ 14 → Off A g A' → Q (.str s) A') : w_law_string [.ref g] A Q E := by
  rw [w_law_string, wFun_eq]
  simp [b_law_string]
  refine ⟨_, rfl, rfl, by decide +kernel, by exact ⟨by decide +kernel, by decide +kernel⟩, ?_⟩
  simp
  refine ⟨by decide +kernel, by decide +kernel, by decide +kernel, by decide +kernel, ?_⟩
  intro p hp
  have gp : p ≠ g := (ne_of_nn hg.choose_spec.choose_spec.2.2 hp).symm
  refine c_draw' ((Off.refl hg).new hp) (by decide) (by decide) fun r A1 h0 h1 O1 k1 => ?_
  have e1 := (k1 p gp).trans put_same
  simp [seqA_eq e1]
  obtain ⟨z, hz, hm⟩ := pick h0 (xs := [_, _, _, _]) h1
  refine ⟨z, hz, ?_⟩
  have hs : ∃ s : Str, z = .str s ∧ 0 < s.length ∧ s.length < 1000 ∧ PyData.strOk s = true := by
    simp only [List.mem_cons, List.not_mem_nil, or_false] at hm
    rcases hm with rfl | rfl | rfl | rfl <;> exact ⟨_, rfl, by decide +kernel, by decide +kernel, by decide +kernel⟩
  obtain ⟨s, rfl, z1, z2, z3⟩ := hs
  refine c_draw' O1 (by decide) (by decide) fun r2 A2 h2 h3 O2 k2 => ?_
  intro p2 hp2
  have gp2 : p2 ≠ g := (ne_of_nn O2.2.choose_spec.choose_spec.2.2 hp2).symm
  refine c_draw' (O2.new hp2) (by decide) (by decide) fun r3 A3 h4 h5 O3 k3 => ?_
  have e2 := (k3 p2 gp2).trans put_same
  simp [seqA_eq e2]
  obtain ⟨y, hy, hm2⟩ := pick h4 (xs := [_, _, _, _, _, _]) h5
  refine ⟨y, hy, ?_⟩
  have hs : ∃ n : Int, y = .int n ∧ 0 ≤ n ∧ n < 15 := by
    simp only [List.mem_cons, List.not_mem_nil, or_false] at hm2
    rcases hm2 with rfl | rfl | rfl | rfl | rfl | rfl <;> exact ⟨_, rfl, by omega, by omega⟩
  obtain ⟨n, rfl, n0, n1⟩ := hs
  refine ⟨n, rfl, ⟨by omega, by omega, by omega, by omega⟩, ?_⟩
  intro p3 hp3
  have gp3 : p3 ≠ g := (ne_of_nn O3.2.choose_spec.choose_spec.2.2 hp3).symm
  refine lcL_ind (fun i acc A' => Off A g A' ∧ A' p3 = some (.lst acc) ∧ ∃ cs : List Nat, cs.length = i ∧ (∀ c ∈ cs, c < 1114112) ∧ acc = cs.map fun c => .str ⟨#[c]⟩) ⟨O3.new hp3, put_same, [], rfl, by simp, rfl⟩ (fun _ _ _ _ => trivial) ?_ ?_
  · rintro i x acc A' K1 K2 hx ⟨O4, e4, cs, hc, hlt, rfl⟩ g1 g2
    simp [wipeA]
    refine c_draw' O4 (by omega) (by omega) fun r5 A5 h6 h7 O5 k5 => ?_
    have h8 : r5 < s.cps.toList.length := by simpa [Str.length] using h7
    simp
    refine ⟨_, atI_lo h6 (by simpa using h8), ?_⟩
    have e5 := (k5 p3 gp3).trans e4
    have hi : i < n.toNat := by
      have := (List.getElem?_eq_some_iff.mp hx).1
      simpa [rngL] using this
    refine g1 _ _ e5 (by show _ < 16777216; simp; omega) ⟨⟨fun a o ha e => ?_, ?_⟩, put_same, cs ++ [s.cps.toList[r5.toNat]'(by omega)], by simp [hc], ?_, by simp⟩
    · have e6 := O5.1 a o ha e
      by_cases hap : a = p3
      · subst hap
        have := O3.1 a o ha e
        rw [this] at hp3; cases hp3
      · rw [put_ne hap]; exact e6
    · obtain ⟨u, v, hu, hv, e⟩ := O5.2
      exact ⟨u, v, hu, hv, by rw [put_ne gp3.symm]; exact e⟩
    · intro c hc2
      rcases List.mem_append.mp hc2 with hc2 | hc2
      · exact hlt c hc2
      · simp only [List.mem_singleton] at hc2
        subst hc2
        have := z3
        simp only [PyData.strOk, Array.all_eq_true_iff_forall_mem, decide_eq_true_eq] at this
        exact this _ (by rw [← Array.mem_toList_iff]; exact List.getElem_mem _)
  · rintro acc A' ⟨O4, e4, cs, hc, hlt, rfl⟩
    have hcn : cs.length ≤ 14 := by
      rw [hc]; simp [rngL]; omega
    refine ⟨_, rfl, .inl ⟨p3, rfl, ?_⟩⟩
    rw [seqA_eq e4]
    refine ⟨_, mapM_strL cs, ⟨?_, ?_⟩, A', .refl, ?_⟩
    · exact Nat.le_trans (join_sum cs) (by omega)
    · rw [join_chars]; exact okS_chars (by omega) hlt
    · rw [join_chars]; exact q _ _ (by simpa [Str.length] using hcn) O4
theorem c_odd {g : Addr} (hg : isG A g) (q : ∀ x A', KN A' x → Off A g A' → Q x A') : w_law_odd [.ref g] A Q E := by
  rw [w_law_odd, wFun_eq]
  simp [b_law_odd]
  intro p1 hp1 p2 hp2 p3 hp3 p4 hp4 p5 hp5
  have s1 := Sub.new (o := .lst []) hp1
  have s2 := Sub.new (o := .dct []) hp2
  have s3 := Sub.new (o := Ob.lst [Vl.non, Vl.bl true, Vl.bl false, Vl.int 0, Vl.int 1, Vl.int (-7), Vl.str (Str.ofString ""), Vl.str (Str.ofString "A"), Vl.str (Str.ofString "a1"), Vl.str (Str.ofString "a b"), Vl.str (Str.ofString "abcdefghi"), Vl.str (Str.ofString "a\n"), Vl.str (Str.ofString " a"), Vl.ref p1, Vl.tup [], Vl.ref p2]) hp3
  have s4 := Sub.new (o := Ob.lst [Vl.str (Str.ofString "a")]) hp4
  have s5 := Sub.new (o := Ob.lst [Vl.ref p4, Vl.tup [Vl.str (Str.ofString "a")], Vl.str (Str.ofString "z-")]) hp5
  have e1 := (((s2.trans s3).trans s4).trans s5) p1 _ put_same
  have e2 := ((s3.trans s4).trans s5) p2 _ put_same
  have e3 := (s4.trans s5) p3 _ put_same
  have e4 := s5 p4 _ put_same
  have o5 := ((((Off.refl hg).new hp1).new hp2).new hp3 |>.new hp4).new hp5 (o := Ob.lst [Vl.ref p4, Vl.tup [Vl.str (Str.ofString "a")], Vl.str (Str.ofString "z-")])
  have e5 := put_same (A := (put (put (put (put A p1 (Ob.lst [])) p2 (Ob.dct [])) p3 (Ob.lst [Vl.non, Vl.bl true, Vl.bl false, Vl.int 0, Vl.int 1, Vl.int (-7), Vl.str (Str.ofString ""), Vl.str (Str.ofString "A"), Vl.str (Str.ofString "a1"), Vl.str (Str.ofString "a b"), Vl.str (Str.ofString "abcdefghi"), Vl.str (Str.ofString "a\n"), Vl.str (Str.ofString " a"), Vl.ref p1, Vl.tup [], Vl.ref p2])) p4 (Ob.lst [Vl.str (Str.ofString "a")]))) (a := p5) (o := Ob.lst [Vl.ref p4, Vl.tup [Vl.str (Str.ofString "a")], Vl.str (Str.ofString "z-")])
  generalize put (put (put (put (put A p1 _) p2 _) p3 _) p4 _) p5 _ = C at *
  rw [lstA_eq e3, lstA_eq e5]
  refine ⟨by simp, fun r hr => ?_⟩
  have gr : r ≠ g := (ne_of_nn o5.2.choose_spec.choose_spec.2.2 hr).symm
  refine c_draw' (o5.new hr) (by decide) (by decide) fun i A1 h0 h1 O1 k1 => ?_
  have e6 := (k1 r gr).trans put_same
  simp [seqA_eq e6]
  obtain ⟨z, hz, hm⟩ := pick h0 (xs := [_, _, _, _, _, _, _, _, _, _, _, _, _, _, _, _, _, _, _]) h1
  refine ⟨z, hz, A1, .refl, ?_⟩
  have keep : ∀ a o, a ≠ g → C a = some o → A1 a = some o := fun a o ha e => (k1 a ha).trans (Sub.new hr a o e)
  have neG : ∀ a o, C a = some o → (∀ x y, o ≠ .lst [.int x, .int y]) → A1 a = some o := fun a o e h => keep a o (by
    rintro rfl
    obtain ⟨x, y, _, _, e'⟩ := o5.2
    rw [e'] at e; cases e
    exact h _ _ rfl) e
  have k1 := neG _ _ e1 (by intros; simp)
  have k2 := neG _ _ e2 (by intros; simp)
  have k4 := neG _ _ e4 (by intros; simp)
  refine q _ _ ?_ O1
  have st : ∀ s : Str, s.length ≤ 16777216 → KN A1 (.str s) := fun s h => .inl ⟨s, rfl, h⟩
  have ot : ∀ x y, kd A1 x = some y → y ≠ Kd.str → KN A1 x := fun x y h g => .inr ⟨y, h, g⟩
  simp only [List.mem_cons, List.not_mem_nil, or_false, List.cons_append, List.nil_append] at hm
  rcases hm with rfl | rfl | rfl | rfl | rfl | rfl | rfl | rfl | rfl | rfl | rfl | rfl | rfl | rfl | rfl | rfl | rfl | rfl | rfl
  all_goals first | exact st _ (by decide +kernel) | exact ot _ .non rfl (by decide) | exact ot _ .bl rfl (by decide) | exact ot _ .int rfl (by decide) | exact ot _ .tup rfl (by decide) | exact ot _ .lst (by show kdR (A1 _) = _; rw [k1]; rfl) (by decide) | exact ot _ .dct (by show kdR (A1 _) = _; rw [k2]; rfl) (by decide) | exact ot _ .lst (by show kdR (A1 _) = _; rw [k4]; rfl) (by decide)
theorem rngL_get {n i : Nat} {x : Vl} (h : (rngL 0 n)[i]? = some x) : x = .int i ∧ i < n := by
  have hi := (List.getElem?_eq_some_iff.mp h).1
  have e := (List.getElem?_eq_some_iff.mp h).2
  simp [rngL] at e hi
  exact ⟨e.symm, hi⟩
theorem bls_rep : ∀ n : Nat, bls (List.replicate n (.bl true)) = some (List.replicate n true)
  | 0 => rfl
  | n + 1 => by simp [List.replicate_succ, bls, bls_rep n]
theorem law_holds {a : Addr} {ns : List Int} (hl : ns.length ≤ 63) (h : A a = some (.rol (ns.map .int))) (hq : ∀ A', Q (.bl true) A') : w_law [.ref a] A Q E := by
  rw [w_law, wFun_eq]
  simp [b_law, lenA_eqR h]
  refine ⟨⟨by decide, by decide, by split <;> omega, by (repeat' split) <;> omega⟩, ?_⟩
  refine forL_ind (fun i S' A' => Rk.Sub A A' ∧ ∃ u v w z, S' = [some (.ref a), u, v, w, z]) ⟨.refl, _, _, _, _, rfl⟩ (fun _ _ _ _ => trivial) ?_ ?_
  · rintro i x S' A1 N hx ⟨s1, u1, u2, u3, u4, rfl⟩ hN
    obtain ⟨rfl, hi⟩ := rngL_get hx
    have hi : i < 12 := by
      have : (if 1 < if (ns.length : Int) < 12 then (ns.length : Int) else 12 then if (ns.length : Int) < 12 then (ns.length : Int) else 12 else 1).toNat ≤ 12 := by (repeat' split) <;> omega
      omega
    simp
    rw [rng_is]
    refine c_rng (s1 _ _ h) hl (by omega) (by omega) fun g x y hg hx hy => ?_
    have g2 : isG (put A1 g (.lst [.int x, .int y])) g := .new hx hy
    have s2 : Rk.Sub A (put A1 g (.lst [.int x, .int y])) := s1.trans (.new hg)
    have ag : a ≠ g := ne_of_nn (s1 _ _ h) hg
    have ofo : ∀ {B C : Ah}, Off (put A1 g (.lst [.int x, .int y])) g C → Rk.Sub A C := fun O b o e => O.1 b o (by rintro rfl; have := s1 _ _ e; rw [hg] at this; cases this) (s2 b o e)
    try simp
    refine c_draw' (.refl g2) (by decide) (by decide) fun r A3 h0 h1 O3 _ => ?_
    simp
    refine ⟨_, atI_lo (xs := (Str.ofString "`az{/09:@AZ[ -_").cps.toList) h0 (by rw [show (Str.ofString "`az{/09:@AZ[ -_").cps.toList.length = 15 by decide +kernel]; omega), ?_⟩
    generalize (Str.ofString "`az{/09:@AZ[ -_").cps.toList[r.toNat]'_ = c
    refine c_string O3.2 fun s A4 hs O4 => ?_
    try simp
    refine c_odd O4.2 fun x5 A5 k5 O5 => ?_
    try simp
    have l1 : (Str.length ⟨#[c]⟩) = 1 := rfl
    have l2 : (Str.ofString "a").length = 1 := by decide +kernel
    have l3 : (⟨#[c]⟩ ++ Str.ofString "a" : Str).length = 2 := rfl
    refine ⟨by rw [l1, l2]; omega, fun q hq2 => ?_⟩
    rw [itV_eq put_same]
    intro p hp
    have s5 : Rk.Sub A5 (put A5 q (Ob.lst [Vl.str s, Vl.str { cps := #[c] }, x5, Vl.str ({ cps := #[c] } ++ Str.ofString "a")])) := .new hq2
    have e5 := put_same (A := A5) (a := q) (o := Ob.lst [Vl.str s, Vl.str { cps := #[c] }, x5, Vl.str ({ cps := #[c] } ++ Str.ofString "a")])
    have qp := ne_of_nn e5 hp
    have s0 := (ofo (B := A) ((O3.trans O4).trans O5)).trans s5
    have kn : ∀ x ∈ [Vl.str s, Vl.str { cps := #[c] }, x5, Vl.str ({ cps := #[c] } ++ Str.ofString "a")], KN (put A5 q (Ob.lst [Vl.str s, Vl.str { cps := #[c] }, x5, Vl.str ({ cps := #[c] } ++ Str.ofString "a")])) x := by
      intro x hx
      simp only [List.mem_cons, List.not_mem_nil, or_false] at hx
      rcases hx with rfl | rfl | rfl | rfl
      · exact .inl ⟨_, rfl, by omega⟩
      · exact .inl ⟨_, rfl, by omega⟩
      · exact k5.sub s5
      · exact .inl ⟨_, rfl, by omega⟩
    generalize put A5 q (Ob.lst [Vl.str s, Vl.str { cps := #[c] }, x5, Vl.str ({ cps := #[c] } ++ Str.ofString "a")]) = B at *
    refine lcL_ind (fun i acc A' => Rk.Sub B A' ∧ A' p = some (.lst acc) ∧ acc = List.replicate i (.bl true)) ⟨.new hp, put_same, rfl⟩ (fun _ _ _ h => h.1 _ _ e5) ?_ ?_
    · rintro j x acc A' K1 K2 hx ⟨t1, t2, rfl⟩ g1 _
      simp [wipeA]
      refine c_right ((kn x (List.mem_of_getElem? hx)).sub t1) ?_
      have hj := (List.getElem?_eq_some_iff.mp hx).1
      refine g1 _ _ t2 (by simp at hj ⊢; show j < 16777216; omega) ⟨fun b o e => ?_, put_same, by rw [List.replicate_succ']⟩
      rw [put_ne (ne_of_nn e hp)]; exact t1 b o e
    · rintro acc A' ⟨t1, t2, rfl⟩
      rw [seqA_eq t2]
      refine ⟨_, bls_rep _, ?_⟩
      simp
      exact hN _ _ ⟨s0.trans t1, _, _, _, _, rfl⟩
  · rintro S' A' ⟨s1, u1, u2, u3, u4, rfl⟩
    simp
    exact ⟨_, .refl, hq _⟩
theorem law_true (a : Addr) (ns : List Int) (A : Ah) (Q : QE) (E : EX) (hl : ns.length ≤ 63) (h : A a = some (.rol (ns.map .int))) (hq : ∀ A', Q (.bl true) A') : w_law [.ref a] A Q E := law_holds hl h hq
end Lw

set_option Elab.async false
set_option linter.all false
set_option maxRecDepth 100000
set_option maxHeartbeats 1000000
namespace Lw
open PySem PySem.Spec PyProof.Rows L2 Rk
theorem all_mk {P : Program} {w : World} {K : PySem.W.Frag} {h : Heap} {mg : Str → Option Value} {fa : Addr} (X : K.In h) (G : h.Ns mainGlobals mg) (hfa : mg "law" = some (.ref fa))
    {f0 f1 f2 f3 f4 f5 f6 f7 f8 f9 : Addr} {od0 an0 od1 an1 od2 an2 od3 an3 od4 an4 od5 an5 od6 an6 od7 an7 od8 an8 od9 an9 : Option Addr} {sl0 sl1 sl2 sl3 sl4 sl5 sl6 sl7 sl8 sl9 : Array (Option Value)} {oc0 kV0 dc0 pm0 cd0 ct0 oc1 kV1 dc1 pm1 cd1 ct1 oc2 kV2 dc2 pm2 cd2 ct2 oc3 kV3 dc3 pm3 cd3 ct3 oc4 kV4 dc4 pm4 cd4 ct4 oc5 kV5 dc5 pm5 cd5 ct5 oc6 kV6 dc6 pm6 cd6 ct6 oc7 kV7 dc7 pm7 cd7 ct7 oc8 kV8 dc8 pm8 cd8 ct8 oc9 kV9 dc9 pm9 cd9 ct9 : Value} {t_LETTERS t_LONGEST_NAME t_LONGEST_WORD t_WORD_CHARACTERS : Tok}
    (a0 : PySem.W.nsIn K mainGlobals "_law_rng" = some (some (.ref f0))) (l0 : K.lookup f0 = some ⟨oc0, od0, .func (PySem.W.fnOf "_law_rng" "_law_rng" (defArgs s_law_rng) (defBody s_law_rng) (defScope s_law_rng) .none kV0 dc0 pm0 an0 cd0 ct0), sl0⟩) (c0 : PySem.W.codeIn K cd0 "_law_rng" = true) (k0 : PySem.W.keepIn K (.ref f0) = true)
    (a1 : PySem.W.nsIn K mainGlobals "_law_draw" = some (some (.ref f1))) (l1 : K.lookup f1 = some ⟨oc1, od1, .func (PySem.W.fnOf "_law_draw" "_law_draw" (defArgs s_law_draw) (defBody s_law_draw) (defScope s_law_draw) .none kV1 dc1 pm1 an1 cd1 ct1), sl1⟩) (c1 : PySem.W.codeIn K cd1 "_law_draw" = true) (k1 : PySem.W.keepIn K (.ref f1) = true)
    (a2 : PySem.W.nsIn K mainGlobals "_law_is_of" = some (some (.ref f2))) (l2 : K.lookup f2 = some ⟨oc2, od2, .func (PySem.W.fnOf "_law_is_of" "_law_is_of" (defArgs s_law_is_of) (defBody s_law_is_of) (defScope s_law_is_of) .none kV2 dc2 pm2 an2 cd2 ct2), sl2⟩) (c2 : PySem.W.codeIn K cd2 "_law_is_of" = true) (k2 : PySem.W.keepIn K (.ref f2) = true)
    (a3 : PySem.W.nsIn K mainGlobals "is_string_of" = some (some (.ref f3))) (l3 : K.lookup f3 = some ⟨oc3, od3, .func (PySem.W.fnOf "is_string_of" "is_string_of" (defArgs s_is_string_of) (defBody s_is_string_of) (defScope s_is_string_of) .none kV3 dc3 pm3 an3 cd3 ct3), sl3⟩) (c3 : PySem.W.codeIn K cd3 "is_string_of" = true) (k3 : PySem.W.keepIn K (.ref f3) = true)
    (a4 : PySem.W.nsIn K mainGlobals "is_host_name" = some (some (.ref f4))) (l4 : K.lookup f4 = some ⟨oc4, od4, .func (PySem.W.fnOf "is_host_name" "is_host_name" (defArgs s_is_host_name) (defBody s_is_host_name) (defScope s_is_host_name) .none kV4 dc4 pm4 an4 cd4 ct4), sl4⟩) (c4 : PySem.W.codeIn K cd4 "is_host_name" = true) (k4 : PySem.W.keepIn K (.ref f4) = true)
    (a5 : PySem.W.nsIn K mainGlobals "is_word" = some (some (.ref f5))) (l5 : K.lookup f5 = some ⟨oc5, od5, .func (PySem.W.fnOf "is_word" "is_word" (defArgs s_is_word) (defBody s_is_word) (defScope s_is_word) .none kV5 dc5 pm5 an5 cd5 ct5), sl5⟩) (c5 : PySem.W.codeIn K cd5 "is_word" = true) (k5 : PySem.W.keepIn K (.ref f5) = true)
    (a6 : PySem.W.nsIn K mainGlobals "_law_right" = some (some (.ref f6))) (l6 : K.lookup f6 = some ⟨oc6, od6, .func (PySem.W.fnOf "_law_right" "_law_right" (defArgs s_law_right) (defBody s_law_right) (defScope s_law_right) .none kV6 dc6 pm6 an6 cd6 ct6), sl6⟩) (c6 : PySem.W.codeIn K cd6 "_law_right" = true) (k6 : PySem.W.keepIn K (.ref f6) = true)
    (a7 : PySem.W.nsIn K mainGlobals "_law_string" = some (some (.ref f7))) (l7 : K.lookup f7 = some ⟨oc7, od7, .func (PySem.W.fnOf "_law_string" "_law_string" (defArgs s_law_string) (defBody s_law_string) (defScope s_law_string) .none kV7 dc7 pm7 an7 cd7 ct7), sl7⟩) (c7 : PySem.W.codeIn K cd7 "_law_string" = true) (k7 : PySem.W.keepIn K (.ref f7) = true)
    (a8 : PySem.W.nsIn K mainGlobals "_law_odd" = some (some (.ref f8))) (l8 : K.lookup f8 = some ⟨oc8, od8, .func (PySem.W.fnOf "_law_odd" "_law_odd" (defArgs s_law_odd) (defBody s_law_odd) (defScope s_law_odd) .none kV8 dc8 pm8 an8 cd8 ct8), sl8⟩) (c8 : PySem.W.codeIn K cd8 "_law_odd" = true) (k8 : PySem.W.keepIn K (.ref f8) = true)
    (a9 : PySem.W.nsIn K mainGlobals "law" = some (some (.ref f9))) (l9 : K.lookup f9 = some ⟨oc9, od9, .func (PySem.W.fnOf "law" "law" (defArgs s_law) (defBody s_law) (defScope s_law) .none kV9 dc9 pm9 an9 cd9 ct9), sl9⟩) (c9 : PySem.W.codeIn K cd9 "law" = true) (k9 : PySem.W.keepIn K (.ref f9) = true)
    (z_abs : PySem.W.nsIn K mainGlobals "abs" = some none)
    (z_all : PySem.W.nsIn K mainGlobals "all" = some none)
    (z_divmod : PySem.W.nsIn K mainGlobals "divmod" = some none)
    (z_isinstance : PySem.W.nsIn K mainGlobals "isinstance" = some none)
    (z_len : PySem.W.nsIn K mainGlobals "len" = some none)
    (z_max : PySem.W.nsIn K mainGlobals "max" = some none)
    (z_min : PySem.W.nsIn K mainGlobals "min" = some none)
    (z_range : PySem.W.nsIn K mainGlobals "range" = some none)
    (z_repr : PySem.W.nsIn K mainGlobals "repr" = some none)
    (z_str : PySem.W.nsIn K mainGlobals "str" = some none)
    (g_LETTERS : PySem.W.nsIn K mainGlobals "LETTERS" = some (some (.str "abcdefghijklmnopqrstuvwxyz" t_LETTERS)))
    (g_LONGEST_NAME : PySem.W.nsIn K mainGlobals "LONGEST_NAME" = some (some (.int 8 t_LONGEST_NAME)))
    (g_LONGEST_WORD : PySem.W.nsIn K mainGlobals "LONGEST_WORD" = some (some (.int 12 t_LONGEST_WORD)))
    (g_WORD_CHARACTERS : PySem.W.nsIn K mainGlobals "WORD_CHARACTERS" = some (some (.str "abcdefghijklmnopqrstuvwxyz0123456789" t_WORD_CHARACTERS))) :
    ∃ fd : FuncData, (∀ (s : Shared) (u : Value), BindsTo s fd ⟨[u], []⟩ [("_law_script", u)]) ∧ ∀ base : Heap, K.In base → base.Ns mainGlobals mg → Gn P w K mg base 4 fa fd ["_law_script"] w_law := by
  have e := hfa.symm.trans (PySem.W.mg_of X G a9)
  cases e
  have T : Tx K mg { f_law_rng := f0, fd_law_rng := PySem.W.fnOf "_law_rng" "_law_rng" (defArgs s_law_rng) (defBody s_law_rng) (defScope s_law_rng) .none kV0 dc0 pm0 an0 cd0 ct0, f_law_draw := f1, fd_law_draw := PySem.W.fnOf "_law_draw" "_law_draw" (defArgs s_law_draw) (defBody s_law_draw) (defScope s_law_draw) .none kV1 dc1 pm1 an1 cd1 ct1, f_law_is_of := f2, fd_law_is_of := PySem.W.fnOf "_law_is_of" "_law_is_of" (defArgs s_law_is_of) (defBody s_law_is_of) (defScope s_law_is_of) .none kV2 dc2 pm2 an2 cd2 ct2, f_is_string_of := f3, fd_is_string_of := PySem.W.fnOf "is_string_of" "is_string_of" (defArgs s_is_string_of) (defBody s_is_string_of) (defScope s_is_string_of) .none kV3 dc3 pm3 an3 cd3 ct3, f_is_host_name := f4, fd_is_host_name := PySem.W.fnOf "is_host_name" "is_host_name" (defArgs s_is_host_name) (defBody s_is_host_name) (defScope s_is_host_name) .none kV4 dc4 pm4 an4 cd4 ct4, f_is_word := f5, fd_is_word := PySem.W.fnOf "is_word" "is_word" (defArgs s_is_word) (defBody s_is_word) (defScope s_is_word) .none kV5 dc5 pm5 an5 cd5 ct5, f_law_right := f6, fd_law_right := PySem.W.fnOf "_law_right" "_law_right" (defArgs s_law_right) (defBody s_law_right) (defScope s_law_right) .none kV6 dc6 pm6 an6 cd6 ct6, f_law_string := f7, fd_law_string := PySem.W.fnOf "_law_string" "_law_string" (defArgs s_law_string) (defBody s_law_string) (defScope s_law_string) .none kV7 dc7 pm7 an7 cd7 ct7, f_law_odd := f8, fd_law_odd := PySem.W.fnOf "_law_odd" "_law_odd" (defArgs s_law_odd) (defBody s_law_odd) (defScope s_law_odd) .none kV8 dc8 pm8 an8 cd8 ct8, f_law := fa, fd_law := PySem.W.fnOf "law" "law" (defArgs s_law) (defBody s_law) (defScope s_law) .none kV9 dc9 pm9 an9 cd9 ct9 } := { m_law_rng := PySem.W.mg_of X G a0, d_law_rng := ⟨⟨_, _, _, _, _, _, _, _, _, rfl, l0, c0⟩, k0⟩, m_law_draw := PySem.W.mg_of X G a1, d_law_draw := ⟨⟨_, _, _, _, _, _, _, _, _, rfl, l1, c1⟩, k1⟩, m_law_is_of := PySem.W.mg_of X G a2, d_law_is_of := ⟨⟨_, _, _, _, _, _, _, _, _, rfl, l2, c2⟩, k2⟩, m_is_string_of := PySem.W.mg_of X G a3, d_is_string_of := ⟨⟨_, _, _, _, _, _, _, _, _, rfl, l3, c3⟩, k3⟩, m_is_host_name := PySem.W.mg_of X G a4, d_is_host_name := ⟨⟨_, _, _, _, _, _, _, _, _, rfl, l4, c4⟩, k4⟩, m_is_word := PySem.W.mg_of X G a5, d_is_word := ⟨⟨_, _, _, _, _, _, _, _, _, rfl, l5, c5⟩, k5⟩, m_law_right := PySem.W.mg_of X G a6, d_law_right := ⟨⟨_, _, _, _, _, _, _, _, _, rfl, l6, c6⟩, k6⟩, m_law_string := PySem.W.mg_of X G a7, d_law_string := ⟨⟨_, _, _, _, _, _, _, _, _, rfl, l7, c7⟩, k7⟩, m_law_odd := PySem.W.mg_of X G a8, d_law_odd := ⟨⟨_, _, _, _, _, _, _, _, _, rfl, l8, c8⟩, k8⟩, m_law := PySem.W.mg_of X G a9, d_law := ⟨⟨_, _, _, _, _, _, _, _, _, rfl, l9, c9⟩, k9⟩, n_abs := PySem.W.mg_none_of X G z_abs, n_all := PySem.W.mg_none_of X G z_all, n_divmod := PySem.W.mg_none_of X G z_divmod, n_isinstance := PySem.W.mg_none_of X G z_isinstance, n_len := PySem.W.mg_none_of X G z_len, n_max := PySem.W.mg_none_of X G z_max, n_min := PySem.W.mg_none_of X G z_min, n_range := PySem.W.mg_none_of X G z_range, n_repr := PySem.W.mg_none_of X G z_repr, n_str := PySem.W.mg_none_of X G z_str, e_LETTERS := ⟨_, PySem.W.mg_of X G g_LETTERS⟩, e_LONGEST_NAME := ⟨_, PySem.W.mg_of X G g_LONGEST_NAME⟩, e_LONGEST_WORD := ⟨_, PySem.W.mg_of X G g_LONGEST_WORD⟩, e_WORD_CHARACTERS := ⟨_, PySem.W.mg_of X G g_WORD_CHARACTERS⟩ }
  exact ⟨PySem.W.fnOf "law" "law" (defArgs s_law) (defBody s_law) (defScope s_law) .none kV9 dc9 pm9 an9 cd9 ct9, fun s u => .of_eq (bd_law T [u] rfl), fun base _ _ => ok_law T⟩
end Lw
open PySem PySem.W PyProof.Rows
set_option maxRecDepth 100000 in
set_option maxHeartbeats 0 in
theorem PySem.Challenge.cw_relinktree_k11_host_names_and_words_holds : PySem.Challenge.rw_relinktree_k11_host_names_and_words.Holds := by
  w_on; o_law; k_head; (case hw => w_witness2)
  k_fill
  refine Rk.gn_walk (l := PySem.Challenge.rw_relinktree_k11_host_names_and_words) (n := 63) (k := 4) (x := "_law_script") (wf := Lw.w_law) rfl (by decide) rfl ⟨rfl, by decide, by decide⟩ (fun w h Y => PySem.W.kIn_of Y) ?lwN ?lwF Lw.law_true
  case lwN =>
    intro w
    kernel_rfl
  case lwF =>
    intro w mg fa h KX G hmg
    refine' Lw.all_mk KX G hmg ?a0 ?l0 ?c0 ?k0 ?a1 ?l1 ?c1 ?k1 ?a2 ?l2 ?c2 ?k2 ?a3 ?l3 ?c3 ?k3 ?a4 ?l4 ?c4 ?k4 ?a5 ?l5 ?c5 ?k5 ?a6 ?l6 ?c6 ?k6 ?a7 ?l7 ?c7 ?k7 ?a8 ?l8 ?c8 ?k8 ?a9 ?l9 ?c9 ?k9 ?z_abs ?z_all ?z_divmod ?z_isinstance ?z_len ?z_max ?z_min ?z_range ?z_repr ?z_str ?g_LETTERS ?g_LONGEST_NAME ?g_LONGEST_WORD ?g_WORD_CHARACTERS
    (case a0 => k_is)
    (case l0 => k_is)
    (case c0 => k_is)
    (case k0 => k_is)
    (case a1 => k_is)
    (case l1 => k_is)
    (case c1 => k_is)
    (case k1 => k_is)
    (case a2 => k_is)
    (case l2 => k_is)
    (case c2 => k_is)
    (case k2 => k_is)
    (case a3 => k_is)
    (case l3 => k_is)
    (case c3 => k_is)
    (case k3 => k_is)
    (case a4 => k_is)
    (case l4 => k_is)
    (case c4 => k_is)
    (case k4 => k_is)
    (case a5 => k_is)
    (case l5 => k_is)
    (case c5 => k_is)
    (case k5 => k_is)
    (case a6 => k_is)
    (case l6 => k_is)
    (case c6 => k_is)
    (case k6 => k_is)
    (case a7 => k_is)
    (case l7 => k_is)
    (case c7 => k_is)
    (case k7 => k_is)
    (case a8 => k_is)
    (case l8 => k_is)
    (case c8 => k_is)
    (case k8 => k_is)
    (case a9 => k_is)
    (case l9 => k_is)
    (case c9 => k_is)
    (case k9 => k_is)
    (case z_abs => k_is)
    (case z_all => k_is)
    (case z_divmod => k_is)
    (case z_isinstance => k_is)
    (case z_len => k_is)
    (case z_max => k_is)
    (case z_min => k_is)
    (case z_range => k_is)
    (case z_repr => k_is)
    (case z_str => k_is)
    (case g_LETTERS => k_is)
    (case g_LONGEST_NAME => k_is)
    (case g_LONGEST_WORD => k_is)
    (case g_WORD_CHARACTERS => k_is)
#print axioms PySem.Challenge.cw_relinktree_k11_host_names_and_words_holds
