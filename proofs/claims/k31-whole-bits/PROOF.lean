import PyProof.Rows.All
import Wide.All
import OpenK.AllK
import Wide.FinOn
import HandS.ForMost
import HandS.Exc
import HandS.IsInst
import HandS.TupAny
import HandS.WideBits
import HandS.RaiseMore
import HandS.SetKeys
import HandS.Strs
import HandS.SetFor
import HandS.SetIn
import HandS.StrMore
import PySem.Challenge.RW_relinktree_k31_whole_bits
set_option Elab.async false
set_option linter.all false
set_option maxRecDepth 100000
set_option maxHeartbeats 4000000
/-! Rk: plain values over the layer. A tuple is a value; lists, dicts and instances stand in a plain heap. A judgement AE says that an expression does what a plain transformer of (slots, heap) says. -/
namespace Rk
open PySem PySem.Spec PyProof.Rows L2

/-- plain values -/
inductive Vl where
  | non | bl (b : Bool) | int (i : Int) | str (s : Str) | tup (xs : List Vl) | ref (a : Addr) | ty (n : String)
  deriving Inhabited

/-- what stands at a plain address -/
inductive Ob where
  | lst (xs : List Vl)
  | rol (xs : List Vl)
  | dct (kvs : List (Vl × Vl))
  | lok (kvs : List (Vl × Vl))
  | ins (C : Addr) (fs : List (Str × Vl))
  | hid (o : HO)
abbrev Ah := Addr → Option Ob
def put (A : Ah) (a : Addr) (o : Ob) : Ah := fun b => if b = a then some o else A b
theorem put_same {A : Ah} {a : Addr} {o : Ob} : put A a o a = some o := if_pos rfl
theorem put_ne {A : Ah} {a b : Addr} {o : Ob} (h : b ≠ a) : put A a o b = A b := if_neg h

/-- an exception: its class, its fields -/
structure Xv where
  C : Addr
  fs : List (Str × Vl)

/-- a text that the machine can measure -/
def okS (s : Str) : Prop := s.length ≤ sizeLine ∧ PyData.strOk s = true
/-- a tuple's object: no dict of its own -/
def tupO (us : List Value) : Obj := { cls := .type "tuple", data := .seq us.toArray }
def Own (K : PySem.W.Frag) (H : Hp) (a : Addr) : Prop := (∃ us vs, H a = some (.frz (tupO us) (.tup vs))) ∨ ∃ o, K.lookup a = some o ∧ o.cls = .type "tuple" ∧ o.dict = none
def StT (K : PySem.W.Frag) (H : Hp) (a : Addr) (vs : List V) : Prop := SqT K H a vs ∧ Own K H a
variable (K : PySem.W.Frag) in
mutual
def Re (H : Hp) : Vl → V → Prop
  | .non, v => v = .non
  | .bl b, v => v = .bl b
  | .int i, v => v = .int i
  | .str s, v => v = .str s ∧ okS s
  | .ref a, v => v = .ref a
  | .ty n, v => v = .ty n
  | .tup xs, v => ∃ a vs, v = .ref a ∧ StT K H a vs ∧ Rl H xs vs
def Rl (H : Hp) : List Vl → List V → Prop
  | [], vs => vs = []
  | x :: xs, vs => ∃ v ws, vs = v :: ws ∧ Re H x v ∧ Rl H xs ws
end

/-- tuples and locked things stay -/
structure Keep (H H' : Hp) : Prop where
  tup : ∀ b xs, H b = some (.tup xs) → H' b = some (.tup xs)
  frz : ∀ b o u, H b = some (.frz o u) → H' b = some (.frz o u)
theorem Keep.refl {H : Hp} : Keep H H := ⟨fun _ _ h => h, fun _ _ _ h => h⟩
theorem Keep.trans {H H1 H2 : Hp} (a : Keep H H1) (b : Keep H1 H2) : Keep H H2 := ⟨fun c xs h => b.tup c xs (a.tup c xs h), fun c o u h => b.frz c o u (a.frz c o u h)⟩
theorem Keep.new {H : Hp} {p : Addr} {o : HO} (h : H p = none) : Keep H (upd H p o) :=
  ⟨fun b xs e => by rw [upd_ne (ne_of_none e h)]; exact e, fun b ob u e => by rw [upd_ne (ne_of_none e h)]; exact e⟩
theorem Keep.write {H : Hp} {p : Addr} {o : HO} (h : Mut (H p)) : Keep H (upd H p o) :=
  ⟨fun b xs e => by rw [upd_ne (fun z => by subst z; rw [e] at h; exact h)]; exact e, fun b ob u e => by rw [upd_ne (fun z => by subst z; rw [e] at h; exact h)]; exact e⟩
theorem sqT_keep {K : PySem.W.Frag} {H H' : Hp} {a : Addr} {xs : List V} (k : Keep H H') (h : SqT K H a xs) : SqT K H' a xs := by
  rcases h with (h | ⟨o, h⟩) | h
  · exact .inl (.inl (k.tup _ _ h))
  · exact .inl (.inr ⟨o, k.frz _ _ _ h⟩)
  · exact .inr h
theorem StT.keep {K : PySem.W.Frag} {H H' : Hp} {a : Addr} {xs : List V} (k : Keep H H') (h : StT K H a xs) : StT K H' a xs :=
  ⟨sqT_keep k h.1, h.2.imp (fun ⟨us, vs, e⟩ => ⟨us, vs, k.frz _ _ _ e⟩) id⟩
theorem StT.new {K : PySem.W.Frag} {H : Hp} {p : Addr} {us : List Value} {vs : List V} : StT K (upd H p (.frz (tupO us) (.tup vs))) p vs := ⟨.inl (.inr ⟨_, upd_same⟩), .inl ⟨us, vs, upd_same⟩⟩
variable {K : PySem.W.Frag}
mutual
theorem Re.keep {H H' : Hp} (k : Keep H H') : ∀ {x : Vl} {v : V}, Re K H x v → Re K H' x v
  | .non, _, h => by unfold Re at h ⊢; exact h
  | .bl _, _, h => by unfold Re at h ⊢; exact h
  | .int _, _, h => by unfold Re at h ⊢; exact h
  | .str _, _, h => by unfold Re at h ⊢; exact h
  | .ref _, _, h => by unfold Re at h ⊢; exact h
  | .ty _, _, h => by unfold Re at h ⊢; exact h
  | .tup _, _, h => by
    unfold Re at h ⊢
    obtain ⟨a, vs, e, s, r⟩ := h
    exact ⟨a, vs, e, s.keep k, Rl.keep k r⟩
theorem Rl.keep {H H' : Hp} (k : Keep H H') : ∀ {xs : List Vl} {vs : List V}, Rl K H xs vs → Rl K H' xs vs
  | [], _, h => by unfold Rl at h ⊢; exact h
  | _ :: _, _, h => by
    unfold Rl at h ⊢
    obtain ⟨v, ws, e, r, t⟩ := h
    exact ⟨v, ws, e, Re.keep k r, Rl.keep k t⟩
end
theorem Rl.nil {H : Hp} : Rl K H [] [] := by unfold Rl; rfl
theorem Rl.cons {H : Hp} {x : Vl} {v : V} {xs : List Vl} {vs : List V} (a : Re K H x v) (b : Rl K H xs vs) : Rl K H (x :: xs) (v :: vs) := by unfold Rl; exact ⟨v, vs, rfl, a, b⟩
theorem Rl.nil_inv {H : Hp} {vs : List V} (h : Rl K H [] vs) : vs = [] := by unfold Rl at h; exact h
theorem Rl.cons_inv {H : Hp} {x : Vl} {xs : List Vl} {vs : List V} (h : Rl K H (x :: xs) vs) : ∃ v ws, vs = v :: ws ∧ Re K H x v ∧ Rl K H xs ws := by unfold Rl at h; exact h
theorem Rl.length {H : Hp} : ∀ {xs : List Vl} {vs : List V}, Rl K H xs vs → xs.length = vs.length
  | [], _, h => by rw [h.nil_inv]; rfl
  | _ :: _, _, h => by
    obtain ⟨v, ws, rfl, _, t⟩ := h.cons_inv
    simp [t.length]
theorem Rl.append {H : Hp} : ∀ {xs ys : List Vl} {vs ws : List V}, Rl K H xs vs → Rl K H ys ws → Rl K H (xs ++ ys) (vs ++ ws)
  | [], _, _, _, h, g => by rw [h.nil_inv]; exact g
  | _ :: _, _, _, _, h, g => by
    obtain ⟨v, us, rfl, r, t⟩ := h.cons_inv
    exact .cons r (t.append g)
theorem Rl.get {H : Hp} : ∀ {xs : List Vl} {vs : List V} {i : Nat} {x : Vl}, Rl K H xs vs → xs[i]? = some x → ∃ v, vs[i]? = some v ∧ Re K H x v
  | [], _, _, _, _, e => by simp at e
  | y :: _, _, 0, x, h, e => by
    obtain ⟨v, us, rfl, r, t⟩ := h.cons_inv
    simp at e; subst e
    exact ⟨v, rfl, r⟩
  | _ :: _, _, i + 1, x, h, e => by
    obtain ⟨v, us, rfl, r, t⟩ := h.cons_inv
    simpa using t.get (i := i) (by simpa using e)
theorem Rl.get' {H : Hp} : ∀ {xs : List Vl} {vs : List V} {i : Nat} {v : V}, Rl K H xs vs → vs[i]? = some v → ∃ x, xs[i]? = some x ∧ Re K H x v
  | [], _, _, _, h, e => by rw [h.nil_inv] at e; simp at e
  | y :: _, _, 0, x, h, e => by
    obtain ⟨v, us, rfl, r, t⟩ := h.cons_inv
    simp at e; subst e
    exact ⟨y, rfl, r⟩
  | _ :: _, _, i + 1, x, h, e => by
    obtain ⟨v, us, rfl, r, t⟩ := h.cons_inv
    simpa using t.get' (i := i) (by simpa using e)
theorem Rl.set {H : Hp} {x : Vl} {v : V} (r : Re K H x v) : ∀ {xs : List Vl} {vs : List V} (i : Nat), Rl K H xs vs → Rl K H (xs.set i x) (vs.set i v)
  | [], _, _, h => by rw [h.nil_inv]; exact .nil
  | _ :: _, _, 0, h => by obtain ⟨w, us, rfl, q, t⟩ := h.cons_inv; exact .cons r t
  | _ :: _, _, i + 1, h => by obtain ⟨w, us, rfl, q, t⟩ := h.cons_inv; exact .cons q (t.set r i)
theorem Rl.take {H : Hp} : ∀ {xs : List Vl} {vs : List V} (n : Nat), Rl K H xs vs → Rl K H (xs.take n) (vs.take n)
  | _, _, 0, _ => by simp; exact .nil
  | [], _, _ + 1, h => by rw [h.nil_inv]; simp; exact .nil
  | _ :: _, _, n + 1, h => by obtain ⟨w, us, rfl, q, t⟩ := h.cons_inv; exact .cons q (t.take n)
theorem Rl.drop {H : Hp} : ∀ {xs : List Vl} {vs : List V} (n : Nat), Rl K H xs vs → Rl K H (xs.drop n) (vs.drop n)
  | _, _, 0, h => by simpa using h
  | [], _, _ + 1, h => by rw [h.nil_inv]; simp; exact .nil
  | _ :: _, _, n + 1, h => by obtain ⟨w, us, rfl, q, t⟩ := h.cons_inv; simpa using t.drop n
theorem Rl.reverse {H : Hp} : ∀ {xs : List Vl} {vs : List V}, Rl K H xs vs → Rl K H xs.reverse vs.reverse
  | [], _, h => by rw [h.nil_inv]; exact .nil
  | _ :: _, _, h => by
    obtain ⟨w, us, rfl, q, t⟩ := h.cons_inv
    simpa using t.reverse.append (.cons q .nil)
theorem Rl.erase {H : Hp} : ∀ {xs : List Vl} {vs : List V} (i : Nat), Rl K H xs vs → Rl K H (xs.eraseIdx i) (vs.eraseIdx i)
  | [], _, _, h => by rw [h.nil_inv]; simp; exact .nil
  | _ :: _, _, 0, h => by obtain ⟨w, us, rfl, q, t⟩ := h.cons_inv; simpa using t
  | _ :: _, _, i + 1, h => by obtain ⟨w, us, rfl, q, t⟩ := h.cons_inv; simpa using Rl.cons q (t.erase i)
theorem Rl.dropLast {H : Hp} : ∀ {xs : List Vl} {vs : List V}, Rl K H xs vs → Rl K H xs.dropLast vs.dropLast
  | [], _, h => by rw [h.nil_inv]; exact .nil
  | [_], _, h => by obtain ⟨w, us, rfl, q, t⟩ := h.cons_inv; rw [t.nil_inv]; exact .nil
  | _ :: y :: _, _, h => by
    obtain ⟨w, us, rfl, q, t⟩ := h.cons_inv
    obtain ⟨w', us', rfl, q', t'⟩ := t.cons_inv
    simpa using Rl.cons q (Rl.cons q' t').dropLast

/-- named fields -/
def Fr (K : PySem.W.Frag) (H : Hp) : List (Str × Vl) → List (Str × V) → Prop
  | [], gs => gs = []
  | (n, x) :: fs, gs => ∃ v hs, gs = (n, v) :: hs ∧ Re K H x v ∧ Fr K H fs hs
theorem Fr.keep {H H' : Hp} (k : Keep H H') : ∀ {fs : List (Str × Vl)} {gs : List (Str × V)}, Fr K H fs gs → Fr K H' fs gs
  | [], _, h => h
  | (_, _) :: _, _, ⟨v, hs, e, r, t⟩ => ⟨v, hs, e, r.keep k, Fr.keep k t⟩
theorem Fr.lookup {H : Hp} : ∀ {fs : List (Str × Vl)} {gs : List (Str × V)} {n : Str} {x : Vl}, Fr K H fs gs → fs.lookup n = some x → ∃ v, gs.lookup n = some v ∧ Re K H x v
  | [], _, _, _, _, e => by simp at e
  | (m, y) :: fs, _, n, x, ⟨v, hs, rfl, r, t⟩, e => by
    rw [List.lookup_cons] at e ⊢
    by_cases h : n == m
    · rw [h] at e ⊢; cases e; exact ⟨v, rfl, r⟩
    · simp only [Bool.not_eq_true] at h
      rw [h] at e ⊢; exact Fr.lookup t e
theorem Fr.lookup_none {H : Hp} : ∀ {fs : List (Str × Vl)} {gs : List (Str × V)} {n : Str}, Fr K H fs gs → fs.lookup n = none → gs.lookup n = none
  | [], _, _, h, e => by rw [show _ = [] from h]; rfl
  | (m, y) :: fs, _, n, ⟨v, hs, rfl, r, t⟩, e => by
    rw [List.lookup_cons] at e ⊢
    by_cases h : n == m
    · rw [h] at e; cases e
    · simp only [Bool.not_eq_true] at h
      rw [h] at e ⊢; exact Fr.lookup_none t e
theorem Fr.length {H : Hp} : ∀ {fs : List (Str × Vl)} {gs : List (Str × V)}, Fr K H fs gs → fs.length = gs.length
  | [], _, h => by rw [show _ = [] from h]; rfl
  | (_, _) :: _, _, ⟨v, hs, rfl, r, t⟩ => by simp [Fr.length t]
def putF' (f : Str) (v : Vl) : List (Str × Vl) → List (Str × Vl)
  | [] => [(f, v)]
  | (g, u) :: r => if g = f then (f, v) :: r else (g, u) :: putF' f v r

/-- keys -/
def kVl : Key → Vl
  | .inl i => .int i
  | .inr s => .str s
def kTl (k : List Key) : Vl := .tup (k.map kVl)
def Kr (K : PySem.W.Frag) (H : Hp) {κ : Type} (kf : κ → Vl) : List (Vl × Vl) → List (κ × V) → Prop
  | [], gs => gs = []
  | (k, x) :: fs, gs => ∃ c v hs, gs = (c, v) :: hs ∧ k = kf c ∧ Re K H x v ∧ Kr K H kf fs hs
theorem Kr.keep {H H' : Hp} (k : Keep H H') {κ : Type} {kf : κ → Vl} : ∀ {fs : List (Vl × Vl)} {gs : List (κ × V)}, Kr K H kf fs gs → Kr K H' kf fs gs
  | [], _, h => h
  | (_, _) :: _, _, ⟨c, v, hs, e, q, r, t⟩ => ⟨c, v, hs, e, q, r.keep k, Kr.keep k t⟩
def DcR (K : PySem.W.Frag) (H : Hp) (kvs : List (Vl × Vl)) (o : HO) : Prop :=
  (∃ kk : List (Key × V), o = .dK kk ∧ Kr K H kVl kvs kk) ∨ ∃ kk : List (List Key × V), o = .dT kk ∧ Kr K H kTl kvs kk
theorem DcR.keep {H H' : Hp} (k : Keep H H') {kvs : List (Vl × Vl)} {o : HO} (h : DcR K H kvs o) : DcR K H' kvs o := by
  rcases h with ⟨kk, e, r⟩ | ⟨kk, e, r⟩
  · exact .inl ⟨kk, e, r.keep k⟩
  · exact .inr ⟨kk, e, r.keep k⟩

def ObR (K : PySem.W.Frag) (H : Hp) (a : Addr) : Ob → Prop
  | .lst xs => ∃ vs, H a = some (.lst vs) ∧ Rl K H xs vs
  | .rol xs => ∃ vs, Rd H a (.lst vs) ∧ Rl K H xs vs
  | .dct kvs => ∃ o, H a = some o ∧ DcR K H kvs o
  | .lok kvs => ∃ o u, H a = some (.frz o u) ∧ DcR K H kvs u
  | .ins C fs => ∃ dx gs, H a = some (.ins C dx gs) ∧ Fr K H fs gs
  | .hid o => H a = some o
def SA (K : PySem.W.Frag) (A : Ah) (H : Hp) : Prop := ∀ a o, A a = some o → ObR K H a o
theorem ObR.there {H : Hp} {a : Addr} : ∀ {o : Ob}, ObR K H a o → ∃ u, H a = some u
  | .lst _, ⟨_, e, _⟩ => ⟨_, e⟩
  | .rol _, ⟨_, e, _⟩ => by rcases e with e | ⟨_, e⟩ <;> exact ⟨_, e⟩
  | .dct _, ⟨_, e, _⟩ => ⟨_, e⟩
  | .lok _, ⟨_, _, e, _⟩ => ⟨_, e⟩
  | .ins _ _, ⟨_, _, e, _⟩ => ⟨_, e⟩
  | .hid _, e => ⟨_, e⟩
/-- the same objects, tuples kept -/
theorem ObR.move {H H' : Hp} {a : Addr} (k : Keep H H') (e : H' a = H a) : ∀ {o : Ob}, ObR K H a o → ObR K H' a o
  | .lst _, ⟨vs, h, r⟩ => ⟨vs, e.trans h, r.keep k⟩
  | .rol _, ⟨vs, h, r⟩ => ⟨vs, by rcases h with h | ⟨o, h⟩; exact .inl (e.trans h); exact .inr ⟨o, e.trans h⟩, r.keep k⟩
  | .dct _, ⟨o, h, r⟩ => ⟨o, e.trans h, r.keep k⟩
  | .lok _, ⟨o, u, h, r⟩ => ⟨o, u, e.trans h, r.keep k⟩
  | .ins _ _, ⟨dx, gs, h, r⟩ => ⟨dx, gs, e.trans h, r.keep k⟩
  | .hid _, h => e.trans h
theorem SA.fresh {A : Ah} {H : Hp} {p : Addr} (s : SA K A H) (h : H p = none) : A p = none := by
  cases e : A p with
  | none => rfl
  | some o =>
    obtain ⟨u, q⟩ := (s p o e).there
    rw [h] at q; cases q
theorem SA.new {A : Ah} {H : Hp} {p : Addr} {o : Ob} {u : HO} (s : SA K A H) (h : H p = none) (n : ObR K (upd H p u) p o) : SA K (put A p o) (upd H p u) := fun b ob e => by
  by_cases hb : b = p
  · subst hb; rw [put_same] at e; cases e; exact n
  · rw [put_ne hb] at e
    exact (s b ob e).move (.new h) (upd_ne hb)
/-- a new object that is not told of -/
theorem SA.newU {A : Ah} {H : Hp} {p : Addr} {u : HO} (s : SA K A H) (h : H p = none) : SA K A (upd H p u) := fun b ob e =>
  (s b ob e).move (.new h) (upd_ne fun z => by
    subst z
    obtain ⟨u, q⟩ := (s _ ob e).there
    rw [h] at q; cases q)
theorem SA.write {A : Ah} {H : Hp} {p : Addr} {o : Ob} {u : HO} (s : SA K A H) (h : Mut (H p)) (n : ObR K (upd H p u) p o) : SA K (put A p o) (upd H p u) := fun b ob e => by
  by_cases hb : b = p
  · subst hb; rw [put_same] at e; cases e; exact n
  · rw [put_ne hb] at e
    exact (s b ob e).move (.write h) (upd_ne hb)

/-- slots -/
abbrev Sl := List (Option Vl)
structure SS (K : PySem.W.Frag) (H : Hp) (S : Sl) (σ : L2.St) : Prop where
  len : S.length = σ.length
  get : ∀ (i : Nat) (x : Vl), S[i]? = some (some x) → ∃ v, σ[i]? = some (some v) ∧ Re K H x v
theorem SS.keep {H H' : Hp} {S : Sl} {σ : L2.St} (k : Keep H H') (s : SS K H S σ) : SS K H' S σ := ⟨s.len, fun i x e => by
  obtain ⟨v, h, r⟩ := s.get i x e
  exact ⟨v, h, r.keep k⟩⟩
theorem SS.set {H : Hp} {S : Sl} {σ : L2.St} {x : Vl} {v : V} (s : SS K H S σ) (i : Nat) (r : Re K H x v) : SS K H (S.set i (some x)) (σ.set i (some v)) := ⟨by simp [s.len], fun j y e => by
  by_cases hj : i = j
  · subst hj
    by_cases hi : i < S.length
    · rw [List.getElem?_set_self hi] at e
      cases e
      exact ⟨v, by rw [List.getElem?_set_self (s.len ▸ hi)], r⟩
    · rw [List.getElem?_eq_none (by simpa using hi)] at e; cases e
  · rw [List.getElem?_set_ne hj] at e ⊢
    exact s.get j y e⟩
theorem SS.setNone {H : Hp} {S : Sl} {σ : L2.St} (s : SS K H S σ) (i : Nat) : SS K H (S.set i none) (σ.set i none) := ⟨by simp [s.len], fun j y e => by
  by_cases hj : i = j
  · subst hj
    by_cases hi : i < S.length
    · rw [List.getElem?_set_self hi] at e; cases e
    · rw [List.getElem?_eq_none (by simpa using hi)] at e; cases e
  · rw [List.getElem?_set_ne hj] at e ⊢
    exact s.get j y e⟩

/-- an exception in the air -/
def Xr (K : PySem.W.Frag) (H : Hp) (x : Xv) (cls : Value) (d : Option Addr) : Prop :=
  cls = .ref x.C ∧ ((x.fs = [] ∧ d = none) ∨ ∃ dd gs, d = some dd ∧ H dd = some (.xd gs) ∧ Fr K H x.fs gs)

/-! ### transformers and judgements -/
abbrev QE := Vl → Ah → Prop
abbrev EX := Xv → Ah → Prop
abbrev WE := Sl → Ah → QE → EX → Prop
abbrev WT := Sl → Ah → (Bool → Ah → Prop) → EX → Prop
abbrev WA := Sl → Ah → (List Vl → Ah → Prop) → EX → Prop
abbrev WF := List Vl → Ah → QE → EX → Prop
structure Es where
  nx : Sl → Ah → Prop
  rt : QE
  bk : Sl → Ah → Prop := fun _ _ => False
  ct : Sl → Ah → Prop := fun _ _ => False
  ex : Xv → Sl → Ah → Prop := fun _ _ _ => False
abbrev WS := Es → Sl → Ah → Prop

/-- a wish of plain values, as one of the layer -/
def QL (K : PySem.W.Frag) (H : Hp) (Qa : QE) (Q : VK) : Prop := ∀ x A' v H', Re K H' x v → SA K A' H' → Keep H H' → Qa x A' → Q v H'
def QLB (K : PySem.W.Frag) (H : Hp) (Qa : Bool → Ah → Prop) (Q : Bool → Hp → Prop) : Prop := ∀ b A' H', SA K A' H' → Keep H H' → Qa b A' → Q b H'
def QLA (K : PySem.W.Frag) (H : Hp) (Qa : List Vl → Ah → Prop) (Q : List V → Hp → Prop) : Prop := ∀ xs A' vs H', Rl K H' xs vs → SA K A' H' → Keep H H' → Qa xs A' → Q vs H'
def QX (K : PySem.W.Frag) (H : Hp) (Ea : EX) (E : XK) : Prop := ∀ x A' cls d H', Xr K H' x cls d → SA K A' H' → Keep H H' → Ea x A' → E cls d H'
def QS (K : PySem.W.Frag) (H : Hp) (Na : Sl → Ah → Prop) (N : L2.St → Hp → Prop) : Prop := ∀ S A' σ H', SS K H' S σ → SA K A' H' → Keep H H' → Na S A' → N σ H'
def QXS (K : PySem.W.Frag) (H : Hp) (Ea : Xv → Sl → Ah → Prop) (E : WX) : Prop := ∀ x S A' cls d σ H', Xr K H' x cls d → SS K H' S σ → SA K A' H' → Keep H H' → Ea x S A' → E cls d σ H'

def LE (K : PySem.W.Frag) (W : WX) (w : WE) : TE := fun σ H Q => ∃ S A Qa Ea, SS K H S σ ∧ SA K A H ∧ QL K H Qa Q ∧ QX K H Ea (fun c d H' => W c d σ H') ∧ w S A Qa Ea
def LT (K : PySem.W.Frag) (W : WX) (w : WT) : TT := fun σ H Q => ∃ S A Qa Ea, SS K H S σ ∧ SA K A H ∧ QLB K H Qa Q ∧ QX K H Ea (fun c d H' => W c d σ H') ∧ w S A Qa Ea
def LA (K : PySem.W.Frag) (W : WX) (w : WA) : TA := fun σ H Q => ∃ S A Qa Ea, SS K H S σ ∧ SA K A H ∧ QLA K H Qa Q ∧ QX K H Ea (fun c d H' => W c d σ H') ∧ w S A Qa Ea
structure QD (K : PySem.W.Frag) (W : WX) (H : Hp) (Da : Es) (D : Ends) : Prop where
  nx : QS K H Da.nx D.nx
  rt : QL K H Da.rt D.rt
  bk : QS K H Da.bk D.bk
  ct : QS K H Da.ct D.ct
  ex : QXS K H Da.ex W
def LS (K : PySem.W.Frag) (W : WX) (w : WS) : TS := fun D σ H => ∃ S A Da, SS K H S σ ∧ SA K A H ∧ QD K W H Da D ∧ w Da S A
/-- a def's promise -/
def LF (K : PySem.W.Frag) (n : Nat) (w : WF) : Sp := fun vs H Q E => ∃ xs A Qa Ea, Rl K H xs vs ∧ xs.length = n ∧ SA K A H ∧ QL K H Qa Q ∧ QX K H Ea E ∧ w xs A Qa Ea

theorem QL.keep {H H1 : Hp} {Qa : QE} {Q : VK} (q : QL K H Qa Q) (k : Keep H H1) : QL K H1 Qa Q := fun x A' v H' r s kk h => q x A' v H' r s (k.trans kk) h
theorem QLB.keep {H H1 : Hp} {Qa : Bool → Ah → Prop} {Q : Bool → Hp → Prop} (q : QLB K H Qa Q) (k : Keep H H1) : QLB K H1 Qa Q := fun x A' H' s kk h => q x A' H' s (k.trans kk) h
theorem QLA.keep {H H1 : Hp} {Qa : List Vl → Ah → Prop} {Q : List V → Hp → Prop} (q : QLA K H Qa Q) (k : Keep H H1) : QLA K H1 Qa Q := fun x A' v H' r s kk h => q x A' v H' r s (k.trans kk) h
theorem QX.keep {H H1 : Hp} {Ea : EX} {E : XK} (q : QX K H Ea E) (k : Keep H H1) : QX K H1 Ea E := fun x A' c d H' r s kk h => q x A' c d H' r s (k.trans kk) h
theorem QS.keep {H H1 : Hp} {Na : Sl → Ah → Prop} {N : L2.St → Hp → Prop} (q : QS K H Na N) (k : Keep H H1) : QS K H1 Na N := fun S A' σ H' r s kk h => q S A' σ H' r s (k.trans kk) h
theorem QXS.keep {H H1 : Hp} {Ea : Xv → Sl → Ah → Prop} {E : WX} (q : QXS K H Ea E) (k : Keep H H1) : QXS K H1 Ea E := fun x S A' c d σ H' r s1 s kk h => q x S A' c d σ H' r s1 s (k.trans kk) h
theorem QD.keep {W : WX} {H H1 : Hp} {Da : Es} {D : Ends} (q : QD K W H Da D) (k : Keep H H1) : QD K W H1 Da D := ⟨q.nx.keep k, q.rt.keep k, q.bk.keep k, q.ct.keep k, q.ex.keep k⟩
/-- an expression's exception, at the slots -/
theorem QXS.at {H : Hp} {Ea : Xv → Sl → Ah → Prop} {W : WX} {S : Sl} {σ : L2.St} (q : QXS K H Ea W) (s : SS K H S σ) : QX K H (fun x A' => Ea x S A') (fun c d H' => W c d σ H') := fun x A' c d H' r sa k h => q x S A' c d σ H' r (s.keep k) sa k h

abbrev AE (X : Cx) (W : WX) (e : Expr) (w : WE) : Prop := PE X e (LE X.K W w)
abbrev AT (X : Cx) (W : WX) (e : Expr) (w : WT) : Prop := PT X e (LT X.K W w)
abbrev AW (X : Cx) (W : WX) (e : Expr) (w : WT) : Prop := PW X e (LT X.K W w)
abbrev AA (X : Cx) (W : WX) (es : List Expr) (w : WA) : Prop := PA X es (LA X.K W w)
abbrev AS (X : Cx) (W : WX) (st : Stmt) (w : WS) : Prop := PS X st (LS X.K W w)
abbrev ASs (X : Cx) (W : WX) (st : List Stmt) (w : WS) : Prop := PSs X st (LS X.K W w)

section
variable {X : Cx}
theorem pe_imp {e : Expr} {t t' : TE} (h : PE X e t) (i : ∀ σ H Q, t' σ H Q → t σ H Q) : PE X e t' := ⟨fun pins s σ H Q I w => h.run pins s σ H Q I (i _ _ _ w)⟩
theorem pt_imp {e : Expr} {t t' : TT} (h : PT X e t) (i : ∀ σ H Q, t' σ H Q → t σ H Q) : PT X e t' := ⟨fun pins s σ H Q I w => h.run pins s σ H Q I (i _ _ _ w)⟩
theorem pw_imp {e : Expr} {t t' : TT} (h : PW X e t) (i : ∀ σ H Q, t' σ H Q → t σ H Q) : PW X e t' := ⟨fun wh pins s σ H Q I w => h.run wh pins s σ H Q I (i _ _ _ w)⟩
theorem pa_imp {es : List Expr} {t t' : TA} (h : PA X es t) (i : ∀ σ H Q, t' σ H Q → t σ H Q) : PA X es t' := ⟨fun p pins s σ H Q I w => h.run p pins s σ H Q I (i _ _ _ w)⟩
theorem ps_imp {e : Stmt} {t t' : TS} (h : PS X e t) (i : ∀ D σ H, t' D σ H → t D σ H) : PS X e t' := ⟨fun pins s σ H D I w => h.run pins s σ H D I (i _ _ _ w)⟩
theorem pss_imp {e : List Stmt} {t t' : TS} (h : PSs X e t) (i : ∀ D σ H, t' D σ H → t D σ H) : PSs X e t' := ⟨fun pins s σ H D I w => h.run pins s σ H D I (i _ _ _ w)⟩
/-! ### new tuples, their objects known -/
theorem laidT {pins : List (Addr × Obj)} {σ : L2.St} {H : Hp} {s : Shared} {vs : List V} {us : List Value} (I : Inv X pins σ H s) (r : Vals vs us) (z : vs.length ≤ sizeLine) :
    Inv X pins σ (upd H s.heap.objs.size (.frz (tupO us) (.tup vs))) { s with heap := s.heap.push (tupO us) } :=
  I.laid (t' := s.toks) (fun _ _ e => Heap.get?_push_of_some _ e) (Nat.le_refl _) ⟨Heap.get?_push_size _ rfl, z, us, r, _, Heap.get?_push_size _ rfl, rfl, _, rfl⟩
/-- what a rule gives that makes a tuple -/
def QT (H : Hp) (vs : List V) (Q : VK) : Prop := ∀ p us, H p = none → Q (.ref p) (upd H p (.frz (tupO us) (.tup vs)))
theorem qt_go {pins : List (Addr × Obj)} {σ : L2.St} {H : Hp} {s : Shared} {vs : List V} {us : List Value} {Q : VK} (I : Inv X pins σ H s) (r : Vals vs us) (z : vs.length ≤ sizeLine) (q : QT H vs Q) :
    EP X pins σ Q (.ref s.heap.objs.size) { s with heap := s.heap.push (tupO us) } := ⟨.ref _, _, laidT I r z, rfl, q _ us (I.hok.fresh (Nat.le_refl _))⟩
theorem pe_tupS {es : List Expr} {t : TA} {n : Nat} {pos : Pos} (h : PA X es t) : PE X (.Tuple es n pos) (fun σ H Q => t σ H fun vs H1 => vs.length ≤ sizeLine ∧ QT H1 vs Q) :=
  ⟨fun pins s σ H Q I w => wpAny_Tuple_spliced (thn (h.run pos pins s σ H _ I w) fun us t ⟨vs, H1, J, r, z, q⟩ => ⟨r.length ▸ z, qt_go J r z q⟩)⟩
def rCatS (K : PySem.W.Frag) : R2 := fun x y H Q => ∃ a b vs ws, x = .ref a ∧ y = .ref b ∧ SqT K H a vs ∧ SqT K H b ws ∧ vs.length + ws.length ≤ sizeLine ∧ (vs = [] → Q (.ref b) H) ∧ (vs ≠ [] → ws = [] → Q (.ref a) H) ∧ (vs ≠ [] → ws ≠ [] → QT H (vs ++ ws) Q)
theorem op_catS : OpR X (binaryOp .Add) (rCatS X.K) := by
  intro pins s σ H x y v u Q I rx ry ⟨a, b, vs, ws, ex, ey, ha, hb, z, q0, q1, q2⟩
  subst ex ey
  cases rx; cases ry
  by_cases c : vs = []
  · exact op_catA pins s σ H (.ref a) (.ref b) _ _ Q I rfl rfl ⟨a, b, vs, ws, rfl, rfl, ha, hb, z, q0, fun h => (h c).elim, fun h => (h c).elim⟩
  by_cases d : ws = []
  · exact op_catA pins s σ H (.ref a) (.ref b) _ _ Q I rfl rfl ⟨a, b, vs, ws, rfl, rfl, ha, hb, z, q0, q1, fun _ h => (h d).elim⟩
  obtain ⟨us, r1, p1, _⟩ := I.tuple ha
  obtain ⟨us2, r2, p2, _⟩ := I.tuple hb
  refine HT.cat_tup p1 p2 (fun e => c (r1.nil_iff.mp e)) (fun e => (d (r2.nil_iff.mp e)).elim) (fun _ => ?_) (by rw [← r1.length, ← r2.length]; exact z)
  have := qt_go I (r1.append r2) (by rw [List.length_append]; exact z) (q2 c d)
  unfold tupO at this
  exact this
theorem call_divmodS : CallR X (.builtin "divmod") (fun xs H Q => ∃ i j, xs = [.int i, .int j] ∧ CDiv i j ∧ QT H [.int (i / j), .int (i % j)] Q) := by
  intro pins s σ H xs us Q I r ⟨i, j, ex, ⟨h1, h2⟩, q⟩
  subst ex
  obtain ⟨u, v, rfl, ⟨t, rfl⟩, ⟨t2, rfl⟩⟩ := vals2 r
  refine divmod_int (by omega) ?_ (.inl (PyProof.noPylong_small (by omega)))
  rw [Int.fdiv_eq_ediv_of_nonneg i (by omega), Int.fmod_eq_emod_of_nonneg i (by omega)]
  refine ⟨.ref s.heap.objs.size, _, I.laid (fun _ _ e => Heap.get?_push_of_some _ e) (Nat.le_refl _) (o := .frz (tupO [.int (i / j) s.toks, .int (i % j) (s.toks + 1)]) (.tup [.int (i / j), .int (i % j)])) ⟨Heap.get?_push_size s.heap rfl, ?_, [.int (i / j) s.toks, .int (i % j) (s.toks + 1)], .cons ⟨_, rfl⟩ (.cons ⟨_, rfl⟩ .nil), ?_⟩, rfl, q _ _ (I.hok.fresh (Nat.le_refl _))⟩
  · simp only [List.length_cons, List.length_nil]; rw [sizeLine_eq]; decide
  · exact ⟨_, Heap.get?_push_size s.heap rfl, rfl, 0, rfl⟩
theorem call_tupleS : CallR X (.type "tuple") (fun xs H Q => ∃ p vs, xs = [.ref p] ∧ SqL X.K H p vs ∧ QT H vs Q) := by
  intro pins s σ H xs us Q I r ⟨p, vs, ex, hq, q⟩
  subst ex
  obtain ⟨u, rfl, rx⟩ := vals1 r
  cases rx
  obtain ⟨its, r2, pl, z⟩ := I.list hq
  refine call_tuple_list pl.isList (fun h' kp => ?_) (by rw [List.size_toArray, ← r2.length]; exact z)
  have J : Inv X pins σ H { s with heap := h' } := I.kept (t' := s.toks) kp
  exact qt_go J r2 z q
def rSlN (K : PySem.W.Frag) : V → Option Int → Option Int → Hp → VK → Prop := fun x lo hi H Q => ∃ a vs, x = .ref a ∧ SqT K H a vs ∧
  (HT.sIx vs.length 0 lo = 0 ∧ HT.sIx vs.length vs.length hi = vs.length → Q (.ref a) H) ∧ QT H (cutV vs lo hi) Q
theorem sl_tupS : L2.SlR X (rSlN X.K) := by
  intro pins s σ H x v vl vu lo hi sl Q I rx hs pl pu ⟨a, vs, ex, hx, q1, q2⟩
  subst ex
  by_cases c : HT.sIx vs.length 0 lo = 0 ∧ HT.sIx vs.length vs.length hi = vs.length
  · exact sl_tupA pins s σ H _ v vl vu lo hi sl Q I rx hs pl pu ⟨a, vs, rfl, hx, q1, fun h => (h c).elim⟩
  cases rx
  obtain ⟨us, r, ht, z⟩ := I.tuple hx
  have e : us.toArray.size = vs.length := by rw [List.size_toArray, r.length]
  refine ⟨"tuple", _, PyProof.Rows.slot_tuple_getitem.lookup, ht.typeIs, ?_⟩
  refine HT.getItem_tuple_cut ht hs pl pu (by rw [e]; exact c) ?_ (by rw [e]; exact z)
  rw [e]
  have := qt_go I ((r.drop (HT.sIx vs.length 0 lo)).take (HT.sIx vs.length vs.length hi - HT.sIx vs.length 0 lo)) (Nat.le_trans (cutV_length vs lo hi) z) q2
  unfold tupO at this
  exact this
end
end Rk

set_option Elab.async false
set_option linter.all false
set_option maxRecDepth 100000
set_option maxHeartbeats 4000000
namespace Rk
open PySem PySem.Spec PyProof.Rows L2
/-! ### syntax, by the head of an expression alone -/
section
variable {env : Env} {e o a b t v : Expr} {es : List Expr} {pos : Pos} {kws : List Keyword}
def noSt : Expr → Bool
  | .Starred .. => false
  | _ => true
def noSts : List Expr → Bool
  | [] => true
  | e :: es => noSt e && noSts es
theorem starOf (h : noSt e = true) : starEach (e :: es) env = (false, eval e env) :: starEach es env := by
  cases e <;> first | rfl | cases h
theorem starsOf (h : noSts es = true) : (backTo pos (starEach es env)).any (·.1) = false := by
  induction es with
  | nil => rfl
  | cons e es ih =>
    unfold noSts at h
    rw [Bool.and_eq_true] at h
    rw [starOf h.1]
    show (false || (backTo pos (starEach es env)).any (·.1)) = false
    rw [ih h.2]; rfl
theorem star1 (h : noSt a = true) : starEach [a] env = [(false, eval a env)] := starOf h
theorem star2 (h : noSts [a, b] = true) : starEach [a, b] env = [(false, eval a env), (false, eval b env)] := by
  unfold noSts noSts noSts at h
  simp only [Bool.and_true, Bool.and_eq_true] at h
  rw [starOf h.1, starOf h.2]; rfl
theorem fewOf (h : (noSts es && decide (es.length < 29)) = true) : ((backTo pos (starEach es env)).all (fun x => !x.1) && (backToKw pos (keywordEach [] env)).all (fun x => x.1.isSome)
      && decide (es.length + ([] : List Keyword).length + (if ([] : List Keyword).isEmpty then 0 else 1) < 30)) = true := by
  rw [Bool.and_eq_true] at h
  have h2 := of_decide_eq_true h.2
  have h3 : (backTo pos (starEach es env)).all (fun x => !x.1) = true := by
    have := starsOf (env := env) (pos := pos) h.1
    rw [List.all_eq_not_any_not]
    simpa using this
  rw [h3]
  simp only [keywordEach, backToKw, List.map_nil, List.all_nil, Bool.and_true, List.length_nil, List.isEmpty_nil, if_true, Bool.true_and]
  exact decide_eq_true (by omega)
def plainT : Expr → Bool
  | .UnaryOp .Not _ _ => false
  | .BoolOp .. => false
  | .IfExp .. => false
  | .Compare .. => false
  | _ => true
theorem trueOf (h : plainT e = true) : ∀ whole, isTrue e env whole = (do let v ← whole; standAt e.pos; holding [v] (truthy v)) := by
  intro w
  cases e with
  | UnaryOp op x p => cases op <;> first | rfl | cases h
  | _ => first | rfl | cases h
def noCmp : Expr → Bool
  | .ListComp .. => false
  | .SetComp .. => false
  | .DictComp .. => false
  | _ => true
theorem swapOf {t : Option Expr} {l : Nat} (h : noCmp e = true) : swapsWith e t l env = pure false := by
  cases e <;> first | rfl | cases h
theorem swap1 {l : Nat} (h : noCmp e = true) : swapsWithSole [t] e l env = pure false := swapOf h
def noTups : Expr → Expr → Bool
  | .Tuple .., .Tuple .. => false
  | .List .., .Tuple .. => false
  | _, _ => true
theorem storesOf (h : noTups t v = true) : swappedStores [t] v env = pure none := by
  cases t <;> first
    | rfl
    | (cases v <;> first | rfl | cases h)
theorem asg1 (h : noSt t = true) : (assignEach [t] env).map (·.2) = [assign t env] := by
  cases t <;> first | rfl | cases h
theorem asgN (h : noSt t = true) : (assignEach (t :: es) env).map (·.2) = assign t env :: (assignEach es env).map (·.2) := by
  cases t <;> first | rfl | cases h
theorem asgLen : (assignEach es env).length = es.length := by
  induction es with
  | nil => rfl
  | cons t es ih => cases t <;> exact congrArg (· + 1) ih
theorem asgLenOf {n : Nat} (h : es.length = n) : (assignEach es env).length = n := asgLen.trans h
theorem asgIdx (h : noSts es = true) : (assignEach es env).findIdx? (·.1) = none := by
  have : ∀ x ∈ assignEach es env, x.1 = false := by
    induction es with
    | nil => intro x hx; cases hx
    | cons t es ih =>
      unfold noSts at h
      rw [Bool.and_eq_true] at h
      intro x hx
      have : assignEach (t :: es) env = (false, assign t env) :: assignEach es env := by cases t <;> first | rfl | cases h.1
      rw [this] at hx
      rcases List.mem_cons.mp hx with rfl | hx
      · rfl
      · exact ih h.2 x hx
  rw [List.findIdx?_eq_none_iff]
  intro x hx
  rw [this x hx]
def baseB : Expr → Bool
  | .Call (.Name id _) [] [] _ => id != "super"
  | _ => true
theorem baseOf {n : Str} (h : baseB o = true) : attributeBase o n env (eval o env) = eval o env := by
  unfold attributeBase
  split
  · rename_i id _ _
    have h : (id != "super") = true := h
    rw [h]; rfl
  · rfl
def noSet : Expr → Bool
  | .Set .. => false
  | _ => true
theorem foldOf (h : noSet e = true) : ∀ x, foldedSetIterable e env x = pure x := by
  intro x
  cases e <;> first | rfl | cases h
def noSlc : Expr → Bool
  | .Slice .. => false
  | _ => true
theorem ixOf (h : noSlc e = true) : PlainIx e := by
  intro o i
  cases e <;> first | rfl | cases h
theorem kwsOf : (backToKw pos (keywordEach kws env)).map (·.1) = kws.map fun k => k.1 := by
  induction kws with
  | nil => rfl
  | cons k ks ih => obtain ⟨n, v, p⟩ := k; exact congrArg (n :: ·) ih
theorem kwNames {ks : List Str} (h : kws.filterMap (fun k => k.1) = ks) : (backToKw pos (keywordEach kws env)).filterMap (·.1) = ks := by
  rw [← h]
  have := congrArg (List.filterMap id) (kwsOf (pos := pos) (env := env) (kws := kws))
  simpa [List.filterMap_map] using this
theorem kwAll (h : kws.all (fun k => k.1.isSome) = true) : (backToKw pos (keywordEach kws env)).all (·.1.isSome) = true := by
  have := congrArg (List.all · Option.isSome) (kwsOf (pos := pos) (env := env) (kws := kws))
  simp only [List.all_map] at this
  exact this.trans h
theorem kwPl (h : noSts es = true) (g : kws.all (fun k => k.1.isSome) = true) : ((backTo pos (starEach es env)).any (·.1) || (backToKw pos (keywordEach kws env)).any (·.1.isNone)) = false := by
  rw [starsOf h, Bool.false_or]
  have := kwAll (env := env) (pos := pos) g
  rw [List.any_eq_false]
  intro x hx
  have q := List.all_eq_true.mp this x hx
  cases hn : x.1 with
  | none => rw [hn] at q; cases q
  | some _ => simp
theorem asgSub {i : Expr} (h : noSlc i = true) : ∀ v, assign (.Subscript o i pos) env v = (do
      let ov ← holding [v] (eval o env)
      let iv ← holding [v, ov] (eval i env)
      standAt pos
      holding [v, ov, iv] (setItem ov iv v)
      release [v, ov, iv] []) := by
  intro v
  cases i <;> first | rfl | cases h
end
section
variable {X : Cx} {W : WX} {a b c e o : Expr} {es : List Expr} {pos : Pos}

/-! ### names, constants -/
def wVar (i : Nat) : WE := fun S A Q _ => match S[i]? with
  | some (some x) => Q x A
  | _ => False
theorem ae_var {i : Nat} {x : Str} (hN : X.N[i]? = some x) (hv : Vis X.env.scope x) (hd : (x == ("__debug__" : Str)) = false := by decide) (hcd : (x == ("__classdict__" : Str)) = false := by decide) : AE X W (.Name x pos) (wVar i) :=
  pe_imp (pe_var hN hv hd hcd) fun σ H Q ⟨S, A, Qa, Ea, ss, sa, q, _, w⟩ => by
    unfold wVar at w
    split at w
    · rename_i y he
      obtain ⟨v, hv, r⟩ := ss.get _ _ he
      exact ⟨v, hv, q _ _ _ _ r sa .refl w⟩
    · exact w.elim
def wC (x : Vl) : WE := fun _ A Q _ => Q x A
theorem ae_c {x : Vl} {v : V} (h : PE X e (tC v)) (r : ∀ H, Re X.K H x v) : AE X W e (wC x) :=
  pe_imp h fun σ H Q ⟨S, A, Qa, Ea, ss, sa, q, _, w⟩ => q _ _ _ _ (r H) sa .refl w
theorem re_int {K : PySem.W.Frag} {i : Int} (H : Hp) : Re K H (.int i) (.int i) := by unfold Re; rfl
theorem re_bl {K : PySem.W.Frag} {i : Bool} (H : Hp) : Re K H (.bl i) (.bl i) := by unfold Re; rfl
theorem re_non {K : PySem.W.Frag} (H : Hp) : Re K H .non .non := by unfold Re; rfl
theorem re_ref {K : PySem.W.Frag} {a : Addr} (H : Hp) : Re K H (.ref a) (.ref a) := by unfold Re; rfl
theorem re_ty {K : PySem.W.Frag} {n : String} (H : Hp) : Re K H (.ty n) (.ty n) := by unfold Re; rfl
theorem re_str {K : PySem.W.Frag} {s : Str} (h : okS s) (H : Hp) : Re K H (.str s) (.str s) := by unfold Re; exact ⟨rfl, h⟩
theorem re_tup {K : PySem.W.Frag} {H : Hp} {p : Addr} {xs : List Vl} {vs : List V} (h : StT K H p vs) (r : Rl K H xs vs) : Re K H (.tup xs) (.ref p) := by unfold Re; exact ⟨p, vs, rfl, h, r⟩
theorem re_new {K : PySem.W.Frag} {H : Hp} {p : Addr} {xs : List Vl} {vs : List V} {us : List Value} (h : H p = none) (r : Rl K H xs vs) : Re K (upd H p (.frz (tupO us) (.tup vs))) (.tup xs) (.ref p) := re_tup .new (r.keep (.new h))
/-- a text's size within the line, by computation -/
def okB (s : Str) : Bool := decide (s.length ≤ 16777216) && PyData.strOk s
theorem okS_of {s : Str} (h : okB s = true) : okS s := by
  unfold okB at h
  rw [Bool.and_eq_true] at h
  exact ⟨by rw [sizeLine_eq]; exact of_decide_eq_true h.1, h.2⟩
theorem ae_int {i : Int} {k : Nat} : AE X W (.Constant (.int i) k pos) (wC (.int i)) := ae_c pe_int re_int
theorem ae_bl {i : Bool} {k : Nat} : AE X W (.Constant (.bool i) k pos) (wC (.bl i)) := ae_c pe_bl re_bl
theorem ae_non {k : Nat} : AE X W (.Constant .none k pos) (wC .non) := ae_c pe_non re_non
theorem ae_str {s : Str} {k : Nat} (h : okB s = true := by decide +kernel) : AE X W (.Constant (.str s) k pos) (wC (.str s)) := ae_c pe_str (re_str (okS_of h))
/-- a module's name -/
theorem ae_glob {x : Str} {y : Vl} {v : V} {u : Value} (hg : Gl X x) (hm : X.mg x = some u) (r : RelV v u) (r2 : ∀ H, Re X.K H y v) (hd : (x == ("__debug__" : Str)) = false := by decide) : AE X W (.Name x pos) (wC y) := ae_c (pe_glob hg hm r hd) r2
/-- a built-in's name as a value -/
theorem ae_bltn {x : Str} {y : Vl} {v : V} {u : Value} (hg : Gl X x) (hm : X.mg x = none) (hv : bootBuiltins x = some u) (r : RelV v u) (r2 : ∀ H, Re X.K H y v) (hn : x ≠ "__name__" := by decide) (hd : (x == ("__debug__" : Str)) = false := by decide) : AE X W (.Name x pos) (wC y) := ae_c (pe_bltn hg hm hv r hn hd) r2

/-! ### operators by values -/
abbrev F2 := Vl → Vl → Ah → QE → Prop
def Sim2 (K : PySem.W.Frag) (r : R2) (f : F2) : Prop := ∀ {x y : Vl} {v u : V} {A : Ah} {H : Hp} {Q : VK} {Qa : QE}, Re K H x v → Re K H y u → SA K A H → QL K H Qa Q → f x y A Qa → r v u H Q
def wBin (f : F2) (wa wb : WE) : WE := fun S A Q E => wa S A (fun x A1 => wb S A1 (fun y A2 => f x y A2 Q) E) E
theorem le_two {K : PySem.W.Frag} {r : R2} {f : F2} {wa wb : WE} (hs : Sim2 K r f) {σ : L2.St} {H : Hp} {Q : VK} (h : LE K W (wBin f wa wb) σ H Q) : tOp r (LE K W wa) (LE K W wb) σ H Q := by
  obtain ⟨S, A, Qa, Ea, ss, sa, q, qx, w⟩ := h
  refine ⟨S, A, _, Ea, ss, sa, ?_, qx, w⟩
  intro x A1 v H1 r1 sa1 k1 w1
  refine ⟨S, A1, _, Ea, ss.keep k1, sa1, ?_, qx.keep k1, w1⟩
  intro y A2 u H2 r2 sa2 k2 w2
  exact hs (r1.keep k2) r2 sa2 (q.keep (k1.trans k2)) w2
theorem ae_bin {op : Operator} {r : R2} {f : F2} {wa wb : WE} (ho : OpR X (binaryOp op) r) (hs : Sim2 X.K r f) (ha : AE X W a wa) (hb : AE X W b wb) : AE X W (.BinOp a op b pos) (wBin f wa wb) :=
  pe_imp (pe_op ho ha hb) fun _ _ _ h => le_two hs h
theorem ae_cmp {op : CmpOp} {r : R2} {f : F2} {wa wb : WE} (ho : OpR X (compareOp op) r) (hs : Sim2 X.K r f) (ha : AE X W a wa) (hb : AE X W b wb) (hm : behindInMarks op b = false := by first | rfl | exact nomark _) : AE X W (.Compare a [op] [b] pos) (wBin f wa wb) :=
  pe_imp (pe_cmpR ho ha hb hm) fun _ _ _ h => le_two hs h
def wUn (f : Vl → Ah → QE → Prop) (wa : WE) : WE := fun S A Q E => wa S A (fun x A1 => f x A1 Q) E
def Sim1 (K : PySem.W.Frag) (r : V → Hp → VK → Prop) (f : Vl → Ah → QE → Prop) : Prop := ∀ {x : Vl} {v : V} {A : Ah} {H : Hp} {Q : VK} {Qa : QE}, Re K H x v → SA K A H → QL K H Qa Q → f x A Qa → r v H Q
theorem ae_un {op : UnaryOp} {r : V → Hp → VK → Prop} {f : Vl → Ah → QE → Prop} {wa : WE} (ho : UnR X (unaryOp op) r) (hs : Sim1 X.K r f) (ha : AE X W a wa) : AE X W (.UnaryOp op a pos) (wUn f wa) :=
  pe_imp (pe_un ho ha) fun σ H Q ⟨S, A, Qa, Ea, ss, sa, q, qx, w⟩ => ⟨S, A, _, Ea, ss, sa, fun x A1 v H1 r1 sa1 k1 w1 => hs r1 sa1 (q.keep k1) w1, qx, w⟩
/-- a bool as a test -/
def wB (w : WE) : WT := fun S A Q E => w S A (fun x A1 => match x with
  | .bl k => Q k A1
  | _ => False) E
theorem lb_of {K : PySem.W.Frag} {w : WE} {σ : L2.St} {H : Hp} {Q : Bool → Hp → Prop} (h : LT K W (wB w) σ H Q) : LE K W w σ H fun x H1 => ∃ k, x = .bl k ∧ Q k H1 := by
  obtain ⟨S, A, Qa, Ea, ss, sa, q, qx, w⟩ := h
  refine ⟨S, A, _, Ea, ss, sa, ?_, qx, w⟩
  intro x A1 v H1 r1 sa1 k1 w1
  cases x with
  | bl k => unfold Re at r1; exact ⟨k, r1, q _ _ _ sa1 k1 w1⟩
  | _ => exact w1.elim
theorem at_cmp {op : CmpOp} {r : R2} {f : F2} {wa wb : WE} (ho : OpR X (compareOp op) r) (hs : Sim2 X.K r f) (ha : AE X W a wa) (hb : AE X W b wb) (hm : behindInMarks op b = false := by first | rfl | exact nomark _) : AT X W (.Compare a [op] [b] pos) (wB (wBin f wa wb)) :=
  pt_imp (pt_cmpR ho ha hb hm) fun _ _ _ h => le_two hs (lb_of h)
/-- a < b < c -/
def wChain (f g : F2) (wa wb wc : WE) : WE := fun S A Q E => wa S A (fun x A1 => wb S A1 (fun y A2 => f x y A2 fun z A3 => match z with
  | .bl true => wc S A3 (fun t A4 => g y t A4 Q) E
  | .bl false => Q (.bl false) A3
  | _ => False) E) E
theorem le_chain {K : PySem.W.Frag} {r r' : R2} {f g : F2} {wa wb wc : WE} (hs : Sim2 K r f) (hs' : Sim2 K r' g) {σ : L2.St} {H : Hp} {Q : VK} (h : LE K W (wChain f g wa wb wc) σ H Q) : tChain r r' (LE K W wa) (LE K W wb) (LE K W wc) σ H Q := by
  obtain ⟨S, A, Qa, Ea, ss, sa, q, qx, w⟩ := h
  refine ⟨S, A, _, Ea, ss, sa, ?_, qx, w⟩
  intro x A1 v H1 r1 sa1 k1 w1
  refine ⟨S, A1, _, Ea, ss.keep k1, sa1, ?_, qx.keep k1, w1⟩
  intro y A2 u H2 r2 sa2 k2 w2
  refine hs (r1.keep k2) r2 sa2 ?_ w2
  intro z A3 t H3 r3 sa3 k3 w3
  cases z with
  | bl k =>
    unfold Re at r3
    cases k with
    | true =>
      refine ⟨true, r3, ?_⟩
      rw [if_pos rfl]
      refine ⟨S, A3, _, Ea, ss.keep ((k1.trans k2).trans k3), sa3, ?_, qx.keep ((k1.trans k2).trans k3), w3⟩
      intro t A4 s H4 r4 sa4 k4 w4
      exact hs' (r2.keep (k3.trans k4)) r4 sa4 (q.keep (((k1.trans k2).trans k3).trans k4)) w4
    | false =>
      refine ⟨false, r3, ?_⟩
      rw [if_neg Bool.false_ne_true]
      exact q _ _ _ _ (re_bl _) sa3 ((k1.trans k2).trans k3) w3
  | _ => exact w3.elim
theorem ae_chain {op op' : CmpOp} {r r' : R2} {f g : F2} {wa wb wc : WE} (ho : OpR X (compareOp op) r) (hs : Sim2 X.K r f) (ho' : OpR X (compareOp op') r') (hs' : Sim2 X.K r' g) (ha : AE X W a wa) (hb : AE X W b wb) (hc : AE X W c wc)
    (hm : lastMarks [op, op'] [b, c] = false := by rfl) : AE X W (.Compare a [op, op'] [b, c] pos) (wChain f g wa wb wc) :=
  pe_imp (pe_chain ho ho' ha hb hc hm) fun _ _ _ h => le_chain hs hs' h
theorem at_chain {op op' : CmpOp} {r r' : R2} {f g : F2} {wa wb wc : WE} (ho : OpR X (compareOp op) r) (hs : Sim2 X.K r f) (ho' : OpR X (compareOp op') r') (hs' : Sim2 X.K r' g) (ha : AE X W a wa) (hb : AE X W b wb) (hc : AE X W c wc)
    (hm : lastMarks [op, op'] [b, c] = false := by rfl) : AT X W (.Compare a [op, op'] [b, c] pos) (wB (wChain f g wa wb wc)) :=
  pt_imp (pt_chain ho ho' ha hb hc hm) fun _ _ _ h => le_chain hs hs' (lb_of h)

/-! ### truth, and, or, not -/
def truR (o : Option Ob) (P : Bool → Prop) : Prop := match o with
  | some (.lst xs) => P (!xs.isEmpty)
  | some (.rol xs) => P (!xs.isEmpty)
  | _ => False
def truA (x : Vl) (A : Ah) (P : Bool → Prop) : Prop := match x with
  | .non => P false
  | .bl k => P k
  | .int i => P (i != 0)
  | .str s => P ((s.length : Int) != 0)
  | .tup xs => P (!xs.isEmpty)
  | .ref p => truR (A p) P
  | _ => False
theorem Rl.isEmpty {K : PySem.W.Frag} {H : Hp} {xs : List Vl} {vs : List V} (h : Rl K H xs vs) : (!xs.isEmpty) = !vs.isEmpty := by
  cases xs with
  | nil => rw [h.nil_inv]; rfl
  | cons x xs => obtain ⟨v, ws, rfl, _, _⟩ := h.cons_inv; rfl
theorem truA_ok {K : PySem.W.Frag} {x : Vl} {v : V} {A : Ah} {H : Hp} {P : Bool → Prop} (r : Re K H x v) (sa : SA K A H) (h : truA x A P) : ∃ k, TruV K v H k ∧ P k := by
  cases x with
  | non => unfold Re at r; subst r; exact ⟨_, rfl, h⟩
  | bl k => unfold Re at r; subst r; exact ⟨_, rfl, h⟩
  | int k => unfold Re at r; subst r; exact ⟨_, rfl, h⟩
  | str k => unfold Re at r; obtain ⟨rfl, hz, _⟩ := r; exact ⟨_, ⟨hz, rfl⟩, h⟩
  | tup xs => unfold Re at r; obtain ⟨p, vs, rfl, st, rl⟩ := r; exact ⟨_, .inr (.inl ⟨vs, st.1, rfl⟩), by rw [← rl.isEmpty]; exact h⟩
  | ty n => exact h.elim
  | ref p =>
    unfold Re at r; subst r
    have h : truR (A p) P := h
    unfold truR at h
    split at h
    · rename_i xs e
      obtain ⟨vs, hv, rl⟩ := sa _ _ e
      exact ⟨_, .inl ⟨vs, .of hv, rfl⟩, by rw [← rl.isEmpty]; exact h⟩
    · rename_i xs e
      obtain ⟨vs, hv, rl⟩ := sa _ _ e
      exact ⟨_, .inl ⟨vs, .inl hv, rfl⟩, by rw [← rl.isEmpty]; exact h⟩
    · exact h.elim
def wTru (w : WE) : WT := fun S A Q E => w S A (fun x A1 => truA x A1 fun k => Q k A1) E
theorem at_tru {w : WE} (h : AE X W e w) (he : ∀ whole, isTrue e X.env whole = (do let v ← whole; standAt e.pos; holding [v] (truthy v)) := by exact trueOf rfl) : AT X W e (wTru w) :=
  pt_imp (pt_truth h he) fun σ H Q ⟨S, A, Qa, Ea, ss, sa, q, qx, w⟩ => ⟨S, A, _, Ea, ss, sa, fun x A1 v H1 r1 sa1 k1 w1 => by
    obtain ⟨k, t, p⟩ := truA_ok r1 sa1 w1
    exact ⟨k, t, q _ _ _ sa1 k1 p⟩, qx, w⟩
def wNot (t : WT) : WT := fun S A Q E => t S A (fun k A1 => Q (!k) A1) E
theorem at_not {t : WT} (h : AT X W a t) : AT X W (.UnaryOp .Not a pos) (wNot t) :=
  pt_imp (pt_not h) fun σ H Q ⟨S, A, Qa, Ea, ss, sa, q, qx, w⟩ => ⟨S, A, _, Ea, ss, sa, fun k A1 H1 sa1 k1 w1 => q _ _ _ sa1 k1 w1, qx, w⟩
def wAnd (t u : WT) : WT := fun S A Q E => t S A (fun k A1 => if k = true then u S A1 Q E else Q false A1) E
def wOr (t u : WT) : WT := fun S A Q E => t S A (fun k A1 => if k = true then Q true A1 else u S A1 Q E) E
theorem aw_and1 {t : WT} (h : AT X W a t) : AW X W (.BoolOp .And [a] pos) t := pw_and1 h
theorem aw_or1 {t : WT} (h : AT X W a t) : AW X W (.BoolOp .Or [a] pos) t := pw_or1 h
theorem aw_and {t u : WT} (h : AT X W a t) (g : AW X W (.BoolOp .And (b :: es) pos) u) : AW X W (.BoolOp .And (a :: b :: es) pos) (wAnd t u) :=
  pw_imp (pw_and h g) fun σ H Q ⟨S, A, Qa, Ea, ss, sa, q, qx, w⟩ => ⟨S, A, _, Ea, ss, sa, fun k A1 H1 sa1 k1 w1 => by
    cases k with
    | true => rw [if_pos rfl] at w1 ⊢; exact ⟨S, A1, Qa, Ea, ss.keep k1, sa1, q.keep k1, qx.keep k1, w1⟩
    | false => rw [if_neg Bool.false_ne_true] at w1 ⊢; exact q _ _ _ sa1 k1 w1, qx, w⟩
theorem aw_or {t u : WT} (h : AT X W a t) (g : AW X W (.BoolOp .Or (b :: es) pos) u) : AW X W (.BoolOp .Or (a :: b :: es) pos) (wOr t u) :=
  pw_imp (pw_or h g) fun σ H Q ⟨S, A, Qa, Ea, ss, sa, q, qx, w⟩ => ⟨S, A, _, Ea, ss, sa, fun k A1 H1 sa1 k1 w1 => by
    cases k with
    | true => rw [if_pos rfl] at w1 ⊢; exact q _ _ _ sa1 k1 w1
    | false => rw [if_neg Bool.false_ne_true] at w1 ⊢; exact ⟨S, A1, Qa, Ea, ss.keep k1, sa1, q.keep k1, qx.keep k1, w1⟩, qx, w⟩
theorem at_w {t : WT} (h : AW X W e t) : AT X W e t := h.pt
/-- as values -/
def wNotV (w : WE) : WE := fun S A Q E => w S A (fun x A1 => match x with
  | .bl k => Q (.bl (!k)) A1
  | _ => False) E
theorem ae_not {w : WE} (h : AE X W a w) : AE X W (.UnaryOp .Not a pos) (wNotV w) :=
  pe_imp (pe_not h) fun σ H Q ⟨S, A, Qa, Ea, ss, sa, q, qx, w⟩ => ⟨S, A, _, Ea, ss, sa, fun x A1 v H1 r1 sa1 k1 w1 => by
    cases x with
    | bl k => unfold Re at r1; exact ⟨k, r1, q _ _ _ _ (re_bl _) sa1 k1 w1⟩
    | _ => exact w1.elim, qx, w⟩
def wAndV (wa wb : WE) : WE := fun S A Q E => wa S A (fun x A1 => match x with
  | .bl true => wb S A1 Q E
  | .bl false => Q (.bl false) A1
  | _ => False) E
def wOrV (wa wb : WE) : WE := fun S A Q E => wa S A (fun x A1 => match x with
  | .bl false => wb S A1 Q E
  | .bl true => Q (.bl true) A1
  | _ => False) E
theorem ae_one {op : BoolOp} {w : WE} (h : AE X W a w) : AE X W (.BoolOp op [a] pos) w := pe_one h
theorem ae_and {wa wb : WE} (h : AE X W a wa) (g : AE X W (.BoolOp .And (b :: es) pos) wb) : AE X W (.BoolOp .And (a :: b :: es) pos) (wAndV wa wb) :=
  pe_imp (pe_and h g) fun σ H Q ⟨S, A, Qa, Ea, ss, sa, q, qx, w⟩ => ⟨S, A, _, Ea, ss, sa, fun x A1 v H1 r1 sa1 k1 w1 => by
    cases x with
    | bl k =>
      unfold Re at r1
      cases k with
      | true => exact ⟨true, r1, by rw [if_pos rfl]; exact ⟨S, A1, Qa, Ea, ss.keep k1, sa1, q.keep k1, qx.keep k1, w1⟩⟩
      | false => exact ⟨false, r1, by rw [if_neg Bool.false_ne_true]; exact q _ _ _ _ (re_bl _) sa1 k1 w1⟩
    | _ => exact w1.elim, qx, w⟩
theorem ae_or {wa wb : WE} (h : AE X W a wa) (g : AE X W (.BoolOp .Or (b :: es) pos) wb) : AE X W (.BoolOp .Or (a :: b :: es) pos) (wOrV wa wb) :=
  pe_imp (pe_or h g) fun σ H Q ⟨S, A, Qa, Ea, ss, sa, q, qx, w⟩ => ⟨S, A, _, Ea, ss, sa, fun x A1 v H1 r1 sa1 k1 w1 => by
    cases x with
    | bl k =>
      unfold Re at r1
      cases k with
      | false => exact ⟨false, r1, by rw [if_neg Bool.false_ne_true]; exact ⟨S, A1, Qa, Ea, ss.keep k1, sa1, q.keep k1, qx.keep k1, w1⟩⟩
      | true => exact ⟨true, r1, by rw [if_pos rfl]; exact q _ _ _ _ (re_bl _) sa1 k1 w1⟩
    | _ => exact w1.elim, qx, w⟩
def wIf (t : WT) (wa wb : WE) : WE := fun S A Q E => t S A (fun k A1 => if k = true then wa S A1 Q E else wb S A1 Q E) E
theorem ae_if {t : WT} {wa wb : WE} (ht : AT X W c t) (h : AE X W a wa) (g : AE X W b wb) : AE X W (.IfExp c a b pos) (wIf t wa wb) :=
  pe_imp (pe_ifExp ht h g) fun σ H Q ⟨S, A, Qa, Ea, ss, sa, q, qx, w⟩ => ⟨S, A, _, Ea, ss, sa, fun k A1 H1 sa1 k1 w1 => by
    cases k with
    | true => rw [if_pos rfl] at w1 ⊢; exact ⟨S, A1, Qa, Ea, ss.keep k1, sa1, q.keep k1, qx.keep k1, w1⟩
    | false => rw [if_neg Bool.false_ne_true] at w1 ⊢; exact ⟨S, A1, Qa, Ea, ss.keep k1, sa1, q.keep k1, qx.keep k1, w1⟩, qx, w⟩

/-! ### arguments, displays -/
def wNil : WA := fun _ A Q _ => Q [] A
def wCons (w : WE) (r : WA) : WA := fun S A Q E => w S A (fun x A1 => r S A1 (fun xs A2 => Q (x :: xs) A2) E) E
theorem aa_nil : AA X W [] wNil := pa_imp pa_nil fun σ H Q ⟨S, A, Qa, Ea, ss, sa, q, qx, w⟩ => q _ _ _ _ .nil sa .refl w
theorem aa_cons {w : WE} {r : WA} (h : AE X W e w) (g : AA X W es r) (hs : starEach (e :: es) X.env = (false, eval e X.env) :: starEach es X.env := by exact starOf rfl) : AA X W (e :: es) (wCons w r) :=
  pa_imp (pa_cons h g hs) fun σ H Q ⟨S, A, Qa, Ea, ss, sa, q, qx, w⟩ => ⟨S, A, _, Ea, ss, sa, fun x A1 v H1 r1 sa1 k1 w1 =>
    ⟨S, A1, _, Ea, ss.keep k1, sa1, fun xs A2 vs H2 r2 sa2 k2 w2 => q _ _ _ _ (.cons (r1.keep k2) r2) sa2 (k1.trans k2) w2, qx.keep k1, w1⟩, qx, w⟩
def wTup (wa : WA) : WE := fun S A Q E => wa S A (fun xs A1 => xs.length ≤ sizeLine ∧ Q (.tup xs) A1) E
theorem ae_tup {wa : WA} {x1 : Nat} (h : AA X W es wa) : AE X W (.Tuple es x1 pos) (wTup wa) :=
  pe_imp (pe_tupS h) fun σ H Q ⟨S, A, Qa, Ea, ss, sa, q, qx, w⟩ => ⟨S, A, _, Ea, ss, sa, fun xs A1 vs H1 r1 sa1 k1 w1 =>
    ⟨by rw [← r1.length]; exact w1.1, fun p us hp => q _ _ _ _ (re_new hp r1) (sa1.newU hp) (k1.trans (.new hp)) w1.2⟩, qx, w⟩
def wLst (wa : WA) : WE := fun S A Q E => wa S A (fun xs A1 => xs.length ≤ sizeLine ∧ ∀ p, A1 p = none → Q (.ref p) (put A1 p (.lst xs))) E
theorem obr_lst {K : PySem.W.Frag} {H : Hp} {p : Addr} {xs : List Vl} {vs : List V} (k : Keep H (upd H p (.lst vs))) (r : Rl K H xs vs) : ObR K (upd H p (.lst vs)) p (.lst xs) := ⟨vs, upd_same, r.keep k⟩
theorem ae_lst {wa : WA} (h : AA X W es wa) : AE X W (.List es pos) (wLst wa) :=
  pe_imp (pe_lst h) fun σ H Q ⟨S, A, Qa, Ea, ss, sa, q, qx, w⟩ => ⟨S, A, _, Ea, ss, sa, fun xs A1 vs H1 r1 sa1 k1 w1 =>
    ⟨by rw [← r1.length]; exact w1.1, fun p hp => q _ _ _ _ (re_ref _) (sa1.new hp (obr_lst (.new hp) r1)) (k1.trans (.new hp)) (w1.2 p (sa1.fresh hp))⟩, qx, w⟩

/-! ### calls of built-ins -/
abbrev FC := List Vl → Ah → QE → Prop
def SimC (K : PySem.W.Frag) (r : List V → Hp → VK → Prop) (f : FC) : Prop := ∀ {xs : List Vl} {vs : List V} {A : Ah} {H : Hp} {Q : VK} {Qa : QE}, Rl K H xs vs → SA K A H → QL K H Qa Q → f xs A Qa → r vs H Q
def wCB (f : FC) (wa : WA) : WE := fun S A Q E => wa S A (fun xs A1 => f xs A1 Q) E
theorem le_cb {K : PySem.W.Frag} {r : List V → Hp → VK → Prop} {f : FC} {wa : WA} (hs : SimC K r f) {σ : L2.St} {H : Hp} {Q : VK} (h : LE K W (wCB f wa) σ H Q) : tCB r (LA K W wa) σ H Q := by
  obtain ⟨S, A, Qa, Ea, ss, sa, q, qx, w⟩ := h
  exact ⟨S, A, _, Ea, ss, sa, fun xs A1 vs H1 r1 sa1 k1 w1 => hs r1 sa1 (q.keep k1) w1, qx, w⟩
theorem ae_callB {x : Str} {id : String} {p : Pos} {r : List V → Hp → VK → Prop} {f : FC} {wa : WA} (hc : CallR X (.builtin id) r) (hs : SimC X.K r f) (hg : Gl X x) (hm : X.mg x = none) (hv : bootBuiltins x = some (.builtin id)) (ha : AA X W (e :: es) wa) (hn : x ≠ "__name__" := by decide) (hdb : (x == ("__debug__" : Str)) = false := by decide)
    (he : starEach (e :: es) X.env = (false, eval e X.env) :: starEach es X.env := by exact starOf rfl) (hpl : (backTo pos (starEach es X.env)).any (·.1) = false := by exact starsOf rfl) : AE X W (.Call (.Name x p) (e :: es) [] pos) (wCB f wa) :=
  pe_imp (pe_callB hc hg hm hv ha hn hdb he hpl) fun _ _ _ h => le_cb hs h
theorem ae_callTy {x : Str} {T : String} {p : Pos} {r : List V → Hp → VK → Prop} {f : FC} {wa : WA} (hc : CallR X (.type T) r) (hs : SimC X.K r f) (hg : Gl X x) (hm : X.mg x = none) (hv : bootBuiltins x = some (.type T)) (ha : AA X W (e :: es) wa) (hn : x ≠ "__name__" := by decide) (hdb : (x == ("__debug__" : Str)) = false := by decide)
    (he : starEach (e :: es) X.env = (false, eval e X.env) :: starEach es X.env := by exact starOf rfl) (hpl : (backTo pos (starEach es X.env)).any (·.1) = false := by exact starsOf rfl) : AE X W (.Call (.Name x p) (e :: es) [] pos) (wCB f wa) :=
  pe_imp (pe_callTy hc hg hm hv ha hn hdb he hpl) fun _ _ _ h => le_cb hs h

/-! ### subscripts, slices -/
theorem ae_ix {r : R2} {f : F2} {wa wb : WE} (hr : IxR X r) (hs : Sim2 X.K r f) (ha : AE X W a wa) (hb : AE X W b wb) (hp : PlainIx b := by exact ixOf rfl) : AE X W (.Subscript a b pos) (wBin f wa wb) :=
  pe_imp (pe_ix hr ha hb hp) fun _ _ _ h => le_two hs h
abbrev WO := Sl → Ah → (Option Int → Ah → Prop) → EX → Prop
def LO (K : PySem.W.Frag) (W : WX) (w : WO) : TO := fun σ H Q => ∃ S A Qa Ea, SS K H S σ ∧ SA K A H ∧ (∀ i A' H', SA K A' H' → Keep H H' → Qa i A' → Q i H') ∧ QX K H Ea (fun c d H' => W c d σ H') ∧ w S A Qa Ea
abbrev AO (X : Cx) (W : WX) (e : Option Expr) (w : WO) : Prop := PO X e (LO X.K W w)
def wNoP : WO := fun _ A Q _ => Q none A
def wPt (w : WE) : WO := fun S A Q E => w S A (fun x A1 => match x with
  | .int i => Q (some i) A1
  | _ => False) E
theorem po_imp {e : Option Expr} {t t' : TO} (h : PO X e t) (i : ∀ σ H Q, t' σ H Q → t σ H Q) : PO X e t' := ⟨fun pins s σ H Q I w => h.run pins s σ H Q I (i _ _ _ w)⟩
theorem ao_none : AO X W none wNoP := po_imp po_none fun σ H Q ⟨S, A, Qa, Ea, ss, sa, q, qx, w⟩ => q _ _ _ sa .refl w
theorem ao_some {w : WE} (h : AE X W e w) : AO X W (some e) (wPt w) := po_imp (po_some h) fun σ H Q ⟨S, A, Qa, Ea, ss, sa, q, qx, w⟩ => ⟨S, A, _, Ea, ss, sa, fun x A1 v H1 r1 sa1 k1 w1 => by
  cases x with
  | int i => unfold Re at r1; exact ⟨i, r1, q _ _ _ sa1 k1 w1⟩
  | _ => exact w1.elim, qx, w⟩
abbrev FS := Vl → Option Int → Option Int → Ah → QE → Prop
def SimS (K : PySem.W.Frag) (r : V → Option Int → Option Int → Hp → VK → Prop) (f : FS) : Prop := ∀ {x : Vl} {lo hi : Option Int} {v : V} {A : Ah} {H : Hp} {Q : VK} {Qa : QE}, Re K H x v → SA K A H → QL K H Qa Q → f x lo hi A Qa → r v lo hi H Q
def wSl (f : FS) (w : WE) (wl wh : WO) : WE := fun S A Q E => w S A (fun x A1 => wl S A1 (fun i A2 => wh S A2 (fun j A3 => f x i j A3 Q) E) E) E
theorem ae_slice {r : V → Option Int → Option Int → Hp → VK → Prop} {f : FS} {lo hi : Option Expr} {p2 : Pos} {w : WE} {wl wh : WO} (hr : SlR X r) (hs : SimS X.K r f) (he : AE X W e w) (hl : AO X W lo wl) (hu : AO X W hi wh) : AE X W (.Subscript e (.Slice lo hi none p2) pos) (wSl f w wl wh) :=
  pe_imp (pe_slice hr he hl hu) fun σ H Q ⟨S, A, Qa, Ea, ss, sa, q, qx, w⟩ => ⟨S, A, _, Ea, ss, sa, fun x A1 v H1 r1 sa1 k1 w1 =>
    ⟨S, A1, _, Ea, ss.keep k1, sa1, fun i A2 H2 sa2 k2 w2 => ⟨S, A2, _, Ea, ss.keep (k1.trans k2), sa2, fun j A3 H3 sa3 k3 w3 =>
      hs (r1.keep (k2.trans k3)) sa3 (q.keep ((k1.trans k2).trans k3)) w3, qx.keep (k1.trans k2), w2⟩, qx.keep k1, w1⟩, qx, w⟩
end
end Rk

set_option Elab.async false
set_option linter.all false
set_option maxRecDepth 100000
set_option maxHeartbeats 4000000
namespace Rk
open PySem PySem.Spec PyProof.Rows L2
/-! ### defs -/
def Sub (B A : Ah) : Prop := ∀ a o, B a = some o → A a = some o
theorem Sub.refl {A : Ah} : Sub A A := fun _ _ h => h
theorem Sub.trans {A B C : Ah} (x : Sub A B) (y : Sub B C) : Sub A C := fun a o h => y a o (x a o h)
theorem SA.sub {K : PySem.W.Frag} {A B : Ah} {H : Hp} (s : SA K A H) (h : Sub B A) : SA K B H := fun a o e => s a o (h a o e)
/-- the slots at a def's entry -/
def slots0 (n : Nat) (xs : List Vl) : Sl := xs.map some ++ List.replicate (n - xs.length) none
def wFun (n : Nat) (b : WS) : WF := fun xs A Q E => b { nx := fun _ A' => ∃ B, Sub B A' ∧ Q .non B, rt := fun v A' => ∃ B, Sub B A' ∧ Q v B, ex := fun x _ A' => ∃ B, Sub B A' ∧ E x B } (slots0 n xs) A
structure Gn (P : Program) (w : World) (K : PySem.W.Frag) (mg : Str → Option Value) (base : Heap) (k : Nat) (f : Addr) (fd : FuncData) (ps : List Str) (wf : WF) : Prop where
  run : ∀ (A : Around) (outer : List Env) (s : Shared) (H : Hp) (args : Args) (us : List Value) (vs : List V) (Q : VK) (E : XK), Room k A → A.guards = some [] → Env0 P w K mg base A outer s H → BindsTo s fd args (ps.zip us) → Vals vs us →
    LF K ps.length wf vs H Q E → codeAny (model P w) A (.call (.ref f) args) (CR (L2.CX P w) outer P w H s Q E) s
theorem Gn.mono {P : Program} {w : World} {K : PySem.W.Frag} {mg : Str → Option Value} {base : Heap} {j k : Nat} {f : Addr} {fd : FuncData} {ps : List Str} {wf : WF} (G : Gn P w K mg base j f fd ps wf) (h : j ≤ k) : Gn P w K mg base k f fd ps wf :=
  ⟨fun A outer s H args us vs Q E hr => G.run A outer s H args us vs Q E (hr.mono h)⟩
/-- the context of a def's body -/
abbrev bodyX (P : Program) (w : World) (K : PySem.W.Frag) (mg : Str → Option Value) (base : Heap) (N : List Str) (qual : Str) (scope : Scope) (f : Addr) (cd : Value) (A : Around) (outer : List Env) (s : Shared) (H : Hp) (E : XK) : Cx :=
  cxOf (L2.CX P w) P w K mg base N qual scope f cd A outer s H E
abbrev bodyW (E : XK) : WX := fun c d _ H => E c d H
/-- what a derivation of a body may lean on -/
structure Bd (k : Nat) (X : Cx) (W : WX) : Prop where
  room : Room k X.A
  gd : X.A.guards = some []
  calm : X.calm = true
  nd : X.N.Nodup
  tk : Takes X W
  pass : PassesOwn (model X.prog X.w) X.A X.env X.xe
theorem gn_of {P : Program} {w : World} {K : PySem.W.Frag} {mg : Str → Option Value} {base : Heap} {k : Nat} {f : Addr} {name qual : Str} {params : Arguments} {body : List Stmt} {scope : Scope} {dV kV doc pm cdv ct oc : Value} {an od : Option Addr}
    {osl : Array (Option Value)} {N ps : List Str} {wb : WS} (lk : K.lookup f = some ⟨oc, od, .func (PySem.W.fnOf name qual params body scope dV kV doc pm an cdv ct), osl⟩) (hcd : PySem.W.codeIn K cdv qual = true) (S : FnScope N ps scope)
    (hb : ∀ (A : Around) (outer : List Env) (s : Shared) (H : Hp) (E : XK), Bd k (bodyX P w K mg base N qual scope f cdv A outer s H E) (bodyW E) → ASs (bodyX P w K mg base N qual scope f cdv A outer s H E) (bodyW E) body wb) :
    Gn P w K mg base (k + 1) f (PySem.W.fnOf name qual params body scope dV kV doc pm an cdv ct) ps (wFun N.length wb) := by
  refine ⟨fun A outer s H args us vs Q E hr hgd e0 hbt r hsp => ?_⟩
  obtain ⟨xs, Ap, Qa, Ea, rl, hlen, sa, q, qx, wv⟩ := hsp
  have hl : vs.length = ps.length := rl.length.symm.trans hlen
  have inK : K.In s.heap := e0.mod.kin.keeps fun b o e => (e0.bs b o e).1
  have kinds : ∀ y ∈ ps.zip us, scope.names.lookup y.1 = some .local ∨ (scope.names.lookup y.1 = some .cell ∧ ((cellsFrom (s.heap.objs.size + 1) scope.names []).lookup y.1).isSome = true) := by
    rintro ⟨n, v⟩ hy
    rcases S.par n (List.of_mem_zip hy).1 with g | g
    · exact .inl g
    · exact .inr ⟨g, PySem.W.cellsFrom_some _ _ _ (.inl g)⟩
  refine codeAny_call_function hr.depth (inK _ _ lk) rfl S.co S.gen rfl (PySem.W.codeRec_of inK hcd) (hbt _ _ _ _ ?_)
  refine wpAny_newFunctionEnv_cells S.kind kinds fun env he s1 x => ?_
  subst he
  refine ⟨(e0.mod.nolimit.keeps fun b o e => (e0.bs b o e).1).keeps x.toInCall.keep, codeAny_func ?_⟩
  have B : Bd k (bodyX P w K mg base N qual scope f cdv A outer s H E) (bodyW E) :=
    ⟨hr.deeper _, by first | exact hgd | (simpa [Around.deeper] using hgd), rfl, S.nd, takes_of (E₁ := fun e' s'' => L2.CX P w outer H s E e' s'') rfl rfl rfl rfl, passes_of (K := fun e s'' => L2.CX P w outer H s E e s'') (E₁ := fun e' s'' => L2.CX P w outer H s E e' s'') rfl⟩
  have D := hb A outer s H E B
  have I : Inv (bodyX P w K mg base N qual scope f cdv A outer s H E) [] (L2.start N vs) H s1 := inv_start S hr.hd e0 hl r x
  have hN : ps.length ≤ N.length := by
    have := congrArg List.length S.pre
    rw [List.length_take] at this
    omega
  have s0 : SS K H (slots0 N.length xs) (L2.start N vs) := by
    refine ⟨by unfold slots0 L2.start; simp [rl.length], fun i y e => ?_⟩
    unfold slots0 at e
    by_cases hi : i < xs.length
    · rw [List.getElem?_append_left (by simpa using hi), List.getElem?_map] at e
      cases h : xs[i]? with
      | none => rw [h] at e; cases e
      | some z =>
        rw [h] at e
        cases e
        obtain ⟨v, hv, rv⟩ := rl.get h
        refine ⟨v, ?_, rv⟩
        unfold L2.start
        rw [List.getElem?_append_left (by rw [List.length_map, ← rl.length]; exact hi), List.getElem?_map, hv]
        rfl
    · rw [List.getElem?_append_right (by simpa using hi), List.getElem?_replicate] at e
      split at e <;> cases e
  refine wpAny_mono (D.run [] s1 (L2.start N vs) H { nx := fun _ H' => Q .non H', rt := Q } I ⟨_, Ap, _, s0, sa, ?_, wv⟩) (fun fl s' hs => ?_) fun e s' hs => hs
  · refine ⟨fun S' A' σ' H' _ sa' kk hq => ?_, fun v A' u H' rv sa' kk hq => ?_, fun _ _ _ _ _ _ _ hq => hq.elim, fun _ _ _ _ _ _ _ hq => hq.elim, fun xv S' A' c d σ' H' xr _ sa' kk hq => ?_⟩
    · obtain ⟨B', hs, hq⟩ := hq
      exact q _ _ _ _ (re_non _) (sa'.sub hs) kk hq
    · obtain ⟨B', hs, hq⟩ := hq
      exact q _ _ _ _ rv (sa'.sub hs) kk hq
    · obtain ⟨B', hs, hq⟩ := hq
      exact qx _ _ _ _ _ xr (sa'.sub hs) kk hq
  · have fin : ∀ {σ' : L2.St} {H' : Hp} {v : V} {u : Value}, Inv (bodyX P w K mg base N qual scope f cdv A outer s H E) [] σ' H' s' → RelV v u → Q v H' → CE outer P w H s Q u s' :=
      fun {σ' H' v u} J rv hq => ⟨v, H', J.os, J.bare, J.base, J.hok, rv, hq⟩
    cases fl with
    | ret u => obtain ⟨v, σ', H', J, rv, hq⟩ := hs; exact fin J rv hq
    | next => obtain ⟨σ', H', J, hq⟩ := hs; exact fin (v := V.non) (u := Value.none) J rfl hq
    | brk => obtain ⟨_, _, _, hq⟩ := hs; exact False.elim hq
    | cont => obtain ⟨_, _, _, hq⟩ := hs; exact False.elim hq

section
variable {X : Cx} {W : WX} {a b c e o : Expr} {es : List Expr} {pos : Pos}
variable {k : Nat} {f : Addr} {fd : FuncData} {ps : List Str} {wf : WF}
/-- a call of f with n positional values and the keywords ks does as wf says of all values, the keywords' behind -/
def Runs (X : Cx) (W : WX) (f : Addr) (n : Nat) (ks : List Str) (wf : WF) : Prop :=
  ∀ (pins : List (Addr × Obj)) (σ : L2.St) (H : Hp) (s : Shared) (Q : VK) (us ws : List Value) (vs zs : List V), Inv X pins σ H s → Vals vs us → Vals zs ws → us.length = n → ws.length = ks.length → LF X.K (n + ks.length) wf (vs ++ zs) H Q (fun c d H' => W c d σ H') →
    wpAny (model X.prog X.w) X.A (call (.ref f) us (ks.zip ws)) (EP X pins σ Q) X.xe s
/-- where a parameter's value comes from: a positional value, a keyword's, a default -/
inductive Src where
  | p (i : Nat)
  | d (u : Value) (v : V) (x : Vl)
def Src.mu (us : List Value) : Src → Value
  | .p i => us.getD i .none
  | .d u _ _ => u
def Src.mv (vs : List V) : Src → L2.V
  | .p i => vs.getD i .non
  | .d _ v _ => v
def Src.pl (xs : List Vl) : Src → Vl
  | .p i => xs.getD i .non
  | .d _ _ x => x
def Src.ok (K : PySem.W.Frag) (n : Nat) : Src → Prop
  | .p i => i < n
  | .d u v x => RelV v u ∧ ∀ H, Re K H x v
/-- parameters by sources -/
def wSel (l : List Src) (wf : WF) : WF := fun xs => wf (l.map (Src.pl xs))
theorem sel_vals {K : PySem.W.Frag} {n : Nat} {vs : List L2.V} {us : List Value} (r : Vals vs us) (hn : vs.length = n) : ∀ {l : List Src}, (∀ x ∈ l, x.ok K n) → Vals (l.map (Src.mv vs)) (l.map (Src.mu us))
  | [], _ => .nil
  | y :: l, h => by
    refine .cons ?_ (sel_vals r hn fun x hx => h x (List.mem_cons_of_mem _ hx))
    have q := h y List.mem_cons_self
    cases y with
    | p i =>
      have hi : i < vs.length := by rw [hn]; exact q
      obtain ⟨u, hu, ru⟩ := r.get (i := i) (x := vs[i]) (by simp [hi])
      show RelV (vs.getD i .non) (us.getD i .none)
      rw [List.getD_eq_getElem?_getD, List.getD_eq_getElem?_getD, hu, List.getElem?_eq_getElem hi]
      exact ru
    | d u v x => exact q.1
theorem sel_rl {K : PySem.W.Frag} {n : Nat} {H : Hp} {xs : List Vl} {vs : List L2.V} (r : Rl K H xs vs) (hn : vs.length = n) : ∀ {l : List Src}, (∀ x ∈ l, x.ok K n) → Rl K H (l.map (Src.pl xs)) (l.map (Src.mv vs))
  | [], _ => .nil
  | y :: l, h => by
    refine .cons ?_ (sel_rl r hn fun x hx => h x (List.mem_cons_of_mem _ hx))
    have q := h y List.mem_cons_self
    cases y with
    | p i =>
      have hi : i < xs.length := by rw [r.length, hn]; exact q
      obtain ⟨v, hv, rv⟩ := r.get (i := i) (x := xs[i]) (by simp [hi])
      show Re K H (xs.getD i .non) (vs.getD i .non)
      rw [List.getD_eq_getElem?_getD, List.getD_eq_getElem?_getD, hv, List.getElem?_eq_getElem hi]
      exact rv
    | d u v x => exact q.2 H
/-- a def's promise as calls of one form -/
theorem runs_sel {ks : List Str} {n : Nat} {l : List Src} (B : Bd k X W) (G : Gn X.prog X.w X.K X.mg X.base k f fd ps wf) (hl : l.length = ps.length) (ok : ∀ x ∈ l, x.ok X.K (n + ks.length))
    (hb : ∀ (s : Shared) (us ws : List Value), X.K.In s.heap → us.length = n → ws.length = ks.length → BindsTo s fd ⟨us, ks.zip ws⟩ (ps.zip (l.map (Src.mu (us ++ ws))))) : Runs X W f n ks (wSel l wf) := by
  intro pins σ H s Q us ws vs zs I r rz hu hw h
  obtain ⟨xs, Ap, Qa, Ea, rl, hlen, sa, q, qx, wv⟩ := h
  have hvl : (vs ++ zs).length = n + ks.length := by rw [← rl.length, hlen]
  refine wpAny_call (codeAny_mono (G.run X.A X.stack s H ⟨us, ks.zip ws⟩ _ _ Q (fun c d H' => W c d σ H') B.room B.gd I.env0 (hb s us ws I.kIn hu hw) (sel_vals (r.append rz) hvl ok) ⟨_, Ap, Qa, Ea, sel_rl rl hvl ok, by simp [hl], sa, q, qx, wv⟩) fun r s' hq => ?_)
  cases r with
  | error e => exact B.tk e s' (XE.of_call I (fun _ _ _ h => h) hq)
  | ok fl =>
    cases fl with
    | ret u => exact I.after hq
    | next => exact False.elim hq
    | brk => exact False.elim hq
    | cont => exact False.elim hq
/-- .. all positional, in order -/
theorem runs_all {n : Nat} (B : Bd k X W) (G : Gn X.prog X.w X.K X.mg X.base k f fd ps wf) (hn : ps.length = n) (hb : ∀ us : List Value, us.length = n → bindArgs fd ⟨us, []⟩ = pure (ps.zip us)) : Runs X W f n [] wf := by
  intro pins σ H s Q us ws vs zs I r rz hu hw h
  have e1 : ws = [] := by cases ws with | nil => rfl | cons _ _ => simp at hw
  subst e1
  cases rz
  rw [List.append_nil] at h
  subst hn
  refine wpAny_call (codeAny_mono (G.run X.A X.stack s H ⟨us, []⟩ us vs Q (fun c d H' => W c d σ H') B.room B.gd I.env0 (.of_eq (hb us hu)) r h) fun r s' hq => ?_)
  cases r with
  | error e => exact B.tk e s' (XE.of_call I (fun _ _ _ h => h) hq)
  | ok fl =>
    cases fl with
    | ret u => exact I.after hq
    | next => exact False.elim hq
    | brk => exact False.elim hq
    | cont => exact False.elim hq
def wCall (n : Nat) (wf : WF) (wa : WA) : WE := fun S A Q E => wa S A (fun xs A1 => xs.length = n ∧ wf xs A1 Q E) E
theorem la_call {K : PySem.W.Frag} {n : Nat} {wa : WA} {σ : L2.St} {H : Hp} {Q : VK} (h : LE K W (wCall n wf wa) σ H Q) : LA K W wa σ H (fun vs H1 => LF K n wf vs H1 Q (fun c d H' => W c d σ H')) := by
  obtain ⟨S, A, Qa, Ea, ss, sa, q, qx, w⟩ := h
  exact ⟨S, A, _, Ea, ss, sa, fun xs A1 vs H1 r1 sa1 k1 w1 => ⟨xs, A1, Qa, Ea, r1, w1.1, sa1, q.keep k1, qx.keep k1, w1.2⟩, qx, w⟩
/-- f(e, ..) -/
theorem ae_call {x : Str} {p : Pos} {wa : WA} {n : Nat} (R : Runs X W f n [] wf) (hg : Gl X x) (hm : X.mg x = some (.ref f)) (hk : PySem.W.keepIn X.K (.ref f) = true) (ha : AA X W (e :: es) wa)
    (hdb : (x == ("__debug__" : Str)) = false := by decide) (he : starEach (e :: es) X.env = (false, eval e X.env) :: starEach es X.env := by exact starOf rfl) (hpl : (backTo pos (starEach es X.env)).any (·.1) = false := by exact starsOf rfl) :
    AE X W (.Call (.Name x p) (e :: es) [] pos) (wCall n wf wa) := by
  refine ⟨fun pins s σ H Q I h => wpAny_Call_Name_kw (ld_glob I hg hm ?_ hdb)⟩
  refine PySem.W.callWith_K (h₀ := X.base) I.ok.mod.kin hk (thn (ha.run pos pins s σ H _ I (la_call h)) fun us s1 ⟨vs, H1, I1, r, q⟩ => ⟨I1.kIn, ?_⟩) he hpl
  have hu : us.length = n := by
    obtain ⟨xs, _, _, _, rl, hl, _⟩ := q
    rw [← r.length, ← rl.length, hl]
  exact R pins σ H1 s1 Q us [] vs [] I1 r .nil hu rfl (by simpa using q)
/-- f() -/
theorem ae_call0 {x : Str} {p : Pos} (R : Runs X W f 0 [] wf) (hg : Gl X x) (hm : X.mg x = some (.ref f)) (hk : PySem.W.keepIn X.K (.ref f) = true)
    (hdb : (x == ("__debug__" : Str)) = false := by decide) : AE X W (.Call (.Name x p) [] [] pos) (wCall 0 wf wNil) := by
  refine ⟨fun pins s σ H Q I h => wpAny_Call_Name_kw (ld_glob I hg hm ?_ hdb)⟩
  refine PySem.W.callWith_K0 I.kIn hk ?_
  obtain ⟨S, A, Qa, Ea, ss, sa, q, qx, w⟩ := h
  exact R pins σ H s Q [] [] [] [] I .nil .nil rfl rfl ⟨[], A, Qa, Ea, .nil, rfl, sa, q, qx, w.2⟩
/-- keywords' values -/
abbrev AK (X : Cx) (W : WX) (kws : List Keyword) (w : WA) : Prop := PK X kws (LA X.K W w)
theorem ak_nil : AK X W [] wNil := ⟨fun pos pins s σ H Q I ⟨S, A, Qa, Ea, ss, sa, q, qx, w⟩ => pk_nil.run pos pins s σ H Q I (q _ _ _ _ .nil sa .refl w)⟩
theorem ak_cons {w : WE} {r : WA} {kws : List Keyword} {nm : Option Str} {kpos : Pos} (h : AE X W e w) (g : AK X W kws r) : AK X W (⟨nm, e, kpos⟩ :: kws) (wCons w r) :=
  ⟨fun pos pins s σ H Q I ⟨S, A, Qa, Ea, ss, sa, q, qx, w⟩ => (pk_cons h g).run pos pins s σ H Q I ⟨S, A, _, Ea, ss, sa, fun x A1 v H1 r1 sa1 k1 w1 =>
    ⟨S, A1, _, Ea, ss.keep k1, sa1, fun xs A2 vs H2 r2 sa2 k2 w2 => q _ _ _ _ (.cons (r1.keep k2) r2) sa2 (k1.trans k2) w2, qx.keep k1, w1⟩, qx, w⟩⟩
/-- positional values, then the keywords' -/
def wCat (wa wk : WA) : WA := fun S A Q E => wa S A (fun xs A1 => wk S A1 (fun ys A2 => Q (xs ++ ys) A2) E) E
def wCallK (n m : Nat) (wf : WF) (wa wk : WA) : WE := fun S A Q E => wa S A (fun xs A1 => xs.length = n ∧ wk S A1 (fun ys A2 => ys.length = m ∧ wf (xs ++ ys) A2 Q E) E) E
/-- f(e, .., k = e, ..) -/
theorem ae_callK {x : Str} {p : Pos} {wa wk : WA} {n : Nat} {ks : List Str} {kws : List Keyword} (R : Runs X W f n ks wf) (hg : Gl X x) (hm : X.mg x = some (.ref f)) (hk : PySem.W.keepIn X.K (.ref f) = true) (ha : AA X W (e :: es) wa) (hkw : AK X W kws wk)
    (hks : (backToKw pos (keywordEach kws X.env)).filterMap (·.1) = ks := by exact kwNames rfl) (hall : (backToKw pos (keywordEach kws X.env)).all (·.1.isSome) = true := by exact kwAll rfl)
    (hdb : (x == ("__debug__" : Str)) = false := by decide) (he : starEach (e :: es) X.env = (false, eval e X.env) :: starEach es X.env := by exact starOf rfl)
    (hpl : ((backTo pos (starEach (e :: es) X.env)).any (·.1) || (backToKw pos (keywordEach kws X.env)).any (·.1.isNone)) = false := by exact kwPl rfl rfl) :
    AE X W (.Call (.Name x p) (e :: es) kws pos) (wCallK n ks.length wf wa wk) := by
  refine ⟨fun pins s σ H Q I h => wpAny_Call_Name_kw (ld_glob I hg hm ?_ hdb)⟩
  obtain ⟨S, A, Qa, Ea, ss, sa, q, qx, w⟩ := h
  refine PySem.W.callWith_KW (h₀ := X.base) I.ok.mod.kin hk hall (thn (ha.run pos pins s σ H (fun vs H1 => ∃ xs A1, Rl X.K H1 xs vs ∧ SA X.K A1 H1 ∧ Keep H H1 ∧ xs.length = n ∧ wk S A1 (fun ys A2 => ys.length = ks.length ∧ wf (xs ++ ys) A2 Qa Ea) Ea) I
    ⟨S, A, _, Ea, ss, sa, fun xs A1 vs H1 r1 sa1 k1 w1 => ⟨xs, A1, r1, sa1, k1, w1.1, w1.2⟩, qx, w⟩) fun us s1 ⟨vs, H1, I1, r, xs, A1, r1, sa1, k1, hn, w1⟩ => ?_) hpl he
  refine thn (hkw.run pos pins s1 σ H1 (fun zs H2 => ∃ ys A2, Rl X.K H2 ys zs ∧ SA X.K A2 H2 ∧ Keep H1 H2 ∧ ys.length = ks.length ∧ wf (xs ++ ys) A2 Qa Ea) I1
    ⟨S, A1, _, Ea, ss.keep k1, sa1, fun ys A2 zs H2 r2 sa2 k2 w2 => ⟨ys, A2, r2, sa2, k2, w2.1, w2.2⟩, qx.keep k1, w1⟩) fun ws s2 ⟨zs, H2, I2, rz, ys, A2, r2, sa2, k2, hm2, w2⟩ => ⟨I2.kIn, ?_⟩
  rw [hks]
  refine R pins σ H2 s2 Q us ws vs zs I2 r rz (by rw [← r.length, ← r1.length, hn]) (by rw [← rz.length, ← r2.length, hm2]) ⟨xs ++ ys, A2, Qa, Ea, (r1.keep k2).append r2, by simp [hn, hm2], sa2, q.keep (k1.trans k2), qx.keep (k1.trans k2), w2⟩
/-- f(k = e, ..) -/
theorem ae_callK0 {x : Str} {p : Pos} {wk : WA} {ks : List Str} {kws : List Keyword} (R : Runs X W f 0 ks wf) (hg : Gl X x) (hm : X.mg x = some (.ref f)) (hk : PySem.W.keepIn X.K (.ref f) = true) (hkw : AK X W kws wk)
    (hks : (backToKw pos (keywordEach kws X.env)).filterMap (·.1) = ks := by exact kwNames rfl) (hall : (backToKw pos (keywordEach kws X.env)).all (·.1.isSome) = true := by exact kwAll rfl)
    (hdb : (x == ("__debug__" : Str)) = false := by decide) 
    (hpl : ((backTo pos (starEach [] X.env)).any (·.1) || (backToKw pos (keywordEach kws X.env)).any (·.1.isNone)) = false := by exact kwPl rfl rfl) :
    AE X W (.Call (.Name x p) [] kws pos) (wCallK 0 ks.length wf wNil wk) := by
  refine ⟨fun pins s σ H Q I h => wpAny_Call_Name_kw (ld_glob I hg hm ?_ hdb)⟩
  obtain ⟨S, A, Qa, Ea, ss, sa, q, qx, w⟩ := h
  refine PySem.W.callWith_KW0 (h₀ := X.base) I.ok.mod.kin hk hall ?_ hpl
  refine thn (hkw.run pos pins s σ H (fun zs H2 => ∃ ys A2, Rl X.K H2 ys zs ∧ SA X.K A2 H2 ∧ Keep H H2 ∧ ys.length = ks.length ∧ wf ([] ++ ys) A2 Qa Ea) I
    ⟨S, A, _, Ea, ss, sa, fun ys A2 zs H2 r2 sa2 k2 w2 => ⟨ys, A2, r2, sa2, k2, w2.1, w2.2⟩, qx, w.2⟩) fun ws s2 ⟨zs, H2, I2, rz, ys, A2, r2, sa2, k2, hm2, w2⟩ => ⟨I2.kIn, ?_⟩
  rw [hks]
  exact R pins σ H2 s2 Q [] ws [] zs I2 .nil rz rfl (by rw [← rz.length, ← r2.length, hm2]) ⟨ys, A2, Qa, Ea, r2, by simp [hm2], sa2, q.keep k2, qx.keep k2, w2⟩
end
end Rk

set_option Elab.async false
set_option linter.all false
set_option maxRecDepth 100000
set_option maxHeartbeats 400000
namespace Rk
open PySem PySem.Spec PyProof.Rows L2
section
variable {X : Cx} {W : WX} {a b c e o tg iter : Expr} {es : List Expr} {pos : Pos} {K : PySem.W.Frag}
/-! ### what is walked: its items, and what must stay true of the heap meanwhile -/
structure Wk where
  its : List Vl
  ok : Ah → Prop
def SimIt (K : PySem.W.Frag) (k : Wk) (J : It) (H0 : Hp) : Prop := ∀ (i : Nat) (A : Ah) (H : Hp), SA K A H → Keep H0 H → k.ok A →
  (k.its.length ≤ i → J.stop i H) ∧ ∀ y, k.its[i]? = some y → J.go i H ∧ ∀ x H', J.yld i H x H' → Keep H H' ∧ SA K A H' ∧ Re K H' y x
abbrev WI := Sl → Ah → (Wk → Ah → Prop) → EX → Prop
def LI (K : PySem.W.Frag) (W : WX) (w : WI) : TI := fun σ H R => ∃ S A Qa Ea, SS K H S σ ∧ SA K A H ∧ (∀ k A' J H', SimIt K k J H' → SA K A' H' → Keep H H' → Qa k A' → R J H') ∧ QX K H Ea (fun c d H' => W c d σ H') ∧ w S A Qa Ea
abbrev AI (X : Cx) (W : WX) (tg iter : Expr) (w : WI) : Prop := PI X tg iter (LI X.K W w)
theorem pi_imp {wi wi' : TI} (h : PI X tg iter wi) (i : ∀ σ H R, wi' σ H R → wi σ H R) : PI X tg iter wi' := ⟨fun pins s σ H R I w => h.run pins s σ H R I (i _ _ _ w)⟩
theorem sim_lst {p : Addr} {xs : List Vl} {H0 : Hp} : SimIt K ⟨xs, fun A => A p = some (.lst xs)⟩ (Itl K p) H0 := fun i A H sa k hk => by
  obtain ⟨vs, hv, rl⟩ := sa _ _ hk
  refine ⟨fun hi => ⟨vs, .of hv, by rw [← rl.length]; exact hi⟩, fun y hy => ?_⟩
  obtain ⟨v, ev, rv⟩ := rl.get hy
  refine ⟨⟨vs, v, .of hv, ev⟩, fun x H' ⟨e, q⟩ => ?_⟩
  subst e
  have := q vs (.of hv)
  rw [ev] at this; cases this
  exact ⟨.refl, sa, rv⟩
theorem sim_rol {p : Addr} {xs : List Vl} {H0 : Hp} : SimIt K ⟨xs, fun A => A p = some (.rol xs)⟩ (Itl K p) H0 := fun i A H sa k hk => by
  obtain ⟨vs, hv, rl⟩ := sa _ _ hk
  refine ⟨fun hi => ⟨vs, .inl hv, by rw [← rl.length]; exact hi⟩, fun y hy => ?_⟩
  obtain ⟨v, ev, rv⟩ := rl.get hy
  refine ⟨⟨vs, v, .inl hv, ev⟩, fun x H' ⟨e, q⟩ => ?_⟩
  subst e
  have := q vs (.inl hv)
  rw [ev] at this; cases this
  exact ⟨.refl, sa, rv⟩
theorem sim_tup {p : Addr} {xs : List Vl} {vs : List V} {H0 : Hp} (st : SqT K H0 p vs) (rl : Rl K H0 xs vs) : SimIt K ⟨xs, fun _ => True⟩ (Itt K p) H0 := fun i A H sa k _ => by
  have st' := sqT_keep k st
  have rl' := rl.keep k
  refine ⟨fun hi => ⟨vs, st', by rw [← rl.length]; exact hi⟩, fun y hy => ?_⟩
  obtain ⟨v, ev, rv⟩ := rl'.get hy
  refine ⟨⟨vs, v, st', ev⟩, fun x H' ⟨e, q⟩ => ?_⟩
  subst e
  have := q vs st'
  rw [ev] at this; cases this
  exact ⟨.refl, sa, rv⟩
/-- a text's signs -/
def signs (s : Str) : List Vl := s.cps.toList.map fun c => .str ⟨#[c]⟩
theorem okS_sign {s : Str} (h : okS s) {c : Nat} (hc : c ∈ s.cps.toList) : okS ⟨#[c]⟩ := by
  have h2 := h.2
  unfold PyData.strOk at h2
  rw [Array.all_eq_true_iff_forall_mem] at h2
  have q := h2 c (by simpa using hc)
  refine ⟨by show 1 ≤ sizeLine; decide, ?_⟩
  unfold PyData.strOk
  simpa using q
theorem sim_str {s : Str} {H0 : Hp} (h : okS s) : SimIt K ⟨signs s, fun _ => True⟩ (Its s) H0 := fun i A H sa k _ => by
  refine ⟨fun hi => by unfold signs at hi; simpa [Its] using hi, fun y hy => ?_⟩
  unfold signs at hy
  rw [List.getElem?_map] at hy
  cases hc : s.cps.toList[i]? with
  | none => rw [hc] at hy; cases hy
  | some c =>
    rw [hc] at hy; cases hy
    have hi : i < s.cps.size := by simpa using (List.getElem?_eq_some_iff.mp hc).1
    refine ⟨hi, fun x H' ⟨e, c', hc', ex⟩ => ?_⟩
    subst e
    have e2 : s.cps[i]? = some c := by simpa using hc
    rw [e2] at hc'; cases hc'
    subst ex
    exact ⟨.refl, sa, re_str (okS_sign h (List.mem_of_getElem? hc)) _⟩
def rngL (lo : Int) (n : Nat) : List Vl := (List.range n).map fun i : Nat => .int (lo + i)
theorem sim_rng {lo : Int} {n : Nat} {H0 : Hp} : SimIt K ⟨rngL lo n, fun _ => True⟩ (Itr lo n) H0 := fun i A H sa k _ => by
  refine ⟨fun hi => by unfold rngL at hi; simpa [Itr] using hi, fun y hy => ?_⟩
  unfold rngL at hy
  rw [List.getElem?_map] at hy
  cases hc : (List.range n)[i]? with
  | none => rw [hc] at hy; cases hy
  | some j =>
    rw [hc] at hy; cases hy
    obtain ⟨hi, hj⟩ := List.getElem?_eq_some_iff.mp hc
    simp at hi hj; subst hj
    refine ⟨hi, fun x H' ⟨e, ex⟩ => ?_⟩
    subst e; subst ex
    exact ⟨.refl, sa, re_int _⟩
/-- a list, a tuple, a text, by value -/
def itR (o : Option Ob) (p : Addr) (Q : Wk → Prop) : Prop := match o with
  | some (.lst xs) => Q ⟨xs, fun A => A p = some (.lst xs)⟩
  | some (.rol xs) => Q ⟨xs, fun A => A p = some (.rol xs)⟩
  | _ => False
def itV (x : Vl) (A : Ah) (Q : Wk → Ah → Prop) : Prop := match x with
  | .tup xs => Q ⟨xs, fun _ => True⟩ A
  | .str s => Q ⟨signs s, fun _ => True⟩ A
  | .ref p => itR (A p) p fun k => Q k A
  | _ => False
def wiSeq (w : WE) : WI := fun S A Q E => w S A (fun x A1 => itV x A1 Q) E
theorem ai_seq {w : WE} (h : AE X W e w) : AI X W tg e (wiSeq w) := by
  refine ⟨fun pins s σ H R I hw => ?_⟩
  obtain ⟨S, A, Qa, Ea, ss, sa, q, qx, w⟩ := hw
  refine thn (h.run pins s σ H (fun v H1 => ∃ x A1, Re X.K H1 x v ∧ SA X.K A1 H1 ∧ Keep H H1 ∧ itV x A1 Qa) I ⟨S, A, _, Ea, ss, sa, fun x A1 v H1 r1 sa1 k1 w1 => ⟨x, A1, r1, sa1, k1, w1⟩, qx, w⟩) fun v s1 ⟨y, H1, I1, rv, x, A1, r1, sa1, k1, w1⟩ => ?_
  cases x with
  | tup xs =>
    unfold Re at r1
    obtain ⟨p, vs, rfl, st, rl⟩ := r1
    cases rv
    obtain ⟨its, rv, pl, hz⟩ := I1.tuple st.1
    refine wpAny_pyIter_tuple (show s1.heap.IsTuple p its.toArray from pl) ?_
    refine ⟨s1.heap.objs.size, [s1.heap.objs.size], _, _, H1, rfl, I1.kept (t' := s1.toks) fun b o e => Heap.get?_push_of_some _ e, turn_tuple p _, ⟨_, Heap.get?_push_size _ rfl, rfl, rfl⟩, fun b hb => ?_, q _ _ _ _ (sim_tup st.1 rl) sa1 k1 w1⟩
    obtain rfl : b = s1.heap.objs.size := by simpa using hb
    exact I1.fpOk (Nat.le_refl _) (I1.hok.fresh (Nat.le_refl _))
  | str z =>
    unfold Re at r1
    obtain ⟨rfl, hz⟩ := r1
    obtain ⟨t, rfl⟩ := rv
    have qq := q _ _ _ _ (sim_str (K := X.K) (H0 := H1) hz) sa1 k1 w1
    cases ha : z.cps.all (· < 128)
    · exact wpAny_pyIter_wide ha (pi_one (tk := s1.toks) I1 _ (turn_str _ z t "str_iterator" (.inr rfl)) ⟨_, Heap.get?_push_size _ rfl, rfl, rfl⟩ qq)
    · exact wpAny_pyIter_ascii ha (pi_one (tk := s1.toks) I1 _ (turn_str _ z t "str_ascii_iterator" (.inl rfl)) ⟨_, Heap.get?_push_size _ rfl, rfl, rfl⟩ qq)
  | ref p =>
    unfold Re at r1
    subst r1
    cases rv
    have w1 : itR (A1 p) p fun k => Qa k A1 := w1
    unfold itR at w1
    have go : ∀ vs, SqL X.K H1 p vs → ∀ J, J = Itl X.K p → R J H1 → wpAny (model X.prog X.w) X.A (pyIter (.ref p)) (PIE X pins σ tg R) X.xe s1 := by
      intro vs hq J hJ hR
      subst hJ
      obtain ⟨its, rv, pl, hz⟩ := I1.list hq
      refine wpAny_pyIter_list pl.isList ?_
      refine ⟨s1.heap.objs.size, [s1.heap.objs.size], _, _, H1, rfl, I1.kept (t' := s1.toks) fun b o e => Heap.get?_push_of_some _ e, turn_list p _, ⟨_, Heap.get?_push_size _ rfl, rfl, rfl⟩, fun b hb => ?_, hR⟩
      obtain rfl : b = s1.heap.objs.size := by simpa using hb
      exact I1.fpOk (Nat.le_refl _) (I1.hok.fresh (Nat.le_refl _))
    split at w1
    · rename_i xs he
      obtain ⟨vs, hv, rl⟩ := sa1 _ _ he
      exact go vs (.of hv) _ rfl (q _ _ _ _ sim_lst sa1 k1 w1)
    · rename_i xs he
      obtain ⟨vs, hv, rl⟩ := sa1 _ _ he
      exact go vs (.inl hv) _ rfl (q _ _ _ _ sim_rol sa1 k1 w1)
    · exact w1.elim
  | _ => exact w1.elim
def int1 : List Vl → Option Int
  | [.int n] => some n
  | _ => none
theorem int1_of {xs : List Vl} {n : Int} (h : int1 xs = some n) : xs = [.int n] := by
  unfold int1 at h
  split at h
  · cases h; rfl
  · cases h
def int2 : List Vl → Option (Int × Int)
  | [.int m, .int n] => some (m, n)
  | _ => none
theorem int2_of {xs : List Vl} {m n : Int} (h : int2 xs = some (m, n)) : xs = [.int m, .int n] := by
  unfold int2 at h
  split at h
  · cases h; rfl
  · cases h
theorem Rl.one {H : Hp} {x : Vl} {vs : List V} (h : Rl K H [x] vs) : ∃ v, vs = [v] ∧ Re K H x v := by
  obtain ⟨v, ws, rfl, r, t⟩ := h.cons_inv
  have := t.nil_inv; subst this
  exact ⟨v, rfl, r⟩
theorem Rl.two {H : Hp} {x y : Vl} {vs : List V} (h : Rl K H [x, y] vs) : ∃ v u, vs = [v, u] ∧ Re K H x v ∧ Re K H y u := by
  obtain ⟨v, ws, rfl, r, t⟩ := h.cons_inv
  obtain ⟨u, rfl, q⟩ := t.one
  exact ⟨v, u, rfl, r, q⟩
def rngOk (m n : Int) : Prop := -(2 ^ 62) ≤ m ∧ m < 2 ^ 62 ∧ -(2 ^ 62) ≤ n ∧ n < 2 ^ 62
def wiR1 (wa : WA) : WI := fun S A Q E => wa S A (fun xs A1 => ∃ n, int1 xs = some n ∧ rngOk 0 n ∧ Q ⟨rngL 0 n.toNat, fun _ => True⟩ A1) E
theorem ai_range1 {wa : WA} {p : Pos} (hg : Gl X "range") (hm : X.mg "range" = none) (ha : AA X W [a] wa) (hs : starEach [a] X.env = [(false, eval a X.env)] := by exact star1 rfl) : AI X W tg (.Call (.Name "range" p) [a] [] pos) (wiR1 wa) :=
  pi_imp (pi_range1 hg hm ha hs) fun σ H R ⟨S, A, Qa, Ea, ss, sa, q, qx, w⟩ => ⟨S, A, _, Ea, ss, sa, fun xs A1 vs H1 r1 sa1 k1 w1 => by
    obtain ⟨n, e, ⟨_, _, h1, h2⟩, w1⟩ := w1
    rw [int1_of e] at r1
    obtain ⟨v, rfl, r⟩ := r1.one
    unfold Re at r; subst r
    exact ⟨n, rfl, h1, h2, q _ _ _ _ sim_rng sa1 k1 w1⟩, qx, w⟩
def wiR2 (wa : WA) : WI := fun S A Q E => wa S A (fun xs A1 => ∃ m n, int2 xs = some (m, n) ∧ rngOk m n ∧ Q ⟨rngL m (n - m).toNat, fun _ => True⟩ A1) E
theorem ai_range2 {wa : WA} {p : Pos} (hg : Gl X "range") (hm : X.mg "range" = none) (ha : AA X W [a, b] wa) (hs : starEach [a, b] X.env = [(false, eval a X.env), (false, eval b X.env)] := by exact star2 rfl) (hs2 : starEach [b] X.env = [(false, eval b X.env)] := by exact star1 rfl) : AI X W tg (.Call (.Name "range" p) [a, b] [] pos) (wiR2 wa) :=
  pi_imp (pi_range2 hg hm ha hs hs2) fun σ H R ⟨S, A, Qa, Ea, ss, sa, q, qx, w⟩ => ⟨S, A, _, Ea, ss, sa, fun xs A1 vs H1 r1 sa1 k1 w1 => by
    obtain ⟨m, n, e, ho, w1⟩ := w1
    rw [int2_of e] at r1
    obtain ⟨v, u, rfl, r, r'⟩ := r1.two
    unfold Re at r r'; subst r; subst r'
    exact ⟨m, n, rfl, ho, q _ _ _ _ sim_rng sa1 k1 w1⟩, qx, w⟩

/-! ### targets; vs: the slots that they may store -/
abbrev WG := Vl → Sl → Ah → (Sl → Ah → Prop) → Prop
abbrev WGs := List Vl → Sl → Ah → (Sl → Ah → Prop) → Prop
def QG (K : PySem.W.Frag) (vs : List Nat) (σ : L2.St) (H : Hp) (Na : Sl → Ah → Prop) (N : L2.St → Hp → Prop) : Prop := ∀ S A' σ' H', SS K H' S σ' → SA K A' H' → Keep H H' → wipe σ' vs = wipe σ vs → Na S A' → N σ' H'
def LG (K : PySem.W.Frag) (vs : List Nat) (w : WG) : TG := fun v σ H Q => ∃ x S A Qa, Re K H x v ∧ SS K H S σ ∧ SA K A H ∧ QG K vs σ H Qa Q ∧ w x S A Qa
def LGs (K : PySem.W.Frag) (vs : List Nat) (w : WGs) : TGs := fun v σ H Q => ∃ x S A Qa, Rl K H x v ∧ SS K H S σ ∧ SA K A H ∧ QG K vs σ H Qa Q ∧ w x S A Qa
abbrev AG (X : Cx) (vs : List Nat) (tg : Expr) (w : WG) : Prop := PG X tg (LG X.K vs w)
abbrev AGs (X : Cx) (vs : List Nat) (tgs : List Expr) (w : WGs) : Prop := PGs X tgs (LGs X.K vs w)
theorem wipe_get {σ : L2.St} {j : Nat} : ∀ {vs : List Nat}, (wipe σ vs)[j]? = if j ∈ vs then (if j < σ.length then some none else none) else σ[j]?
  | [] => by simp [wipe]
  | v :: vs => by
    unfold wipe
    by_cases h : v = j
    · subst h
      simp only [List.mem_cons, true_or, if_true]
      by_cases hl : v < σ.length
      · rw [if_pos hl, List.getElem?_set_self (by rw [wipe_length]; exact hl)]
      · rw [if_neg hl, List.getElem?_eq_none (by rw [List.length_set, wipe_length]; omega)]
    · rw [List.getElem?_set_ne h, wipe_get]
      have : (j ∈ v :: vs) ↔ j ∈ vs := by simp [Ne.symm h]
      simp only [this]
theorem wipe_set {σ : L2.St} {i : Nat} {x : Option V} {vs : List Nat} (h : i ∈ vs) : wipe (σ.set i x) vs = wipe σ vs := by
  apply List.ext_getElem?
  intro j
  rw [wipe_get, wipe_get, List.length_set]
  by_cases hj : j ∈ vs
  · rw [if_pos hj, if_pos hj]
  · rw [if_neg hj, if_neg hj, List.getElem?_set_ne (fun z => hj (by rw [← z]; exact h))]
def wipeA (S : Sl) : List Nat → Sl
  | [] => S
  | v :: vs => (wipeA S vs).set v none
theorem SS.wipe {H : Hp} {S : Sl} {σ : L2.St} (s : SS K H S σ) : ∀ vs : List Nat, SS K H (wipeA S vs) (wipe σ vs)
  | [] => s
  | v :: vs => (s.wipe vs).setNone v
def gN (i : Nat) : WG := fun x S A Q => Q (S.set i (some x)) A
theorem pg_imp {t t' : TG} (h : PG X tg t) (i : ∀ v σ H Q, t' v σ H Q → t v σ H Q) : PG X tg t' := ⟨fun pins s σ H v u Q I r w => h.run pins s σ H v u Q I r (i _ _ _ _ w)⟩
theorem pgs_imp {t t' : TGs} (h : PGs X es t) (i : ∀ v σ H Q, t' v σ H Q → t v σ H Q) : PGs X es t' := ⟨fun pins s σ H v u Q I r w => h.run pins s σ H v u Q I r (i _ _ _ _ w)⟩
theorem ag_name {i : Nat} {x : Str} {vs : List Nat} (hN : X.N.Nodup) (hi : X.N[i]? = some x) (hx : Loc X.env.scope x) (hv : i ∈ vs) (hf : X.fn x = true ∨ X.env.scope.names.lookup x = some .local := by first | exact .inl rfl | exact .inr rfl | assumption) : AG X vs (.Name x pos) (gN i) :=
  pg_imp (pg_name hN hi hx hf) fun v σ H Q ⟨y, S, A, Qa, r, ss, sa, q, w⟩ => q _ _ _ _ (ss.set i r) sa .refl (wipe_set hv) w
def gNl : WGs := fun xs S A Q => xs = [] ∧ Q S A
def gCn (g : WG) (r : WGs) : WGs := fun xs S A Q => match xs with
  | x :: xs => g x S A fun S1 A1 => r xs S1 A1 Q
  | [] => False
theorem ags_nil {vs : List Nat} : AGs X vs [] gNl := pgs_imp pgs_nil fun v σ H Q ⟨xs, S, A, Qa, r, ss, sa, q, w⟩ => by
  obtain ⟨rfl, w⟩ := w
  exact ⟨r.nil_inv, q _ _ _ _ ss sa .refl rfl w⟩
theorem ags_cons {g : WG} {r : WGs} {vs : List Nat} (h1 : AG X vs e g) (h2 : AGs X vs es r) (hs : (assignEach (e :: es) X.env).map (·.2) = assign e X.env :: (assignEach es X.env).map (·.2) := by exact asgN rfl) : AGs X vs (e :: es) (gCn g r) :=
  pgs_imp (pgs_cons h1 h2 hs) fun v σ H Q ⟨xs, S, A, Qa, rl, ss, sa, q, w⟩ => by
    cases xs with
    | nil => exact w.elim
    | cons x xs =>
      obtain ⟨u, us, rfl, r1, rr⟩ := rl.cons_inv
      refine ⟨u, us, rfl, x, S, A, _, r1, ss, sa, fun S1 A1 σ1 H1 ss1 sa1 k1 hw w1 => ?_, w⟩
      exact ⟨xs, S1, A1, Qa, rr.keep k1, ss1, sa1, fun S2 A2 σ2 H2 ss2 sa2 k2 hw2 w2 => q _ _ _ _ ss2 sa2 (k1.trans k2) (hw2.trans hw) w2, w1⟩
def gT (n : Nat) (g : WGs) : WG := fun x S A Q => match x with
  | .tup xs => xs.length = n ∧ g xs S A Q
  | _ => False
theorem ag_tup {g : WGs} {vs : List Nat} {n k : Nat} (hc : X.calm = true) (h : AGs X vs es g) (hn : (assignEach es X.env).length = n := by exact asgLenOf rfl) (hst : (assignEach es X.env).findIdx? (·.1) = none := by exact asgIdx rfl) : AG X vs (.Tuple es k pos) (gT n g) :=
  pg_imp (pg_tup hc h hn hst) fun v σ H Q ⟨x, S, A, Qa, r, ss, sa, q, w⟩ => by
    cases x with
    | tup xs =>
      unfold Re at r
      obtain ⟨p, us, rfl, st, rl⟩ := r
      exact ⟨p, us, rfl, st.1, by rw [← rl.length]; exact w.1, xs, S, A, Qa, rl, ss, sa, q, w.2⟩
    | _ => exact w.elim
/-- o[i] = x, by values -/
abbrev F3 := Vl → Vl → Vl → Ah → (Ah → Prop) → Prop
def Sim3 (K : PySem.W.Frag) (t : TSet) (f : F3) : Prop := ∀ {x y z : Vl} {o i v : V} {A : Ah} {H : Hp} {Q : Hp → Prop} {Qa : Ah → Prop}, Re K H x o → Re K H y i → Re K H z v → SA K A H → (∀ A' H', SA K A' H' → Keep H H' → Qa A' → Q H') → f x y z A Qa → t o i v H Q
def noE : EX := fun _ _ => False
theorem noE_qx {H : Hp} {E : XK} : QX K H noE E := fun _ _ _ _ _ _ _ _ h => h.elim
def gS (f : F3) (wo wi : WE) : WG := fun z S A Q => wo S A (fun x A1 => wi S A1 (fun y A2 => f x y z A2 fun A3 => Q S A3) noE) noE
theorem ag_sub {t : TSet} {f : F3} {wo wi : WE} {i : Expr} {vs : List Nat} (hp : PSet X t) (hs : Sim3 X.K t f) (ho : AE X W o wo) (hi : AE X W i wi)
    (ha : ∀ v, assign (.Subscript o i pos) X.env v = (do
      let ov ← holding [v] (eval o X.env)
      let iv ← holding [v, ov] (eval i X.env)
      standAt pos
      holding [v, ov, iv] (setItem ov iv v)
      release [v, ov, iv] []) := by exact asgSub rfl) : AG X vs (.Subscript o i pos) (gS f wo wi) :=
  pg_imp (pg_sub ho hi hp ha) fun v σ H Q ⟨z, S, A, Qa, r, ss, sa, q, w⟩ => ⟨S, A, _, noE, ss, sa, fun x A1 u H1 r1 sa1 k1 w1 =>
    ⟨S, A1, _, noE, ss.keep k1, sa1, fun y A2 t H2 r2 sa2 k2 w2 => hs (r1.keep k2) r2 (r.keep (k1.trans k2)) sa2 (fun A3 H3 sa3 k3 w3 => q _ _ _ _ (ss.keep ((k1.trans k2).trans k3)) sa3 ((k1.trans k2).trans k3) rfl w3) w2, noE_qx, w1⟩, noE_qx, w⟩

/-! ### statements -/
variable {st : Stmt} {sts : List Stmt} {body orelse : List Stmt}
theorem ass_nil : ASs X W [] (fun D S A => D.nx S A) := pss_imp pss_nil fun D σ H ⟨S, A, Da, ss, sa, q, w⟩ => q.nx _ _ _ _ ss sa .refl w
def wSeq (w1 w2 : WS) : WS := fun D S A => w1 { D with nx := w2 D } S A
theorem ass_cons {w1 w2 : WS} (h1 : AS X W st w1) (h2 : ASs X W sts w2) : ASs X W (st :: sts) (wSeq w1 w2) :=
  pss_imp (pss_cons h1 h2) fun D σ H ⟨S, A, Da, ss, sa, q, w⟩ => ⟨S, A, { Da with nx := w2 Da }, ss, sa, ⟨fun S1 A1 σ1 H1 ss1 sa1 k1 w1 => ⟨S1, A1, Da, ss1, sa1, q.keep k1, w1⟩, q.rt, q.bk, q.ct, q.ex⟩, w⟩
theorem ass_one {w1 : WS} (h1 : AS X W st w1) : ASs X W [st] w1 := pss_one h1
theorem as_pass : AS X W (.Pass pos) (fun D S A => D.nx S A) := ps_imp ps_pass fun D σ H ⟨S, A, Da, ss, sa, q, w⟩ => q.nx _ _ _ _ ss sa .refl w
theorem as_break : AS X W (.Break pos) (fun D S A => D.bk S A) := ps_imp ps_break fun D σ H ⟨S, A, Da, ss, sa, q, w⟩ => q.bk _ _ _ _ ss sa .refl w
theorem as_continue : AS X W (.Continue pos) (fun D S A => D.ct S A) := ps_imp ps_continue fun D σ H ⟨S, A, Da, ss, sa, q, w⟩ => q.ct _ _ _ _ ss sa .refl w
def wEx (w : WE) : WS := fun D S A => w S A (fun _ A1 => D.nx S A1) (fun x A1 => D.ex x S A1)
theorem as_expr {w : WE} (h : AE X W e w) (hs : swapsWith e none pos.line X.env = pure false := by exact swapOf rfl) : AS X W (.Expr e pos) (wEx w) :=
  ps_imp (ps_expr h hs) fun D σ H ⟨S, A, Da, ss, sa, q, w⟩ => ⟨S, A, _, _, ss, sa, fun x A1 v H1 r1 sa1 k1 w1 => q.nx _ _ _ _ (ss.keep k1) sa1 k1 w1, q.ex.at ss, w⟩
def wRet (w : WE) : WS := fun D S A => w S A D.rt (fun x A1 => D.ex x S A1)
theorem as_ret {w : WE} (h : AE X W e w) : AS X W (.Return (some e) pos) (wRet w) :=
  ps_imp (ps_ret h) fun D σ H ⟨S, A, Da, ss, sa, q, w⟩ => ⟨S, A, _, _, ss, sa, q.rt, q.ex.at ss, w⟩
theorem as_retN : AS X W (.Return none pos) (fun D S A => D.rt .non A) := ps_imp ps_retN fun D σ H ⟨S, A, Da, ss, sa, q, w⟩ => q.rt _ _ _ _ (re_non _) sa .refl w
def wIfS (t : WT) (w1 w2 : WS) : WS := fun D S A => t S A (fun k A1 => if k = true then w1 D S A1 else w2 D S A1) (fun x A1 => D.ex x S A1)
theorem as_if {t : WT} {w1 w2 : WS} (ht : AT X W c t) (h1 : ASs X W body w1) (h2 : ASs X W orelse w2) : AS X W (.If c body orelse pos) (wIfS t w1 w2) :=
  ps_imp (ps_if ht h1 h2) fun D σ H ⟨S, A, Da, ss, sa, q, w⟩ => ⟨S, A, _, _, ss, sa, fun k A1 H1 sa1 k1 w1 => by
    cases k with
    | true => rw [if_pos rfl] at w1 ⊢; exact ⟨S, A1, Da, ss.keep k1, sa1, q.keep k1, w1⟩
    | false => rw [if_neg Bool.false_ne_true] at w1 ⊢; exact ⟨S, A1, Da, ss.keep k1, sa1, q.keep k1, w1⟩, q.ex.at ss, w⟩
def wAsg (w : WE) (g : WG) : WS := fun D S A => w S A (fun x A1 => g x S A1 D.nx) (fun x A1 => D.ex x S A1)
theorem ls_asg {w : WE} {g : WG} {vs : List Nat} {D : Ends} {σ : L2.St} {H : Hp} (h : LS K W (wAsg w g) D σ H) : tAsg (LE K W w) (LG K vs g) D σ H := by
  obtain ⟨S, A, Da, ss, sa, q, w⟩ := h
  exact ⟨S, A, _, _, ss, sa, fun x A1 v H1 r1 sa1 k1 w1 => ⟨x, S, A1, _, r1, ss.keep k1, sa1, fun S2 A2 σ2 H2 ss2 sa2 k2 _ w2 => q.nx _ _ _ _ ss2 sa2 (k1.trans k2) w2, w1⟩, q.ex.at ss, w⟩
theorem as_asg {w : WE} {g : WG} {vs : List Nat} (h : AE X W e w) (hg : AG X vs tg g) (hs : swapsWithSole [tg] e pos.line X.env = pure false := by exact swap1 rfl) (hw : swappedStores [tg] e X.env = pure none := by exact storesOf rfl)
    (h1 : (assignEach [tg] X.env).map (·.2) = [assign tg X.env] := by exact asg1 rfl) : AS X W (.Assign [tg] e pos) (wAsg w g) := ps_imp (ps_asg h hg hs hw h1) fun _ _ _ h => ls_asg h
theorem as_set {i : Nat} {x : Str} {w : WE} {pos' : Pos} (hN : X.N.Nodup) (hi : X.N[i]? = some x) (hx : Loc X.env.scope x) (h : AE X W e w) (hs : swapsWith e (some (.Name x pos')) pos.line X.env = pure false := by exact swapOf rfl) (hf : X.fn x = true ∨ X.env.scope.names.lookup x = some .local := by first | exact .inl rfl | exact .inr rfl | assumption) :
    AS X W (.Assign [.Name x pos'] e pos) (wAsg w (gN i)) :=
  ps_imp (ps_set hN hi hx h hs hf) fun D σ H ⟨S, A, Da, ss, sa, q, w⟩ => ⟨S, A, _, _, ss, sa, fun x A1 v H1 r1 sa1 k1 w1 => q.nx _ _ _ _ ((ss.keep k1).set i r1) sa1 k1 w1, q.ex.at ss, w⟩
/-- a, b = x, y -/
def wPar (i j : Nat) (wa : WA) : WS := fun D S A => wa S A (fun xs A1 => ∃ x y, xs = [x, y] ∧ D.nx ((S.set i (some x)).set j (some y)) A1) (fun x A1 => D.ex x S A1)
theorem as_par {i j : Nat} {x y : Str} {px py pt : Pos} {kt k2 pt2} {wa : WA} (hc : X.calm = true) (hN : X.N.Nodup) (hi : X.N[i]? = some x) (hj : X.N[j]? = some y) (hij : i ≠ j)
    (hx : X.env.scope.names.lookup x = some .local) (hy : X.env.scope.names.lookup y = some .local) (ha : AA X W [a, b] wa) (h : ∀ {t}, PA X [a, b] t → PS X (.Assign [.Tuple [.Name x px, .Name y py] kt pt] (.Tuple [a, b] k2 pt2) pos) (tPar i j t)) :
    AS X W (.Assign [.Tuple [.Name x px, .Name y py] kt pt] (.Tuple [a, b] k2 pt2) pos) (wPar i j wa) :=
  ps_imp (h ha) fun D σ H ⟨S, A, Da, ss, sa, q, w⟩ => ⟨S, A, _, _, ss, sa, fun xs A1 vs H1 r1 sa1 k1 w1 => by
    obtain ⟨x, y, rfl, w1⟩ := w1
    obtain ⟨v, u, rfl, r, r'⟩ := r1.two
    exact ⟨v, u, rfl, q.nx _ _ _ _ (((ss.keep k1).set i r).set j r') sa1 k1 w1⟩, q.ex.at ss, w⟩

/-! ### loops -/
def forL (ok : Ah → Prop) (g : WG) (w : WS) (D : Es) : List Vl → Sl → Ah → Prop
  | [], S, A => ok A ∧ D.nx S A
  | x :: xs, S, A => ok A ∧ g x S A fun S1 A1 => w { D with nx := forL ok g w D xs, ct := forL ok g w D xs, bk := D.nx } S1 A1
def wFor (wi : WI) (g : WG) (w : WS) : WS := fun D S A => wi S A (fun k A1 => forL k.ok g w D k.its S A1) (fun x A1 => D.ex x S A1)
theorem as_for {wi : WI} {g : WG} {w : WS} {vs : List Nat} (hp : PassesOwn (model X.prog X.w) X.A X.env X.xe) (hc : X.calm = true) (hi : AI X W tg iter wi) (hg : AG X vs tg g) (hb : ASs X W body w)
    (hs : ∀ x, foldedSetIterable iter X.env x = pure x := by exact foldOf rfl) : AS X W (.For tg iter body [] pos) (wFor wi g w) :=
  ps_imp (ps_for hp hc hi hg hb hs) fun D σ H ⟨S, A, Da, ss, sa, q, wv⟩ => ⟨S, A, _, _, ss, sa, fun k A1 J H1 sim sa1 k1 w1 => by
    refine ⟨fun i m σ' H' => m = k.its.length - i ∧ i ≤ k.its.length ∧ ∃ S' A', SS X.K H' S' σ' ∧ SA X.K A' H' ∧ Keep H1 H' ∧ forL k.ok g w Da (k.its.drop i) S' A', ⟨_, rfl, Nat.zero_le _, S, A1, ss.keep k1, sa1, .refl, w1⟩, ?_⟩
    rintro i m σ2 H2 ⟨rfl, hi, S2, A2, ss2, sa2, k2, w2⟩
    by_cases hlt : i < k.its.length
    · rw [List.drop_eq_getElem_cons hlt] at w2
      obtain ⟨ok2, w2⟩ := w2
      obtain ⟨_, go⟩ := sim i A2 H2 sa2 k2 ok2
      obtain ⟨go, yl⟩ := go k.its[i] (by simp [hlt])
      refine .inr ⟨go, fun σ' H' => ∃ S' A', SS X.K H' S' σ' ∧ SA X.K A' H' ∧ Keep H1 H' ∧ forL k.ok g w Da (k.its.drop (i + 1)) S' A', fun σ' H' ⟨S', A', h1, h2, h3, h4⟩ => ⟨k.its.length - (i + 1), by omega, rfl, hlt, S', A', h1, h2, h3, h4⟩, fun x H3 y3 => ?_⟩
      obtain ⟨k3, sa3, r3⟩ := yl x H3 y3
      refine ⟨_, S2, A2, _, r3, ss2.keep k3, sa3, fun S4 A4 σ4 H4 ss4 sa4 k4 _ w4 => ?_, w2⟩
      have kk : Keep H H4 := ((k1.trans k2).trans k3).trans k4
      have k14 : Keep H1 H4 := (k2.trans k3).trans k4
      exact ⟨S4, A4, { Da with nx := forL k.ok g w Da (k.its.drop (i + 1)), ct := forL k.ok g w Da (k.its.drop (i + 1)), bk := Da.nx }, ss4, sa4, ⟨fun S5 A5 σ5 H5 ss5 sa5 k5 w5 => ⟨S5, A5, ss5, sa5, k14.trans k5, w5⟩, q.rt.keep kk, q.nx.keep kk, fun S5 A5 σ5 H5 ss5 sa5 k5 w5 => ⟨S5, A5, ss5, sa5, k14.trans k5, w5⟩, q.ex.keep kk⟩, w4⟩
    · rw [List.drop_eq_nil_of_le (by omega)] at w2
      obtain ⟨ok2, w2⟩ := w2
      obtain ⟨stop, _⟩ := sim i A2 H2 sa2 k2 ok2
      exact .inl ⟨stop (by omega), q.nx _ _ _ _ ss2 sa2 (k1.trans k2) w2⟩, q.ex.at ss, wv⟩
def whN (t : WT) (w : WS) (D : Es) : Nat → Sl → Ah → Prop
  | 0, _, _ => False
  | n + 1, S, A => t S A (fun k A1 => if k = true then w { D with nx := whN t w D n, ct := whN t w D n, bk := D.nx } S A1 else D.nx S A1) (fun x A1 => D.ex x S A1)
def wWh (t : WT) (w : WS) : WS := fun D S A => ∃ n, whN t w D n S A
theorem as_while {t : WT} {w : WS} (hp : PassesOwn (model X.prog X.w) X.A X.env X.xe) (ht : AT X W c t) (hb : ASs X W body w) : AS X W (.While c body [] pos) (wWh t w) :=
  ps_imp (ps_while hp ht hb) fun D σ H ⟨S, A, Da, ss, sa, q, n, wv⟩ => by
    refine ⟨fun m σ' H' => ∃ S' A', SS X.K H' S' σ' ∧ SA X.K A' H' ∧ Keep H H' ∧ whN t w Da m S' A', ⟨n, S, A, ss, sa, .refl, wv⟩, ?_⟩
    rintro m σ2 H2 ⟨S2, A2, ss2, sa2, k2, w2⟩
    cases m with
    | zero => exact w2.elim
    | succ m =>
      refine ⟨S2, A2, _, _, ss2, sa2, fun b A3 H3 sa3 k3 w3 => ?_, (q.ex.keep k2).at ss2, w2⟩
      have k23 := k2.trans k3
      cases b with
      | true =>
        rw [if_pos rfl] at w3
        simp only [if_true]
        refine ⟨fun σ' H' => ∃ S' A', SS X.K H' S' σ' ∧ SA X.K A' H' ∧ Keep H H' ∧ whN t w Da m S' A', fun σ' H' h => ⟨m, Nat.lt_succ_self _, h⟩, S2, A3, { Da with nx := whN t w Da m, ct := whN t w Da m, bk := Da.nx }, ss2.keep k3, sa3, ⟨fun S5 A5 σ5 H5 ss5 sa5 k5 w5 => ⟨S5, A5, ss5, sa5, k23.trans k5, w5⟩, q.rt.keep k23, q.nx.keep k23, fun S5 A5 σ5 H5 ss5 sa5 k5 w5 => ⟨S5, A5, ss5, sa5, k23.trans k5, w5⟩, q.ex.keep k23⟩, w3⟩
      | false =>
        rw [if_neg Bool.false_ne_true] at w3
        simp only [Bool.false_eq_true, if_false]
        exact q.nx _ _ _ _ (ss2.keep k3) sa3 k23 w3

/-! ### comprehensions -/
abbrev noW : WX := fun _ _ _ _ => False
def lcL (ok : Ah → Prop) (g : WG) (t : WT) (w : WE) (S : Sl) (p : Addr) (Q : Ah → Prop) : List Vl → Ah → Prop
  | [], A => ok A ∧ Q A
  | x :: xs, A => ok A ∧ g x S A fun S1 A1 => t S1 A1 (fun b A2 => if b = true then w S1 A2 (fun y A3 => match A3 p with
      | some (.lst acc) => acc.length < sizeLine ∧ lcL ok g t w S p Q xs (put A3 p (.lst (acc ++ [y])))
      | _ => False) noE else lcL ok g t w S p Q xs A2) noE
def wLc (wi : WI) (g : WG) (t : WT) (w : WE) (vs : List Nat) : WE := fun S A Q E => wi S A (fun k A1 => ∀ p, A1 p = none → lcL k.ok g t w (wipeA S vs) p (fun A2 => Q (.ref p) A2) k.its (put A1 p (.lst []))) E
abbrev ATs (X : Cx) (W : WX) (ifs : List Expr) (t : WT) : Prop := PTs X ifs (LT X.K W t)
def wYes : WT := fun _ A Q _ => Q true A
theorem ats_nil : ATs X W [] wYes := ⟨fun pins s σ H Q I ⟨S, A, Qa, Ea, ss, sa, q, qx, w⟩ => pts_nil.run pins s σ H Q I (q _ _ _ sa .refl w)⟩
theorem ats_one {t : WT} (h : AT X W c t) : ATs X W [c] t := pts_one h
theorem le_lc {wi : WI} {g : WG} {t : WT} {w : WE} {vs : List Nat} {σ : L2.St} {H : Hp} {Q : VK} (h : LE K W (wLc wi g t w vs) σ H Q) : tLc (LI K W wi) (LG K vs g) (LT K noW t) (LE K noW w) vs σ H Q := by
  obtain ⟨S, A, Qa, Ea, ss, sa, q, qx, wv⟩ := h
  refine ⟨S, A, _, _, ss, sa, fun k A1 J H1 sim sa1 k1 w1 => ?_, qx, wv⟩
  intro D hD
  have sa0 : SA K (put A1 D (.lst [])) (upd H1 D (.lst [])) := sa1.new hD ⟨[], upd_same, .nil⟩
  have kD : Keep H1 (upd H1 D (.lst [])) := .new hD
  have w0 := w1 D (sa1.fresh hD)
  refine ⟨fun i m H' => m = k.its.length - i ∧ i ≤ k.its.length ∧ ∃ A', SA K A' H' ∧ Keep H1 H' ∧ lcL k.ok g t w (wipeA S vs) D (fun A2 => Qa (.ref D) A2) (k.its.drop i) A', ⟨_, rfl, Nat.zero_le _, _, sa0, kD, w0⟩, ?_⟩
  rintro i m H2 ⟨rfl, hi, A2, sa2, k2, w2⟩
  by_cases hlt : i < k.its.length
  · rw [List.drop_eq_getElem_cons hlt] at w2
    obtain ⟨ok2, w2⟩ := w2
    obtain ⟨_, go⟩ := sim i A2 H2 sa2 k2 ok2
    obtain ⟨go, yl⟩ := go k.its[i] (by simp [hlt])
    refine .inr ⟨go, fun H' => ∃ A', SA K A' H' ∧ Keep H1 H' ∧ lcL k.ok g t w (wipeA S vs) D (fun A2 => Qa (.ref D) A2) (k.its.drop (i + 1)) A', fun H' ⟨A', h2, h3, h4⟩ => ⟨k.its.length - (i + 1), by omega, rfl, hlt, A', h2, h3, h4⟩, fun x H3 y3 => ?_⟩
    obtain ⟨k3, sa3, r3⟩ := yl x H3 y3
    have k13 := k2.trans k3
    refine ⟨_, wipeA S vs, A2, _, r3, (ss.keep (k1.trans k13)).wipe vs, sa3, fun S4 A4 σ4 H4 ss4 sa4 k4 hw w4 => ?_, w2⟩
    have ww : wipe (wipe σ vs) vs = wipe σ vs := by
      apply List.ext_getElem?
      intro j
      by_cases hj : j ∈ vs <;> simp only [wipe_get, wipe_length, hj, if_true, if_false]
    refine ⟨hw.trans ww, S4, A4, _, noE, ss4, sa4, fun b A5 H5 sa5 k5 w5 => ?_, noE_qx, w4⟩
    have k15 := (k13.trans k4).trans k5
    cases b with
    | false =>
      rw [if_neg Bool.false_ne_true] at w5
      simp only [Bool.false_eq_true, if_false]
      exact ⟨A5, sa5, k15, w5⟩
    | true =>
      rw [if_pos rfl] at w5
      simp only [if_true]
      refine ⟨S4, A5, _, noE, ss4.keep k5, sa5, fun y A6 v H6 r6 sa6 k6 w6 => ?_, noE_qx, w5⟩
      revert w6
      cases hp : A6 D with
      | none => exact fun h => h.elim
      | some ob =>
        cases ob with
        | lst acc =>
          rintro ⟨hz, w6⟩
          obtain ⟨us, hu, rl⟩ := sa6 _ _ hp
          refine ⟨us, hu, by rw [← rl.length]; exact hz, _, ?_, ?_, w6⟩
          · exact sa6.write (by rw [hu]; trivial) ⟨us ++ [v], upd_same, (rl.append (.cons r6 .nil)).keep (.write (by rw [hu]; trivial))⟩
          · exact (k15.trans k6).trans (.write (by rw [hu]; trivial))
        | _ => exact fun h => h.elim
  · rw [List.drop_eq_nil_of_le (by omega)] at w2
    obtain ⟨ok2, w2⟩ := w2
    obtain ⟨stop, _⟩ := sim i A2 H2 sa2 k2 ok2
    exact .inl ⟨stop (by omega), q _ _ _ _ (re_ref _) sa2 (k1.trans k2) w2⟩
theorem ae_lc {ifs : List Expr} {scope : Scope} {own : List (Str × Nat)} {vs : List Nat} {wi : WI} {g : WG} {t : WT} {w : WE} (hc : X.calm = true) (hN : X.N.Nodup) (hi : AI X W tg iter wi) (ok : BlkOk X.N X.env.scope scope own)
    (hg : ∀ (s : Shared) (H : Hp) (C : Addr) (cl : List (Str × Addr)) (fp : List Addr), AG (X.blk s H scope (compEnvC scope cl C X.env) fp) vs tg g)
    (ht : ∀ (s : Shared) (H : Hp) (C : Addr) (cl : List (Str × Addr)) (fp : List Addr), ATs (X.blk s H scope (compEnvC scope cl C X.env) fp) noW ifs t)
    (he : ∀ (s : Shared) (H : Hp) (C : Addr) (cl : List (Str × Addr)) (fp : List Addr), AE (X.blk s H scope (compEnvC scope cl C X.env) fp) noW e w) (hvs : own.map (·.2) = vs := by rfl) (hs : ∀ x, foldedSetIterable iter X.env x = pure x := by exact foldOf rfl) :
    AE X W (.ListComp e [⟨tg, iter, ifs, 0⟩] scope pos) (wLc wi g t w vs) := by
  subst hvs
  exact pe_imp (pe_lc hc hN hi ok hg ht he hs) fun _ _ _ h => le_lc h
theorem as_setLc {i : Nat} {y : Str} {py spos : Pos} {ifs : List Expr} {scope : Scope} {own : List (Str × Nat)} {vs : List Nat} {wi : WI} {g : WG} {t : WT} {w : WE} (hc : X.calm = true) (hN : X.N.Nodup) (hy : X.N[i]? = some y) (hyl : X.env.scope.names.lookup y = some .local)
    (hsw : swapsWith (.ListComp e [⟨tg, iter, ifs, 0⟩] scope pos) (some (.Name y py)) spos.line X.env = pure true) (hi : AI X W tg iter wi) (ok : BlkOk X.N X.env.scope scope own)
    (hg : ∀ (s : Shared) (H : Hp) (C : Addr) (cl : List (Str × Addr)) (fp : List Addr), AG (X.blk s H scope (compEnvC scope cl C X.env) fp) vs tg g)
    (ht : ∀ (s : Shared) (H : Hp) (C : Addr) (cl : List (Str × Addr)) (fp : List Addr), ATs (X.blk s H scope (compEnvC scope cl C X.env) fp) noW ifs t)
    (he : ∀ (s : Shared) (H : Hp) (C : Addr) (cl : List (Str × Addr)) (fp : List Addr), AE (X.blk s H scope (compEnvC scope cl C X.env) fp) noW e w) (hvs : own.map (·.2) = vs := by rfl) (hs : ∀ x, foldedSetIterable iter X.env x = pure x := by exact foldOf rfl) :
    AS X W (.Assign [.Name y py] (.ListComp e [⟨tg, iter, ifs, 0⟩] scope pos) spos) (wAsg (wLc wi g t w vs) (gN i)) := by
  subst hvs
  exact ps_imp (ps_setLc hc hN hy hyl hsw hi ok hg ht he hs) fun D σ H ⟨S, A, Da, ss, sa, q, wv⟩ =>
    le_lc ⟨S, A, _, _, ss, sa, fun x A1 v H1 r1 sa1 k1 w1 => q.nx _ _ _ _ ((ss.keep k1).set i r1) sa1 k1 w1, q.ex.at ss, wv⟩
/-- a block's context -/
theorem Bd.blk {k : Nat} (B : Bd k X W) (s : Shared) (H : Hp) (scope : Scope) (cenv : Env) (fp : List Addr) : Bd k (X.blk s H scope cenv fp) noW :=
  ⟨B.room, B.gd, B.calm, B.nd, fun _ _ ⟨_, _, _, _, _, _, _, _, _, _, _, _, _, _, _, _, w⟩ => w.elim, PassesOwn.never⟩
end
end Rk

set_option Elab.async false
set_option linter.all false
set_option maxRecDepth 100000
set_option maxHeartbeats 400000
namespace Rk
open PySem PySem.Spec PyProof.Rows L2
section
variable {X : Cx} {W : WX} {a b c e o tg iter : Expr} {es : List Expr} {pos : Pos} {K : PySem.W.Frag}
/-! ### operators by plain values -/
def R2of (K : PySem.W.Frag) (f : F2) : R2 := fun v u H Q => ∃ x y A Qa, Re K H x v ∧ Re K H y u ∧ SA K A H ∧ QL K H Qa Q ∧ f x y A Qa
abbrev O2 (X : Cx) (fn : Value → Value → Sem Value) (f : F2) : Prop := OpR X fn (R2of X.K f)
theorem sim2 {f : F2} : Sim2 K (R2of K f) f := fun r1 r2 sa q w => ⟨_, _, _, _, r1, r2, sa, q, w⟩
def RCof (K : PySem.W.Frag) (f : FC) : List V → Hp → VK → Prop := fun vs H Q => ∃ xs A Qa, Rl K H xs vs ∧ SA K A H ∧ QL K H Qa Q ∧ f xs A Qa
abbrev OC (X : Cx) (fn : Value) (f : FC) : Prop := CallR X fn (RCof X.K f)
theorem simC {f : FC} : SimC K (RCof K f) f := fun r sa q w => ⟨_, _, _, r, sa, q, w⟩
theorem re_int_inv {H : Hp} {i : Int} {v : V} (h : Re K H (.int i) v) : v = .int i := by unfold Re at h; exact h
theorem re_bl_inv {H : Hp} {i : Bool} {v : V} (h : Re K H (.bl i) v) : v = .bl i := by unfold Re at h; exact h
theorem re_non_inv {H : Hp} {v : V} (h : Re K H .non v) : v = .non := by unfold Re at h; exact h
theorem re_ref_inv {H : Hp} {i : Addr} {v : V} (h : Re K H (.ref i) v) : v = .ref i := by unfold Re at h; exact h
theorem re_ty_inv {H : Hp} {i : String} {v : V} (h : Re K H (.ty i) v) : v = .ty i := by unfold Re at h; exact h
theorem re_str_inv {H : Hp} {i : Str} {v : V} (h : Re K H (.str i) v) : v = .str i ∧ okS i := by unfold Re at h; exact h
theorem re_tup_inv {H : Hp} {xs : List Vl} {v : V} (h : Re K H (.tup xs) v) : ∃ p vs, v = .ref p ∧ SqT K H p vs ∧ Rl K H xs vs := by unfold Re at h; obtain ⟨p, vs, e, st, rl⟩ := h; exact ⟨p, vs, e, st.1, rl⟩
theorem re_tup_own {H : Hp} {xs : List Vl} {v : V} (h : Re K H (.tup xs) v) : ∃ p vs, v = .ref p ∧ StT K H p vs ∧ Rl K H xs vs := by unfold Re at h; exact h
/-- a list at an address, tracked -/
def lstA (A : Ah) (p : Addr) (P : List Vl → Prop) : Prop := match A p with
  | some (.lst xs) => P xs
  | _ => False
theorem lstA_of {A : Ah} {p : Addr} {P : List Vl → Prop} (h : lstA A p P) : ∃ xs, A p = some (.lst xs) ∧ P xs := by
  unfold lstA at h
  split at h
  · exact ⟨_, by assumption, h⟩
  · exact h.elim
/-- .. or read alone -/
def seqA (A : Ah) (p : Addr) (P : List Vl → Prop) : Prop := match A p with
  | some (.lst xs) => P xs
  | some (.rol xs) => P xs
  | _ => False
theorem seqA_of {A : Ah} {H : Hp} {p : Addr} {P : List Vl → Prop} (sa : SA K A H) (h : seqA A p P) : ∃ xs vs, SqL K H p vs ∧ Rl K H xs vs ∧ P xs := by
  unfold seqA at h
  split at h
  · rename_i xs he
    obtain ⟨vs, hv, rl⟩ := sa _ _ he
    exact ⟨xs, vs, .of hv, rl, h⟩
  · rename_i xs he
    obtain ⟨vs, hv, rl⟩ := sa _ _ he
    exact ⟨xs, vs, .inl hv, rl, h⟩
  · exact h.elim
theorem strOk_append {s t : Str} (h : PyData.strOk s = true) (g : PyData.strOk t = true) : PyData.strOk (s ++ t) = true := by
  unfold PyData.strOk at *
  have e : (s ++ t).cps = s.cps ++ t.cps := rfl
  rw [e, Array.all_append, h, g]; rfl
/-! a new list -/
theorem ql_lst {A : Ah} {H : Hp} {Qa : QE} {Q : VK} {xs : List Vl} {vs : List V} (q : QL K H Qa Q) (sa : SA K A H) (rl : Rl K H xs vs) (h : ∀ p, A p = none → Qa (.ref p) (put A p (.lst xs))) : ∀ p, H p = none → Q (.ref p) (upd H p (.lst vs)) :=
  fun p hp => q _ _ _ _ (re_ref _) (sa.new hp (obr_lst (.new hp) rl)) (.new hp) (h p (sa.fresh hp))
theorem ql_tup {A : Ah} {H : Hp} {Qa : QE} {Q : VK} {xs : List Vl} {vs : List V} (q : QL K H Qa Q) (sa : SA K A H) (rl : Rl K H xs vs) (h : Qa (.tup xs) A) : QT H vs Q :=
  fun p _ hp => q _ _ _ _ (re_new hp rl) (sa.newU hp) (.new hp) h
/-- a list written -/
theorem ql_wr {A : Ah} {H : Hp} {p : Addr} {us : List V} {xs : List Vl} {vs : List V} (sa : SA K A H) (hu : H p = some (.lst us)) (rl : Rl K H xs vs) : SA K (put A p (.lst xs)) (upd H p (.lst vs)) ∧ Keep H (upd H p (.lst vs)) :=
  have k : Keep H (upd H p (.lst vs)) := .write (by rw [hu]; trivial)
  ⟨sa.write (by rw [hu]; trivial) ⟨vs, upd_same, rl.keep k⟩, k⟩
/-! ### + - * % // ** -/
def fAdd : F2 := fun x y A Q => match x, y with
  | .int i, .int j => Q (.int (i + j)) A
  | .str s, .str t => s.length + t.length ≤ sizeLine ∧ Q (.str (s ++ t)) A
  | .tup xs, .tup ys => xs.length + ys.length ≤ sizeLine ∧ Q (.tup (xs ++ ys)) A
  | .ref p, .ref q => lstA A p fun xs => lstA A q fun ys => xs.length + ys.length ≤ sizeLine ∧ ∀ r, A r = none → Q (.ref r) (put A r (.lst (xs ++ ys)))
  | _, _ => False
theorem o_add : O2 X (binaryOp .Add) fAdd := by
  intro pins s σ H v u vv uu Q I rv ru ⟨x, y, A, Qa, r1, r2, sa, q, w⟩
  cases x with
  | int i =>
    cases y with
    | int j =>
      cases re_int_inv r1; cases re_int_inv r2
      exact op_add pins s σ H _ _ _ _ Q I rv ru ⟨i, j, rfl, rfl, q _ _ _ _ (re_int _) sa .refl w⟩
    | _ => exact w.elim
  | str i =>
    cases y with
    | str j =>
      obtain ⟨rfl, g1⟩ := re_str_inv r1
      obtain ⟨rfl, g2⟩ := re_str_inv r2
      exact op_add_str pins s σ H _ _ _ _ Q I rv ru ⟨i, j, rfl, rfl, w.1, q _ _ _ _ (re_str ⟨by rw [Str.length_append]; exact w.1, strOk_append g1.2 g2.2⟩ _) sa .refl w.2⟩
    | _ => exact w.elim
  | tup xs =>
    cases y with
    | tup ys =>
      obtain ⟨p, vs, rfl, s1, l1⟩ := re_tup_inv r1
      obtain ⟨p2, us, rfl, s2, l2⟩ := re_tup_inv r2
      refine op_catS pins s σ H _ _ _ _ Q I rv ru ⟨p, p2, vs, us, rfl, rfl, s1, s2, by rw [← l1.length, ← l2.length]; exact w.1, fun e => ?_, fun _ e => ?_, fun _ _ => ql_tup q sa (l1.append l2) w.2⟩
      · subst e
        have := l1.length
        have e2 : xs = [] := by cases xs with | nil => rfl | cons _ _ => simp at this
        subst e2
        exact q _ _ _ _ r2 sa .refl w.2
      · subst e
        have := l2.length
        have e2 : ys = [] := by cases ys with | nil => rfl | cons _ _ => simp at this
        subst e2
        exact q _ _ _ _ r1 sa .refl (by have := w.2; rwa [List.append_nil] at this)
    | _ => exact w.elim
  | ref p =>
    cases y with
    | ref p2 =>
      cases re_ref_inv r1; cases re_ref_inv r2
      obtain ⟨xs, h1, w⟩ := lstA_of w
      obtain ⟨ys, h2, w⟩ := lstA_of w
      obtain ⟨vs, g1, l1⟩ := sa _ _ h1
      obtain ⟨us, g2, l2⟩ := sa _ _ h2
      exact op_cat pins s σ H _ _ _ _ Q I rv ru ⟨p, p2, vs, us, rfl, rfl, g1, g2, by rw [← l1.length, ← l2.length]; exact w.1, ql_lst q sa (l1.append l2) w.2⟩
    | _ => exact w.elim
  | _ => exact w.elim
/-- two ints -/
def fI (C : Int → Int → Prop) (g : Int → Int → Vl) : F2 := fun x y A Q => match x, y with
  | .int i, .int j => C i j ∧ Q (g i j) A
  | _, _ => False
theorem o_I {fn : Value → Value → Sem Value} {C : Int → Int → Prop} {g : Int → Int → Vl} {gv : Int → Int → V} (h : OpR X fn (rI C gv)) (r : ∀ i j H, Re X.K H (g i j) (gv i j)) : O2 X fn (fI C g) := by
  intro pins s σ H v u vv uu Q I rv ru ⟨x, y, A, Qa, r1, r2, sa, q, w⟩
  cases x with
  | int i =>
    cases y with
    | int j =>
      cases re_int_inv r1; cases re_int_inv r2
      exact h pins s σ H _ _ _ _ Q I rv ru ⟨i, j, rfl, rfl, w.1, q _ _ _ _ (r i j _) sa .refl w.2⟩
    | _ => exact w.elim
  | _ => exact w.elim
theorem o_I0 {fn : Value → Value → Sem Value} {g : Int → Int → Vl} {gv : Int → Int → V} (h : OpR X fn (rI0 gv)) (r : ∀ i j H, Re X.K H (g i j) (gv i j)) : O2 X fn (fI (fun _ _ => True) g) := by
  intro pins s σ H v u vv uu Q I rv ru ⟨x, y, A, Qa, r1, r2, sa, q, w⟩
  cases x with
  | int i =>
    cases y with
    | int j =>
      cases re_int_inv r1; cases re_int_inv r2
      exact h pins s σ H _ _ _ _ Q I rv ru ⟨i, j, rfl, rfl, q _ _ _ _ (r i j _) sa .refl w.2⟩
    | _ => exact w.elim
  | _ => exact w.elim
def fSub : F2 := fI (fun _ _ => True) fun i j => .int (i - j)
theorem o_sub : O2 X (binaryOp .Sub) fSub := o_I0 op_sub fun _ _ H => re_int H
def fMod : F2 := fI (fun _ j => 0 < j) fun i j => .int (i % j)
theorem o_mod : O2 X (binaryOp .Mod) fMod := o_I op_mod fun _ _ H => re_int H
def fDiv : F2 := fI CDiv fun i j => .int (i / j)
theorem o_div : O2 X (binaryOp .FloorDiv) fDiv := o_I op_fdiv fun _ _ H => re_int H
def fPow : F2 := fI CPow fun i j => .int (i ^ j.toNat)
theorem o_pow : O2 X (binaryOp .Pow) fPow := o_I op_pow fun _ _ H => re_int H
def fMul : F2 := fun x y A Q => match x, y with
  | .int i, .int j => CMul i j ∧ Q (.int (i * j)) A
  | .ref p, .int k => lstA A p fun xs => (0 ≤ k ∧ k < 2 ^ 63 ∧ xs.length * k.toNat ≤ sizeLine) ∧ ∀ r, A r = none → Q (.ref r) (put A r (.lst (List.replicate k.toNat xs).flatten))
  | _, _ => False
theorem Rl.rep {H : Hp} {xs : List Vl} {vs : List V} (h : Rl K H xs vs) : ∀ k : Nat, Rl K H (List.replicate k xs).flatten (List.replicate k vs).flatten
  | 0 => by simp; exact .nil
  | k + 1 => by simpa [List.replicate_succ] using h.append (h.rep k)
/-! ### comparisons of ints and texts -/
def fLt : F2 := fun x y A Q => match x, y with
  | .int i, .int j => Q (.bl (decide (i < j))) A
  | .str s, .str t => Q (.bl (decide (s.cps.toList < t.cps.toList))) A
  | _, _ => False
def fLe : F2 := fun x y A Q => match x, y with
  | .int i, .int j => Q (.bl (decide (i ≤ j))) A
  | .str s, .str t => Q (.bl (!decide (t.cps.toList < s.cps.toList))) A
  | _, _ => False
def fGt : F2 := fun x y A Q => match x, y with
  | .int i, .int j => Q (.bl (decide (j < i))) A
  | .str s, .str t => Q (.bl (decide (t.cps.toList < s.cps.toList))) A
  | _, _ => False
def fGe : F2 := fun x y A Q => match x, y with
  | .int i, .int j => Q (.bl (decide (j ≤ i))) A
  | .str s, .str t => Q (.bl (!decide (s.cps.toList < t.cps.toList))) A
  | _, _ => False
theorem o_lt : O2 X (compareOp .Lt) fLt := by
  intro pins s σ H v u vv uu Q I rv ru ⟨x, y, A, Qa, r1, r2, sa, q, w⟩
  cases x <;> cases y <;> first
    | exact w.elim
    | (cases re_int_inv r1; cases re_int_inv r2; exact op_lt pins s σ H _ _ _ _ Q I rv ru ⟨_, _, rfl, rfl, q _ _ _ _ (re_bl _) sa .refl w⟩)
    | (obtain ⟨rfl, _⟩ := re_str_inv r1; obtain ⟨rfl, _⟩ := re_str_inv r2; exact op_lt_str pins s σ H _ _ _ _ Q I rv ru ⟨_, _, rfl, rfl, q _ _ _ _ (re_bl _) sa .refl w⟩)
theorem o_le : O2 X (compareOp .LtE) fLe := by
  intro pins s σ H v u vv uu Q I rv ru ⟨x, y, A, Qa, r1, r2, sa, q, w⟩
  cases x <;> cases y <;> first
    | exact w.elim
    | (cases re_int_inv r1; cases re_int_inv r2; exact op_le pins s σ H _ _ _ _ Q I rv ru ⟨_, _, rfl, rfl, q _ _ _ _ (re_bl _) sa .refl w⟩)
    | (obtain ⟨rfl, _⟩ := re_str_inv r1; obtain ⟨rfl, _⟩ := re_str_inv r2; exact op_le_str pins s σ H _ _ _ _ Q I rv ru ⟨_, _, rfl, rfl, q _ _ _ _ (re_bl _) sa .refl w⟩)
theorem o_gt : O2 X (compareOp .Gt) fGt := by
  intro pins s σ H v u vv uu Q I rv ru ⟨x, y, A, Qa, r1, r2, sa, q, w⟩
  cases x <;> cases y <;> first
    | exact w.elim
    | (cases re_int_inv r1; cases re_int_inv r2; exact op_gt pins s σ H _ _ _ _ Q I rv ru ⟨_, _, rfl, rfl, q _ _ _ _ (re_bl _) sa .refl w⟩)
    | (obtain ⟨rfl, _⟩ := re_str_inv r1; obtain ⟨rfl, _⟩ := re_str_inv r2; exact op_gt_str pins s σ H _ _ _ _ Q I rv ru ⟨_, _, rfl, rfl, q _ _ _ _ (re_bl _) sa .refl w⟩)
theorem o_ge : O2 X (compareOp .GtE) fGe := by
  intro pins s σ H v u vv uu Q I rv ru ⟨x, y, A, Qa, r1, r2, sa, q, w⟩
  cases x <;> cases y <;> first
    | exact w.elim
    | (cases re_int_inv r1; cases re_int_inv r2; exact op_ge pins s σ H _ _ _ _ Q I rv ru ⟨_, _, rfl, rfl, q _ _ _ _ (re_bl _) sa .refl w⟩)
    | (obtain ⟨rfl, _⟩ := re_str_inv r1; obtain ⟨rfl, _⟩ := re_str_inv r2; exact op_ge_str pins s σ H _ _ _ _ Q I rv ru ⟨_, _, rfl, rfl, q _ _ _ _ (re_bl _) sa .refl w⟩)
theorem o_mul : O2 X (binaryOp .Mult) fMul := by
  intro pins s σ H v u vv uu Q I rv ru ⟨x, y, A, Qa, r1, r2, sa, q, w⟩
  cases x with
  | int i =>
    cases y with
    | int j =>
      cases re_int_inv r1; cases re_int_inv r2
      exact op_mul pins s σ H _ _ _ _ Q I rv ru ⟨i, j, rfl, rfl, w.1, q _ _ _ _ (re_int _) sa .refl w.2⟩
    | _ => exact w.elim
  | ref p =>
    cases y with
    | int k =>
      cases re_ref_inv r1; cases re_int_inv r2
      obtain ⟨xs, h1, ⟨k0, k1, hz⟩, w⟩ := lstA_of w
      obtain ⟨vs, g1, l1⟩ := sa _ _ h1
      exact op_rep pins s σ H _ _ _ _ Q I rv ru ⟨p, k, vs, rfl, rfl, g1, by omega, k1, by rw [← l1.length]; exact hz, ql_lst q sa (l1.rep _) w⟩
    | _ => exact w.elim
  | _ => exact w.elim
/-! ### is None -/
def isNon : Vl → Bool
  | .non => true
  | _ => false
def fIsN (neg : Bool) : F2 := fun x y A Q => match y with
  | .non => Q (.bl (neg != isNon x)) A
  | _ => False
theorem is_non {H : Hp} {x : Vl} {v : V} (r : Re K H x v) : decide (v = V.non) = isNon x := by
  cases x <;> first
    | (cases re_non_inv r; rfl)
    | (cases re_bl_inv r; rfl)
    | (cases re_int_inv r; rfl)
    | (cases re_ref_inv r; rfl)
    | (cases re_ty_inv r; rfl)
    | (obtain ⟨rfl, _⟩ := re_str_inv r; rfl)
    | (obtain ⟨p, vs, rfl, _⟩ := re_tup_inv r; rfl)
theorem o_is : O2 X (compareOp .Is) (fIsN false) := by
  intro pins s σ H v u vv uu Q I rv ru ⟨x, y, A, Qa, r1, r2, sa, q, w⟩
  cases y with
  | non =>
    cases re_non_inv r2
    refine op_isN pins s σ H _ _ _ _ Q I rv ru ⟨rfl, q _ _ _ _ (re_bl _) sa .refl ?_⟩
    rw [is_non r1]
    simpa [fIsN] using w
  | _ => exact w.elim
theorem o_isnot : O2 X (compareOp .IsNot) (fIsN true) := by
  intro pins s σ H v u vv uu Q I rv ru ⟨x, y, A, Qa, r1, r2, sa, q, w⟩
  cases y with
  | non =>
    cases re_non_inv r2
    refine op_notN pins s σ H _ _ _ _ Q I rv ru ⟨rfl, q _ _ _ _ (re_bl _) sa .refl ?_⟩
    rw [is_non r1]
    simpa [fIsN] using w
  | _ => exact w.elim
/-! ### unary minus -/
def fNeg : Vl → Ah → QE → Prop := fun x A Q => match x with
  | .int i => Q (.int (-i)) A
  | _ => False
theorem s_neg : Sim1 K (rU fun i => V.int (-i)) fNeg := fun {x v A H Q Qa} r sa q w => by
  cases x with
  | int i => cases re_int_inv r; exact ⟨i, rfl, q _ _ _ _ (re_int _) sa .refl w⟩
  | _ => exact w.elim
/-! ### subscripts -/
abbrev OI (X : Cx) (f : F2) : Prop := IxR X (R2of X.K f)
def fIx : F2 := fun x y A Q => match x, y with
  | .tup xs, .int i => ∃ z, atI xs i = some z ∧ Q z A
  | .ref p, .int i => seqA A p fun xs => ∃ z, atI xs i = some z ∧ Q z A
  | .str s, .int i => ∃ c, atI s.cps.toList i = some c ∧ Q (.str ⟨#[c]⟩) A
  | _, _ => False
theorem Rl.atI {H : Hp} {xs : List Vl} {vs : List V} {i : Int} {z : Vl} (h : Rl K H xs vs) (e : L2.atI xs i = some z) : ∃ v, L2.atI vs i = some v ∧ Re K H z v := by
  unfold L2.atI at e ⊢
  rw [← h.length]
  cases hi : ixN xs.length i with
  | none => rw [hi] at e; cases e
  | some j =>
    rw [hi] at e
    exact h.get (i := j) e
theorem o_ix : OI X fIx := by
  intro va sl pins s σ H v u vv uu Q I rv ru ⟨x, y, A, Qa, r1, r2, sa, q, w⟩ hs
  cases x with
  | tup xs =>
    cases y with
    | int i =>
      cases re_int_inv r2
      obtain ⟨p, vs, rfl, st, rl⟩ := re_tup_inv r1
      obtain ⟨z, hz, w⟩ := w
      obtain ⟨t, ht, rt⟩ := rl.atI hz
      exact ix_tup va sl pins s σ H _ _ _ _ Q I rv ru ⟨p, vs, i, t, rfl, rfl, st, ht, q _ _ _ _ rt sa .refl w⟩ hs
    | _ => exact w.elim
  | ref p =>
    cases y with
    | int i =>
      cases re_int_inv r2; cases re_ref_inv r1
      obtain ⟨xs, vs, sq, rl, z, hz, w⟩ := seqA_of sa w
      obtain ⟨t, ht, rt⟩ := rl.atI hz
      exact ix_list va sl pins s σ H _ _ _ _ Q I rv ru ⟨p, vs, i, t, rfl, rfl, sq, ht, q _ _ _ _ rt sa .refl w⟩ hs
    | _ => exact w.elim
  | str z =>
    cases y with
    | int i =>
      cases re_int_inv r2
      obtain ⟨rfl, g⟩ := re_str_inv r1
      obtain ⟨k, hk, w⟩ := w
      refine ix_str va sl pins s σ H _ _ _ _ Q I rv ru ⟨z, i, k, rfl, rfl, g.1, hk, q _ _ _ _ (re_str (okS_sign g ?_) _) sa .refl w⟩ hs
      unfold L2.atI at hk
      cases hi : ixN z.cps.toList.length i with
      | none => rw [hi] at hk; cases hk
      | some j => rw [hi] at hk; exact List.mem_of_getElem? hk
    | _ => exact w.elim
  | _ => exact w.elim
/-- xs[i] = z -/
def fSet : F3 := fun x y z A Q => match x, y with
  | .ref p, .int k => lstA A p fun xs => ∃ j, ixN xs.length k = some j ∧ Q (put A p (.lst (xs.set j z)))
  | _, _ => False
theorem s_set : Sim3 K rSetL fSet := fun {x y z o i v A H Q Qa} r1 r2 r3 sa q w => by
  cases x with
  | ref p =>
    cases y with
    | int k =>
      cases re_int_inv r2; cases re_ref_inv r1
      obtain ⟨xs, h1, j, hj, w⟩ := lstA_of w
      obtain ⟨vs, g1, l1⟩ := sa _ _ h1
      obtain ⟨s2, k2⟩ := ql_wr sa g1 (l1.set r3 j)
      exact ⟨p, vs, k, j, rfl, rfl, g1, by rw [← l1.length]; exact hj, q _ _ s2 k2 w⟩
    | _ => exact w.elim
  | _ => exact w.elim
end
end Rk

set_option Elab.async false
set_option linter.all false
set_option maxRecDepth 100000
set_option maxHeartbeats 400000
namespace Rk
open PySem PySem.Spec PyProof.Rows L2
/-! ### values as data -/
def dats (f : Vl → Option PyData) : List Vl → Option (List PyData)
  | [] => some []
  | x :: xs => match f x, dats f xs with
    | some d, some ds => some (d :: ds)
    | _, _ => none
def datR (f : List Vl → Option (List PyData)) : Option Ob → Option PyData
  | some (.lst xs) => (f xs).map .list
  | some (.rol xs) => (f xs).map .list
  | some (.dct []) => some (.dict [])
  | _ => none
def dat : Nat → Ah → Vl → Option PyData
  | 0, _, _ => none
  | n + 1, A, v => match v with
    | .non => some .none
    | .bl b => some (.bool b)
    | .int i => some (.int i)
    | .str s => some (.str s)
    | .tup xs => (dats (dat n A) xs).map .tuple
    | .ref p => datR (dats (dat n A)) (A p)
    | .ty _ => none
/-! what stands there as data, empty dicts too -/
mutual
inductive Dq (K : PySem.W.Frag) (H : Hp) : Nat → V → PyData → Prop
  | non {n : Nat} : Dq K H n .non .none
  | bl {n : Nat} (b : Bool) : Dq K H n (.bl b) (.bool b)
  | int {n : Nat} (i : Int) : Dq K H n (.int i) (.int i)
  | str {n : Nat} (x : Str) : PyData.strOk x = true → Dq K H n (.str x) (.str x)
  | lst {n : Nat} {a : Addr} {xs : List V} {ds : List PyData} : SqL K H a xs → Dqs K H n xs ds → Dq K H (n + 1) (.ref a) (.list ds)
  | tup {n : Nat} {a : Addr} {xs : List V} {ds : List PyData} : SqT K H a xs → Dqs K H n xs ds → Dq K H (n + 1) (.ref a) (.tuple ds)
  | dct {n : Nat} {a : Addr} : (H a = some (.dK []) ∨ H a = some (.dT [])) → Dq K H (n + 1) (.ref a) (.dict [])
inductive Dqs (K : PySem.W.Frag) (H : Hp) : Nat → List V → List PyData → Prop
  | nil {n : Nat} : Dqs K H n [] []
  | cons {n : Nat} {v : V} {vs : List V} {d : PyData} {ds : List PyData} : Dq K H n v d → Dqs K H n vs ds → Dqs K H n (v :: vs) (d :: ds)
end
mutual
/-- no list within -/
def noList : PyData → Bool
  | .list _ => false
  | .tuple ds => noLists ds
  | _ => true
def noLists : List PyData → Bool
  | [] => true
  | d :: ds => noList d && noLists ds
end
section
variable {K : PySem.W.Frag} {A : Ah} {H : Hp}
theorem dats_ok {n : Nat} {f : Vl → Option PyData} (hf : ∀ x d v, f x = some d → Re K H x v → Dq K H n v d) : ∀ {xs : List Vl} {ds : List PyData} {vs : List V}, dats f xs = some ds → Rl K H xs vs → Dqs K H n vs ds
  | [], _, _, e, r => by cases e; rw [r.nil_inv]; exact .nil
  | x :: xs, _, _, e, r => by
    obtain ⟨v, ws, rfl, r1, r2⟩ := r.cons_inv
    unfold dats at e
    split at e
    · rename_i d ds h1 h2
      cases e
      exact .cons (hf _ _ _ h1 r1) (dats_ok hf h2 r2)
    · cases e
theorem dat_ok (sa : SA K A H) : ∀ {n : Nat} {x : Vl} {d : PyData} {v : V}, dat n A x = some d → Re K H x v → Dq K H n v d
  | 0, _, _, _, e, _ => by cases e
  | n + 1, x, d, v, e, r => by
    cases x with
    | non => cases e; cases re_non_inv r; exact .non
    | bl b => cases e; cases re_bl_inv r; exact .bl b
    | int i => cases e; cases re_int_inv r; exact .int i
    | str s => cases e; obtain ⟨rfl, g⟩ := re_str_inv r; exact .str s g.2
    | ty n => cases e
    | tup xs =>
      obtain ⟨p, vs, rfl, st, rl⟩ := re_tup_inv r
      have e : (dats (dat n A) xs).map .tuple = some d := e
      cases h : dats (dat n A) xs with
      | none => rw [h] at e; cases e
      | some ds =>
        rw [h] at e; cases e
        exact .tup st (dats_ok (fun _ _ _ a b => dat_ok sa a b) h rl)
    | ref p =>
      cases re_ref_inv r
      have e : datR (dats (dat n A)) (A p) = some d := e
      unfold datR at e
      split at e
      · rename_i xs hp
        obtain ⟨vs, hv, rl⟩ := sa _ _ hp
        cases h : dats (dat n A) xs with
        | none => rw [h] at e; cases e
        | some ds => rw [h] at e; cases e; exact .lst (.of hv) (dats_ok (fun _ _ _ a b => dat_ok sa a b) h rl)
      · rename_i xs hp
        obtain ⟨vs, hv, rl⟩ := sa _ _ hp
        cases h : dats (dat n A) xs with
        | none => rw [h] at e; cases e
        | some ds => rw [h] at e; cases e; exact .lst (.inl hv) (dats_ok (fun _ _ _ a b => dat_ok sa a b) h rl)
      · rename_i hp
        cases e
        obtain ⟨o, ho, dc⟩ := sa _ _ hp
        rcases dc with ⟨kk, rfl, r⟩ | ⟨kk, rfl, r⟩
        · have : kk = [] := r
          subst this
          exact .dct (.inl ho)
        · have : kk = [] := r
          subst this
          exact .dct (.inr ho)
      · cases e
end
mutual
theorem Dq.depth {K : PySem.W.Frag} {H : Hp} : ∀ (d : PyData) (n : Nat) (v : V), Dq K H n v d → d.depth ≤ n
  | .none, _, _, _ => by simp [PyData.depth]
  | .bool _, _, _, _ => by simp [PyData.depth]
  | .int _, _, _, _ => by simp [PyData.depth]
  | .str _, _, _, _ => by simp [PyData.depth]
  | .list ds, _, _, h => by cases h with | lst _ hp => simp only [PyData.depth]; exact Nat.succ_le_succ (Dq.depthAll ds _ _ hp)
  | .tuple ds, _, _, h => by cases h with | tup _ hp => simp only [PyData.depth]; exact Nat.succ_le_succ (Dq.depthAll ds _ _ hp)
  | .dict _, _, _, h => by cases h; simp [PyData.depth, PyData.depthKv]
theorem Dq.depthAll {K : PySem.W.Frag} {H : Hp} : ∀ (ds : List PyData) (n : Nat) (vs : List V), Dqs K H n vs ds → PyData.depthAll ds ≤ n
  | [], _, _, _ => by simp [PyData.depthAll]
  | d :: ds, n, _, h => by cases h with | cons h1 h2 => simp only [PyData.depthAll]; exact Nat.max_le.mpr ⟨Dq.depth d n _ h1, Dq.depthAll ds n _ h2⟩
end
mutual
theorem Dq.lay {K : PySem.W.Frag} {H : Hp} : ∀ (d : PyData) (n : Nat) (v : V), Dq K H n v d → d.hasDict = false → d.canLay0 = true
  | .none, _, _, _, _ => by simp [PyData.canLay0]
  | .bool _, _, _, _, _ => by simp [PyData.canLay0]
  | .int _, _, _, _, _ => by simp [PyData.canLay0]
  | .str _, _, _, h, _ => by cases h with | str _ g => simpa [PyData.canLay0] using g
  | .list ds, _, _, h, e => by cases h with | lst _ hp => simp only [PyData.canLay0]; exact Dq.layAll ds _ _ hp (by simpa [PyData.hasDict] using e)
  | .tuple ds, _, _, h, e => by cases h with | tup _ hp => simp only [PyData.canLay0]; exact Dq.layAll ds _ _ hp (by simpa [PyData.hasDict] using e)
  | .dict _, _, _, _, e => by simp [PyData.hasDict] at e
theorem Dq.layAll {K : PySem.W.Frag} {H : Hp} : ∀ (ds : List PyData) (n : Nat) (vs : List V), Dqs K H n vs ds → PyData.hasDictAll ds = false → PyData.canLayAll0 ds = true
  | [], _, _, _, _ => by simp [PyData.canLayAll0]
  | d :: ds, n, _, h, e => by
    cases h with
    | cons h1 h2 =>
      simp only [PyData.hasDictAll, Bool.or_eq_false_iff] at e
      simp only [PyData.canLayAll0, Bool.and_eq_true]
      exact ⟨Dq.lay d n _ h1 e.1, Dq.layAll ds n _ h2 e.2⟩
end
section
variable {X : Cx} {pins : List (Addr × Obj)} {σ : L2.St} {H : Hp} {s : Shared}
mutual
theorem Dq.reads (I : Inv X pins σ H s) : ∀ (d : PyData) (n : Nat) (v : V) (u : Value), Dq X.K H n v d → RelV v u → ∃ as, Reads s.heap u d as ∧ (noList d = true → sysModules ∉ as)
  | .none, _, _, _, h, r => by cases h; cases r; exact ⟨_, Reads.none, by simp⟩
  | .bool b, _, _, _, h, r => by cases h; cases r; exact ⟨_, Reads.bool b, by simp⟩
  | .int i, _, _, _, h, r => by cases h; obtain ⟨t, rfl⟩ := r; exact ⟨_, Reads.int i t, by simp⟩
  | .str x, _, _, _, h, r => by cases h; obtain ⟨t, rfl⟩ := r; exact ⟨_, Reads.str x t, by simp⟩
  | .list ds, _, _, _, h, r => by
    cases h with
    | lst hs ha =>
      cases r
      obtain ⟨its, rv, ⟨o, n, ho, hc, _, hd⟩, _⟩ := I.list hs
      obtain ⟨as, hr, hno⟩ := Dq.readsAll I ds _ _ its ha rv
      exact ⟨_, Reads.list ho hc hd hr, fun z => by unfold noList at z; cases z⟩
  | .tuple ds, _, _, _, h, r => by
    cases h with
    | tup hs ha =>
      cases r
      obtain ⟨its, rv, ⟨o, ho, hc, n, hd⟩, _⟩ := I.tuple hs
      obtain ⟨as, hr, hno⟩ := Dq.readsAll I ds _ _ its ha rv
      exact ⟨_, Reads.tuple ho hc hd hr, fun z => hno (by unfold noList at z; exact z)⟩
  | .dict _, _, _, _, h, r => by
    cases h with
    | dct hk =>
      cases r
      rcases hk with hk | hk
      · obtain ⟨_, hm, vs, kv, o, es, ep, ho, hc, hd, _, he, _⟩ := I.hok _ _ hk
        cases kv
        have e0 : es.toList = [] := by
          cases hz : es.toList with
          | nil => rfl
          | cons a b => rw [hz] at he; cases he
        refine ⟨_, Reads.dict ho hc.1 hd (by rw [e0]; exact ReadsAll.nil) (by rw [e0]; exact ReadsAll.nil), fun _ => by simpa using fun z => (beq_eq_false_iff_ne.mp hm) z.symm⟩
      · obtain ⟨_, hm, xs, kv, o, es, ep, ho, hc, hd, he, _⟩ := I.hok _ _ hk
        cases kv
        have e0 : es.toList = [] := he
        refine ⟨_, Reads.dict ho hc.1 hd (by rw [e0]; exact ReadsAll.nil) (by rw [e0]; exact ReadsAll.nil), fun _ => by simpa using fun z => (beq_eq_false_iff_ne.mp hm) z.symm⟩
theorem Dq.readsAll (I : Inv X pins σ H s) : ∀ (ds : List PyData) (n : Nat) (vs : List V) (us : List Value), Dqs X.K H n vs ds → Vals vs us → ∃ as, ReadsAll s.heap us ds as ∧ (noLists ds = true → sysModules ∉ as)
  | [], _, _, _, h, r => by cases h; cases r; exact ⟨_, ReadsAll.nil, by simp⟩
  | d :: ds, _, _, _, h, r => by
    cases h with
    | cons h1 h2 =>
      cases r with
      | cons r1 r2 =>
        obtain ⟨as, q1, n1⟩ := Dq.reads I d _ _ _ h1 r1
        obtain ⟨bs, q2, n2⟩ := Dq.readsAll I ds _ _ _ h2 r2
        refine ⟨_, ReadsAll.cons q1 q2, fun z => ?_⟩
        unfold noLists at z
        rw [Bool.and_eq_true] at z
        rw [List.mem_append]
        exact fun h => h.elim (n1 z.1) (n2 z.2)
end
/-! ### == and != -/
def fEq (neg : Bool) : F2 := fun x y A Q => ∃ d e, dat 12 A x = some d ∧ dat 12 A y = some e ∧ d.hasDict = false ∧ e.hasDict = false ∧ Q (.bl (neg != PyData.eqv d e)) A
theorem shaped_of {K : PySem.W.Frag} {H : Hp} {d : PyData} {v : V} (h : Dq K H 12 v d) (e : d.hasDict = false) : SeqAt.shaped d = true := by
  unfold SeqAt.shaped
  rw [Dq.lay d _ _ h e, Bool.true_and]
  have := Dq.depth d _ _ h
  exact decide_eq_true (by omega)
theorem o_eq (hu : X.A.units + 64 < cLine) : O2 X (compareOp .Eq) (fEq false) := by
  intro pins s σ H v u vv uu Q I rv ru ⟨x, y, A, Qa, r1, r2, sa, q, d, e, hd, he, nd, ne, w⟩
  have h1 := dat_ok sa hd r1
  have h2 := dat_ok sa he r2
  obtain ⟨as, k1, _⟩ := Dq.reads I d _ _ _ h1 rv
  obtain ⟨bs, k2, _⟩ := Dq.reads I e _ _ _ h2 ru
  exact SeqAt.compareEq_shaped k1 k2 (shaped_of h1 nd) (shaped_of h2 ne) hu ⟨.bl _, H, I, rfl, q _ _ _ _ (re_bl _) sa .refl (by simpa using w)⟩
theorem o_ne (hu : X.A.units + 64 < cLine) : O2 X (compareOp .NotEq) (fEq true) := by
  intro pins s σ H v u vv uu Q I rv ru ⟨x, y, A, Qa, r1, r2, sa, q, d, e, hd, he, nd, ne, w⟩
  have h1 := dat_ok sa hd r1
  have h2 := dat_ok sa he r2
  obtain ⟨as, k1, _⟩ := Dq.reads I d _ _ _ h1 rv
  obtain ⟨bs, k2, _⟩ := Dq.reads I e _ _ _ h2 ru
  exact SeqAt.compareNe_shaped k1 k2 (shaped_of h1 nd) (shaped_of h2 ne) hu ⟨.bl _, H, I, rfl, q _ _ _ _ (re_bl _) sa .refl (by simpa using w)⟩
/-! ### repr -/
def fRepr : FC := fun xs A Q => ∃ x d, xs = [x] ∧ dat 12 A x = some d ∧ (d.hasDict = false ∨ noList d = true) ∧ d.showable = true ∧ okS d.shown ∧ Q (.str d.shown) A
theorem o_repr (hg : X.A.guards = some []) (hu : X.A.units + 64 < cLine) : OC X (.builtin "repr") fRepr := by
  intro pins s σ H vs us Q I r ⟨xs, A, Qa, rl, sa, q, x, d, hx, hd, hl, hs, hz, w⟩
  subst hx
  obtain ⟨v, rfl, rx⟩ := rl.one
  obtain ⟨u, rfl, ru⟩ := vals1 r
  have h1 := dat_ok sa hd rx
  obtain ⟨as, k1, hno⟩ := Dq.reads I d _ _ _ h1 ru
  have dp := Dq.depth d _ _ h1
  have qq : ∀ (h' : Heap) (t : Tok) (tk : Nat), (∀ b o, s.heap.get? b = some o → h'.get? b = some o) → EP X pins σ Q (.str d.shown t) { s with heap := h', toks := tk } := fun h' t tk hk =>
    ⟨.str _, H, I.kept (t' := tk) hk, ⟨_, rfl⟩, q _ _ _ _ (re_str hz _) sa .refl w⟩
  cases u with
  | ref a =>
    refine repr_of_reads' k1 hs (fun z => ?_) hg (by omega) (fun _ _ h => h) (fun h' t tk hk => qq h' t tk hk) hz.1
    rcases hl with e | e
    · rw [e] at z; cases z
    · exact hno e
  | none => cases k1; exact PySem.P.repr_of_none (qq s.heap _ _ fun _ _ h => h)
  | bool b => cases k1; exact PySem.P.repr_of_bool (qq s.heap _ _ fun _ _ h => h)
  | int i t => cases k1; exact PySem.P.repr_of_int (by simpa [PyData.showable] using hs) (qq s.heap _ _ fun _ _ h => h)
  | str x t => cases k1; exact PySem.P.repr_of_str (qq s.heap _ _ fun _ _ h => h) hz.1
  | _ => cases k1
end
end Rk

set_option Elab.async false
set_option linter.all false
set_option maxRecDepth 100000
set_option maxHeartbeats 400000
namespace Rk
open PySem PySem.Spec PyProof.Rows L2
section
variable {X : Cx} {W : WX} {a b c e o tg iter : Expr} {es : List Expr} {pos : Pos} {K : PySem.W.Frag}
/-! ### built-ins by plain values -/
def lenA (A : Ah) (x : Vl) (P : Int → Prop) : Prop := match x with
  | .str s => P s.length
  | .tup xs => P xs.length
  | .ref p => (match A p with
    | some (.lst xs) => P xs.length
    | some (.rol xs) => P xs.length
    | _ => False)
  | _ => False
def fLen : FC := fun xs A Q => match xs with
  | [x] => lenA A x fun n => Q (.int n) A
  | _ => False
theorem fc1 {f : Vl → Ah → QE → Prop} {xs : List Vl} {A : Ah} {Q : QE} (h : (match xs with | [x] => f x A Q | _ => False)) : ∃ x, xs = [x] ∧ f x A Q := by
  split at h
  · exact ⟨_, rfl, h⟩
  · exact h.elim
theorem o_len : OC X (.builtin "len") fLen := by
  intro pins s σ H vs us Q I r ⟨xs, A, Qa, rl, sa, q, w⟩
  obtain ⟨x, rfl, w⟩ := fc1 (f := fun x A Q => lenA A x fun n => Q (.int n) A) w
  obtain ⟨v, rfl, rx⟩ := rl.one
  cases x with
  | str z =>
    obtain ⟨rfl, g⟩ := re_str_inv rx
    exact call_len pins s σ H _ us Q I r ⟨.str z, z.length, rfl, ⟨g.1, rfl⟩, q _ _ _ _ (re_int _) sa .refl w⟩
  | tup ys =>
    obtain ⟨p, ws, rfl, st, l⟩ := re_tup_inv rx
    exact call_len pins s σ H _ us Q I r ⟨.ref p, ws.length, rfl, .inr ⟨ws, st, rfl⟩, q _ _ _ _ (re_int _) sa .refl (by rw [← l.length]; exact w)⟩
  | ref p =>
    cases re_ref_inv rx
    have w : (match A p with
      | some (.lst xs) => Qa (.int xs.length) A
      | some (.rol xs) => Qa (.int xs.length) A
      | _ => False) := w
    split at w
    · rename_i ys he
      obtain ⟨ws, hv, l⟩ := sa _ _ he
      exact call_len pins s σ H _ us Q I r ⟨.ref p, ws.length, rfl, .inl ⟨ws, .of hv, rfl⟩, q _ _ _ _ (re_int _) sa .refl (by rw [← l.length]; exact w)⟩
    · rename_i ys he
      obtain ⟨ws, hv, l⟩ := sa _ _ he
      exact call_len pins s σ H _ us Q I r ⟨.ref p, ws.length, rfl, .inl ⟨ws, .inl hv, rfl⟩, q _ _ _ _ (re_int _) sa .refl (by rw [← l.length]; exact w)⟩
    · exact w.elim
  | _ => exact w.elim
def fAbs : FC := fun xs A Q => ∃ n, int1 xs = some n ∧ Q (.int (if n < 0 then -n else n)) A
theorem o_abs : OC X (.builtin "abs") fAbs := by
  intro pins s σ H vs us Q I r ⟨xs, A, Qa, rl, sa, q, n, e, w⟩
  rw [int1_of e] at rl
  obtain ⟨v, rfl, rx⟩ := rl.one
  cases re_int_inv rx
  exact call_abs pins s σ H _ us Q I r ⟨n, rfl, q _ _ _ _ (re_int _) sa .refl w⟩
/-- two ints -/
def fC2 (g : Int → Int → Int) : FC := fun xs A Q => ∃ m n, int2 xs = some (m, n) ∧ Q (.int (g m n)) A
def fMax : FC := fC2 fun i j => if j > i then j else i
def fMin : FC := fC2 fun i j => if j < i then j else i
theorem o_max (hc : X.calm = true) : OC X (.builtin "max") fMax := by
  intro pins s σ H vs us Q I r ⟨xs, A, Qa, rl, sa, q, m, n, e, w⟩
  rw [int2_of e] at rl
  obtain ⟨v, u, rfl, rx, ry⟩ := rl.two
  cases re_int_inv rx; cases re_int_inv ry
  exact call_max2 hc pins s σ H _ us Q I r ⟨m, n, rfl, q _ _ _ _ (re_int _) sa .refl w⟩
theorem o_min (hc : X.calm = true) : OC X (.builtin "min") fMin := by
  intro pins s σ H vs us Q I r ⟨xs, A, Qa, rl, sa, q, m, n, e, w⟩
  rw [int2_of e] at rl
  obtain ⟨v, u, rfl, rx, ry⟩ := rl.two
  cases re_int_inv rx; cases re_int_inv ry
  exact call_min2 hc pins s σ H _ us Q I r ⟨m, n, rfl, q _ _ _ _ (re_int _) sa .refl w⟩
def fDivmod : FC := fun xs A Q => ∃ m n, int2 xs = some (m, n) ∧ CDiv m n ∧ Q (.tup [.int (m / n), .int (m % n)]) A
theorem o_divmod : OC X (.builtin "divmod") fDivmod := by
  intro pins s σ H vs us Q I r ⟨xs, A, Qa, rl, sa, q, m, n, e, hc, w⟩
  rw [int2_of e] at rl
  obtain ⟨v, u, rfl, rx, ry⟩ := rl.two
  cases re_int_inv rx; cases re_int_inv ry
  exact call_divmodS pins s σ H _ us Q I r ⟨m, n, rfl, hc, ql_tup q sa (.cons (re_int _) (.cons (re_int _) .nil)) w⟩
/-- a list of bools -/
def bls (xs : List Vl) : Option (List Bool) := match xs with
  | [] => some []
  | .bl b :: r => (bls r).map (b :: ·)
  | _ => none
theorem bls_of {H : Hp} : ∀ {xs : List Vl} {bs : List Bool} {vs : List V}, bls xs = some bs → Rl K H xs vs → vs = bs.map V.bl
  | [], _, _, e, r => by cases e; rw [r.nil_inv]; rfl
  | x :: xs, bs, vs, e, r => by
    obtain ⟨v, ws, rfl, r1, r2⟩ := r.cons_inv
    cases x with
    | bl b =>
      have e : (bls xs).map (b :: ·) = some bs := e
      cases h : bls xs with
      | none => rw [h] at e; cases e
      | some cs => rw [h] at e; cases e; cases re_bl_inv r1; rw [bls_of h r2]; rfl
    | _ => cases e
def fAll : FC := fun xs A Q => match xs with
  | [.ref p] => seqA A p fun xs => ∃ bs, bls xs = some bs ∧ Q (.bl (bs.all id)) A
  | _ => False
def fAny : FC := fun xs A Q => match xs with
  | [.ref p] => seqA A p fun xs => ∃ bs, bls xs = some bs ∧ Q (.bl (bs.any id)) A
  | _ => False
theorem fc_ref {P : Addr → Prop} {xs : List Vl} (h : (match xs with | [.ref p] => P p | _ => False)) : ∃ p, xs = [.ref p] ∧ P p := by
  split at h
  · exact ⟨_, rfl, h⟩
  · exact h.elim
theorem o_all (hc : X.calm = true) : OC X (.builtin "all") fAll := by
  intro pins s σ H vs us Q I r ⟨xs, A, Qa, rl, sa, q, w⟩
  obtain ⟨p, rfl, w⟩ := fc_ref (P := fun p => seqA A p fun xs => ∃ bs, bls xs = some bs ∧ Qa (.bl (bs.all id)) A) w
  obtain ⟨v, rfl, rx⟩ := rl.one
  cases re_ref_inv rx
  obtain ⟨ys, ws, sq, l, bs, hb, w⟩ := seqA_of sa w
  rw [bls_of hb l] at sq
  exact cr_all hc pins s σ H _ us Q I r ⟨p, bs, rfl, sq, q _ _ _ _ (re_bl _) sa .refl w⟩
theorem o_any (hc : X.calm = true) : OC X (.builtin "any") fAny := by
  intro pins s σ H vs us Q I r ⟨xs, A, Qa, rl, sa, q, w⟩
  obtain ⟨p, rfl, w⟩ := fc_ref (P := fun p => seqA A p fun xs => ∃ bs, bls xs = some bs ∧ Qa (.bl (bs.any id)) A) w
  obtain ⟨v, rfl, rx⟩ := rl.one
  cases re_ref_inv rx
  obtain ⟨ys, ws, sq, l, bs, hb, w⟩ := seqA_of sa w
  rw [bls_of hb l] at sq
  exact cr_any hc pins s σ H _ us Q I r ⟨p, bs, rfl, sq, q _ _ _ _ (re_bl _) sa .refl w⟩
/-! ### isinstance of built-in classes -/
inductive Kd | non | bl | int | str | tup | lst | dct
  deriving DecidableEq
def Kd.n : Kd → String
  | .non => "NoneType" | .bl => "bool" | .int => "int" | .str => "str" | .tup => "tuple" | .lst => "list" | .dct => "dict"
def kdOf : String → Option Kd
  | "bool" => some .bl | "int" => some .int | "str" => some .str | "tuple" => some .tup | "list" => some .lst | "dict" => some .dct | _ => none
def Kd.sub : Kd → Kd → Bool
  | .bl, .int => true
  | a, b => decide (a = b)
theorem kit_kd : ∀ (x y : Kd), y ≠ .non → kitB x.n y.n = some (x.sub y) := by
  intro x y h
  cases x <;> cases y <;> first | exact absurd rfl h | decide +kernel
theorem kdOf_n {n : String} {y : Kd} (h : kdOf n = some y) : n = y.n ∧ y ≠ .non := by
  unfold kdOf at h
  split at h <;> cases h <;> exact ⟨rfl, by decide⟩
def kdR : Option Ob → Option Kd
  | some (.lst _) => some .lst
  | some (.rol _) => some .lst
  | some (.dct _) => some .dct
  | some (.lok _) => none
  | _ => none
def kd (A : Ah) : Vl → Option Kd
  | .non => some .non | .bl _ => some .bl | .int _ => some .int | .str _ => some .str | .tup _ => some .tup
  | .ref p => kdR (A p)
  | .ty _ => none
theorem kd_ok {A : Ah} {H : Hp} {x : Vl} {v : V} {y : Kd} (sa : SA K A H) (r : Re K H x v) (h : kd A x = some y) : TyX K H v (.type y.n) := by
  cases x with
  | non => cases h; cases re_non_inv r; exact .base .non
  | bl b => cases h; cases re_bl_inv r; exact .base (.bl b)
  | int b => cases h; cases re_int_inv r; exact .base (.int b)
  | str b => cases h; obtain ⟨rfl, _⟩ := re_str_inv r; exact .base (.str b)
  | ty n => cases h
  | tup xs =>
    cases h
    obtain ⟨p, vs, rfl, st, _⟩ := re_tup_inv r
    rcases st with (st | ⟨o, st⟩) | ⟨o, its, n, hk, hc, _⟩
    · exact .base (.tup st)
    · exact .fTuple st
    · exact .kTuple hk hc
  | ref p =>
    cases re_ref_inv r
    have h : kdR (A p) = some y := h
    unfold kdR at h
    split at h <;> cases h
    · rename_i he
      obtain ⟨vs, hv, _⟩ := sa _ _ he
      exact .base (.lst hv)
    · rename_i he
      obtain ⟨vs, hv, _⟩ := sa _ _ he
      rcases hv with hv | ⟨o, hv⟩
      · exact .base (.lst hv)
      · exact .base (.frz hv)
    · rename_i he
      obtain ⟨ob, ho, dc⟩ := sa _ _ he
      rcases dc with ⟨kk, rfl, _⟩ | ⟨kk, rfl, _⟩
      · exact .base (.dK ho)
      · exact .base (.dT ho)
def subAny (y : Kd) : List Vl → Option Bool
  | [] => some false
  | .ty n :: r => match kdOf n, subAny y r with
    | some z, some b => some (y.sub z || b)
    | _, _ => none
  | _ => none
def fIsi : FC := fun xs A Q => ∃ x y, kd A x = some y ∧ ((∃ n z, xs = [x, .ty n] ∧ kdOf n = some z ∧ Q (.bl (y.sub z)) A) ∨ ∃ cs k, xs = [x, .tup cs] ∧ subAny y cs = some k ∧ Q (.bl k) A)
theorem subAny_ok {H : Hp} {y : Kd} : ∀ {cs : List Vl} {vs : List V} {us : List Value} {k : Bool}, subAny y cs = some k → Rl K H cs vs → Vals vs us → PySem.W.kitAny K (.type y.n) us = some k
  | [], _, _, _, e, r, q => by cases e; have := r.nil_inv; subst this; cases q; rfl
  | x :: cs, _, _, _, e, r, q => by
    obtain ⟨v, ws, rfl, r1, r2⟩ := r.cons_inv
    cases q with
    | cons q1 q2 =>
      cases x with
      | ty n =>
        unfold subAny at e
        split at e
        · rename_i z b hz hb
          cases e
          cases re_ty_inv r1
          cases q1
          obtain ⟨rfl, hn⟩ := kdOf_n hz
          refine kitAny_cons (kit_ty (kit_kd y z hn)) (fun h => ?_) (fun h => by rw [h]; rfl)
          rw [subAny_ok hb r2 q2, h]; rfl
        · cases e
      | _ => cases e
theorem o_isi : OC X (.builtin "isinstance") fIsi := by
  intro pins s σ H vs us Q I r ⟨xs, A, Qa, rl, sa, q, x, y, hk, w⟩
  rcases w with ⟨n, z, rfl, hz, w⟩ | ⟨cs, k, rfl, hs, w⟩
  · obtain ⟨v, u, rfl, rx, ry⟩ := rl.two
    cases re_ty_inv ry
    obtain ⟨rfl, hn⟩ := kdOf_n hz
    exact call_isi pins s σ H _ us Q I r ⟨v, .ty z.n, .type y.n, .type z.n, y.sub z, rfl, .ty _, kd_ok sa rx hk, kit_ty (kit_kd y z hn), q _ _ _ _ (re_bl _) sa .refl w⟩
  · obtain ⟨v, u, rfl, rx, ry⟩ := rl.two
    obtain ⟨tp, ws, rfl, st, l⟩ := re_tup_inv ry
    obtain ⟨u1, u2, rfl, q1, q2⟩ := vals2 r
    cases (show u2 = Value.ref tp from q2)
    obtain ⟨P, Z, pp, hx⟩ := kit_of I q1 (kd_ok sa rx hk)
    obtain ⟨its, rv, ⟨ob, h1, h2, n, h3⟩, _⟩ := I.tuple st
    obtain ⟨oc, od, dt, sl⟩ := ob
    simp only at h2 h3
    subst h2 h3
    exact PySem.W.kia_tup Z I.kIn pp h1 (subAny_ok hs l rv) hx fun tk => ⟨.bl k, H, I.tok tk, rfl, q _ _ _ _ (re_bl _) sa .refl w⟩
/-! ### list(..), tuple(..) -/
def fList : FC := fun xs A Q => match xs with
  | [.tup ys] => ∀ p, A p = none → Q (.ref p) (put A p (.lst ys))
  | [.ref p] => seqA A p fun ys => ∀ p, A p = none → Q (.ref p) (put A p (.lst ys))
  | _ => False
theorem o_list : OC X (.type "list") fList := by
  intro pins s σ H vs us Q I r ⟨xs, A, Qa, rl, sa, q, w⟩
  unfold fList at w
  split at w
  · obtain ⟨v, rfl, rx⟩ := rl.one
    obtain ⟨p, ws, rfl, st, l⟩ := re_tup_inv rx
    exact call_list_of pins s σ H _ us Q I r ⟨p, ws, rfl, .inr st, ql_lst q sa l w⟩
  · obtain ⟨v, rfl, rx⟩ := rl.one
    cases re_ref_inv rx
    obtain ⟨ys, ws, sq, l, w⟩ := seqA_of sa w
    exact call_list_of pins s σ H _ us Q I r ⟨_, ws, rfl, .inl sq, ql_lst q sa l w⟩
  · exact w.elim
def fTupO : FC := fun xs A Q => match xs with
  | [.tup ys] => Q (.tup ys) A
  | [.ref p] => seqA A p fun ys => Q (.tup ys) A
  | _ => False
theorem o_tuple : OC X (.type "tuple") fTupO := by
  intro pins s σ H vs us Q I r ⟨xs, A, Qa, rl, sa, q, w⟩
  unfold fTupO at w
  split at w
  · obtain ⟨v, rfl, rx⟩ := rl.one
    obtain ⟨p, ws, rfl, st, l⟩ := re_tup_inv rx
    exact call_tuple_of pins s σ H _ us Q I r ⟨p, ws, rfl, .inr ⟨st, q _ _ _ _ rx sa .refl w⟩⟩
  · obtain ⟨v, rfl, rx⟩ := rl.one
    cases re_ref_inv rx
    obtain ⟨ys, ws, sq, l, w⟩ := seqA_of sa w
    exact call_tupleS pins s σ H _ us Q I r ⟨_, ws, rfl, sq, ql_tup q sa l w⟩
  · exact w.elim
/-! ### methods of built-in types: chosen by the receiver's kind -/
def kdM (A : Ah) : Vl → Option Kd
  | .str _ => some .str
  | .tup _ => some .tup
  | .ref p => kdR (A p)
  | _ => none
/-- what a method of the type does -/
structure Mt (X : Cx) (k : Kd) (name : Str) (f : Vl → List Vl → Ah → QE → Prop) : Prop where
  ex : ∃ id, PlainAttrs k.n ∧ Slot k.n name id ∧ typeOf (.builtin id) = pure (.type "method_descriptor") ∧ MtR X id (fun v vs H Q => ∃ x xs A Qa, Re X.K H x v ∧ Rl X.K H xs vs ∧ SA X.K A H ∧ QL X.K H Qa Q ∧ kdM A x = some k ∧ f x xs A Qa)
theorem kdM_is {pins : List (Addr × Obj)} {σ : L2.St} {H : Hp} {s : Shared} {A : Ah} {x : Vl} {v : V} {u : Value} {k : Kd} (I : Inv X pins σ H s) (sa : SA X.K A H) (r : Re X.K H x v) (rv : RelV v u) (h : kdM A x = some k) :
    s.TypeIs u k.n ∧ ∀ a, u = .ref a → ∃ ob, s.heap.get? a = some ob ∧ ob.dict = none := by
  cases x with
  | str z =>
    cases h
    obtain ⟨rfl, _⟩ := re_str_inv r
    obtain ⟨t, rfl⟩ := rv
    exact ⟨typeIs_str s z t, fun _ e => nomatch e⟩
  | ref p =>
    cases re_ref_inv r
    cases rv
    have h : kdR (A p) = some k := h
    unfold kdR at h
    split at h <;> cases h
    · rename_i he
      obtain ⟨vs, hv, _⟩ := sa _ _ he
      exact tyV_is (x := .ref p) I rfl (.inl ⟨rfl, vs, .of hv⟩)
    · rename_i he
      obtain ⟨vs, hv, _⟩ := sa _ _ he
      exact tyV_is (x := .ref p) I rfl (.inl ⟨rfl, vs, .inl hv⟩)
    · rename_i he
      obtain ⟨ob, ho, dc⟩ := sa _ _ he
      rcases dc with ⟨kk, rfl, _⟩ | ⟨kk, rfl, _⟩
      · exact tyV_is (x := .ref p) I rfl (.inr (.inr (.inl ⟨rfl, .inl ⟨_, ho⟩⟩)))
      · exact tyV_is (x := .ref p) I rfl (.inr (.inr (.inl ⟨rfl, .inr ⟨_, ho⟩⟩)))
  | tup xs =>
    cases h
    obtain ⟨p, vs, rfl, st, _⟩ := re_tup_own r
    cases rv
    have key : ∃ o, s.heap.get? p = some o ∧ o.cls = .type "tuple" ∧ o.dict = none := by
      rcases st.2 with ⟨us, vs, e⟩ | ⟨o, e, h1, h2⟩
      · exact ⟨_, (I.hok _ _ e).1, rfl, rfl⟩
      · exact ⟨o, I.kIn p o e, h1, h2⟩
    obtain ⟨o, e, h1, h2⟩ := key
    exact ⟨⟨o, e, h1⟩, fun a ea => by cases ea; exact ⟨o, e, h2⟩⟩
  | _ => cases h
def wMt (fs : Kd → Option (Vl → List Vl → Ah → QE → Prop)) (wo : WE) (wa : WA) : WE := fun S A Q E => wo S A (fun x A1 => ∃ k f, kdM A1 x = some k ∧ fs k = some f ∧ wa S A1 (fun xs A2 => kdM A2 x = some k ∧ f x xs A2 Q) E) E
theorem ae_mt0 {name : Str} {apos : Pos} {fs : Kd → Option (Vl → List Vl → Ah → QE → Prop)} {wo : WE} (hm : ∀ k f, fs k = some f → Mt X k name f) (ho : AE X W o wo)
    (hbase : attributeBase o name X.env (eval o X.env) = eval o X.env := by exact baseOf rfl) (hline : (apos.endLine == pos.line) = true := by rfl) : AE X W (.Call (.Attribute o name apos) [] [] pos) (wMt fs wo wNil) := by
  refine ⟨fun pins s σ H Q I ⟨S, A, Qa, Ea, ss, sa, q, qx, w⟩ => ?_⟩
  refine wpAny_Call_method0_late hbase hline (thn (ho.run pins s σ H (fun v H1 => ∃ x A1, Re X.K H1 x v ∧ SA X.K A1 H1 ∧ Keep H H1 ∧ ∃ k f, kdM A1 x = some k ∧ fs k = some f ∧ (kdM A1 x = some k ∧ f x [] A1 Qa)) I
    ⟨S, A, _, Ea, ss, sa, fun x A1 v H1 r1 sa1 k1 w1 => ⟨x, A1, r1, sa1, k1, w1⟩, qx, w⟩) fun v s1 ⟨y, H1, I1, rv, x, A1, r1, sa1, k1, k, f, hk, hf, _, w1⟩ => ?_)
  obtain ⟨id, pa, slot, ty, m⟩ := (hm k f hf).ex
  obtain ⟨h1, h2⟩ := kdM_is I1 sa1 r1 rv hk
  exact ⟨k.n, id, pa, slot, ty, h1, h2, Calls.callWith_builtin rfl (PySem.evalArgs_none (m pins s1 σ H1 y [] v [] Q I1 rv .nil ⟨x, [], A1, Qa, r1, .nil, sa1, q.keep k1, hk, w1⟩))⟩
theorem ae_mt {name : Str} {apos : Pos} {fs : Kd → Option (Vl → List Vl → Ah → QE → Prop)} {wo : WE} {wa : WA} (hm : ∀ k f, fs k = some f → Mt X k name f) (ho : AE X W o wo) (ha : AA X W (e :: es) wa)
    (hbase : attributeBase o name X.env (eval o X.env) = eval o X.env := by exact baseOf rfl)
    (hfew : ((backTo pos (starEach (e :: es) X.env)).all (fun x => !x.1) && (backToKw pos (keywordEach [] X.env)).all (fun x => x.1.isSome)
      && decide ((e :: es).length + ([] : List Keyword).length + (if ([] : List Keyword).isEmpty then 0 else 1) < 30)) = true := by exact fewOf rfl)
    (hline : (apos.endLine == pos.line) = true := by rfl) (hs : starEach (e :: es) X.env = (false, eval e X.env) :: starEach es X.env := by exact starOf rfl) (hplain : (backTo pos (starEach es X.env)).any (·.1) = false := by exact starsOf rfl) :
    AE X W (.Call (.Attribute o name apos) (e :: es) [] pos) (wMt fs wo wa) := by
  refine ⟨fun pins s σ H Q I ⟨S, A, Qa, Ea, ss, sa, q, qx, w⟩ => ?_⟩
  refine wpAny_Call_method_late hbase hfew hline rfl (thn (ho.run pins s σ H (fun v H1 => ∃ x A1, Re X.K H1 x v ∧ SA X.K A1 H1 ∧ Keep H H1 ∧ ∃ k f, kdM A1 x = some k ∧ fs k = some f ∧ wa S A1 (fun xs A2 => kdM A2 x = some k ∧ f x xs A2 Qa) Ea) I
    ⟨S, A, _, Ea, ss, sa, fun x A1 v H1 r1 sa1 k1 w1 => ⟨x, A1, r1, sa1, k1, w1⟩, qx, w⟩) fun v s1 ⟨y, H1, I1, rv, x, A1, r1, sa1, k1, k, f, hk, hf, w1⟩ => ?_)
  obtain ⟨id, pa, slot, ty, m⟩ := (hm k f hf).ex
  obtain ⟨h1, h2⟩ := kdM_is I1 sa1 r1 rv hk
  refine ⟨k.n, id, pa, slot, ty, h1, h2, ?_⟩
  have hA := ha.run pos pins s1 σ H1 (fun vs H2 => ∃ xs A2, Rl X.K H2 xs vs ∧ SA X.K A2 H2 ∧ Keep H1 H2 ∧ kdM A2 x = some k ∧ f x xs A2 Qa) I1
    ⟨S, A1, _, Ea, ss.keep k1, sa1, fun xs A2 vs H2 r2 sa2 k2 w2 => ⟨xs, A2, r2, sa2, k2, w2⟩, qx.keep k1, w1⟩
  rw [hs] at hA ⊢
  refine Calls.callWith_builtin (by show (false || (backTo pos (starEach es X.env)).any (·.1)) = false; rw [hplain] <;> rfl) (Calls.evalArgs_plain ?_)
  exact thn hA fun us s2 ⟨vs, H2, I2, r2, xs, A2, rl, sa2, k2, hk2, w2⟩ => m pins s2 σ H2 y vs v us Q I2 rv r2 ⟨x, xs, A2, Qa, r1.keep k2, rl, sa2, q.keep (k1.trans k2), hk2, w2⟩
end
end Rk

set_option Elab.async false
set_option linter.all false
set_option maxRecDepth 100000
set_option maxHeartbeats 400000
namespace Rk
open PySem PySem.Spec PyProof.Rows L2
section
variable {X : Cx} {K : PySem.W.Frag}
/-! ### methods of lists -/
abbrev FM := Vl → List Vl → Ah → QE → Prop
def fAppend : FM := fun x xs A Q => ∃ p y, x = .ref p ∧ xs = [y] ∧ lstA A p fun ys => ys.length < sizeLine ∧ Q .non (put A p (.lst (ys ++ [y])))
theorem m_append : Mt X .lst "append" fAppend := ⟨⟨_, PySem.F.plainAttrs_list, PySem.F.slot_list_append, PySem.F.type_list_append, by
  intro pins s σ H v vs vv us Q I rv rs ⟨x, xs, A, Qa, r, rl, sa, q, _, p, y, hx, hxs, w⟩
  subst hx hxs
  obtain ⟨u, rfl, ru⟩ := rl.one
  cases re_ref_inv r
  obtain ⟨ys, hp, hz, w⟩ := lstA_of w
  obtain ⟨ws, hw, l⟩ := sa _ _ hp
  obtain ⟨s2, k2⟩ := ql_wr sa hw (l.append (.cons ru .nil))
  exact mt_append pins s σ H _ _ vv us Q I rv rs ⟨p, ws, u, rfl, rfl, hw, by rw [← l.length]; exact hz, q _ _ _ _ (re_non _) s2 k2 w⟩⟩⟩
def fPop : FM := fun x xs A Q => ∃ p, x = .ref p ∧ lstA A p fun ys => (xs = [] ∧ ∃ z, ys[ys.length - 1]? = some z ∧ Q z (put A p (.lst ys.dropLast))) ∨
  ∃ i k z, xs = [.int i] ∧ rngOk i i ∧ seqIndex? i ys.length = some k ∧ ys[k]? = some z ∧ Q z (put A p (.lst (ys.eraseIdx k)))
theorem m_pop : Mt X .lst "pop" fPop := ⟨⟨_, PySem.F.plainAttrs_list, PySem.F.slot_list_pop, PySem.F.type_list_pop, by
  intro pins s σ H v vs vv us Q I rv rs ⟨x, xs, A, Qa, r, rl, sa, q, _, p, hx, w⟩
  subst hx
  cases re_ref_inv r
  obtain ⟨ys, hp, w⟩ := lstA_of w
  obtain ⟨ws, hw, l⟩ := sa _ _ hp
  rcases w with ⟨rfl, z, hz, w⟩ | ⟨i, k, z, rfl, ho, hi, hz, w⟩
  · have := rl.nil_inv; subst this
    obtain ⟨u, hu, ru⟩ := l.get hz
    obtain ⟨s2, k2⟩ := ql_wr sa hw l.dropLast
    exact mt_pop pins s σ H _ _ vv us Q I rv rs ⟨p, ws, u, rfl, rfl, hw, by rw [← l.length]; exact hu, q _ _ _ _ (ru.keep k2) s2 k2 w⟩
  · obtain ⟨t, rfl, rt⟩ := rl.one
    cases re_int_inv rt
    obtain ⟨u, hu, ru⟩ := l.get hz
    obtain ⟨s2, k2⟩ := ql_wr sa hw (l.erase k)
    have h1 := ho.1
    have h2 := ho.2.1
    exact mt_popAt pins s σ H _ _ vv us Q I rv rs ⟨p, ws, i, k, u, rfl, rfl, hw, by omega, by omega, by rw [← l.length]; exact hi, hu, q _ _ _ _ (ru.keep k2) s2 k2 w⟩⟩⟩
def fExtend : FM := fun x xs A Q => ∃ p p2, x = .ref p ∧ xs = [.ref p2] ∧ lstA A p fun ys => lstA A p2 fun zs => ys.length + zs.length ≤ sizeLine ∧ Q .non (put A p (.lst (ys ++ zs)))
theorem m_extend : Mt X .lst "extend" fExtend := ⟨⟨_, PySem.F.plainAttrs_list, PySem.F.slot_list_extend, PySem.F.type_list_extend, by
  intro pins s σ H v vs vv us Q I rv rs ⟨x, xs, A, Qa, r, rl, sa, q, _, p, p2, hx, hxs, w⟩
  subst hx hxs
  obtain ⟨u, rfl, ru⟩ := rl.one
  cases re_ref_inv ru
  cases re_ref_inv r
  obtain ⟨ys, hp, w⟩ := lstA_of w
  obtain ⟨zs, hp2, hz, w⟩ := lstA_of w
  obtain ⟨ws, hw, l⟩ := sa _ _ hp
  obtain ⟨ws2, hw2, l2⟩ := sa _ _ hp2
  obtain ⟨s2, k2⟩ := ql_wr sa hw (l.append l2)
  exact mt_extend pins s σ H _ _ vv us Q I rv rs ⟨p, p2, ws, ws2, rfl, rfl, hw, hw2, by rw [← l.length, ← l2.length]; exact hz, q _ _ _ _ (re_non _) s2 k2 w⟩⟩⟩
def fReverse : FM := fun x xs A Q => ∃ p, x = .ref p ∧ xs = [] ∧ lstA A p fun ys => Q .non (put A p (.lst ys.reverse))
theorem m_reverse : Mt X .lst "reverse" fReverse := ⟨⟨_, PySem.F.plainAttrs_list, PySem.F.slot_list_reverse, PySem.F.type_list_reverse, by
  intro pins s σ H v vs vv us Q I rv rs ⟨x, xs, A, Qa, r, rl, sa, q, _, p, hx, hxs, w⟩
  subst hx hxs
  have := rl.nil_inv; subst this
  cases re_ref_inv r
  obtain ⟨ys, hp, w⟩ := lstA_of w
  obtain ⟨ws, hw, l⟩ := sa _ _ hp
  obtain ⟨s2, k2⟩ := ql_wr sa hw l.reverse
  exact mt_reverse pins s σ H _ _ vv us Q I rv rs ⟨p, ws, rfl, rfl, hw, q _ _ _ _ (re_non _) s2 k2 w⟩⟩⟩
def fClear : FM := fun x xs A Q => ∃ p, x = .ref p ∧ xs = [] ∧ lstA A p fun ys => Q .non (put A p (.lst []))
theorem m_clear : Mt X .lst "clear" fClear := ⟨⟨_, PySem.F.plainAttrs_list, PySem.F.slot_list_clear, PySem.F.type_list_clear, by
  intro pins s σ H v vs vv us Q I rv rs ⟨x, xs, A, Qa, r, rl, sa, q, _, p, hx, hxs, w⟩
  subst hx hxs
  have := rl.nil_inv; subst this
  cases re_ref_inv r
  obtain ⟨ys, hp, w⟩ := lstA_of w
  obtain ⟨ws, hw, l⟩ := sa _ _ hp
  obtain ⟨s2, k2⟩ := ql_wr (xs := []) (vs := []) sa hw .nil
  exact mt_clear pins s σ H _ _ vv us Q I rv rs ⟨p, ws, rfl, rfl, hw, q _ _ _ _ (re_non _) s2 k2 w⟩⟩⟩
/-! ### methods of texts -/
def strL : List Vl → Option (List Str)
  | [] => some []
  | .str s :: r => (strL r).map (s :: ·)
  | _ => none
theorem strL_of {H : Hp} : ∀ {xs : List Vl} {ss : List Str} {vs : List V}, strL xs = some ss → Rl K H xs vs → vs = ss.map V.str
  | [], _, _, e, r => by cases e; rw [r.nil_inv]; rfl
  | x :: xs, ss, vs, e, r => by
    obtain ⟨v, ws, rfl, r1, r2⟩ := r.cons_inv
    cases x with
    | str b =>
      have e : (strL xs).map (b :: ·) = some ss := e
      cases h : strL xs with
      | none => rw [h] at e; cases e
      | some cs => rw [h] at e; cases e; obtain ⟨rfl, _⟩ := re_str_inv r1; rw [strL_of h r2]; rfl
    | _ => cases e
def joinOk (a : Str) (ys : List Str) : Prop := (ys.map (·.length)).sum + ys.length * a.length ≤ 16777216 ∧ okS (Txt.join a ys)
def fJoin : FM := fun x xs A Q => ∃ a, x = .str a ∧ ((∃ p, xs = [.ref p] ∧ seqA A p fun ys => ∃ ss, strL ys = some ss ∧ joinOk a ss ∧ Q (.str (Txt.join a ss)) A) ∨ ∃ ys ss, xs = [.tup ys] ∧ strL ys = some ss ∧ joinOk a ss ∧ Q (.str (Txt.join a ss)) A)
theorem m_join : Mt X .str "join" fJoin := ⟨⟨_, PySem.F.plainAttrs_str, PySem.F.slot_str_join, PySem.F.type_str_join, by
  intro pins s σ H v vs vv us Q I rv rs ⟨x, xs, A, Qa, r, rl, sa, q, _, a, hx, w⟩
  subst hx
  obtain ⟨rfl, _⟩ := re_str_inv r
  rcases w with ⟨p, rfl, w⟩ | ⟨ys, ss, rfl, hs, hj, w⟩
  · obtain ⟨u, rfl, ru⟩ := rl.one
    cases re_ref_inv ru
    obtain ⟨ys, ws, sq, l, ss, hs, hj, w⟩ := seqA_of sa w
    rw [strL_of hs l] at sq
    exact mt_join pins s σ H _ _ vv us Q I rv rs ⟨a, p, ss, rfl, rfl, .inl sq, hj.1, q _ _ _ _ (re_str hj.2 _) sa .refl w⟩
  · obtain ⟨u, rfl, ru⟩ := rl.one
    obtain ⟨p, ws, rfl, st, l⟩ := re_tup_inv ru
    rw [strL_of hs l] at st
    exact mt_join pins s σ H _ _ vv us Q I rv rs ⟨a, p, ss, rfl, rfl, .inr st, hj.1, q _ _ _ _ (re_str hj.2 _) sa .refl w⟩⟩⟩
def fUpper : FM := fun x xs A Q => ∃ a, x = .str a ∧ xs = [] ∧ a.length ≤ 5592405 ∧ okS (Txt.upper a) ∧ Q (.str (Txt.upper a)) A
theorem m_upper : Mt X .str "upper" fUpper := ⟨⟨_, PySem.F.plainAttrs_str, PySem.F.slot_str_upper, PySem.F.type_str_upper, by
  intro pins s σ H v vs vv us Q I rv rs ⟨x, xs, A, Qa, r, rl, sa, q, _, a, hx, hxs, hz, ho, w⟩
  subst hx hxs
  have := rl.nil_inv; subst this
  obtain ⟨rfl, _⟩ := re_str_inv r
  exact mt_upper pins s σ H _ _ vv us Q I rv rs ⟨a, rfl, rfl, hz, q _ _ _ _ (re_str ho _) sa .refl w⟩⟩⟩
/-! ### which method by the receiver's kind -/
def only (k : Kd) (f : FM) : Kd → Option FM := fun j => if j = k then some f else none
theorem only_mt {name : Str} {k : Kd} {f : FM} (h : Mt X k name f) : ∀ j g, only k f j = some g → Mt X j name g := fun j g e => by
  unfold only at e
  split at e
  · rename_i hj; cases e; subst hj; exact h
  · cases e
/-! ### in, not in, over texts -/
def fIn (neg : Bool) : F2 := fun x y A Q => match x, y with
  | .str s, .str t => Q (.bl (neg != !(Builtin.Str.occurrences t s 0 t.length 1).isEmpty)) A
  | _, _ => False
theorem o_in : O2 X (compareOp .In) (fIn false) := by
  intro pins s σ H v u vv uu Q I rv ru ⟨x, y, A, Qa, r1, r2, sa, q, w⟩
  cases x <;> cases y <;> first
    | exact w.elim
    | (obtain ⟨rfl, _⟩ := re_str_inv r1; obtain ⟨rfl, _⟩ := re_str_inv r2; exact op_in_str pins s σ H _ _ _ _ Q I rv ru ⟨_, _, rfl, rfl, q _ _ _ _ (re_bl _) sa .refl (by simpa [fIn] using w)⟩)
theorem o_notin : O2 X (compareOp .NotIn) (fIn true) := by
  intro pins s σ H v u vv uu Q I rv ru ⟨x, y, A, Qa, r1, r2, sa, q, w⟩
  cases x <;> cases y <;> first
    | exact w.elim
    | (obtain ⟨rfl, _⟩ := re_str_inv r1; obtain ⟨rfl, _⟩ := re_str_inv r2; exact op_notIn_str pins s σ H _ _ _ _ Q I rv ru ⟨_, _, rfl, rfl, q _ _ _ _ (re_bl _) sa .refl (by simpa [fIn] using w)⟩)
/-- {} -/
def wDct0 : WE := fun _ A Q _ => ∀ p, A p = none → Q (.ref p) (put A p (.dct []))
theorem ae_dct0 {W : WX} {pos : Pos} : AE X W (.Dict [] [] pos) wDct0 := pe_imp pe_dnewK fun σ H Q ⟨S, A, Qa, Ea, ss, sa, q, qx, w⟩ => fun p hp =>
  q _ _ _ _ (re_ref _) (sa.new (o := .dct []) hp ⟨_, upd_same, .inl ⟨[], rfl, rfl⟩⟩) (.new hp) (w p (sa.fresh hp))
/-! ### short forms for printed derivations -/
theorem av {W : WX} {pos : Pos} (i : Nat) {x : Str} (hN : X.N[i]? = some x := by rfl) (hv : Vis X.env.scope x := by first | exact Or.inl rfl | exact Or.inr (Or.inl rfl) | exact Or.inr (Or.inr rfl)) (hd : (x == ("__debug__" : Str)) = false := by decide) (hcd : (x == ("__classdict__" : Str)) = false := by decide) : AE X W (.Name x pos) (wVar i) := ae_var hN hv hd hcd
theorem agn {pos : Pos} (i : Nat) {x : Str} {vs : List Nat} (hN : X.N.Nodup) (hi : X.N[i]? = some x := by rfl) (hx : Loc X.env.scope x := by first | exact Or.inl rfl | exact Or.inr rfl) (hv : i ∈ vs := by decide) (hf : X.fn x = true ∨ X.env.scope.names.lookup x = some .local := by first | exact .inl rfl | exact .inr rfl) : AG X vs (.Name x pos) (gN i) := ag_name hN hi hx hv hf
theorem bb_len : bootBuiltins "len" = some (.builtin "len") := by decide +kernel
theorem bb_abs : bootBuiltins "abs" = some (.builtin "abs") := by decide +kernel
theorem bb_max : bootBuiltins "max" = some (.builtin "max") := by decide +kernel
theorem bb_min : bootBuiltins "min" = some (.builtin "min") := by decide +kernel
theorem bb_divmod : bootBuiltins "divmod" = some (.builtin "divmod") := by decide +kernel
theorem bb_all : bootBuiltins "all" = some (.builtin "all") := by decide +kernel
theorem bb_any : bootBuiltins "any" = some (.builtin "any") := by decide +kernel
theorem bb_isinstance : bootBuiltins "isinstance" = some (.builtin "isinstance") := by decide +kernel
theorem bb_repr : bootBuiltins "repr" = some (.builtin "repr") := by decide +kernel
theorem bb_sorted : bootBuiltins "sorted" = some (.builtin "sorted") := by decide +kernel
theorem bb_sum : bootBuiltins "sum" = some (.builtin "sum") := by decide +kernel
theorem bb_list : bootBuiltins "list" = some (.type "list") := by decide +kernel
theorem bb_tuple : bootBuiltins "tuple" = some (.type "tuple") := by decide +kernel
theorem bb_int : bootBuiltins "int" = some (.type "int") := by decide +kernel
theorem bb_str : bootBuiltins "str" = some (.type "str") := by decide +kernel
theorem bb_bool : bootBuiltins "bool" = some (.type "bool") := by decide +kernel
theorem bb_dict : bootBuiltins "dict" = some (.type "dict") := by decide +kernel
theorem bb_set : bootBuiltins "set" = some (.type "set") := by decide +kernel
/-- a def of the text, defaults and all -/
structure Df (K : PySem.W.Frag) (x qual : Str) (st : Stmt) (f : Addr) (fd : FuncData) (dV : Value) : Prop where
  ex : ∃ (oc : Value) (od : Option Addr) (kV doc pm : Value) (an : Option Addr) (cdv ct : Value) (osl : Array (Option Value)),
    fd = PySem.W.fnOf x qual (defArgs st) (defBody st) (defScope st) dV kV doc pm an cdv ct ∧ K.lookup f = some ⟨oc, od, .func fd, osl⟩ ∧ PySem.W.codeIn K cdv qual = true
  kp : PySem.W.keepIn K (.ref f) = true
theorem Df.gn {P : Program} {w : World} {K : PySem.W.Frag} {mg : Str → Option Value} {base : Heap} {x qual : Str} {st : Stmt} {f : Addr} {fd : FuncData} {dV : Value} {N ps : List Str} {k : Nat} {wb : WS} (F : Df K x qual st f fd dV) (S : FnScope N ps (defScope st))
    (hb : ∀ (cdv : Value) (A : Around) (outer : List Env) (s : Shared) (H : Hp) (E : XK), PySem.W.codeIn K cdv qual = true → Bd k (bodyX P w K mg base N qual (defScope st) f cdv A outer s H E) (bodyW E) → ASs (bodyX P w K mg base N qual (defScope st) f cdv A outer s H E) (bodyW E) (defBody st) wb) :
    Gn P w K mg base (k + 1) f fd ps (wFun N.length wb) := by
  obtain ⟨oc, od, kV, doc, pm, an, cdv, ct, osl, rfl, lk, hcd⟩ := F.ex
  exact gn_of lk hcd S fun A outer s H E => hb cdv A outer s H E hcd
theorem Df.bind {K : PySem.W.Frag} {x qual : Str} {st : Stmt} {f : Addr} {fd : FuncData} {dV : Value} {ps : List Str} {n : Nat} (F : Df K x qual st f fd dV)
    (h : ∀ (kV doc pm : Value) (an : Option Addr) (cdv ct : Value) (us : List Value), us.length = n → bindArgs (PySem.W.fnOf x qual (defArgs st) (defBody st) (defScope st) dV kV doc pm an cdv ct) ⟨us, []⟩ = pure (ps.zip us)) : ∀ us : List Value, us.length = n → bindArgs fd ⟨us, []⟩ = pure (ps.zip us) := by
  obtain ⟨oc, od, kV, doc, pm, an, cdv, ct, osl, rfl, lk, hcd⟩ := F.ex
  exact h kV doc pm an cdv ct
theorem Df.bindK {K : PySem.W.Frag} {x qual : Str} {st : Stmt} {f : Addr} {fd : FuncData} {dV : Value} {ps ks : List Str} {n : Nat} {l : List Src} (F : Df K x qual st f fd dV)
    (h : ∀ (kV doc pm : Value) (an : Option Addr) (cdv ct : Value) (us ws : List Value), us.length = n → ws.length = ks.length → bindArgs (PySem.W.fnOf x qual (defArgs st) (defBody st) (defScope st) dV kV doc pm an cdv ct) ⟨us, ks.zip ws⟩ = pure (ps.zip (l.map (Src.mu (us ++ ws))))) :
    ∀ (s : Shared) (us ws : List Value), K.In s.heap → us.length = n → ws.length = ks.length → BindsTo s fd ⟨us, ks.zip ws⟩ (ps.zip (l.map (Src.mu (us ++ ws)))) := by
  obtain ⟨oc, od, kV, doc, pm, an, cdv, ct, osl, rfl, lk, hcd⟩ := F.ex
  exact fun s us ws _ hu hw => .of_eq (h kV doc pm an cdv ct us ws hu hw)
theorem Bd.u64 {W : WX} {k : Nat} (B : Bd k X W) : X.A.units + 64 < cLine := B.room.units
end
end Rk

set_option Elab.async false
set_option linter.all false
set_option maxRecDepth 100000
set_option maxHeartbeats 400000
namespace Rk
open PySem PySem.Spec PyProof.Rows L2
/-! ### the law's own call -/
def noLst (K : PySem.W.Frag) : Bool := K.all fun p => match p.2.cls with
  | .type n => n != "list"
  | _ => true
theorem mem_of_lk {a : Addr} {o : Obj} : ∀ {K : List (Addr × Obj)}, K.lookup a = some o → (a, o) ∈ K
  | [], h => by cases h
  | (b, u) :: K, h => by
    rw [List.lookup_cons] at h
    by_cases e : a = b
    · subst e
      simp at h; subst h
      exact List.mem_cons_self
    · have e2 : (a == b) = false := by simpa using e
      rw [e2] at h
      exact List.mem_cons_of_mem _ (mem_of_lk h)
theorem noLst_no {K : PySem.W.Frag} {a : Addr} {o : Obj} (h : noLst K = true) (c : o.cls = .type "list") : K.lookup a ≠ some o := fun e => by
  have m : (a, o) ∈ K := mem_of_lk e
  have := List.all_eq_true.mp h _ m
  simp only [c] at this
  simp at this
theorem rl_ints {K : PySem.W.Frag} {H : Hp} : ∀ ns : List Int, Rl K H (ns.map Vl.int) (ns.map V.int)
  | [] => .nil
  | n :: ns => .cons (re_int _) (rl_ints ns)
theorem gn_law {P : Program} {w : World} {K : PySem.W.Frag} {mg mb : Str → Option Value} {k : Nat} {fa a : Addr} {fd : FuncData} {x : Str} {wf : WF} {s₁ : Shared} {vs : List Value} {ns : List Int}
    (inK : K.In s₁.heap) (hns : s₁.heap.Ns mainGlobals mg) (hb : s₁.heap.Ns builtinsNs mb) (hbb : ∀ y : Str, y ≠ "__name__" → mb y = bootBuiltins y) (hlim : s₁.heap.NoLimit) (hg : s₁.gens = #[])
    (ha : s₁.heap.get? a = some { cls := .type "list", data := .seq vs.toArray }) (hi : IntsAre vs ns) (hl : ns.length ≤ sizeLine) (hr : Room k callerA) (nl : noLst K = true)
    (F : ∀ base : Heap, K.In base → base.Ns mainGlobals mg → Gn P w K mg base k fa fd [x] wf) (hbind : ∀ (s : Shared) (u : Value), BindsTo s fd ⟨[u], []⟩ [(x, u)])
    (hw : ∀ (A : Ah) (Q : QE) (E : EX), A a = some (.rol (ns.map .int)) → (∀ A', Q (.bl true) A') → wf [.ref a] A Q E) :
    codeAny (model P w) callerA (.call (.ref fa) ⟨[.ref a], []⟩) (fun r s' => r = .ok (.ret (.bool true)) ∧ OldK s₁.heap s'.heap ∧ s'.os = s₁.os ∧ AllBare s'.gens) s₁ := by
  have rv := vals_ints hi
  have hka : K.lookup a = none := by
    cases e : K.lookup a with
    | none => rfl
    | some o =>
      have z := inK a o e
      rw [ha] at z; cases z
      exact absurd e (noLst_no nl rfl)
  obtain ⟨H, hH⟩ : ∃ H : Hp, H = fun b => if b = a then some (.frz { cls := .type "list", data := .seq vs.toArray } (.lst (ns.map V.int))) else none := ⟨_, rfl⟩
  have Ha : H a = some (.frz { cls := .type "list", data := .seq vs.toArray } (.lst (ns.map V.int))) := by rw [hH]; exact if_pos rfl
  have Hn : ∀ b, b ≠ a → H b = none := fun b h => by rw [hH]; exact if_neg h
  have hok : HOk P w H s₁.heap := fun b u e => by
    by_cases hba : b = a
    · subst hba
      rw [Ha] at e; cases e
      exact ⟨ha, by rw [List.length_map]; exact hl, vs, _, rv, ha⟩
    · rw [Hn b hba] at e; cases e
  have ground : ∀ {b : Addr} {o : Obj}, s₁.heap.get? b = some o → b ≠ a → (hidT s₁.heap H).get? b = some o := fun e h => hidT_get e (Hn _ h)
  have nsK : ∀ {b : Addr} {m : Str → Option Value}, s₁.heap.Ns b m → (hidT s₁.heap H).Ns b m := fun {b m} ⟨o, es, ep, e, d, r⟩ => ⟨o, es, ep, ground e (fun z => by
    subst z
    rw [ha] at e; cases e
    cases (show Data.seq vs.toArray _ = Data.dict es ep from d)), d, r⟩
  have inB : K.In (hidT s₁.heap H) := fun b o e => ground (inK b o e) fun z => by subst z; rw [hka] at e; cases e
  have md : Mod K mg (hidT s₁.heap H) := ⟨inB, nsK hns, ⟨mb, nsK hb, hbb⟩, let ⟨mc, h1, h2⟩ := hlim; ⟨mc, nsK h1, h2⟩⟩
  have e0 : Env0 P w K mg (hidT s₁.heap H) callerA [] s₁ H := ⟨rfl, md, fun b o e => of_hidT e, Nat.le_of_eq (hidT_size _ _), trivial, fun b hb => absurd (show b ∈ ([] : List Addr) from hb) (by simp), hok, .of_eq hg⟩
  have sa : SA K (fun b => if b = a then some (.rol (ns.map Vl.int)) else none) H := fun b o e => by
    by_cases hba : b = a
    · subst hba
      simp only [if_true] at e; cases e
      exact ⟨_, .inr ⟨_, Ha⟩, rl_ints ns⟩
    · simp only [hba, if_false] at e; cases e
  have prom : LF K 1 wf [.ref a] H (fun v _ => v = .bl true) (fun _ _ _ => False) :=
    ⟨[.ref a], _, fun y _ => y = .bl true, fun _ _ => False, .cons (re_ref _) .nil, rfl, sa, fun y A' v H' r _ _ e => by subst e; exact re_bl_inv r, fun _ _ _ _ _ _ _ _ z => z, hw _ _ _ (if_pos rfl) fun _ => rfl⟩
  refine codeAny_mono ((F _ inB (nsK hns)).run callerA [] s₁ H ⟨[.ref a], []⟩ [.ref a] [.ref a] _ _ hr rfl e0 (hbind s₁ (.ref a)) (.cons rfl .nil) prom) fun r s' h => ?_
  cases r with
  | error e =>
    obtain ⟨_, _, _, _, _, _, _, _, _, _, _, _, hf⟩ := h
    exact hf.elim
  | ok fl =>
    cases fl with
    | next => exact False.elim h
    | brk => exact False.elim h
    | cont => exact False.elim h
    | ret u =>
      obtain ⟨v, H', os, bare, un, hok', r', q⟩ := h
      have q' : v = .bl true := q
      subst q'
      obtain rfl : u = Value.bool true := r'
      refine ⟨rfl, OldK.of_keep fun b o e => ?_, os, bare⟩
      by_cases hba : b = a
      · subst hba
        obtain ⟨e2, _⟩ := hok' b _ (un.frzs b _ _ Ha)
        rw [ha] at e; cases e
        exact e2
      · exact un.keep b o e (Hn b hba) (by intro z; exact absurd (show b ∈ ([] : List Addr) from z) (by simp)) (by simp)
theorem gn_walk {l : PySem.W.OpenLaw} {n k : Nat} {q : Program} {loose : List Str} {XP : (Str → Option Value) → Heap → Prop} {YP : World → Heap → Prop} {d : DefRec} {K : Params → PySem.W.Frag} {x : Str} {wf : WF}
    (hn : l.most = some n) (hn2 : n ≤ sizeLine) (hdf : d.params.defaults = []) (hr : Room k callerA) (hY : ∀ (w : World) (h : Heap), YP w h → (K w.params).In h) (nl : ∀ w : World, noLst (K w.params) = true)
    (F : ∀ (w : World) (mg : Str → Option Value) (fa : Addr) (h : Heap), (K w.params).In h → h.Ns mainGlobals mg → mg d.name = some (.ref fa) →
      ∃ fd : FuncData, (∀ (s : Shared) (u : Value), BindsTo s fd ⟨[u], []⟩ [(x, u)]) ∧ ∀ base : Heap, (K w.params).In base → base.Ns mainGlobals mg → Gn l.prog w (K w.params) mg base k fa fd [x] wf)
    (hw : ∀ (a : Addr) (ns : List Int) (A : Ah) (Q : QE) (E : EX), ns.length ≤ n → A a = some (.rol (ns.map .int)) → (∀ A', Q (.bl true) A') → wf [.ref a] A Q E) :
    PySem.W.WalkO q loose XP YP l.row.toRowW d [] (fun f vs => PySem.call f vs) := by
  refine Att.attach_call hn hdf fun w s₀ s₁ mg mb fa o pm cd doc a vs ns G Y ho hd hcd hmg hobj hints hlen hg => ?_
  have inK := hY w _ Y
  obtain ⟨fd, hb, hF⟩ := F w mg fa _ inK G.T.g hmg
  exact gn_law inK G.T.g G.T.b G.T.builtins G.T.nolimit hg hobj hints (Nat.le_trans hlen hn2) hr (nl w) hF hb fun A Q E h1 h2 => hw a ns A Q E hlen h1 h2
end Rk

set_option Elab.async false
set_option linter.all false
set_option maxRecDepth 100000
set_option maxHeartbeats 400000
namespace Rk
open PySem PySem.Spec PyProof.Rows L2
/-! ### loops and comprehensions by what holds between the turns -/
theorem forL_ind {ok : Ah → Prop} {g : WG} {w : WS} {D : Es} {xs : List Vl} {S : Sl} {A : Ah} (I : Nat → Sl → Ah → Prop) (h0 : I 0 S A) (hok : ∀ i S A, I i S A → ok A)
    (step : ∀ (i : Nat) (x : Vl) (S : Sl) (A : Ah) (N : Sl → Ah → Prop), xs[i]? = some x → I i S A → (∀ S' A', I (i + 1) S' A' → N S' A') → g x S A fun S1 A1 => w { D with nx := N, ct := N, bk := D.nx } S1 A1)
    (hend : ∀ S A, I xs.length S A → D.nx S A) : forL ok g w D xs S A := by
  have : ∀ (r : List Vl) (i : Nat) (S : Sl) (A : Ah), xs.drop i = r → i ≤ xs.length → I i S A → forL ok g w D r S A := by
    intro r
    induction r with
    | nil =>
      intro i S A e hi h
      have : i = xs.length := by
        have := congrArg List.length e
        simp at this; omega
      subst this
      exact ⟨hok _ _ _ h, hend _ _ h⟩
    | cons x r ih =>
      intro i S A e hi h
      have hlt : i < xs.length := by
        have := congrArg List.length e
        simp at this; omega
      rw [List.drop_eq_getElem_cons hlt] at e
      injection e with e1 e2
      refine ⟨hok _ _ _ h, ?_⟩
      exact step i x S A _ (by rw [← e1]; simp [hlt]) h fun S' A' h' => ih (i + 1) S' A' e2 hlt h'
  exact this xs 0 S A rfl (Nat.zero_le _) h0
theorem lcL_ind {ok : Ah → Prop} {g : WG} {t : WT} {w : WE} {S : Sl} {p : Addr} {Q : Ah → Prop} {xs : List Vl} {A : Ah} (I : Nat → List Vl → Ah → Prop) (h0 : I 0 [] A) (hok : ∀ i acc A, I i acc A → ok A)
    (step : ∀ (i : Nat) (x : Vl) (acc : List Vl) (A : Ah) (K1 : Vl → Ah → Prop) (K2 : Ah → Prop), xs[i]? = some x → I i acc A →
      (∀ y A3, A3 p = some (.lst acc) → acc.length < sizeLine → I (i + 1) (acc ++ [y]) (put A3 p (.lst (acc ++ [y]))) → K1 y A3) → (∀ A2, I (i + 1) acc A2 → K2 A2) →
      g x S A fun S1 A1 => t S1 A1 (fun b A2 => if b = true then w S1 A2 K1 noE else K2 A2) noE)
    (hend : ∀ acc A, I xs.length acc A → Q A) : lcL ok g t w S p Q xs A := by
  have : ∀ (r : List Vl) (i : Nat) (acc : List Vl) (A : Ah), xs.drop i = r → i ≤ xs.length → I i acc A → lcL ok g t w S p Q r A := by
    intro r
    induction r with
    | nil =>
      intro i acc A e hi h
      have : i = xs.length := by
        have := congrArg List.length e
        simp at this; omega
      subst this
      exact ⟨hok _ _ _ h, hend _ _ h⟩
    | cons x r ih =>
      intro i acc A e hi h
      have hlt : i < xs.length := by
        have := congrArg List.length e
        simp at this; omega
      rw [List.drop_eq_getElem_cons hlt] at e
      injection e with e1 e2
      refine ⟨hok _ _ _ h, ?_⟩
      refine step i x acc A _ (fun A2 => lcL ok g t w S p Q r A2) (by rw [← e1]; simp [hlt]) h (fun y A3 h1 h2 h3 => ?_) fun A2 h2 => ih (i + 1) acc A2 e2 hlt h2
      show (match A3 p with
      | some (.lst acc) => acc.length < sizeLine ∧ lcL ok g t w S p Q r (put A3 p (.lst (acc ++ [y])))
      | _ => False)
      rw [h1]
      exact ⟨h2, ih (i + 1) (acc ++ [y]) _ e2 hlt h3⟩
  exact this xs 0 [] A rfl (Nat.zero_le _) h0
theorem put_put {A : Ah} {p : Addr} {o u : Ob} : put (put A p o) p u = put A p u := by
  funext b; unfold put; split <;> rfl
theorem ne_of_nn {A : Ah} {a p : Addr} {o : Ob} (h : A a = some o) (hp : A p = none) : a ≠ p := by
  rintro rfl; rw [h] at hp; cases hp
theorem Sub.new {A : Ah} {p : Addr} {o : Ob} (h : A p = none) : Sub A (put A p o) := fun a u e => by rw [put_ne (ne_of_nn e h)]; exact e
theorem Sub.put {A B : Ah} {p : Addr} {o : Ob} (h : Sub A B) : Sub (put A p o) (put B p o) := fun a u e => by
  by_cases ha : a = p
  · subst ha; rw [put_same] at e ⊢; exact e
  · rw [put_ne ha] at e ⊢; exact h a u e
theorem Sub.put_new {A B : Ah} {p : Addr} {o : Ob} (h : Sub A B) (hp : B p = none) : Sub A (Rk.put B p o) := h.trans (.new hp)
theorem lcL_map {ok : Ah → Prop} {i : Nat} {w : WE} {S : Sl} {A : Ah} {p : Addr} {Q : Ah → Prop} {xs : List Vl} (f : Vl → Vl) (hz : xs.length ≤ sizeLine)
    (hok : ∀ acc, ok (put A p (.lst acc)))
    (hw : ∀ x ∈ xs, ∀ acc (K1 : QE), K1 (f x) (put A p (.lst acc)) → w (S.set i (some x)) (put A p (.lst acc)) K1 noE)
    (hq : Q (put A p (.lst (xs.map f)))) : lcL ok (gN i) wYes w S p Q xs (put A p (.lst [])) := by
  refine lcL_ind (fun j acc B => acc = (xs.take j).map f ∧ B = put A p (.lst acc)) ⟨by simp, rfl⟩ (fun _ _ _ ⟨_, e⟩ => by subst e; exact hok _) ?_ ?_
  · rintro j x acc B K1 K2 hx ⟨rfl, rfl⟩ h1 h2
    obtain ⟨hj, hjx⟩ := List.getElem?_eq_some_iff.mp hx
    simp only [gN, wYes, if_true]
    refine hw x (List.mem_of_getElem? hx) _ K1 (h1 _ _ put_same (by simp; omega) ⟨?_, put_put⟩)
    rw [← List.take_append_getElem hj, List.map_append, hjx]
    rfl
  · rintro acc B ⟨rfl, rfl⟩
    simpa using hq
end Rk

set_option Elab.async false
set_option linter.all false
set_option maxRecDepth 100000
set_option maxHeartbeats 400000
namespace Rk
open PySem PySem.Spec PyProof.Rows L2
/-! ### the transformers, run from the head -/
def onB (z : Vl) (P R : Prop) : Prop := match z with
  | .bl true => P
  | .bl false => R
  | _ => False
@[simp ↓] theorem e_onB {b : Bool} {P R : Prop} : onB (.bl b) P R = if b = true then P else R := by cases b <;> rfl
section
variable {S : Sl} {A : Ah} {Q : QE} {E : EX} {D : Es} {QB : Bool → Ah → Prop} {QA : List Vl → Ah → Prop} {QW : Wk → Ah → Prop} {QO : Option Int → Ah → Prop} {N : Sl → Ah → Prop}
variable {w wa wb wc wo : WE} {t u : WT} {s1 s2 : WS} {f g : F2} {i j n : Nat} {x y z : Vl} {b : Bool} {xs ys : List Vl} {P : Bool → Prop}
@[simp ↓] theorem e_wVar : wVar i S A Q E = match S[i]? with | some (some x) => Q x A | _ => False := id rfl
@[simp ↓] theorem e_wC : wC x S A Q E = Q x A := id rfl
@[simp ↓] theorem e_wBin : wBin f wa wb S A Q E = wa S A (fun x A1 => wb S A1 (fun y A2 => f x y A2 Q) E) E := id rfl
@[simp ↓] theorem e_wUn {h : Vl → Ah → QE → Prop} : wUn h wa S A Q E = wa S A (fun x A1 => h x A1 Q) E := id rfl
@[simp ↓] theorem e_wB : wB w S A QB E = w S A (fun x A1 => match x with | .bl k => QB k A1 | _ => False) E := id rfl
@[simp ↓] theorem e_wTru : wTru w S A QB E = w S A (fun x A1 => truA x A1 fun k => QB k A1) E := id rfl
@[simp ↓] theorem e_wNot : wNot t S A QB E = t S A (fun k A1 => QB (!k) A1) E := id rfl
@[simp ↓] theorem e_wAnd : wAnd t u S A QB E = t S A (fun k A1 => if k = true then u S A1 QB E else QB false A1) E := id rfl
@[simp ↓] theorem e_wOr : wOr t u S A QB E = t S A (fun k A1 => if k = true then QB true A1 else u S A1 QB E) E := id rfl
@[simp ↓] theorem e_wNotV : wNotV w S A Q E = w S A (fun x A1 => match x with | .bl k => Q (.bl (!k)) A1 | _ => False) E := id rfl
@[simp ↓] theorem e_wAndV : wAndV wa wb S A Q E = wa S A (fun x A1 => onB x (wb S A1 Q E) (Q (.bl false) A1)) E := id rfl
@[simp ↓] theorem e_wOrV : wOrV wa wb S A Q E = wa S A (fun x A1 => onB x (Q (.bl true) A1) (wb S A1 Q E)) E := by
  show wa S A _ E = _
  congr 1; funext x A1; cases x <;> first | rfl | (rename_i b; cases b <;> rfl)
@[simp ↓] theorem e_wIf : wIf t wa wb S A Q E = t S A (fun k A1 => if k = true then wa S A1 Q E else wb S A1 Q E) E := id rfl
@[simp ↓] theorem e_wChain : wChain f g wa wb wc S A Q E = wa S A (fun x A1 => wb S A1 (fun y A2 => f x y A2 fun z A3 => onB z (wc S A3 (fun t A4 => g y t A4 Q) E) (Q (.bl false) A3)) E) E := id rfl
@[simp ↓] theorem e_wNil : wNil S A QA E = QA [] A := id rfl
@[simp ↓] theorem e_wCons {r : WA} : wCons w r S A QA E = w S A (fun x A1 => r S A1 (fun xs A2 => QA (x :: xs) A2) E) E := id rfl
@[simp ↓] theorem e_wTup {r : WA} : wTup r S A Q E = r S A (fun xs A1 => xs.length ≤ sizeLine ∧ Q (.tup xs) A1) E := id rfl
@[simp ↓] theorem e_wLst {r : WA} : wLst r S A Q E = r S A (fun xs A1 => xs.length ≤ sizeLine ∧ ∀ p, A1 p = none → Q (.ref p) (put A1 p (.lst xs))) E := id rfl
@[simp ↓] theorem e_wCB {h : FC} {r : WA} : wCB h r S A Q E = r S A (fun xs A1 => h xs A1 Q) E := id rfl
@[simp ↓] theorem e_wCall {h : WF} {r : WA} : wCall n h r S A Q E = r S A (fun xs A1 => xs.length = n ∧ h xs A1 Q E) E := id rfl
@[simp ↓] theorem e_wCallK {h : WF} {m : Nat} {r k : WA} : wCallK n m h r k S A Q E = r S A (fun xs A1 => xs.length = n ∧ k S A1 (fun ys A2 => ys.length = m ∧ h (xs ++ ys) A2 Q E) E) E := id rfl
@[simp ↓] theorem e_wSel {h : WF} {l : List Src} : wSel l h xs A Q E = h (l.map (Src.pl xs)) A Q E := id rfl
@[simp ↓] theorem e_wNoP : wNoP S A QO E = QO none A := id rfl
@[simp ↓] theorem e_wPt : wPt w S A QO E = w S A (fun x A1 => match x with | .int i => QO (some i) A1 | _ => False) E := id rfl
@[simp ↓] theorem e_wSl {h : FS} {wl wh : WO} : wSl h w wl wh S A Q E = w S A (fun x A1 => wl S A1 (fun i A2 => wh S A2 (fun j A3 => h x i j A3 Q) E) E) E := id rfl
@[simp ↓] theorem e_wMt {fs : Kd → Option FM} {r : WA} : wMt fs wo r S A Q E = wo S A (fun x A1 => ∃ k f, kdM A1 x = some k ∧ fs k = some f ∧ r S A1 (fun xs A2 => kdM A2 x = some k ∧ f x xs A2 Q) E) E := id rfl
@[simp ↓] theorem e_wDct0 : wDct0 S A Q E = ∀ p, A p = none → Q (.ref p) (put A p (.dct [])) := id rfl
@[simp ↓] theorem e_wiSeq : wiSeq w S A QW E = w S A (fun x A1 => itV x A1 QW) E := id rfl
@[simp ↓] theorem e_wiR1 {r : WA} : wiR1 r S A QW E = r S A (fun xs A1 => ∃ n, int1 xs = some n ∧ rngOk 0 n ∧ QW ⟨rngL 0 n.toNat, fun _ => True⟩ A1) E := id rfl
@[simp ↓] theorem e_wiR2 {r : WA} : wiR2 r S A QW E = r S A (fun xs A1 => ∃ m n, int2 xs = some (m, n) ∧ rngOk m n ∧ QW ⟨rngL m (n - m).toNat, fun _ => True⟩ A1) E := id rfl
@[simp ↓] theorem e_wLc {wi : WI} {gg : WG} {vs : List Nat} : wLc wi gg t w vs S A Q E = wi S A (fun k A1 => ∀ p, A1 p = none → lcL k.ok gg t w (wipeA S vs) p (fun A2 => Q (.ref p) A2) k.its (put A1 p (.lst []))) E := id rfl
@[simp ↓] theorem e_wSeq : wSeq s1 s2 D S A = s1 { D with nx := s2 D } S A := id rfl
@[simp ↓] theorem e_wEx : wEx w D S A = w S A (fun _ A1 => D.nx S A1) (fun x A1 => D.ex x S A1) := id rfl
@[simp ↓] theorem e_wRet : wRet w D S A = w S A D.rt (fun x A1 => D.ex x S A1) := id rfl
@[simp ↓] theorem e_wIfS : wIfS t s1 s2 D S A = t S A (fun k A1 => if k = true then s1 D S A1 else s2 D S A1) (fun x A1 => D.ex x S A1) := id rfl
@[simp ↓] theorem e_wAsg {gg : WG} : wAsg w gg D S A = w S A (fun x A1 => gg x S A1 D.nx) (fun x A1 => D.ex x S A1) := id rfl
@[simp ↓] theorem e_wPar {r : WA} : wPar i j r D S A = r S A (fun xs A1 => ∃ x y, xs = [x, y] ∧ D.nx ((S.set i (some x)).set j (some y)) A1) (fun x A1 => D.ex x S A1) := id rfl
@[simp ↓] theorem e_wFor {wi : WI} {gg : WG} : wFor wi gg s1 D S A = wi S A (fun k A1 => forL k.ok gg s1 D k.its S A1) (fun x A1 => D.ex x S A1) := id rfl
@[simp ↓] theorem e_gN : gN i x S A N = N (S.set i (some x)) A := id rfl
@[simp ↓] theorem e_gT {gg : WGs} : gT n gg x S A N = match x with | .tup xs => xs.length = n ∧ gg xs S A N | _ => False := id rfl
@[simp ↓] theorem e_gNl : gNl xs S A N = (xs = [] ∧ N S A) := id rfl
@[simp ↓] theorem e_gCn {gg : WG} {r : WGs} : gCn gg r (x :: xs) S A N = gg x S A fun S1 A1 => r xs S1 A1 N := id rfl
@[simp ↓] theorem e_gS {h : F3} : gS h wa wb z S A N = wa S A (fun x A1 => wb S A1 (fun y A2 => h x y z A2 fun A3 => N S A3) noE) noE := id rfl
@[simp ↓] theorem e_wYes : wYes S A QB E = QB true A := id rfl
/-! values -/
@[simp ↓] theorem e_addI {p q : Int} : fAdd (.int p) (.int q) A Q = Q (.int (p + q)) A := id rfl
@[simp ↓] theorem e_addS {p q : Str} : fAdd (.str p) (.str q) A Q = (p.length + q.length ≤ sizeLine ∧ Q (.str (p ++ q)) A) := id rfl
@[simp ↓] theorem e_addT : fAdd (.tup xs) (.tup ys) A Q = (xs.length + ys.length ≤ sizeLine ∧ Q (.tup (xs ++ ys)) A) := id rfl
@[simp ↓] theorem e_addL {p q : Addr} : fAdd (.ref p) (.ref q) A Q = lstA A p fun xs => lstA A q fun ys => xs.length + ys.length ≤ sizeLine ∧ ∀ r, A r = none → Q (.ref r) (put A r (.lst (xs ++ ys))) := id rfl
@[simp ↓] theorem e_fI {C : Int → Int → Prop} {h : Int → Int → Vl} {p q : Int} : fI C h (.int p) (.int q) A Q = (C p q ∧ Q (h p q) A) := id rfl
@[simp ↓] theorem e_sub {p q : Int} : fSub (.int p) (.int q) A Q = Q (.int (p - q)) A := by unfold fSub; simp [fI]
@[simp ↓] theorem e_mod {p q : Int} : fMod (.int p) (.int q) A Q = (0 < q ∧ Q (.int (p % q)) A) := id rfl
@[simp ↓] theorem e_div {p q : Int} : fDiv (.int p) (.int q) A Q = (CDiv p q ∧ Q (.int (p / q)) A) := id rfl
@[simp ↓] theorem e_pow {p q : Int} : fPow (.int p) (.int q) A Q = (CPow p q ∧ Q (.int (p ^ q.toNat)) A) := id rfl
@[simp ↓] theorem e_mulI {p q : Int} : fMul (.int p) (.int q) A Q = (CMul p q ∧ Q (.int (p * q)) A) := id rfl
@[simp ↓] theorem e_mulL {p : Addr} {k : Int} : fMul (.ref p) (.int k) A Q = lstA A p fun xs => (0 ≤ k ∧ k < 2 ^ 63 ∧ xs.length * k.toNat ≤ sizeLine) ∧ ∀ r, A r = none → Q (.ref r) (put A r (.lst (List.replicate k.toNat xs).flatten)) := id rfl
@[simp ↓] theorem e_neg {p : Int} : fNeg (.int p) A Q = Q (.int (-p)) A := id rfl
@[simp ↓] theorem e_ltI {p q : Int} : fLt (.int p) (.int q) A Q = Q (.bl (decide (p < q))) A := id rfl
@[simp ↓] theorem e_leI {p q : Int} : fLe (.int p) (.int q) A Q = Q (.bl (decide (p ≤ q))) A := id rfl
@[simp ↓] theorem e_gtI {p q : Int} : fGt (.int p) (.int q) A Q = Q (.bl (decide (q < p))) A := id rfl
@[simp ↓] theorem e_geI {p q : Int} : fGe (.int p) (.int q) A Q = Q (.bl (decide (q ≤ p))) A := id rfl
@[simp ↓] theorem e_ltS {p q : Str} : fLt (.str p) (.str q) A Q = Q (.bl (decide (p.cps.toList < q.cps.toList))) A := id rfl
@[simp ↓] theorem e_leS {p q : Str} : fLe (.str p) (.str q) A Q = Q (.bl (!decide (q.cps.toList < p.cps.toList))) A := id rfl
@[simp ↓] theorem e_isN : fIsN b x .non A Q = Q (.bl (b != isNon x)) A := id rfl
@[simp ↓] theorem e_ixT {p : Int} : fIx (.tup xs) (.int p) A Q = ∃ z, atI xs p = some z ∧ Q z A := id rfl
@[simp ↓] theorem e_ixL {p : Addr} {k : Int} : fIx (.ref p) (.int k) A Q = seqA A p fun xs => ∃ z, atI xs k = some z ∧ Q z A := id rfl
@[simp ↓] theorem e_ixS {p : Str} {k : Int} : fIx (.str p) (.int k) A Q = ∃ c, atI p.cps.toList k = some c ∧ Q (.str ⟨#[c]⟩) A := id rfl
@[simp ↓] theorem e_set {p : Addr} {k : Int} {M : Ah → Prop} : fSet (.ref p) (.int k) z A M = lstA A p fun xs => ∃ j, ixN xs.length k = some j ∧ M (put A p (.lst (xs.set j z))) := id rfl
theorem lstA_eq {p : Addr} {R : List Vl → Prop} (h : A p = some (.lst xs)) : lstA A p R = R xs := by unfold lstA; rw [h]
theorem seqA_eq {p : Addr} {R : List Vl → Prop} (h : A p = some (.lst xs)) : seqA A p R = R xs := by unfold seqA; rw [h]
theorem seqA_eqR {p : Addr} {R : List Vl → Prop} (h : A p = some (.rol xs)) : seqA A p R = R xs := by unfold seqA; rw [h]
@[simp ↓] theorem e_len : fLen [x] A Q = lenA A x fun n => Q (.int n) A := id rfl
@[simp ↓] theorem e_lenS {p : Str} {R : Int → Prop} : lenA A (.str p) R = R p.length := id rfl
@[simp ↓] theorem e_lenT {R : Int → Prop} : lenA A (.tup xs) R = R xs.length := id rfl
theorem lenA_eq {p : Addr} {R : Int → Prop} (h : A p = some (.lst xs)) : lenA A (.ref p) R = R xs.length := by simp only [lenA, h]
theorem lenA_eqR {p : Addr} {R : Int → Prop} (h : A p = some (.rol xs)) : lenA A (.ref p) R = R xs.length := by simp only [lenA, h]
@[simp ↓] theorem e_abs {p : Int} : fAbs [.int p] A Q = Q (.int (if p < 0 then -p else p)) A := by simp [fAbs, int1]
@[simp ↓] theorem e_max {p q : Int} : fMax [.int p, .int q] A Q = Q (.int (if q > p then q else p)) A := propext ⟨fun ⟨_, _, e, h⟩ => by cases e; exact h, fun h => ⟨_, _, rfl, h⟩⟩
@[simp ↓] theorem e_min {p q : Int} : fMin [.int p, .int q] A Q = Q (.int (if q < p then q else p)) A := propext ⟨fun ⟨_, _, e, h⟩ => by cases e; exact h, fun h => ⟨_, _, rfl, h⟩⟩
@[simp ↓] theorem e_divmod {p q : Int} : fDivmod [.int p, .int q] A Q = (CDiv p q ∧ Q (.tup [.int (p / q), .int (p % q)]) A) := propext ⟨fun ⟨_, _, e, h⟩ => by cases e; exact h, fun h => ⟨_, _, rfl, h⟩⟩
@[simp ↓] theorem e_all {p : Addr} : fAll [.ref p] A Q = seqA A p fun xs => ∃ bs, bls xs = some bs ∧ Q (.bl (bs.all id)) A := id rfl
@[simp ↓] theorem e_any {p : Addr} : fAny [.ref p] A Q = seqA A p fun xs => ∃ bs, bls xs = some bs ∧ Q (.bl (bs.any id)) A := id rfl
@[simp ↓] theorem e_truB {k : Bool} : truA (.bl k) A P = P k := id rfl
@[simp ↓] theorem e_itT : itV (.tup xs) A QW = QW ⟨xs, fun _ => True⟩ A := id rfl
@[simp ↓] theorem e_itS {p : Str} : itV (.str p) A QW = QW ⟨signs p, fun _ => True⟩ A := id rfl
theorem itV_eq {p : Addr} (h : A p = some (.lst xs)) : itV (.ref p) A QW = QW ⟨xs, fun A => A p = some (.lst xs)⟩ A := by simp only [itV, itR, h]
@[simp] theorem e_int1 {p : Int} : int1 [.int p] = some p := id rfl
@[simp] theorem e_int2 {p q : Int} : int2 [.int p, .int q] = some (p, q) := id rfl
@[simp ↓] theorem e_tupO : fTupO [.tup xs] A Q = Q (.tup xs) A := id rfl
@[simp ↓] theorem e_tupL {p : Addr} : fTupO [.ref p] A Q = seqA A p fun ys => Q (.tup ys) A := id rfl
@[simp ↓] theorem e_listT : fList [.tup xs] A Q = ∀ p, A p = none → Q (.ref p) (put A p (.lst xs)) := id rfl
@[simp ↓] theorem e_listL {p : Addr} : fList [.ref p] A Q = seqA A p fun ys => ∀ p, A p = none → Q (.ref p) (put A p (.lst ys)) := id rfl
@[simp ↓] theorem e_inS {p q : Str} : fIn b (.str p) (.str q) A Q = Q (.bl (b != !(Builtin.Str.occurrences q p 0 q.length 1).isEmpty)) A := id rfl
@[simp] theorem e_kdM_s {p : Str} : kdM A (.str p) = some .str := id rfl
theorem kdM_l {p : Addr} (h : A p = some (.lst xs)) : kdM A (.ref p) = some .lst := by show kdR (A p) = _; rw [h]; rfl
@[simp] theorem e_only {k : Kd} {h : FM} : only k h k = some h := if_pos rfl
end
/-- isinstance(x, T), x of a known kind -/
theorem e_isi {x : Vl} {n : String} {A : Ah} {Q : QE} {y z : Kd} (h : kd A x = some y) (g : kdOf n = some z) (q : Q (.bl (y.sub z)) A) : fIsi [x, .ty n] A Q := ⟨x, y, h, .inl ⟨n, z, rfl, g, q⟩⟩
theorem e_isiT {x : Vl} {cs : List Vl} {A : Ah} {Q : QE} {y : Kd} {k : Bool} (h : kd A x = some y) (g : subAny y cs = some k) (q : Q (.bl k) A) : fIsi [x, .tup cs] A Q := ⟨x, y, h, .inr ⟨cs, k, rfl, g, q⟩⟩
/-- a def's body from its entry -/
theorem wFun_eq {n : Nat} {b : WS} {xs : List Vl} {A : Ah} {Q : QE} {E : EX} : wFun n b xs A Q E = b { nx := fun _ A' => ∃ B, Sub B A' ∧ Q .non B, rt := fun v A' => ∃ B, Sub B A' ∧ Q v B, ex := fun x _ A' => ∃ B, Sub B A' ∧ E x B } (xs.map some ++ List.replicate (n - xs.length) none) A := rfl
end Rk

set_option Elab.async false
set_option linter.all false
set_option maxRecDepth 100000
set_option maxHeartbeats 400000
namespace Rk
open PySem PySem.Spec PyProof.Rows L2
/-! ### sums the laws' own helpers do, once -/
theorem ixN_nat {n j : Nat} (h : j < n) : ixN n (j : Int) = some j := by
  unfold ixN; rw [if_pos (by omega), if_pos (by omega)]; simp
theorem ixN_lo {n : Nat} {k : Int} (h : 0 ≤ k) (h2 : k < n) : ixN n k = some k.toNat := by
  unfold ixN; rw [if_pos h, if_pos h2]
theorem atI_nat {α : Type} {xs : List α} {j : Nat} (h : j < xs.length) : atI xs (j : Int) = some xs[j] := by
  unfold atI; rw [ixN_nat h]; simp [h]
theorem atI_lo {α : Type} {xs : List α} {k : Int} (h : 0 ≤ k) (h2 : k < xs.length) : atI xs k = some (xs[k.toNat]'(by omega)) := by
  unfold atI; rw [ixN_lo h h2]; simp
theorem atI_map {α β : Type} {f : α → β} {xs : List α} {k : Int} (h : 0 ≤ k) (h2 : k < xs.length) : ∃ z, atI (xs.map f) k = some (f z) ∧ z ∈ xs :=
  ⟨_, by rw [atI_lo h (by simpa using h2), List.getElem_map], List.getElem_mem _⟩
theorem cMul_l {i j : Int} (h : -(2 ^ 64) < i := by omega) (h2 : i < 2 ^ 64 := by omega) : CMul i j := .inl ⟨h, h2⟩
theorem cMul_r {i j : Int} (h : -(2 ^ 64) < j := by omega) (h2 : j < 2 ^ 64 := by omega) : CMul i j := .inr ⟨h, h2⟩
theorem cPow18 : CPow 10 18 := ⟨by decide, by decide, by decide⟩
theorem sz_le {n : Nat} (h : n ≤ 16777216) : n ≤ sizeLine := h
@[simp] theorem sz_lt {n : Nat} : (n ≤ sizeLine) = (n ≤ 16777216) := rfl
def b_rng : WS :=
    (wSeq (wAsg (wIf (wB (wBin fLt (wVar 1) (wCB fLen (wCons (wVar 0) wNil)))) (wBin fIx (wVar 0) (wVar 1)) (wBin fAdd (wBin fMul (wC (.int 7)) (wVar 1)) (wC (.int 2)))) (gN 2))
    (wRet (wLst (wCons (wCB fMax (wCons (wC (.int 0)) (wCons (wBin fSub (wCB fAbs (wCons (wVar 2) wNil)) (wBin fPow (wC (.int 10)) (wC (.int 18)))) wNil))) (wCons (wBin fAdd (wBin fAdd (wBin fMod (wCB fAbs (wCons (wVar 2) wNil)) (wC (.int 2147483587))) (wBin fMul (wC (.int 211)) (wVar 1))) (wC (.int 5))) wNil)))))
theorem c_rng {a : Addr} {k : Int} {ns : List Int} {A : Ah} {Q : QE} {E : EX} (hA : A a = some (.rol (ns.map .int))) (hl : ns.length ≤ 63) (hk : 0 ≤ k) (hk2 : k ≤ 100) (hq : ∀ p x y, A p = none → 0 ≤ x → 0 ≤ y → Q (.ref p) (put A p (.lst [.int x, .int y]))) : wFun 3 b_rng [.ref a, .int k] A Q E := by
  rw [wFun_eq]
  simp [b_rng, lenA_eqR hA, seqA_eqR hA]
  split
  · rename_i h
    obtain ⟨z, hz, _⟩ := atI_map (f := Vl.int) hk h
    refine ⟨_, hz, ?_⟩
    simp
    exact ⟨cPow18, cMul_l, fun p hp => ⟨_, .refl, hq _ _ _ hp (by split <;> omega) (by split <;> omega)⟩⟩
  · exact ⟨cMul_l, cPow18, cMul_l, fun p hp => ⟨_, .refl, hq _ _ _ hp (by split <;> omega) (by split <;> omega)⟩⟩
def b_draw : WS :=
    (wSeq (wIfS (wB (wBin fGt (wBin fIx (wVar 0) (wC (.int 0))) (wC (.int 0)))) (wSeq (wAsg (wCB fDivmod (wCons (wBin fIx (wVar 0) (wC (.int 0))) (wCons (wVar 1) wNil))) (gT 2 (gCn (gS fSet (wVar 0) (wC (.int 0))) (gCn (gN 2) gNl))))
    (wRet (wVar 2))) (fun D S A => D.nx S A))
    (wSeq (wAsg (wBin fMod (wBin fAdd (wBin fMul (wBin fIx (wVar 0) (wC (.int 1))) (wC (.int 40692))) (wC (.int 12211))) (wC (.int 2147483399))) (gS fSet (wVar 0) (wC (.int 1))))
    (wRet (wBin fMod (wBin fDiv (wBin fMod (wBin fMul (wBin fIx (wVar 0) (wC (.int 1))) (wBin fIx (wVar 0) (wC (.int 1)))) (wC (.int 2147483323))) (wC (.int 17))) (wVar 1)))))
/-- a list of two ints, neither below nought: a law's own draws -/
def isG (A : Ah) (g : Addr) : Prop := ∃ x y : Int, 0 ≤ x ∧ 0 ≤ y ∧ A g = some (.lst [.int x, .int y])
theorem c_draw {g : Addr} {n : Int} {A : Ah} {Q : QE} {E : EX} (hA : isG A g) (hn : 0 < n) (hn2 : n < 1073741824) (hq : ∀ r x y, 0 ≤ r → r < n → 0 ≤ x → 0 ≤ y → Q (.int r) (put A g (.lst [.int x, .int y]))) : wFun 3 b_draw [.ref g, .int n] A Q E := by
  obtain ⟨x, y, hx, hy, hA⟩ := hA
  rw [wFun_eq]
  have i0 : ∀ x y : Int, atI [Vl.int x, Vl.int y] 0 = some (.int x) := fun _ _ => rfl
  have i1 : ∀ x y : Int, atI [Vl.int x, Vl.int y] 1 = some (.int y) := fun _ _ => rfl
  have n0 : ixN 2 0 = some 0 := rfl
  have n1 : ixN 2 1 = some 1 := rfl
  have hp : ∀ o, put A g o g = some o := fun o => put_same
  simp [b_draw, lstA_eq hA, seqA_eq hA, seqA_eq (hp _), lstA_eq (hp _), i0, i1, n0, n1]
  split
  · exact ⟨⟨hn, hn2⟩, _, .refl, hq _ _ _ (Int.emod_nonneg _ (by omega)) (Int.emod_lt_of_pos _ hn) (Int.ediv_nonneg hx (by omega)) hy⟩
  · refine ⟨cMul_r, cMul_l (by omega) (by omega), ⟨by decide, by decide⟩, hn, _, .refl, hq _ _ _ (Int.emod_nonneg _ (by omega)) (Int.emod_lt_of_pos _ hn) hx (by omega)⟩
theorem isG.put {A : Ah} {g p : Addr} {o : Ob} (h : isG A g) (hp : A p = none) : isG (put A p o) g := by
  obtain ⟨x, y, a, b, e⟩ := h
  exact ⟨x, y, a, b, by rw [put_ne (ne_of_nn e hp)]; exact e⟩
theorem isG.new {A : Ah} {p : Addr} {x y : Int} (hx : 0 ≤ x) (hy : 0 ≤ y) : isG (Rk.put A p (.lst [.int x, .int y])) p := ⟨x, y, hx, hy, put_same⟩
end Rk

set_option Elab.async false
set_option linter.all false
set_option maxRecDepth 100000
set_option maxHeartbeats 3200000
namespace Rk
open PySem PySem.Spec PyProof.Rows L2
/-! ### set(x) of a list or tuple of keys; its size -/
/-- keys met, each once, in the order of the first meeting -/
def memK (l : List Key) (j : Key) : Bool := l.any fun k => decide (k = j)
theorem memK_iff {l : List Key} {j : Key} : memK l j = true ↔ j ∈ l := by
  unfold memK; rw [List.any_eq_true]
  exact ⟨fun ⟨x, h, e⟩ => of_decide_eq_true e ▸ h, fun h => ⟨j, h, decide_eq_true rfl⟩⟩
theorem memK_app {l : List Key} {k j : Key} : memK (l ++ [k]) j = (memK l j || decide (j = k)) := by
  unfold memK; rw [List.any_append]
  congr 1
  simp [eq_comm]
def ddN (acc : List Key) : List Key → List Key
  | [] => acc
  | k :: r => ddN (if memK acc k = true then acc else acc ++ [k]) r
theorem ddN_nodup {acc r : List Key} (h : (acc ++ r).Nodup) : ddN acc r = acc ++ r := by
  induction r generalizing acc with
  | nil => simp [ddN]
  | cons k r ih =>
    have hk : ¬ memK acc k = true := fun hk => (List.nodup_append.mp h).2.2 k (memK_iff.mp hk) k (List.mem_cons_self ..) rfl
    rw [ddN, if_neg hk, ih (by simpa using h)]
    simp
section
variable {P : Program} {w : World} {A : Around} {E : Value → Shared → Prop} {s : Shared}
theorem sof_congr {h : Heap} {a : Addr} {S S' : Key → Bool} {n n' : Nat} (x : h.SetOf (mixKind P w) a S n) (e : ∀ j, S j = S' j) (f : n = n') : h.SetOf (mixKind P w) a S' n' := by
  have := funext e
  subst this f; exact x
def KeyAt (k : Key) (v : Value) : Prop := RelV (kV k) v
theorem loop_keys {I : Addr} {fp wr : List Addr} {G : Array GenState → Array GenState → Prop} {n : Nat} {Pv : Nat → Value → Prop} {St : Nat → Shared → Prop} {R : Result → Shared → Prop} {S : Addr} {xs : List Key}
    (W : WalksS P w A.in1 I fp wr G n Pv St) (off : S ∉ fp) (hn : n = xs.length) (hv : ∀ i v, Pv i v → ∃ k, xs[i]? = some k ∧ KeyAt k v) :
    ∀ (r : List Key) (i : Nat) (ys : List Key) (t : Shared), xs.drop i = r → i ≤ n → St i t → t.heap.SetOf (mixKind P w) S (memK ys) ys.length → ys.length + r.length < 4000 →
      (∀ t', Moved (S :: wr) G t t' → t'.heap.SetOf (mixKind P w) S (memK (ddN ys r)) (ddN ys r).length → R (.ok (.ret .none)) t') →
      codeAny (model P w) A (.builtin "set.update.loop" ⟨[.ref S, .ref I], []⟩) R t := by
  have offw : S ∉ wr := fun z => off (W.sub _ z)
  have up : ∀ b ∈ wr, b ∈ S :: wr := fun b z => List.mem_cons_of_mem _ z
  intro r
  induction r with
  | nil =>
    intro i ys t hr hi st so _ hR
    have : xs.length ≤ i := List.drop_eq_nil_iff.mp hr
    obtain rfl : i = n := by omega
    refine codeAny_builtin PyProof.Rows.F.entry_set_update_loop ?_
    rw [Around.under_plainId PyProof.Rows.F.plain_set_update_loop _]
    show wpAny _ A.in1 (pyNext (.ref I) >>= _) _ _ t
    refine wpAny_bind (W.done t _ _ st fun t' m => ?_)
    show wpAny _ A.in1 (ret Value.none) _ _ t'
    exact wpAny_pure (hR t' (m.mono up) (setOf_at so fun o e => m.heap S o offw e))
  | cons k r ih =>
    intro i ys t hr hi st so hb hR
    have hlt : i < xs.length := by
      rcases Nat.lt_or_ge i xs.length with h | h
      · exact h
      · rw [List.drop_of_length_le h] at hr; cases hr
    rw [List.drop_eq_getElem_cons hlt] at hr
    injection hr with hk hr
    refine codeAny_builtin PyProof.Rows.F.entry_set_update_loop ?_
    rw [Around.under_plainId PyProof.Rows.F.plain_set_update_loop _]
    show wpAny _ A.in1 (pyNext (.ref I) >>= _) _ _ t
    refine wpAny_bind (W.item i t _ _ (hn ▸ hlt) st fun v t1 hP st1 m => ?_)
    obtain ⟨k', hk', rv⟩ := hv i v hP
    rw [List.getElem?_eq_getElem hlt, hk] at hk'
    cases hk'
    show wpAny _ A.in1 (holding [v] (setAdd S v) >>= _) _ _ t1
    refine wpAny_bind (wpAny_holding ?_)
    unfold setAdd
    refine wpAny_holding (wpAny_bind ((mixKind P w).pyHash (k := k) (kV_is rv) ?_))
    simp only [List.length_cons] at hb
    refine wpAny_setAddHashed_of (knd := mixKind P w) (s := { t1 with toks := t1.toks + 1 }) (kV_is rv) (key_scan rv) (setOf_at so fun o e => m.heap S o offw e) (by unfold scanBound; omega) fun h2 sb so2 => ?_
    have so3 : h2.SetOf (mixKind P w) S (memK (if memK ys k = true then ys else ys ++ [k])) (if memK ys k = true then ys else ys ++ [k]).length := by
      by_cases c : memK ys k = true
      · refine sof_congr so2 (fun j => ?_) (by rw [if_pos c, if_pos c])
        rw [if_pos c]
        by_cases e : j = k
        · subst e; simp [c]
        · simp [e]
      · refine sof_congr so2 (fun j => ?_) (by rw [if_neg c, if_neg c]; simp)
        rw [if_neg c, memK_app]
    refine wpAny_pure ⟨plainId_quiet PyProof.Rows.F.plain_set_update_loop _, ih (i + 1) _ _ hr (by omega) (W.frame _ t1 _ _ st1 (Nat.le_succ _) fun b z o e => ?_) so3 (by split <;> (try simp) <;> omega) fun t2 m2 so4 => ?_⟩
    · rw [sb.2 b fun e' : b = S => off (e' ▸ z)]; exact e
    · refine hR t2 (Moved.trans W.gtrans ((m.mono up).then_heap (Nat.le_succ _) fun b o z e => ?_) m2) so4
      rw [sb.2 b fun e' : b = S => z (e' ▸ List.mem_cons_self)]; exact e
/-- a new set, nothing in it -/
abbrev nset (led : Bool) : Obj := { cls := .type "set", dict := none, data := .set #[] 0 (.fresh 0 0 led) }
/-- what stands at x can be walked: a list or a tuple of these values -/
inductive SeqOf (h : Heap) (l : Addr) (us : Array Value) : Prop
  | lst : h.IsList l us → SeqOf h l us
  | tup : h.IsTuple l us → SeqOf h l us
theorem keys_at : ∀ {xs : List Key} {us : List Value}, Vals (xs.map kV) us → ∀ (i : Nat) (v : Value), us[i]? = some v → ∃ k, xs[i]? = some k ∧ KeyAt k v
  | [], _, h, i, v, e => by cases h; simp at e
  | x :: xs, _, h, i, v, e => by
    cases h with
    | cons r t =>
      cases i with
      | zero => simp at e; subst e; exact ⟨x, rfl, r⟩
      | succ i => simpa using keys_at t i v (by simpa using e)
theorem keys_len : ∀ {xs : List Key} {us : List Value}, Vals (xs.map kV) us → us.length = xs.length := fun h => by have := h.length; simpa using this.symm
/-- set.__init__ of the new set over what can be walked -/
theorem set_fill {led : Bool} {l : Addr} {us : Array Value} {xs : List Key} {Q : Value → Shared → Prop} (hh : A.handled = none) (hl : SeqOf s.heap l us) (hx : Vals (xs.map kV) us.toList) (few : xs.length < 3000)
    (h : ∀ (h' : Heap) (tk : Nat), h'.SetOf (mixKind P w) s.heap.objs.size (memK (ddN [] xs)) (ddN [] xs).length → (∀ b o, b < s.heap.objs.size → s.heap.get? b = some o → h'.get? b = some o) → Q .none { s with heap := h', toks := tk }) :
    wpAny (model P w) A (Builtin.«set.__init__» ⟨[.ref s.heap.objs.size, .ref l], []⟩) (fun fin t => match fin with | .done f => (wants Q E) (.ok f) t | .again _ => False) E { s with heap := s.heap.push (nset led) } := by
  have new : (s.heap.push (nset led)).get? s.heap.objs.size = some (nset led) := Heap.get?_push_size _ rfl
  have sz : us.size = xs.length := by rw [← Array.length_toList]; exact keys_len hx
  have val : ∀ (i : Nat) (v : Value), us[i]? = some v → ∃ k, xs[i]? = some k ∧ KeyAt k v := fun i v e => keys_at hx i v (by rw [Array.getElem?_toList]; exact e)
  have size1 : (s.heap.push (nset led)).objs.size = s.heap.objs.size + 1 := Heap.size_push ..
  have tail : ∀ (it : Obj) (St : Nat → Heap → Prop), l < s.heap.objs.size → St 0 ((s.heap.push (nset led)).push it) → Walks P w A.in1 (s.heap.push (nset led)).objs.size [(s.heap.push (nset led)).objs.size, l] [(s.heap.push (nset led)).objs.size] us.size (fun i v => us[i]? = some v) St →
      wpAny (model P w) A (do
          let _ ← runValue (Code.builtin "set.update.loop" { pos := [Value.ref s.heap.objs.size, .ref (s.heap.push (nset led)).objs.size] })
          pure ())
        (fun a s' => wpAny (model P w) A ((fun __r => ret Value.none) a) (fun fin t => match fin with | .done f => (wants Q E) (.ok f) t | .again _ => False) E s') E { s with heap := (s.heap.push (nset led)).push it } := by
    intro it St hlt st W
    rw [size1] at W ⊢
    refine wpAny_bind (wpAny_runValue ?_)
    refine loop_keys W.toS (S := s.heap.objs.size) (by simp only [List.mem_cons, List.not_mem_nil, or_false, not_or]; exact ⟨Nat.ne_of_lt (Nat.lt_succ_self _), Nat.ne_of_gt hlt⟩) sz val xs 0 [] _ rfl (Nat.zero_le _) st ?_ (by simp; omega) fun t m so => ?_
    · have new2 : ((s.heap.push (nset led)).push it).get? s.heap.objs.size = some (nset led) := Heap.get?_push_of_some _ new
      exact ⟨_, #[], 0, _, new2, ⟨rfl, rfl, rfl⟩, rfl, (fun e he => by simp at he), (fun k => by simp [memK]), (by decide), (by rfl), rfl⟩
    · obtain ⟨h', g', d', tk', os'⟩ := t
      obtain rfl : g' = s.gens := m.gens
      obtain rfl : d' = s.drawn := m.drawn
      obtain rfl : os' = s.os := m.os
      refine wpAny_pure ?_
      show wpAny _ _ (ret Value.none) _ _ _
      refine wpAny_pure (h h' tk' so fun b o hb e => m.heap b o ?_ (Heap.get?_push_of_some _ (Heap.get?_push_of_some _ e)))
      simp only [List.mem_cons, List.not_mem_nil, or_false, not_or]
      exact ⟨Nat.ne_of_lt hb, Nat.ne_of_lt (Nat.lt_succ_of_lt hb)⟩
  rcases hl with hl | hl
  · have hlt : l < s.heap.objs.size := by obtain ⟨_, ho, _⟩ := hl; exact Heap.lt_size ho
    obtain ⟨⟨oc, od, oa, os⟩, ho, hc, ne, hd⟩ := hl
    simp only at hc hd
    subst hc hd
    have ho1 := Heap.get?_push_of_some (nset led) ho
    have l1 : (s.heap.push (nset led)).IsList l us := ⟨_, ho1, rfl, ne, rfl⟩
    have f1 := PySem.F.sub_list_set
    have f2 := PySem.F.sub_list_frozenset
    have f3 : (Value.type "list" == Value.type "dict") = false := by decide
    unfold Builtin.«set.__init__» noKeywords Builtin.Frozenset.updateFrom
    generalize hPI : pyIter = PI
    wp_walk
    subst hPI
    exact wpAny_pyIter_list l1 (tail _ _ hlt ⟨⟨_, Heap.get?_push_size _ rfl, rfl, rfl⟩, l1.push _⟩ (Walks.list (by simp [hh]) _ l (by rw [size1]; exact Nat.ne_of_lt (Nat.lt_succ_of_lt hlt)) us))
  · have hlt : l < s.heap.objs.size := by obtain ⟨_, ho, _⟩ := hl; exact Heap.lt_size ho
    obtain ⟨⟨oc, od, oa, os⟩, ho, hc, ne, hd⟩ := hl
    simp only at hc hd
    subst hc hd
    have ho1 := Heap.get?_push_of_some (nset led) ho
    have l1 : (s.heap.push (nset led)).IsTuple l us := ⟨_, ho1, rfl, ne, rfl⟩
    have f1 := PySem.F.sub_tuple_set
    have f2 := PySem.F.sub_tuple_frozenset
    have f3 : (Value.type "tuple" == Value.type "dict") = false := by decide
    unfold Builtin.«set.__init__» noKeywords Builtin.Frozenset.updateFrom
    generalize hPI : pyIter = PI
    wp_walk
    subst hPI
    exact wpAny_pyIter_tuple l1 (tail _ _ hlt ⟨⟨_, Heap.get?_push_size _ rfl, rfl, rfl⟩, l1.push _⟩ (Walks.tuple (by simp [hh]) _ l (by rw [size1]; exact Nat.ne_of_lt (Nat.lt_succ_of_lt hlt)) us))
end
end Rk

set_option Elab.async false
set_option linter.all false
set_option maxRecDepth 100000
set_option maxHeartbeats 3200000
namespace Rk
open PySem PySem.Spec PyProof.Rows L2
section
variable {P : Program} {w : World} {A : Around} {E : Value → Shared → Prop} {s : Shared}
def Filled (P : Program) (w : World) (s : Shared) (xs : List Key) (r : Value) (t : Shared) : Prop := r = .none ∧ ∃ h' tk, t = { s with heap := h', toks := tk } ∧ h'.SetOf (mixKind P w) s.heap.objs.size (memK (ddN [] xs)) (ddN [] xs).length ∧
  (∀ b o, b < s.heap.objs.size → s.heap.get? b = some o → h'.get? b = some o)
/-- set(x) -/
theorem set_call {l : Addr} {us : Array Value} {xs : List Key} {Q : Value → Shared → Prop} (hh : A.handled = none) (hl : SeqOf s.heap l us) (hx : Vals (xs.map kV) us.toList) (few : xs.length < 3000)
    (h : ∀ (h' : Heap) (tk : Nat), h'.SetOf (mixKind P w) s.heap.objs.size (memK (ddN [] xs)) (ddN [] xs).length → (∀ b o, b < s.heap.objs.size → s.heap.get? b = some o → h'.get? b = some o) → Q (.ref s.heap.objs.size) { s with heap := h', toks := tk }) :
    wpAny (model P w) A (call (.type "set") [.ref l]) Q E s := by
  obtain ⟨c, tl, m1⟩ := PySem.F.called_set.mro
  have m2 := PySem.F.called_set.made
  have m3 := PySem.F.called_set.sub
  have m4 := PySem.F.called_set.notType
  have m5 := PySem.F.called_set.canCreate
  have m6 := PySem.F.typeCall_set_1 (.ref l)
  refine wpAny_call (codeAny_of_tree ?_)
  show wpAny _ _ (callAny (.type "set") _) _ _ _
  refine wpAny_pure ⟨Code.quiet_builtin _ (by decide +kernel), codeAny_builtin PySem.F.entry_type_call ?_⟩
  rw [Around.under_plain (weight_type_call_type "set" [.ref l] []) rfl]
  repeat (any_goals (first | assumption | wp_step))

  refine codeAny_mono (code_set_new_1 (.ref l) (E := E) (Q₁ := fun ob t => ∃ led : Bool, ob = .ref s.heap.objs.size ∧ t = { s with heap := s.heap.push (nset led) }) fun led => ⟨led, rfl, rfl⟩) fun r t hr => ?_
  cases r with
  | error e => exact hr
  | ok f =>
  cases f with
  | ret ob =>
    obtain ⟨led, e1, e2⟩ := (hr : ∃ led : Bool, ob = .ref s.heap.objs.size ∧ t = { s with heap := s.heap.push (nset led) })
    subst e1 e2
    have ty : Shared.TypeIs { s with heap := s.heap.push (nset led) } (.ref s.heap.objs.size) "set" := ⟨_, Heap.get?_push_size _ rfl, rfl⟩
    have i1 := PySem.F.called_set.init.lookup
    have i2 := PySem.F.called_set.init.bind (.ref s.heap.objs.size)
    repeat (any_goals (first | assumption | wp_step))

    refine codeAny_mono (codeAny_call_builtin (R := wants (Filled P w s xs) E) PySem.F.called_set.init.plain PySem.F.entry_set_init (check_set_init_1 ty ?_)) fun r t hr => ?_
    · refine wpAny_mono (set_fill (E := E) (Q := Filled P w s xs) (by simp [hh]) hl hx few fun h' tk so k => ⟨rfl, h', tk, rfl, so, k⟩) (fun fin t hf => ?_) fun _ _ z => z
      cases fin with
      | done f => exact hf
      | again c => exact (hf : False).elim
    · cases r with
      | error e => exact hr
      | ok f =>
      cases f with
      | ret r =>
        obtain ⟨e1, h', tk, e2, so, k⟩ := hr
        subst e1 e2
        repeat (any_goals (first | assumption | wp_step))
        exact h _ _ so k
      | _ => exact hr.elim
  | _ => exact hr.elim
end
section
variable {X : Cx}
/-- the keys among plain values -/
def keyOf? : Vl → Option Key
  | .int i => some (.inl i)
  | .str s => some (.inr s)
  | _ => none
def keys? : List Vl → Option (List Key)
  | [] => some []
  | x :: xs => match keyOf? x, keys? xs with
    | some k, some ks => some (k :: ks)
    | _, _ => none
theorem keys_of {K : PySem.W.Frag} {H : Hp} : ∀ {xs : List Vl} {ks : List Key} {vs : List V}, keys? xs = some ks → Rl K H xs vs → vs = ks.map kV
  | [], _, _, e, r => by cases e; rw [r.nil_inv]; rfl
  | x :: xs, ks, vs, e, r => by
    obtain ⟨v, ws, rfl, r1, r2⟩ := r.cons_inv
    unfold keys? at e
    cases h1 : keyOf? x with
    | none => rw [h1] at e; cases e
    | some k =>
      cases h2 : keys? xs with
      | none => rw [h1, h2] at e; cases e
      | some ks' =>
        rw [h1, h2] at e; cases e
        rw [keys_of h2 r2]
        cases x with
        | int i => cases h1; cases re_int_inv r1; rfl
        | str i => cases h1; obtain ⟨rfl, _⟩ := re_str_inv r1; rfl
        | _ => cases h1
/-- len(set(x)) -/
def wLenSet (w : WE) : WE := fun S A Q E => w S A (fun x A1 => ∃ ks, ks.length < 3000 ∧ ((∃ p, x = .ref p ∧ seqA A1 p fun ys => keys? ys = some ks) ∨ ∃ ys, x = .tup ys ∧ keys? ys = some ks) ∧ Q (.int (ddN [] ks).length) A1) E
def rSetK (K : PySem.W.Frag) (P : Program) (w : World) : List V → Hp → VK → Prop := fun xs H Q => ∃ (l : Addr) (ks : List Key), xs = [.ref l] ∧ (SqL K H l (ks.map kV) ∨ SqT K H l (ks.map kV)) ∧ ks.length < 3000 ∧
  ∀ p, H p = none → Q (.ref p) (upd H p (SetK P w p (memK (ddN [] ks)) (ddN [] ks).length))
theorem cr_setK (hc : X.calm = true) : CallR X (.type "set") (rSetK X.K X.prog X.w) := by
  intro pins s σ H xs us Q I r ⟨l, ks, hx, hl, few, q⟩
  subst hx
  obtain ⟨u, rfl, rv⟩ := vals1 r
  cases rv
  have key : ∃ its : List Value, Vals (ks.map kV) its ∧ SeqOf s.heap l its.toArray := by
    rcases hl with hl | hl
    · obtain ⟨its, r, pl, _⟩ := I.list hl; exact ⟨its, r, .lst pl.isList⟩
    · obtain ⟨its, r, pl, _⟩ := I.tuple hl; exact ⟨its, r, .tup pl⟩
  obtain ⟨its, rv, sq⟩ := key
  refine set_call (I.ok.hd hc) sq rv few fun h' tk so k => ?_
  exact ⟨.ref _, _, I.laid (t' := tk) (fun b u e => k b u (Heap.lt_size e) e) (Nat.le_refl _) (setK_new so), rfl, q _ (I.hok.fresh (Nat.le_refl _))⟩
def rLenK (P : Program) (w : World) : List V → Hp → VK → Prop := fun xs H Q => ∃ a S n, xs = [.ref a] ∧ H a = some (SetK P w a S n) ∧ Q (.int (n : Nat)) H
theorem cr_lenK : CallR X (.builtin "len") (rLenK X.prog X.w) := by
  intro pins s σ H xs us Q I r ⟨a, S, n, hx, ha, q⟩
  subst hx
  obtain ⟨u, rfl, rv⟩ := vals1 r
  cases rv
  obtain ⟨o, es, ep, t, ho, hex, hd, _, _, hb, hf, hn⟩ := setK_get I ha
  subst hn
  exact call_len_set ho hex hd hf (by unfold scanBound at hb; omega) ⟨.int es.size, H, I.tok _, ⟨_, rfl⟩, q⟩
variable {W : WX} {a : Expr} {w : WE} {p p2 q pos : Pos}
theorem ae_lenSet (hc : X.calm = true) (hg : Gl X "len") (hm : X.mg "len" = none) (hg2 : Gl X "set") (hm2 : X.mg "set" = none) (ha : AE X W a w)
    (hs : starEach [a] X.env = (false, eval a X.env) :: starEach [] X.env := by exact starOf rfl) : AE X W (.Call (.Name "len" p) [.Call (.Name "set" p2) [a] [] q] [] pos) (wLenSet w) := by
  refine pe_imp (pe_callB (id := "len") cr_lenK hg hm PySem.boot_len (pa_cons (pe_callTy (T := "set") (cr_setK hc) hg2 hm2 PyProof.Rows.boot_set (pa_cons ha pa_nil hs) (by decide) (by decide) hs rfl) pa_nil rfl) (by decide) (by decide) rfl rfl) ?_
  rintro σ H Q ⟨S, A, Qa, Ea, ss, sa, qa, qx, w⟩
  refine ⟨S, A, _, Ea, ss, sa, ?_, qx, w⟩
  intro x A1 v H1 r1 sa1 k1 ⟨ks, few, hk, w1⟩
  have key : ∃ l, v = .ref l ∧ (SqL X.K H1 l (ks.map kV) ∨ SqT X.K H1 l (ks.map kV)) := by
    rcases hk with ⟨p, rfl, hk⟩ | ⟨ys, rfl, hk⟩
    · cases re_ref_inv r1
      obtain ⟨xs, vs, sq, rl, hk⟩ := seqA_of sa1 hk
      rw [keys_of hk rl] at sq
      exact ⟨p, rfl, .inl sq⟩
    · obtain ⟨p, vs, rfl, st, rl⟩ := re_tup_inv r1
      rw [keys_of hk rl] at st
      exact ⟨p, rfl, .inr st⟩
  obtain ⟨l, rfl, hl⟩ := key
  refine ⟨l, ks, rfl, hl, few, fun p hp => ?_⟩
  refine ⟨p, _, _, rfl, upd_same, ?_⟩
  exact qa _ _ _ _ (re_int _) (sa1.newU hp) (k1.trans (.new hp)) w1
end
end Rk

set_option Elab.async false
set_option linter.all false
set_option maxRecDepth 100000
set_option maxHeartbeats 3200000
namespace Rk
open PySem PySem.Spec PyProof.Rows L2
section
variable {P : Program} {w : World} {A : Around} {E : Value → Shared → Prop} {s : Shared}
theorem entry_seteq : entryFor table "set.__eq__" = some Builtin.«frozenset.__eq__» :=
  entryFor_alias (id' := "frozenset.__eq__") (by kernel_rfl) rfl (by decide +kernel) (by kernel_rfl)
theorem sub_set_fz : isSubtype (.type "set") (.type "frozenset") = pure false := by rw [isSubtype_type]; kernel_rfl
/-- every key of the one among the other's -/
def Subk (S T : Key → Bool) : Prop := ∀ j, S j = true → T j = true
theorem quiet_key {k : Key} {x : Value} {Q : Bool → Shared → Prop} (hk : (mixKind P w).is k x = true) (h : Q true s) : wpAny (model P w) A (Builtin.Frozenset.quietEq x) Q E s := by
  have : ∃ r, RelV (kV k) r ∧ r = x := ⟨x, by
    have hk : keyIs k x = true := hk
    rcases keyIs_shape hk with ⟨i, t, e1, e2⟩ | ⟨i, t, e1, e2⟩
    · subst e1 e2; exact ⟨_, rfl⟩
    · subst e1 e2; exact ⟨_, rfl⟩, rfl⟩
  obtain ⟨_, r, rfl⟩ := this
  unfold Builtin.Frozenset.quietEq
  cases k with
  | inl i => obtain ⟨t, rfl⟩ := r; exact wpAny_pure h
  | inr i => obtain ⟨t, rfl⟩ := r; exact wpAny_pure h
theorem unseen {a b : Addr} {o o' : Obj} {es fs : Array (Int × Value)} {ep fp : Nat} {t v : SetTable} {Q : List (Int × Value) → Shared → Prop} (h1 : s.heap.get? a = some o) (h2 : o.data = .set es ep t) (h3 : t.fits es.size = true) (h4 : ElemsOf (mixKind P w) es.toList)
    (k1 : s.heap.get? b = some o') (k2 : o'.data = .set fs fp v) (k3 : v.fits fs.size = true) (k4 : ElemsOf (mixKind P w) fs.toList) (h : Q es.toList s) : wpAny (model P w) A (Builtin.Frozenset.walkUnseen a b) Q E s := by
  unfold Builtin.Frozenset.walkUnseen
  refine wpAny_bind (wpAny_setEntries_of h1 h2 h3 ?_)
  refine wpAny_bind (wpAny_setEntries_of k1 k2 k3 ?_)
  refine wpAny_bind (wpAny_forIn_list _ (fun rest q t => t = s ∧ q = (none, ()) ∧ ∀ e ∈ rest, ∃ k, (mixKind P w).is k e.2 = true) _ ?_ ?_ _ _ ⟨rfl, rfl, fun e he => ?_⟩)
  · rintro ⟨hx, x⟩ rest q t ⟨rfl, rfl, hk⟩
    obtain ⟨k, hk1⟩ := hk _ (List.mem_cons_self ..)
    refine wpAny_bind (quiet_key hk1 ?_)
    exact wpAny_pure ⟨rfl, rfl, fun e he => hk e (List.mem_cons_of_mem _ he)⟩
  · rintro q t ⟨rfl, rfl, _⟩
    exact wpAny_pure h
  · rcases List.mem_append.mp he with he | he
    · exact ElemsOf.keys h4 e he
    · exact ElemsOf.keys k4 e he
theorem subset_of {id : String} {a b : Addr} {S T : Key → Bool} {n m : Nat} {Q : Bool → Shared → Prop} (ha : s.heap.SetOf (mixKind P w) a S n) (hb : s.heap.SetOf (mixKind P w) b T m) (hle : n ≤ m) (h : ∀ r, (r = true ↔ Subk S T) → Q r s) :
    wpAny (model P w) A (Builtin.Frozenset.subsetOf id a b) Q E s := by
  obtain ⟨o, es, ep, t, ho1, _, hd1, el1, me1, few1, fit1, len1⟩ := ha
  have hb' := hb
  obtain ⟨o2, fs, fp, v, ho2, _, hd2, el2, me2, few2, fit2, len2⟩ := hb
  unfold Builtin.Frozenset.subsetOf Builtin.Frozenset.sizeOf
  refine wpAny_bind (wpAny_bind (wpAny_setEntries_of ho1 hd1 fit1 (wpAny_pure ?_)))
  refine wpAny_bind (wpAny_bind (wpAny_setEntries_of ho2 hd2 fit2 (wpAny_pure ?_)))
  rw [if_neg (by omega)]
  refine wpAny_bind (wpAny_setEpoch_of ho1 hd1 fit1 ?_)
  refine wpAny_bind (unseen ho1 hd1 fit1 el1 ho2 hd2 fit2 el2 ?_)
  refine wpAny_bind (wpAny_mono (wpAny_forIn_list _ (fun rest q t => t = s ∧ q = (none, ()) ∧ (∀ e ∈ rest, e ∈ es.toList) ∧ ∀ e ∈ es.toList, e ∈ rest ∨ ∃ k, (mixKind P w).is k e.2 = true ∧ T k = true)
    (fun q t => t = s ∧ ((q.1 = none ∧ Subk S T) ∨ (q.1 = some false ∧ ¬ Subk S T))) ?_ ?_ _ _ ⟨rfl, rfl, fun _ h => h, fun _ h => .inl h⟩) ?_ fun _ _ z => z)
  · rintro ⟨hx, x⟩ rest q t ⟨rfl, rfl, hin, hall⟩
    obtain ⟨⟨k, hk, hh⟩, sc⟩ := el1 _ (hin _ (List.mem_cons_self ..))
    simp only at hk hh sc
    subst hh
    refine wpAny_bind (wpAny_holding (wpAny_setFind_of hk sc hb' fun r hr => ?_))
    cases hT : T k with
    | false =>
      rw [hT] at hr
      rw [if_pos (by cases r <;> simp_all)]
      refine wpAny_pure ⟨rfl, .inr ⟨rfl, fun sub => ?_⟩⟩
      have := sub k ((me1 k).mpr ⟨_, hin _ (List.mem_cons_self ..), hk⟩)
      rw [hT] at this; cases this
    | true =>
      rw [hT] at hr
      rw [if_neg (by cases r <;> simp_all)]
      unfold Builtin.Frozenset.unchanged
      refine wpAny_bind (wpAny_bind (wpAny_setEpoch_of ho1 hd1 fit1 ?_))
      rw [if_neg (by simp)]
      refine wpAny_pure (wpAny_pure ⟨rfl, rfl, fun e he => hin e (List.mem_cons_of_mem _ he), fun e he => ?_⟩)
      rcases hall e he with h | h
      · rcases List.mem_cons.mp h with rfl | h
        · exact .inr ⟨k, hk, hT⟩
        · exact .inl h
      · exact .inr h
  · rintro q t ⟨rfl, rfl, _, hall⟩
    refine ⟨rfl, .inl ⟨rfl, fun j hj => ?_⟩⟩
    obtain ⟨e, he, hk⟩ := (me1 j).mp hj
    rcases hall e he with h | ⟨k, hk', hT⟩
    · cases h
    · rw [(mixKind P w).inj _ _ _ hk hk']; exact hT
  · rintro ⟨q, u⟩ t ⟨rfl, h' | h'⟩
    · obtain ⟨e, sub⟩ := h'
      simp only at e; subst e
      exact wpAny_pure (h true (by simp [sub]))
    · obtain ⟨e, sub⟩ := h'
      simp only at e; subst e
      exact wpAny_pure (h false (by simp [sub]))
end
end Rk

set_option Elab.async false
set_option linter.all false
set_option maxRecDepth 100000
set_option maxHeartbeats 3200000
namespace Rk
open PySem PySem.Spec PyProof.Rows L2
section
variable {P : Program} {w : World} {A : Around} {E : Value → Shared → Prop} {s : Shared}
theorem eq_body {a b : Addr} {S T : Key → Bool} {n m : Nat} {Q : Fin → Shared → Prop} (ha : s.heap.SetOf (mixKind P w) a S n) (hb : s.heap.SetOf (mixKind P w) b T m) (h : ∀ r, (r = true ↔ n = m ∧ Subk S T) → Q (.done (.ret (.bool r))) s) : wpAny (model P w) A (Builtin.«frozenset.__eq__» ⟨[.ref a, .ref b], []⟩) Q E s := by
  have sub := fun (e : n = m) (id : String) (Q : Bool → Shared → Prop) (hq : ∀ r, (r = true ↔ Subk S T) → Q r s) => subset_of (A := A) (E := E) (id := id) (Q := Q) ha hb (by omega) hq
  obtain ⟨⟨c1, d1, u1, l1⟩, es, ep, t, ho1, ⟨h1, h2, h3⟩, h4, el1, me1, few1, fit1, len1⟩ := id ha
  obtain ⟨⟨c2, d2, u2, l2⟩, fs, fp, v, ho2, ⟨k1, k2, k3⟩, k4, el2, me2, few2, fit2, len2⟩ := id hb
  simp only at h1 h2 h3 h4 k1 k2 k3 k4
  subst h1 h2 h3 h4 k1 k2 k3 k4
  have f1 := sub_set_self
  have f2 := sub_set_fz
  have g1 : (t.place.size != es.size || decide (t.fill > t.mask)) = false := by
    simp only [SetTable.fits, Bool.and_eq_true, beq_iff_eq, decide_eq_true_eq] at fit1
    simp [fit1.1, Nat.not_lt.mpr fit1.2]
  have g2 : (v.place.size != fs.size || decide (v.fill > v.mask)) = false := by
    simp only [SetTable.fits, Bool.and_eq_true, beq_iff_eq, decide_eq_true_eq] at fit2
    simp [fit2.1, Nat.not_lt.mpr fit2.2]
  by_cases c : n = m
  · have g3 : (es.size != fs.size) = false := by simp [len1, len2, c]
    have sub := sub c
    unfold Builtin.«frozenset.__eq__»
    wp_walk using sub
    rw [if_neg (by rw [g1]; exact Bool.false_ne_true)]
    wp_walk using sub
    rw [if_neg (by rw [g2]; exact Bool.false_ne_true)]
    wp_walk using sub
    exact fun r hr => wpAny_pure (h r (hr.trans ⟨fun z => ⟨c, z⟩, fun z => z.2⟩))
  · have g3 : (es.size != fs.size) = true := by simp [len1, len2, c]
    unfold Builtin.«frozenset.__eq__»
    wp_walk
    rw [if_neg (by rw [g1]; exact Bool.false_ne_true)]
    wp_walk
    rw [if_neg (by rw [g2]; exact Bool.false_ne_true)]
    wp_walk
    exact h false ⟨fun z => (Bool.false_ne_true z).elim, fun z => (c z.1).elim⟩
end
end Rk

set_option Elab.async false
set_option linter.all false
set_option maxRecDepth 100000
set_option maxHeartbeats 400000
namespace Rk
open PySem PySem.Spec PyProof.Rows L2
section
variable {X : Cx}
def rEqK (P : Program) (w : World) : R2 := fun x y H Q => ∃ a b S T n m, x = .ref a ∧ y = .ref b ∧ H a = some (SetK P w a S n) ∧ H b = some (SetK P w b T m) ∧ ∀ r, (r = true ↔ n = m ∧ Subk S T) → Q (.bl r) H
theorem op_eqK (hu : X.A.units < cLine) : OpR X (compareOp .Eq) (rEqK X.prog X.w) := by
  intro pins s σ H x y v u Q I rx ry ⟨a, b, S, T, n, m, ex, ey, ha, hb, q⟩
  subst ex ey
  cases rx; cases ry
  have h1 := setK_get I ha
  have h2 := setK_get I hb
  have hop : ∀ x y, compareOp .Eq x y = richCompare .Eq x y := fun _ _ => rfl
  rw [hop]
  refine wpAny_richCompare_same_room (T := "set") (id := "set.__eq__") h1.typeIs h2.typeIs PySem.F.slot_set_eq ?_ hu
  refine wpAny_call_entry (T := "set") PySem.F.slot_set_eq h1.typeIs entry_seteq ?_ (PySem.F.args_set_eq_2 _ _)
  refine eq_body h1 h2 fun r hr => ?_
  refine ⟨.bool r, rfl, ?_, .bl r, H, I, rfl, q r hr⟩
  intro z
  cases z
/-- an expression that only reads: a plain value -/
abbrev RE := Sl → Option Vl
def LR (K : PySem.W.Frag) (g : RE) : TE := fun σ H Q => ∃ S x, SS K H S σ ∧ g S = some x ∧ ∀ v, Re K H x v → Q v H
def AR (X : Cx) (e : Expr) (g : RE) : Prop := PE X e (LR X.K g)
def rV (i : Nat) : RE := fun S => match S[i]? with | some (some x) => some x | _ => none
def rIx (i : Nat) (k : Int) : RE := fun S => match S[i]? with | some (some (.tup xs)) => atI xs k | _ => none
end
end Rk

set_option Elab.async false
set_option linter.all false
set_option maxRecDepth 100000
set_option maxHeartbeats 400000
namespace Rk
open PySem PySem.Spec PyProof.Rows L2
section
variable {P : Program} {w : World} {A : Around} {E : Value → Shared → Prop} {s : Shared}
theorem unledK {a : Addr} {S : Key → Bool} {n : Nat} {Q : Unit → Shared → Prop} (so : s.heap.SetOf (mixKind P w) a S n) (h : ∀ h', h'.SetOf (mixKind P w) a S n → (∀ b, b ≠ a → h'.get? b = s.heap.get? b) → Q () { s with heap := h' }) : wpAny (model P w) A (setUnled a) Q E s := by
  obtain ⟨o, es, ep, t, ho, hex, hd, el, me, few, fit, len⟩ := so
  have fit' : ({ t with led := false } : SetTable).fits es.size = true := by cases t; exact fit
  unfold setUnled
  refine wpAny_bind (wpAny_setState_of ho hd fit ?_)
  refine wpAny_storeSet_of ho hd ?_ (fits_of_scanBound few)
  obtain ⟨_, so2⟩ := SetOf_store (knd := mixKind P w) ho hex hd el me few fit'
  rw [len] at so2
  exact h _ so2 (Heap.SameBut.update s.heap a (Obj.putSet es { t with led := false })).2
end
section
variable {X : Cx} {e e1 e2 : Expr} {g g1 g2 : RE} {pos p2 : Pos}
theorem ar_var {i : Nat} {x : Str} (hN : X.N[i]? = some x) (hv : Vis X.env.scope x) (hd : (x == ("__debug__" : Str)) = false := by decide) (hcd : (x == ("__classdict__" : Str)) = false := by decide) : AR X (.Name x pos) (rV i) :=
  pe_imp (pe_var hN hv hd hcd) fun σ H Q ⟨S, y, ss, e, q⟩ => by
    unfold rV at e
    split at e
    · rename_i z he
      cases e
      obtain ⟨v, hv, r⟩ := ss.get _ _ he
      exact ⟨v, hv, q v r⟩
    · cases e
def tSet2 (K : PySem.W.Frag) (P : Program) (w : World) (g1 g2 : RE) : TE := fun σ H Q => ∃ S k1 k2, SS K H S σ ∧ (g1 S).bind keyOf? = some k1 ∧ (g2 S).bind keyOf? = some k2 ∧ ∀ p, H p = none → Q (.ref p) (upd H p (SetK P w p (memK (ddN [] [k1, k2])) (ddN [] [k1, k2]).length))
theorem key_re {K : PySem.W.Frag} {H : Hp} {x : Vl} {k : Key} {v : V} (h : keyOf? x = some k) (r : Re K H x v) : v = kV k := by
  have := keys_of (xs := [x]) (ks := [k]) (vs := [v]) (by simp [keys?, h]) (.cons r .nil)
  simpa using this
theorem fill_keys {pins : List (Addr × Obj)} {σ : L2.St} {H : Hp} {p : Addr} {un : Bool} {Q : VK} : ∀ (ks : List Key) (us : List Value) (ys : List Key) (s : Shared), Vals (ks.map kV) us → Inv X pins σ (upd H p (SetK X.prog X.w p (memK ys) ys.length)) s → ys.length + ks.length < 3000 →
    Q (.ref p) (upd H p (SetK X.prog X.w p (memK (ddN ys ks)) (ddN ys ks).length)) → PySem.W.KdsFill (model X.prog X.w) X.A X.xe un p (EP X pins σ Q) us s
  | [], _, ys, s, r, I, _, q => by
    cases r
    cases un with
    | false => exact PySem.W.kds_fill_nil rfl ⟨.ref p, _, I, rfl, q⟩
    | true =>
      refine PySem.W.kds_fill_unled rfl (unledK (setK_get I upd_same) fun h' so sb => ?_)
      have J := I.write (x := p) (e := p) (o := SetK X.prog X.w p (memK ys) ys.length) (t' := s.toks) (h' := h') (by rw [upd_same]; trivial) (.inl rfl) (fun b u z e => (sb b z).trans e) (by have ⟨o, _, _, _, ho, _⟩ := so; exact ⟨o, ho⟩) (setK_new so)
      rw [upd_upd] at J
      exact ⟨.ref p, _, J, rfl, q⟩
  | k :: ks, _, ys, s, r, I, few, q => by
    cases r with
    | cons rv rt =>
      refine PySem.W.kds_fill_cons ?_
      unfold setAdd
      refine wpAny_holding (wpAny_bind ((mixKind X.prog X.w).pyHash (k := k) (kV_is rv) ?_))
      simp only [List.length_cons] at few
      refine wpAny_setAddHashed_of (knd := mixKind X.prog X.w) (s := { s with toks := s.toks + 1 }) (kV_is rv) (key_scan rv) (setK_get (S := memK ys) (n := ys.length) (I.tok _) upd_same) (by unfold scanBound; omega) fun h' sb so => ?_
      have so2 : h'.SetOf (mixKind X.prog X.w) p (memK (if memK ys k = true then ys else ys ++ [k])) (if memK ys k = true then ys else ys ++ [k]).length := by
        by_cases c : memK ys k = true
        · refine sof_congr so (fun j => ?_) (by rw [if_pos c, if_pos c])
          rw [if_pos c]
          by_cases e : j = k
          · subst e; simp [c]
          · simp [e]
        · refine sof_congr so (fun j => ?_) (by rw [if_neg c, if_neg c]; simp)
          rw [if_neg c, memK_app]
      have J := I.write (x := p) (e := p) (o := SetK X.prog X.w p (memK (if memK ys k = true then ys else ys ++ [k])) (if memK ys k = true then ys else ys ++ [k]).length) (t' := s.toks + 1) (h' := h') (by rw [upd_same]; trivial) (.inl rfl) (fun b u z e => (sb.2 b z).trans e) (by have ⟨o, _, _, _, ho, _⟩ := so; exact ⟨o, ho⟩) (setK_new so2)
      rw [upd_upd] at J
      exact fill_keys ks _ _ _ rt J (by split <;> (try simp) <;> omega) q
theorem pe_set2 (hcd : PySem.W.kdsCode X.K X.env.code = true) (h1 : AR X e1 g1) (h2 : AR X e2 g2) (hp : [e1, e2].all PySem.W.kdsPlain = true) : PE X (.Set [e1, e2] 0 pos) (tSet2 X.K X.prog X.w g1 g2) := by
  refine ⟨fun pins s σ H Q I ⟨S, k1, k2, ss, b1, b2, q⟩ => ?_⟩
  obtain ⟨x1, a1, b1⟩ := Option.bind_eq_some_iff.mp b1
  obtain ⟨x2, a2, b2⟩ := Option.bind_eq_some_iff.mp b2
  rw [arm_eval_Set]
  refine wpAny_bind (wpAny_standAt ?_)
  refine wpAny_bind (PySem.W.kds_main I.kIn hcd fun b => ?_)
  rw [PySem.W.kds_star [e1, e2] hp, List.map_map]
  refine PySem.W.kds_core (ts := (evalEach [e1, e2] X.env).map fun t => do let v ← t; standAt pos; pure v) (road0 _) ?_ ?_ ?_ fun led => ?_
  · exact List.findIdx?_eq_none_iff.mpr fun x hx => by
      obtain ⟨t, _, rfl⟩ := List.mem_map.mp hx
      rfl
  · rw [List.length_map, PySem.W.kds_len]; show 2 ≤ 30; decide
  · rw [List.map_map]; rfl
  have new : (s.heap.push (nset led)).SetOf (mixKind X.prog X.w) s.heap.objs.size (memK []) 0 :=
    ⟨_, #[], 0, _, Heap.get?_push_size _ rfl, ⟨rfl, rfl, rfl⟩, rfl, (fun e he => by simp at he), (fun k => by simp [memK]), (by decide), (by rfl), rfl⟩
  have hn : H s.heap.objs.size = none := I.hok.fresh (Nat.le_refl _)
  have I1 := I.laid (t' := s.toks) (h' := s.heap.push (nset led)) (fun b u e => Heap.get?_push_of_some _ e) (Nat.le_refl _) (setK_new new)
  generalize hpp : s.heap.objs.size = p at *
  refine PySem.W.kds_all pos [e1, e2] _ _ ?_
  have kp : Keep H (upd H p (SetK X.prog X.w p (memK []) 0)) := .new hn
  refine thn (h1.run pins _ σ _ (fun v H' => H' = upd H p (SetK X.prog X.w p (memK []) 0) ∧ v = kV k1) I1 ⟨S, x1, ss.keep kp, a1, fun v r => ⟨rfl, key_re b1 r⟩⟩) fun u1 s1 ⟨v1, H1, I2, r1, eH, ev⟩ => ?_
  subst eH ev
  refine thn (h2.run pins _ σ _ (fun v H' => H' = upd H p (SetK X.prog X.w p (memK []) 0) ∧ v = kV k2) I2 ⟨S, x2, ss.keep kp, a2, fun v r => ⟨rfl, key_re b2 r⟩⟩) fun u2 s2 ⟨v2, H2, I3, r2, eH, ev⟩ => ?_
  subst eH ev
  exact fill_keys [k1, k2] [u1, u2] [] s2 (.cons r1 (.cons r2 .nil)) I3 (by simp) (q p hn)
theorem ar_ix {i : Nat} {x : Str} {k : Int} {e : Expr} (hN : X.N[i]? = some x) (hv : Vis X.env.scope x) (he : PE X e (tC (.int k))) (hp : PlainIx e) (hd : (x == ("__debug__" : Str)) = false := by decide) (hcd : (x == ("__classdict__" : Str)) = false := by decide) :
    AR X (.Subscript (.Name x p2) e pos) (rIx i k) :=
  pe_imp (pe_ix ix_tup (pe_var hN hv hd hcd) he hp) fun σ H Q ⟨S, y, ss, e, q⟩ => by
    unfold rIx at e
    split at e
    · rename_i xs he
      obtain ⟨v, hv, r⟩ := ss.get _ _ he
      obtain ⟨p, vs, rfl, st, rl⟩ := re_tup_inv r
      obtain ⟨t, ht, rt⟩ := rl.atI e
      exact ⟨_, hv, p, vs, k, t, rfl, rfl, st, ht, q t rt⟩
    · cases e
def setEq (k1 k2 k3 k4 : Key) : Bool := decide ((ddN [] [k1, k2]).length = (ddN [] [k3, k4]).length) && (ddN [] [k1, k2]).all fun j => memK (ddN [] [k3, k4]) j
def wSetEq (g1 g2 g3 g4 : RE) : WT := fun S A Q _ => ∃ k1 k2 k3 k4, (g1 S).bind keyOf? = some k1 ∧ (g2 S).bind keyOf? = some k2 ∧ (g3 S).bind keyOf? = some k3 ∧ (g4 S).bind keyOf? = some k4 ∧ Q (setEq k1 k2 k3 k4) A
theorem at_setEq {W : WX} {e3 e4 : Expr} {g3 g4 : RE} {pos3 pos4 : Pos} (hu : X.A.units < cLine) (hcd : PySem.W.kdsCode X.K X.env.code = true) (h1 : AR X e1 g1) (h2 : AR X e2 g2) (h3 : AR X e3 g3) (h4 : AR X e4 g4) (hp : [e1, e2].all PySem.W.kdsPlain = true) (hq : [e3, e4].all PySem.W.kdsPlain = true)
    (hm : behindInMarks .Eq (.Set [e3, e4] 0 pos4) = false := by rfl) : AT X W (.Compare (.Set [e1, e2] 0 pos3) [.Eq] [.Set [e3, e4] 0 pos4] pos) (wSetEq g1 g2 g3 g4) := by
  refine pt_imp (pt_cmpR (op_eqK hu) (pe_set2 hcd h1 h2 hp) (pe_set2 hcd h3 h4 hq) hm) ?_
  rintro σ H Q ⟨S, A, Qa, Ea, ss, sa, qa, qx, k1, k2, k3, k4, b1, b2, b3, b4, w⟩
  refine ⟨S, k1, k2, ss, b1, b2, fun p hp => ?_⟩
  have kp : Keep H (upd H p (SetK X.prog X.w p (memK (ddN [] [k1, k2])) (ddN [] [k1, k2]).length)) := .new hp
  refine ⟨S, k3, k4, ss.keep kp, b3, b4, fun q hq => ?_⟩
  have ne : p ≠ q := fun e => by rw [← e, upd_same] at hq; cases hq
  refine ⟨p, q, _, _, _, _, rfl, rfl, (upd_ne ne).trans upd_same, upd_same, fun r hr => ⟨r, rfl, ?_⟩⟩
  have er : r = setEq k1 k2 k3 k4 := by
    have : (setEq k1 k2 k3 k4 = true) ↔ (ddN [] [k1, k2]).length = (ddN [] [k3, k4]).length ∧ Subk (memK (ddN [] [k1, k2])) (memK (ddN [] [k3, k4])) := by
      unfold setEq Subk
      rw [Bool.and_eq_true, decide_eq_true_eq, List.all_eq_true]
      exact and_congr Iff.rfl ⟨fun h j hj => h j (memK_iff.mp hj), fun h j hj => h j (memK_iff.mpr hj)⟩
    exact Bool.eq_iff_iff.mpr (hr.trans this.symm)
  rw [er]
  exact qa _ _ _ ((sa.newU hp).newU hq) (kp.trans (.new hq)) w
end
end Rk

set_option Elab.async false
set_option linter.all false
set_option maxRecDepth 100000
set_option maxHeartbeats 400000
namespace Rk
open PySem PySem.Spec PyProof.Rows L2
section
variable {X : Cx} {K : PySem.W.Frag}
/-! ### slices -/
def cutL {α : Type} (xs : List α) (lo hi : Option Int) : List α := (xs.drop (HT.sIx xs.length 0 lo)).take (HT.sIx xs.length xs.length hi - HT.sIx xs.length 0 lo)
theorem cutL_V (xs : List V) (lo hi : Option Int) : cutV xs lo hi = cutL xs lo hi := rfl
theorem Rl.cut {H : Hp} {xs : List Vl} {vs : List V} (lo hi : Option Int) (h : Rl K H xs vs) : Rl K H (cutL xs lo hi) (cutL vs lo hi) := by
  unfold cutL
  rw [h.length]
  exact (h.drop _).take _
theorem cutL_whole {α : Type} {xs : List α} {lo hi : Option Int} (h : HT.sIx xs.length 0 lo = 0 ∧ HT.sIx xs.length xs.length hi = xs.length) : cutL xs lo hi = xs := by
  unfold cutL; rw [h.1, h.2]; simp
def fSl : FS := fun x lo hi A Q => match x with
  | .tup xs => Q (.tup (cutL xs lo hi)) A
  | .str s => Q (.str (cutS s lo hi)) A
  | .ref p => seqA A p fun xs => ∀ q, A q = none → Q (.ref q) (put A q (.lst (cutL xs lo hi)))
  | _ => False
theorem okS_cut {s : Str} (h : okS s) (lo hi : Option Int) : okS (cutS s lo hi) := by
  refine ⟨Nat.le_trans (cutS_length s lo hi) h.1, ?_⟩
  have h2 := h.2
  simp only [PyData.strOk, Array.all_eq_true_iff_forall_mem, decide_eq_true_eq, cutS] at h2 ⊢
  intro c hc
  refine h2 c ?_
  rw [← Array.mem_toList_iff] at hc ⊢
  exact List.mem_of_mem_drop (List.mem_of_mem_take hc)
theorem s_sl : SimS K (fun x lo hi H Q => (rSlL K x lo hi H Q ∨ rSlN K x lo hi H Q) ∨ L2.rSlS x lo hi H Q) fSl := by
  intro x lo hi v A H Q Qa r sa q w
  cases x with
  | tup xs =>
    obtain ⟨p, vs, rfl, st, rl⟩ := re_tup_inv r
    refine .inl (.inr ⟨p, vs, rfl, st, fun h => ?_, ?_⟩)
    · refine q _ _ _ _ ?_ sa .refl w
      rw [cutL_whole (by rw [rl.length]; exact h)]
      exact r
    · exact ql_tup q sa (rl.cut lo hi) w
  | str s =>
    obtain ⟨rfl, g⟩ := re_str_inv r
    exact .inr ⟨s, rfl, g.1, q _ _ _ _ (re_str (okS_cut g lo hi) _) sa .refl w⟩
  | ref p =>
    cases re_ref_inv r
    obtain ⟨xs, vs, sq, rl, w⟩ := seqA_of sa w
    refine .inl (.inl ⟨p, vs, rfl, sq, fun p' hp' => ?_⟩)
    exact ql_lst q sa (rl.cut lo hi) w p' hp'
  | _ => exact w.elim
theorem o_sl : SlR X (fun x lo hi H Q => (rSlL X.K x lo hi H Q ∨ rSlN X.K x lo hi H Q) ∨ L2.rSlS x lo hi H Q) := (sl_list.or sl_tupS).or sl_str
/-! ### in, not in -/
def flatL : Vl → Bool
  | .non => true | .bl _ => true | .int _ => true | .str _ => true | _ => false
/-- == of flat values -/
def eqL : Vl → Vl → Bool
  | .non, .non => true
  | .bl a, .bl b => a == b
  | .bl a, .int b => (if a then 1 else 0) == b
  | .int a, .bl b => a == (if b then 1 else 0)
  | .int a, .int b => a == b
  | .str a, .str b => a == b
  | _, _ => false
theorem flat_of {H : Hp} {x : Vl} {v : V} (r : Re K H x v) (f : flatL x = true) : flatV v = true := by
  cases x with
  | non => cases re_non_inv r; rfl
  | bl b => cases re_bl_inv r; rfl
  | int b => cases re_int_inv r; rfl
  | str b => obtain ⟨rfl, _⟩ := re_str_inv r; rfl
  | _ => cases f
theorem flats_of {H : Hp} : ∀ {xs : List Vl} {vs : List V}, Rl K H xs vs → xs.all flatL = true → vs.all flatV = true
  | [], _, r, _ => by rw [r.nil_inv]; rfl
  | x :: xs, _, r, f => by
    obtain ⟨v, ws, rfl, r1, r2⟩ := r.cons_inv
    rw [List.all_cons, Bool.and_eq_true] at f ⊢
    exact ⟨flat_of r1 f.1, flats_of r2 f.2⟩
theorem eqL_of {H : Hp} {x y : Vl} {v u : V} (r : Re K H x v) (s : Re K H y u) (f : flatL x = true) (g : flatL y = true) : eqV v u = eqL x y := by
  cases x with
  | non => cases re_non_inv r; cases y <;> first | (cases re_non_inv s; rfl) | (cases re_bl_inv s; rfl) | (cases re_int_inv s; rfl) | (obtain ⟨rfl, _⟩ := re_str_inv s; rfl) | cases g
  | bl b => cases re_bl_inv r; cases y <;> first | (cases re_non_inv s; rfl) | (cases re_bl_inv s; rfl) | (cases re_int_inv s; rfl) | (obtain ⟨rfl, _⟩ := re_str_inv s; rfl) | cases g
  | int b => cases re_int_inv r; cases y <;> first | (cases re_non_inv s; rfl) | (cases re_bl_inv s; rfl) | (cases re_int_inv s; rfl) | (obtain ⟨rfl, _⟩ := re_str_inv s; rfl) | cases g
  | str b => obtain ⟨rfl, _⟩ := re_str_inv r; cases y <;> first | (cases re_non_inv s; rfl) | (cases re_bl_inv s; rfl) | (cases re_int_inv s; rfl) | (obtain ⟨rfl, _⟩ := re_str_inv s; rfl) | cases g
  | _ => cases f
def inL (x : Vl) (xs : List Vl) : Bool := xs.any fun y => eqL y x
theorem inL_of {H : Hp} {x : Vl} {v : V} (r : Re K H x v) (f : flatL x = true) : ∀ {xs : List Vl} {vs : List V}, Rl K H xs vs → xs.all flatL = true → inV v vs = inL x xs
  | [], _, s, _ => by rw [s.nil_inv]; rfl
  | y :: xs, _, s, g => by
    obtain ⟨u, ws, rfl, r1, r2⟩ := s.cons_inv
    rw [List.all_cons, Bool.and_eq_true] at g
    have := inL_of r f r2 g.2
    unfold inV inL at this ⊢
    rw [List.any_cons, List.any_cons, this, eqL_of r1 r g.1 f]
def fInA (neg : Bool) : F2 := fun x y A Q => match y with
  | .str t => (match x with
    | .str s => Q (.bl (neg != !(Builtin.Str.occurrences t s 0 t.length 1).isEmpty)) A
    | _ => False)
  | .tup xs => flatL x = true ∧ xs.all flatL = true ∧ Q (.bl (neg != inL x xs)) A
  | .ref p => seqA A p fun xs => flatL x = true ∧ xs.all flatL = true ∧ Q (.bl (neg != inL x xs)) A
  | _ => False
theorem in_go {neg : Bool} {fn : Value → Value → Sem Value} (hs : O2 X fn (fIn neg)) (hq : OpR X fn (rIn X.K neg)) : O2 X fn (fInA neg) := by
  intro pins s σ H v u vv uu Q I rv ru ⟨x, y, A, Qa, r1, r2, sa, q, w⟩
  have key : ∀ (p : Addr) (xs : List Vl) (vs : List V), u = .ref p → (SqL X.K H p vs ∨ SqT X.K H p vs) → Rl X.K H xs vs → flatL x = true → xs.all flatL = true → Qa (.bl (neg != inL x xs)) A → wpAny (model X.prog X.w) X.A (fn vv uu) (EP X pins σ Q) X.xe s := by
    intro p xs vs e sq rl f g w
    refine hq pins s σ H _ _ _ _ Q I rv ru ⟨p, vs, e, sq, flat_of r1 f, flats_of rl g, ?_⟩
    rw [inL_of r1 f rl g]
    exact q _ _ _ _ (re_bl _) sa .refl (by cases neg <;> simpa using w)
  cases y with
  | str t =>
    cases x with
    | str a => exact hs pins s σ H _ _ _ _ Q I rv ru ⟨_, _, A, Qa, r1, r2, sa, q, w⟩
    | _ => exact w.elim
  | tup xs =>
    obtain ⟨p, vs, e, st, rl⟩ := re_tup_inv r2
    exact key p xs vs e (.inr st) rl w.1 w.2.1 w.2.2
  | ref p =>
    obtain ⟨xs, vs, sq, rl, f, g, w⟩ := seqA_of sa w
    exact key p xs vs (re_ref_inv r2) (.inl sq) rl f g w
  | _ => exact w.elim
theorem o_inA : O2 X (compareOp .In) (fInA false) := in_go o_in op_in_seq
theorem o_notinA : O2 X (compareOp .NotIn) (fInA true) := in_go o_notin op_notIn_seq
/-! ### int(x) -/
def fInt : FC := fun xs A Q => match xs with
  | [.int i] => Q (.int i) A
  | [.bl b] => Q (.int (if b then 1 else 0)) A
  | _ => False
theorem o_int : OC X (.type "int") fInt := by
  intro pins s σ H vs us Q I r ⟨xs, A, Qa, rl, sa, q, w⟩
  unfold fInt at w
  split at w
  · obtain ⟨v, rfl, rx⟩ := rl.one
    cases re_int_inv rx
    exact call_int1 pins s σ H _ us Q I r (.inl ⟨_, rfl, q _ _ _ _ (re_int _) sa .refl w⟩)
  · obtain ⟨v, rfl, rx⟩ := rl.one
    cases re_bl_inv rx
    exact call_int1 pins s σ H _ us Q I r (.inr ⟨_, rfl, q _ _ _ _ (re_int _) sa .refl w⟩)
  · exact w.elim
/-! ### t.index(x) of a tuple of texts -/
def fTIndex : FM := fun x xs A Q => ∃ ys z ss j, x = .tup ys ∧ xs = [.str z] ∧ strL ys = some ss ∧ ss[j]? = some z ∧ (∀ m, m < j → ss[m]? ≠ some z) ∧ Q (.int (j : Nat)) A
theorem m_tindex : Mt X .tup "index" fTIndex := ⟨⟨_, PySem.F.plainAttrs_tuple, PySem.F.slot_tuple_index, PySem.F.type_tuple_index, by
  intro pins s σ H v vs vv us Q I rv rs ⟨x, xs, A, Qa, r, rl, sa, q, _, ys, z, ss, j, hx, hxs, hs, hj, hno, w⟩
  subst hx hxs
  obtain ⟨p, ws, rfl, st, l⟩ := re_tup_inv r
  obtain ⟨u, rfl, ru⟩ := rl.one
  obtain ⟨rfl, _⟩ := re_str_inv ru
  rw [strL_of hs l] at st
  exact mt_tup_index pins s σ H _ _ vv us Q I rv rs ⟨p, ss, z, j, rfl, rfl, st, hj, hno, q _ _ _ _ (re_int _) sa .refl w⟩⟩⟩
/-! ### what is never reached -/
def wNo : WS := fun _ _ _ => False
theorem as_no {W : WX} {st : Stmt} : AS X W st wNo := ⟨fun _ _ _ _ _ _ ⟨_, _, _, _, _, _, w⟩ => w.elim⟩
end
end Rk

set_option Elab.async false
set_option linter.all false
set_option maxRecDepth 100000
set_option maxHeartbeats 400000
namespace Rk
open PySem PySem.Spec PyProof.Rows L2
section
variable {X : Cx} {K : PySem.W.Frag}
/-! ### dicts whose keys are ints and texts -/
def keyIsV (a : Vl) (k : Key) : Bool := decide (keyOf? a = some k)
theorem keyIsV_kVl {c k : Key} : keyIsV (kVl c) k = decide (c = k) := by
  unfold keyIsV
  cases c <;> simp [keyOf?, kVl]
def lookL : List (Vl × Vl) → Key → Option Vl
  | [], _ => none
  | (a, x) :: r, k => if keyIsV a k = true then some x else lookL r k
def putL (kvs : List (Vl × Vl)) (k : Key) (x : Vl) : List (Vl × Vl) :=
  if (kvs.any fun kv => keyIsV kv.1 k) = true then kvs.map (fun kv => if keyIsV kv.1 k = true then (kv.1, x) else kv) else kvs ++ [(kVl k, x)]
def mergeL (kvs : List (Vl × Vl)) : List (Key × Vl) → List (Vl × Vl)
  | [] => kvs
  | (k, x) :: r => mergeL (putL kvs k x) r
theorem Kr.look {H : Hp} {k : Key} : ∀ {kvs : List (Vl × Vl)} {kk : List (Key × V)}, Kr K H kVl kvs kk → (∀ x, lookL kvs k = some x → ∃ v, valV kk k = some v ∧ Re K H x v) ∧ (lookL kvs k = none → valV kk k = none)
  | [], kk, h => by rw [show kk = [] from h]; exact ⟨fun x e => (nomatch e), fun _ => rfl⟩
  | (a, x) :: r, _, ⟨c, v, hs, e, ea, rx, t⟩ => by
    subst e ea
    have ih := Kr.look (k := k) t
    unfold lookL
    rw [keyIsV_kVl]
    by_cases h : c = k
    · subst h
      rw [valV_pos (p := (c, v)) rfl]
      simp only [decide_true, if_true]
      exact ⟨fun y e => by cases e; exact ⟨v, rfl, rx⟩, fun e => (nomatch e)⟩
    · rw [valV_neg (p := (c, v)) h]
      simp only [h, decide_false, Bool.false_eq_true, if_false]
      exact ih
theorem Kr.anyK {H : Hp} {k : Key} : ∀ {kvs : List (Vl × Vl)} {kk : List (Key × V)}, Kr K H kVl kvs kk → (kvs.any fun kv => keyIsV kv.1 k) = kk.any fun kv => decide (kv.1 = k)
  | [], kk, h => by rw [show kk = [] from h]; rfl
  | (a, x) :: r, _, ⟨c, v, hs, e, ea, rx, t⟩ => by
    subst e ea
    rw [List.any_cons, List.any_cons, Kr.anyK t, keyIsV_kVl]
theorem Kr.app {H : Hp} {k : Key} {x : Vl} {v : V} (rx : Re K H x v) : ∀ {kvs : List (Vl × Vl)} {kk : List (Key × V)}, Kr K H kVl kvs kk → Kr K H kVl (kvs ++ [(kVl k, x)]) (kk ++ [(k, v)])
  | [], kk, h => by rw [show kk = [] from h]; exact ⟨k, v, [], rfl, rfl, rx, rfl⟩
  | (a, y) :: r, _, ⟨c, u, hs, e, ea, ry, t⟩ => by subst e; exact ⟨c, u, _, rfl, ea, ry, Kr.app rx t⟩
theorem Kr.repl {H : Hp} {k : Key} {x : Vl} {v : V} (rx : Re K H x v) : ∀ {kvs : List (Vl × Vl)} {kk : List (Key × V)}, Kr K H kVl kvs kk → Kr K H kVl (kvs.map (fun kv => if keyIsV kv.1 k = true then (kv.1, x) else kv)) (kk.map (fun kv => if kv.1 = k then (kv.1, v) else kv))
  | [], kk, h => by rw [show kk = [] from h]; rfl
  | (a, y) :: r, _, ⟨c, u, hs, e, ea, ry, t⟩ => by
    subst e ea
    rw [List.map_cons, List.map_cons]
    simp only [keyIsV_kVl, decide_eq_true_eq]
    by_cases h : c = k
    · rw [if_pos h, if_pos h]; exact ⟨c, v, _, rfl, rfl, rx, Kr.repl rx t⟩
    · rw [if_neg h, if_neg h]; exact ⟨c, u, _, rfl, rfl, ry, Kr.repl rx t⟩
theorem Kr.put {H : Hp} {k : Key} {x : Vl} {v : V} {kvs : List (Vl × Vl)} {kk : List (Key × V)} (rx : Re K H x v) (h : Kr K H kVl kvs kk) : Kr K H kVl (putL kvs k x) (putK kk k v) := by
  unfold putL putK
  rw [h.anyK]
  split
  · exact Kr.repl rx h
  · exact Kr.app rx h
theorem Kr.length {H : Hp} : ∀ {kvs : List (Vl × Vl)} {kk : List (Key × V)}, Kr K H kVl kvs kk → kvs.length = kk.length
  | [], kk, h => by rw [show kk = [] from h]; rfl
  | (a, y) :: r, _, ⟨c, u, hs, e, ea, ry, t⟩ => by subst e; simp [Kr.length t]
/-- pairs as they are written -/
abbrev WP := Sl → Ah → (List (Vl × Vl) → Ah → Prop) → EX → Prop
def wPnil : WP := fun _ A Q _ => Q [] A
def wPcons (a b : WE) (r : WP) : WP := fun S A Q E => a S A (fun x A1 => b S A1 (fun y A2 => r S A2 (fun ps A3 => Q ((x, y) :: ps) A3) E) E) E
def pkeys : List (Vl × Vl) → Option (List (Key × Vl))
  | [] => some []
  | (a, x) :: r => match keyOf? a, pkeys r with
    | some k, some ks => some ((k, x) :: ks)
    | _, _ => none
def Rp (K : PySem.W.Frag) (H : Hp) : List (Vl × Vl) → List (V × V) → Prop
  | [], ps => ps = []
  | (a, x) :: r, ps => ∃ v u qs, ps = (v, u) :: qs ∧ Re K H a v ∧ Re K H x u ∧ Rp K H r qs
theorem pkeys_ok {H : Hp} : ∀ {kvs : List (Vl × Vl)} {ks : List (Key × Vl)} {ps : List (V × V)}, pkeys kvs = some ks → Rp K H kvs ps → ∃ kk : List (Key × V), ps = kk.map (fun kv => (kV kv.1, kv.2)) ∧ kk.length = ks.length ∧ (∀ kvs0 kk0, Kr K H kVl kvs0 kk0 → Kr K H kVl (mergeL kvs0 ks) (mergeK kk0 kk))
  | [], _, ps, e, r => by cases e; rw [show ps = [] from r]; exact ⟨[], rfl, rfl, fun _ _ h => h⟩
  | (a, x) :: kvs, _, _, e, ⟨v, u, qs, ep, ra, rx, rt⟩ => by
    subst ep
    unfold pkeys at e
    cases h1 : keyOf? a with
    | none => rw [h1] at e; cases e
    | some k =>
      cases h2 : pkeys kvs with
      | none => rw [h1, h2] at e; cases e
      | some ks' =>
        rw [h1, h2] at e; cases e
        obtain ⟨kk, e1, e2, e3⟩ := pkeys_ok h2 rt
        refine ⟨(k, u) :: kk, by rw [List.map_cons, e1, key_re h1 ra], by simp [e2], fun kvs0 kk0 h => ?_⟩
        exact e3 _ _ (h.put rx)
def tp (K : PySem.W.Frag) (W : WX) : List (WE × WE) → List (TE × TE)
  | [] => []
  | (a, b) :: r => (LE K W a, LE K W b) :: tp K W r
def wPs : List (WE × WE) → WP
  | [] => wPnil
  | (a, b) :: r => wPcons a b (wPs r)
theorem Rp.keep {H H' : Hp} (k : Keep H H') : ∀ {kvs : List (Vl × Vl)} {ps : List (V × V)}, Rp K H kvs ps → Rp K H' kvs ps
  | [], _, h => h
  | (_, _) :: _, _, ⟨v, u, qs, e, ra, rx, t⟩ => ⟨v, u, qs, e, ra.keep k, rx.keep k, Rp.keep k t⟩
theorem pairs_go {W : WX} : ∀ {ws : List (WE × WE)} {σ : L2.St} {H : Hp} {S : Sl} {A : Ah} {Q : List (V × V) → Hp → Prop} {Qa : List (Vl × Vl) → Ah → Prop} {Ea : EX}, SS K H S σ → SA K A H → QX K H Ea (fun c d H' => W c d σ H') →
    (∀ kvs A' ps H', Rp K H' kvs ps → SA K A' H' → Keep H H' → Qa kvs A' → Q ps H') → wPs ws S A Qa Ea → tPairs (tp K W ws) σ H Q
  | [], σ, H, S, A, Q, Qa, Ea, ss, sa, qx, q, w => q [] A [] H rfl sa .refl w
  | (a, b) :: r, σ, H, S, A, Q, Qa, Ea, ss, sa, qx, q, w => by
    refine ⟨S, A, _, Ea, ss, sa, ?_, qx, w⟩
    intro x A1 v H1 r1 sa1 k1 w1
    refine ⟨S, A1, _, Ea, ss.keep k1, sa1, ?_, qx.keep k1, w1⟩
    intro y A2 u H2 r2 sa2 k2 w2
    refine pairs_go (ws := r) (ss.keep (k1.trans k2)) sa2 (qx.keep (k1.trans k2)) ?_ w2
    intro kvs A3 ps H3 rp sa3 k3 w3
    exact q ((x, y) :: kvs) A3 ((v, u) :: ps) H3 ⟨v, u, ps, rfl, r1.keep (k2.trans k3), r2.keep k3, rp⟩ sa3 ((k1.trans k2).trans k3) w3
/-- {k: v, ..} -/
def wDisp (ws : List (WE × WE)) : WE := fun S A Q E => ∀ p, A p = none → wPs ws S (put A p (.hid (.dK []))) (fun kvs A2 => A2 p = some (.hid (.dK [])) ∧ ∃ ks, pkeys kvs = some ks ∧ ks.length ≤ 15 ∧ Q (.ref p) (put A2 p (.dct (mergeL [] ks)))) E
theorem ae_disp {W : WX} {pos : Pos} {keys : List (Option Expr)} {values : List Expr} {ws : List (WE × WE)} (h : PPs X pos keys values (tp X.K W ws)) (hall : keys.all (·.isSome) = true) (hl : keys.length = values.length) (h0 : keys ≠ []) (h15 : keys.length ≤ 15) :
    AE X W (.Dict keys values pos) (wDisp ws) := pe_imp (pe_disp h hall hl h0 h15) fun σ H Q ⟨S, A, Qa, Ea, ss, sa, q, qx, w⟩ => by
  intro p hp
  have k0 : Keep H (upd H p (.dK [])) := .new hp
  refine pairs_go (ss.keep k0) (sa.new (o := .hid (.dK [])) hp upd_same) (qx.keep k0) ?_ (w p (sa.fresh hp))
  intro kvs A2 ps H2 rp sa2 k2 ⟨hA, ks, hk, h15, w2⟩
  have hp2 : H2 p = some (.dK []) := sa2 p _ hA
  obtain ⟨kk, e1, e2, e3⟩ := pkeys_ok hk rp
  refine ⟨hp2, kk, e1, by omega, ?_⟩
  have m : Mut (H2 p) := by rw [hp2]; trivial
  have kw : Keep H2 (upd H2 p (.dK (mergeK [] kk))) := .write m
  exact q _ _ _ _ (re_ref _) (sa2.write (o := .dct (mergeL [] ks)) m ⟨_, upd_same, .inl ⟨_, rfl, Kr.keep kw (e3 [] [] rfl)⟩⟩) ((k0.trans k2).trans kw) w2
theorem ps_none {W : WX} {pos : Pos} : PPs X pos [] [] (tp X.K W []) := pps_nil
theorem ps_some {W : WX} {pos : Pos} {k v : Expr} {ks : List (Option Expr)} {vs : List Expr} {a b : WE} {r : List (WE × WE)} (hk : AE X W k a) (hv : AE X W v b) (hr : PPs X pos ks vs (tp X.K W r)) : PPs X pos (some k :: ks) (v :: vs) (tp X.K W ((a, b) :: r)) := pps_cons hk hv hr
/-! d.get(k), d.get(k, x) -/
def dctA (A : Ah) (p : Addr) (P : List (Vl × Vl) → Prop) : Prop := match A p with
  | some (.dct kvs) => P kvs
  | some (.lok kvs) => P kvs
  | _ => False
theorem dctA_of {A : Ah} {H : Hp} {p : Addr} {P : List (Vl × Vl) → Prop} (sa : SA K A H) (h : dctA A p P) : ∃ kvs o, Rd H p o ∧ DcR K H kvs o ∧ P kvs := by
  unfold dctA at h
  split at h
  · rename_i kvs he
    obtain ⟨o, ho, r⟩ := sa _ _ he
    exact ⟨kvs, o, .inl ho, r, h⟩
  · rename_i kvs he
    obtain ⟨o, u, ho, r⟩ := sa _ _ he
    exact ⟨kvs, u, .inr ⟨o, ho⟩, r, h⟩
  · exact h.elim
theorem kvl_of {k : Key} {v : V} {x : Vl} {H : Hp} (h : keyOf? x = some k) (r : Re K H x v) : v = kV k := key_re h r
/-- a dict whose keys are ints and texts, or an empty one -/
def Ks : List (Vl × Vl) → Bool
  | [] => true
  | (a, _) :: r => (keyOf? a).isSome && Ks r
theorem dget_of {H : Hp} {p : Addr} {kvs : List (Vl × Vl)} {o : HO} {k : Key} (hr : Rd H p o) (dc : DcR K H kvs o) (hk : Ks kvs = true) : ∃ r, (DGet H p (kV k) r ∨ (kvs = [] ∧ ∃ z, Rd H p (.dT z))) ∧ (∀ x, lookL kvs k = some x → ∃ v, r = some v ∧ Re K H x v) ∧ (lookL kvs k = none → r = none) := by
  rcases dc with ⟨kk, rfl, r⟩ | ⟨kk, rfl, r⟩
  · exact ⟨valV kk k, .inl (.inl ⟨kk, k, hr, rfl, rfl⟩), (r.look).1, (r.look).2⟩
  · cases kvs with
    | nil => exact ⟨none, .inr ⟨rfl, kk, hr⟩, fun x e => (nomatch e), fun _ => rfl⟩
    | cons p' r' =>
      obtain ⟨a, x⟩ := p'
      obtain ⟨c, v, hs, _, ea, _⟩ := r
      subst ea
      simp [Ks, kTl, keyOf?] at hk
def fDGetN : FM := fun x xs A Q => ∃ p, x = .ref p ∧ dctA A p fun kvs => kvs ≠ [] ∧ Ks kvs = true ∧ ((∃ k kk, xs = [k] ∧ keyOf? k = some kk ∧ Q ((lookL kvs kk).getD .non) A) ∨ ∃ k kk d, xs = [k, d] ∧ keyOf? k = some kk ∧ Q ((lookL kvs kk).getD d) A)
theorem m_dget (hu : X.A.units + 1 < cLine) : Mt X .dct "get" fDGetN := ⟨⟨_, PySem.F.plainAttrs_dict, PySem.F.slot_dict_get, PySem.F.type_dict_get, by
  intro pins s σ H v vs vv us Q I rv rs ⟨x, xs, A, Qa, r, rl, sa, q, _, p, hx, w⟩
  subst hx
  cases re_ref_inv r
  cases rv
  obtain ⟨kvs, o, hr, dc, ne, hk, w⟩ := dctA_of sa w
  rcases w with ⟨k, kk, rfl, hkk, w⟩ | ⟨k, kk, d, rfl, hkk, w⟩
  · obtain ⟨u, rfl, ru⟩ := rl.one
    obtain ⟨u', rfl, ru'⟩ := vals1 rs
    rw [key_re hkk ru] at ru'
    obtain ⟨r, hg, h1, h2⟩ := dget_of (k := kk) hr dc hk
    rcases hg with hg | ⟨e, _⟩
    · refine d_get1 hu I hg ru' fun w' s' I' rw' => ⟨_, H, I', rw', ?_⟩
      cases hl : lookL kvs kk with
      | none => rw [hl] at w; rw [h2 hl]; exact q _ _ _ _ (re_non _) sa .refl w
      | some x => rw [hl] at w; obtain ⟨v, e, rx⟩ := h1 x hl; rw [e]; exact q _ _ _ _ rx sa .refl w
    · exact (ne e).elim
  · obtain ⟨u, u2, rfl, ru, rd⟩ := rl.two
    obtain ⟨w1, w2, rfl, rw1, rw2⟩ := vals2 rs
    rw [key_re hkk ru] at rw1
    obtain ⟨r, hg, h1, h2⟩ := dget_of (k := kk) hr dc hk
    rcases hg with hg | ⟨e, _⟩
    · refine d_get2 hu I hg rw1 rw2 fun w' s' I' rw' => ⟨_, H, I', rw', ?_⟩
      cases hl : lookL kvs kk with
      | none => rw [hl] at w; rw [h2 hl]; exact q _ _ _ _ rd sa .refl w
      | some x => rw [hl] at w; obtain ⟨v, e, rx⟩ := h1 x hl; rw [e]; exact q _ _ _ _ rx sa .refl w
    · exact (ne e).elim⟩⟩
theorem Bd.u1 {W : WX} {k : Nat} (B : Bd k X W) : X.A.units + 1 < cLine := by have := B.u64; omega
theorem Bd.u0 {W : WX} {k : Nat} (B : Bd k X W) : X.A.units < cLine := by have := B.u64; omega
end
end Rk

set_option Elab.async false
set_option linter.all false
set_option maxRecDepth 100000
set_option maxHeartbeats 400000
namespace Rk
open PySem PySem.Spec PyProof.Rows L2
section
variable {X : Cx}
/-! short forms for printed derivations -/
theorem ar_v {pos : Pos} (i : Nat) {x : Str} (hN : X.N[i]? = some x := by rfl) (hv : Vis X.env.scope x := by first | exact Or.inl rfl | exact Or.inr (Or.inl rfl) | exact Or.inr (Or.inr rfl)) (hd : (x == ("__debug__" : Str)) = false := by decide) (hcd : (x == ("__classdict__" : Str)) = false := by decide) : AR X (.Name x pos) (rV i) := ar_var hN hv hd hcd
theorem ar_i {pos p2 : Pos} (i : Nat) {x : Str} {k : Int} {e : Expr} (he : PE X e (tC (.int k))) (hp : PlainIx e := by exact ixOf rfl) (hN : X.N[i]? = some x := by rfl) (hv : Vis X.env.scope x := by first | exact Or.inl rfl | exact Or.inr (Or.inl rfl) | exact Or.inr (Or.inr rfl)) (hd : (x == ("__debug__" : Str)) = false := by decide) (hcd : (x == ("__classdict__" : Str)) = false := by decide) : AR X (.Subscript (.Name x p2) e pos) (rIx i k) := ar_ix hN hv he hp hd hcd
theorem pe_neg {k : Int} {j : Nat} {p1 p2 : Pos} : PE X (.UnaryOp .USub (.Constant (.int k) j p1) p2) (tC (.int (-k))) := pe_imp (pe_un un_neg pe_int) fun _ _ _ h => ⟨k, rfl, h⟩
end
end Rk

set_option Elab.async false
set_option linter.all false
set_option maxRecDepth 100000
set_option maxHeartbeats 400000
namespace Rk
open PySem PySem.Spec PyProof.Rows L2
/-! ### the later transformers, run from the head; values that are texts -/
section
variable {S : Sl} {A : Ah} {Q : QE} {E : EX} {D : Es} {QB : Bool → Ah → Prop} {w wa wb : WE} {b : Bool} {x y : Vl} {xs ys : List Vl} {lo hi : Option Int}
@[simp ↓] theorem e_inT : fInA b x (.tup xs) A Q = (flatL x = true ∧ xs.all flatL = true ∧ Q (.bl (b != inL x xs)) A) := id rfl
@[simp ↓] theorem e_inS2 {s t : Str} : fInA b (.str s) (.str t) A Q = Q (.bl (b != !(Builtin.Str.occurrences t s 0 t.length 1).isEmpty)) A := id rfl
@[simp ↓] theorem e_inL {p : Addr} : fInA b x (.ref p) A Q = seqA A p fun xs => flatL x = true ∧ xs.all flatL = true ∧ Q (.bl (b != inL x xs)) A := id rfl
@[simp ↓] theorem e_slT : fSl (.tup xs) lo hi A Q = Q (.tup (cutL xs lo hi)) A := id rfl
@[simp ↓] theorem e_slS {s : Str} : fSl (.str s) lo hi A Q = Q (.str (cutS s lo hi)) A := id rfl
@[simp ↓] theorem e_slL {p : Addr} : fSl (.ref p) lo hi A Q = seqA A p fun xs => ∀ q, A q = none → Q (.ref q) (put A q (.lst (cutL xs lo hi))) := id rfl
@[simp ↓] theorem e_intI {i : Int} : fInt [.int i] A Q = Q (.int i) A := id rfl
@[simp ↓] theorem e_intB {k : Bool} : fInt [.bl k] A Q = Q (.int (if k then 1 else 0)) A := id rfl
@[simp ↓] theorem e_wNo : wNo D S A = False := id rfl
@[simp ↓] theorem e_wLenSet : wLenSet w S A Q E = w S A (fun x A1 => ∃ ks, ks.length < 3000 ∧ ((∃ p, x = .ref p ∧ seqA A1 p fun ys => keys? ys = some ks) ∨ ∃ ys, x = .tup ys ∧ keys? ys = some ks) ∧ Q (.int (ddN [] ks).length) A1) E := id rfl
@[simp ↓] theorem e_wDisp {ws : List (WE × WE)} : wDisp ws S A Q E = ∀ p, A p = none → wPs ws S (put A p (.hid (.dK []))) (fun kvs A2 => A2 p = some (.hid (.dK [])) ∧ ∃ ks, pkeys kvs = some ks ∧ ks.length ≤ 15 ∧ Q (.ref p) (put A2 p (.dct (mergeL [] ks)))) E := id rfl
@[simp ↓] theorem e_wP0 {QP : List (Vl × Vl) → Ah → Prop} : wPs [] S A QP E = QP [] A := id rfl
@[simp ↓] theorem e_wP1 {r : List (WE × WE)} {QP : List (Vl × Vl) → Ah → Prop} : wPs ((wa, wb) :: r) S A QP E = wa S A (fun x A1 => wb S A1 (fun y A2 => wPs r S A2 (fun ps A3 => QP ((x, y) :: ps) A3) E) E) E := id rfl
@[simp ↓] theorem e_wSetEq {g1 g2 g3 g4 : RE} : wSetEq g1 g2 g3 g4 S A QB E = ∃ k1 k2 k3 k4, (g1 S).bind keyOf? = some k1 ∧ (g2 S).bind keyOf? = some k2 ∧ (g3 S).bind keyOf? = some k3 ∧ (g4 S).bind keyOf? = some k4 ∧ QB (setEq k1 k2 k3 k4) A := id rfl
end
/-- == of flat values -/
theorem dat_flat {n : Nat} {A : Ah} {x : Vl} (h : flatL x = true) : ∃ d, dat (n + 1) A x = some d ∧ d.hasDict = false ∧ ∀ y e, flatL y = true → dat (n + 1) A y = some e → PyData.eqv d e = eqL x y := by
  cases x with
  | non => exact ⟨.none, rfl, rfl, fun y e hy he => by cases y <;> first | (cases he; simp [PyData.eqv, eqL]) | cases hy⟩
  | bl b => exact ⟨.bool b, rfl, rfl, fun y e hy he => by cases y <;> first | (cases he; simp [PyData.eqv, eqL]) | cases hy⟩
  | int b => exact ⟨.int b, rfl, rfl, fun y e hy he => by cases y <;> first | (cases he; simp [PyData.eqv, eqL]) | cases hy⟩
  | str b => exact ⟨.str b, rfl, rfl, fun y e hy he => by cases y <;> first | (cases he; simp [PyData.eqv, eqL]) | cases hy⟩
  | _ => cases h
theorem eq_flat {k : Bool} {x y : Vl} {A : Ah} {Q : QE} (h : flatL x = true) (g : flatL y = true) (q : Q (.bl (k != eqL x y)) A) : fEq k x y A Q := by
  obtain ⟨d, h1, h2, h3⟩ := dat_flat (n := 11) (A := A) h
  obtain ⟨e, g1, g2, _⟩ := dat_flat (n := 11) (A := A) g
  exact ⟨d, e, h1, g1, h2, g2, by rw [h3 y e g g1]; exact q⟩
theorem flat_map (ps : List Str) : (ps.map Vl.str).all flatL = true := by simp [List.all_eq_true, flatL]
theorem inL_map (z : Str) (ps : List Str) : inL (.str z) (ps.map .str) = decide (z ∈ ps) := by
  unfold inL
  induction ps with
  | nil => rfl
  | cons p ps ih =>
    rw [List.map_cons, List.any_cons, ih]
    by_cases h : p = z
    · subst h; simp [eqL]
    · have h2 : ¬ z = p := fun e => h e.symm
      have : (p == z) = false := by simpa using h
      simp [eqL, this, h2]
theorem inL_non (ps : List Str) : inL .non (ps.map .str) = false := by
  unfold inL; rw [List.any_eq_false]; intro x hx
  obtain ⟨p, _, rfl⟩ := List.mem_map.mp hx
  simp [eqL]
theorem cutL_map {α β : Type} (f : α → β) (xs : List α) (lo hi : Option Int) : cutL (xs.map f) lo hi = (cutL xs lo hi).map f := by
  unfold cutL; simp [List.map_drop, List.map_take]
theorem cut_next {α : Type} {xs : List α} {i : Nat} : cutL xs (some ((i : Int) + 1)) (some ((i : Int) + 2)) = xs[i + 1]?.toList := by
  unfold cutL
  rw [show ((i : Int) + 1) = ((i + 1 : Nat) : Int) by omega, show ((i : Int) + 2) = ((i + 2 : Nat) : Int) by omega, HT.sIx_nat, HT.sIx_nat]
  by_cases h : i + 1 < xs.length
  · rw [Nat.min_eq_left (by omega), Nat.min_eq_left (by omega), show i + 2 - (i + 1) = 1 by omega, List.drop_eq_getElem_cons h, List.take_succ_cons]
    simp only [List.take_zero, List.getElem?_eq_getElem h, Option.toList]
  · rw [List.drop_eq_nil_iff.mpr (by omega), List.getElem?_eq_none (by omega)]; simp
theorem cut_prev {α : Type} {xs : List α} {i : Nat} (h : i < xs.length) : cutL xs (some (i : Int)) (some ((i : Int) + 1)) = [xs[i]] := by
  unfold cutL
  rw [show ((i : Int) + 1) = ((i + 1 : Nat) : Int) by omega, HT.sIx_nat, HT.sIx_nat, Nat.min_eq_left (by omega), Nat.min_eq_left (by omega), show i + 1 - i = 1 by omega, List.drop_eq_getElem_cons h, List.take_succ_cons, List.take_zero]
theorem cut_none {α : Type} {xs : List α} : cutL xs (some 0) (some 0) = [] := by
  unfold cutL; simp [HT.sIx]
theorem keys_strs (ps : List Str) : keys? (ps.map .str) = some (ps.map .inr) := by
  induction ps with
  | nil => rfl
  | cons p ps ih => simp [keys?, keyOf?, ih]
theorem dd_strs {ps : List Str} (h : ps.Nodup) : (ddN [] (ps.map Sum.inr)).length = ps.length := by
  rw [ddN_nodup (by
    simp only [List.nil_append]
    exact List.Pairwise.map _ (fun a b hne e => hne (Sum.inr.inj e)) h)]
  simp
theorem strL_map (ps : List Str) : strL (ps.map .str) = some ps := by
  induction ps with
  | nil => rfl
  | cons p ps ih => simp [strL, ih]
/-- a def's own ends -/
def Dx (Q : QE) (E : EX) : Es := { nx := fun _ A' => ∃ B, Sub B A' ∧ Q .non B, rt := fun v A' => ∃ B, Sub B A' ∧ Q v B, ex := fun x _ A' => ∃ B, Sub B A' ∧ E x B }
@[simp] theorem Dx_nx {Q : QE} {E : EX} : (Dx Q E).nx = fun _ A' => ∃ B, Sub B A' ∧ Q .non B := rfl
@[simp] theorem Dx_rt {Q : QE} {E : EX} : (Dx Q E).rt = fun v A' => ∃ B, Sub B A' ∧ Q v B := rfl
@[simp] theorem Dx_ex {Q : QE} {E : EX} : (Dx Q E).ex = fun x _ A' => ∃ B, Sub B A' ∧ E x B := rfl
theorem wFun_dx {n : Nat} {b : WS} {xs : List Vl} {A : Ah} {Q : QE} {E : EX} : wFun n b xs A Q E = b (Dx Q E) (xs.map some ++ List.replicate (n - xs.length) none) A := rfl
theorem Sub.give {A B : Ah} {Q : QE} {v : Vl} (s : Sub A B) (q : Q v A) : ∃ C, Sub C B ∧ Q v C := ⟨A, s, q⟩
theorem dctA_eq {A : Ah} {p : Addr} {kvs : List (Vl × Vl)} {R : List (Vl × Vl) → Prop} (h : A p = some (.dct kvs)) : dctA A p R = R kvs := by unfold dctA; rw [h]
end Rk

set_option Elab.async false
set_option linter.all false
set_option maxRecDepth 100000
set_option maxHeartbeats 1000000
/-! printed by gen.py -/
namespace Lw
open PySem PySem.Spec PyProof.Rows L2 Rk
def top (i : Nat) : Stmt := PySem.Challenge.pw_relinktree_k31_whole_bits.main.body.getD i (.Pass ⟨0, 0, 0, 0⟩)
abbrev s_law_draw : Stmt := top 21
abbrev n_law_draw : List Str := ["_law_pot_here", "_law_many", "_law_digit"]
theorem sc_law_draw : FnScope n_law_draw ["_law_pot_here", "_law_many"] (defScope s_law_draw) := ⟨rfl, rfl, rfl, by decide +kernel, rfl, by decide +kernel, by decide +kernel⟩
def b_law_draw_x1 : WS := (wRet (wVar 2))
def b_law_draw_2 : WS := (wRet (wBin fMod (wBin fDiv (wBin fMod (wBin fMul (wBin fIx (wVar 0) (wC (.int 1))) (wBin fIx (wVar 0) (wC (.int 1)))) (wC (.int 2147483543))) (wC (.int 13))) (wVar 1)))
def b_law_draw_1 : WS := (wSeq (wAsg (wBin fMod (wBin fAdd (wBin fMul (wBin fIx (wVar 0) (wC (.int 1))) (wC (.int 48271))) (wC (.int 30011))) (wC (.int 2147483587))) (gS fSet (wVar 0) (wC (.int 1)))) b_law_draw_2)
def b_law_draw : WS :=
    (wSeq (wIfS (wB (wBin fGt (wBin fIx (wVar 0) (wC (.int 0))) (wC (.int 0)))) (wSeq (wAsg (wCB fDivmod (wCons (wBin fIx (wVar 0) (wC (.int 0))) (wCons (wVar 1) wNil))) (gT 2 (gCn (gS fSet (wVar 0) (wC (.int 0))) (gCn (gN 2) gNl)))) b_law_draw_x1) (fun D S A => D.nx S A)) b_law_draw_1)
def w_law_draw : WF := wFun 3 b_law_draw
abbrev s_law_pick : Stmt := top 22
abbrev n_law_pick : List Str := ["_law_pot_here", "_law_some"]
theorem sc_law_pick : FnScope n_law_pick ["_law_pot_here", "_law_some"] (defScope s_law_pick) := ⟨rfl, rfl, rfl, by decide +kernel, rfl, by decide +kernel, by decide +kernel⟩
def b_law_pick : WS :=
    (wRet (wBin fIx (wVar 1) (wCall 2 w_law_draw (wCons (wVar 0) (wCons (wCB fLen (wCons (wVar 1) wNil)) wNil)))))
def w_law_pick : WF := wFun 2 b_law_pick
abbrev s_law_names : Stmt := top 23
abbrev n_law_names : List Str := ["_law_pot_here", "_law_many", "_law_letters", "_law_found", "_law_k", "_law_size", "_law_name", "_law_tries", "_law_time", "_law_letter", "_law_one"]
theorem sc_law_names : FnScope n_law_names ["_law_pot_here", "_law_many"] (defScope s_law_names) := ⟨rfl, rfl, rfl, by decide +kernel, rfl, by decide +kernel, by decide +kernel⟩
def b_law_names_x1 : WS := (wEx (wMt (only .lst fAppend) (wVar 3) (wCons (wBin fIx (wLc (wiSeq (wVar 7)) (gN 10) (wB (wBin (fInA true) (wVar 10) (wVar 3))) (wVar 10) [10]) (wC (.int 0))) wNil)))
def b_law_names_x2 : WS := (wSeq (wAsg (wBin fAdd (wLst (wCons (wVar 6) wNil)) (wLc (wiSeq (wVar 2)) (gN 9) wYes (wBin fAdd (wSl fSl (wVar 6) wNoP (wPt (wC (.int 7)))) (wVar 9)) [9])) (gN 7)) b_law_names_x1)
def b_law_names_x3 : WS := (wSeq (wIfS (wAnd (wB (wBin (fEq true) (wVar 3) (wLst wNil))) (wB (wBin (fEq false) (wCall 2 w_law_draw (wCons (wVar 0) (wCons (wC (.int 4)) wNil))) (wC (.int 0))))) (wAsg (wSl fSl (wBin fAdd (wBin fIx (wVar 3) (wUn fNeg (wC (.int 1)))) (wVar 6)) wNoP (wPt (wC (.int 8)))) (gN 6)) (fun D S A => D.nx S A)) b_law_names_x2)
def b_law_names_x4 : WS := (wSeq (wAsg (wMt (only .str fJoin) (wC (.str "")) (wCons (wLc (wiR1 (wCons (wVar 5) wNil)) (gN 8) wYes (wCall 2 w_law_pick (wCons (wVar 0) (wCons (wVar 2) wNil))) [8]) wNil)) (gN 6)) b_law_names_x3)
def b_law_names_3 : WS := (wRet (wVar 3))
def b_law_names_2 : WS := (wSeq (wFor (wiR1 (wCons (wVar 1) wNil)) (gN 4) (wSeq (wAsg (wBin fIx (wLst (wCons (wC (.int 1)) (wCons (wC (.int 1)) (wCons (wC (.int 2)) (wCons (wC (.int 8)) wNil))))) (wCall 2 w_law_draw (wCons (wVar 0) (wCons (wC (.int 4)) wNil)))) (gN 5)) b_law_names_x4)) b_law_names_3)
def b_law_names_1 : WS := (wSeq (wAsg (wLst wNil) (gN 3)) b_law_names_2)
def b_law_names : WS :=
    (wSeq (wAsg (wC (.str "abcdefghijklmnopqrstuvwxyz")) (gN 2)) b_law_names_1)
def w_law_names : WF := wFun 11 b_law_names
abbrev s_law_links : Stmt := top 25
abbrev n_law_links : List Str := ["_law_path", "_law_index", "_law_beside", "_law_found"]
theorem sc_law_links : FnScope n_law_links ["_law_path", "_law_index", "_law_beside"] (defScope s_law_links) := ⟨rfl, rfl, rfl, by decide +kernel, rfl, by decide +kernel, by decide +kernel⟩
def b_law_links_2 : WS := (wRet (wVar 3))
def b_law_links_1 : WS := (wSeq (wIfS (wB (wBin (fInA false) (wVar 1) (wTup (wCons (wC (.int 0)) (wCons (wBin fSub (wCB fLen (wCons (wVar 0) wNil)) (wC (.int 1))) wNil))))) (wEx (wMt (only .lst fAppend) (wVar 3) (wCons (wIf (wB (wBin (fEq false) (wVar 1) (wC (.int 0)))) (wBin fIx (wVar 0) (wUn fNeg (wC (.int 1)))) (wBin fIx (wVar 0) (wC (.int 0)))) wNil))) (fun D S A => D.nx S A)) b_law_links_2)
def b_law_links : WS :=
    (wSeq (wAsg (wBin fAdd (wBin fAdd (wCB fList (wCons (wSl fSl (wVar 0) (wPt (wCB fMax (wCons (wC (.int 0)) (wCons (wBin fSub (wVar 1) (wC (.int 1))) wNil)))) (wPt (wVar 1))) wNil)) (wCB fList (wCons (wSl fSl (wVar 0) (wPt (wBin fAdd (wVar 1) (wC (.int 1)))) (wPt (wBin fAdd (wVar 1) (wC (.int 2))))) wNil))) (wVar 2)) (gN 3)) b_law_links_1)
def w_law_links : WF := wFun 4 b_law_links
abbrev s_law_due : Stmt := top 24
abbrev n_law_due : List Str := ["_law_path", "_law_cut", "_law_index", "_law_phase", "_law_source", "_law_goal", "_law_bit", "_law_carried", "_law_ends", "_law_ahead"]
theorem sc_law_due : FnScope n_law_due ["_law_path", "_law_cut", "_law_index", "_law_phase", "_law_source", "_law_goal", "_law_bit"] (defScope s_law_due) := ⟨rfl, rfl, rfl, by decide +kernel, rfl, by decide +kernel, by decide +kernel⟩
def b_law_due_5 : WS := (wRet (wIf (wB (wBin (fInA false) (wVar 5) (wVar 9))) (wVar 7) (wC (.int 0))))
def b_law_due_4 : WS := (wSeq (wAsg (wIf (wB (wBin fGt (wVar 2) (wVar 1))) (wSl fSl (wVar 0) (wPt (wBin fAdd (wVar 2) (wC (.int 1)))) (wPt (wBin fAdd (wVar 2) (wC (.int 2))))) (wSl fSl (wVar 0) (wPt (wCB fMax (wCons (wBin fSub (wVar 2) (wC (.int 1))) (wCons (wC (.int 0)) wNil)))) (wPt (wVar 2)))) (gN 9)) b_law_due_5)
def b_law_due_3 : WS := (wSeq (wIfS (wB (wBin (fEq false) (wVar 5) (wMt (only .dct fDGetN) (wVar 8) (wCons (wVar 2) (wCons (wC (.str "")) wNil))))) (wRet (wBin fIx (wLst (wCons (wC .non) (wCons (wC (.int 0)) wNil))) (wVar 7))) (fun D S A => D.nx S A)) b_law_due_4)
def b_law_due_2 : WS := (wSeq (wAsg (wDisp [((wC (.int 0)), (wBin fIx (wVar 0) (wUn fNeg (wC (.int 1))))), ((wBin fSub (wCB fLen (wCons (wVar 0) wNil)) (wC (.int 1))), (wBin fIx (wVar 0) (wC (.int 0))))]) (gN 8)) b_law_due_3)
def b_law_due_1 : WS := (wSeq (wIfS (wB (wBin (fEq false) (wVar 3) (wC (.str "reserved")))) (wRet (wC (.int 0))) (fun D S A => D.nx S A)) b_law_due_2)
def b_law_due : WS :=
    (wSeq (wAsg (wIf (wB (wBin (fInA false) (wVar 4) (wVar 0))) (wVar 6) (wC (.int 1))) (gN 7)) b_law_due_1)
def w_law_due : WF := wFun 10 b_law_due
abbrev s_is_integer : Stmt := top 7
abbrev n_is_integer : List Str := ["value"]
theorem sc_is_integer : FnScope n_is_integer ["value"] (defScope s_is_integer) := ⟨rfl, rfl, rfl, by decide +kernel, rfl, by decide +kernel, by decide +kernel⟩
def b_is_integer : WS :=
    (wRet (wAndV (wCB fIsi (wCons (wVar 0) (wCons (wC (.ty "int")) wNil))) (wNotV (wCB fIsi (wCons (wVar 0) (wCons (wC (.ty "bool")) wNil))))))
def w_is_integer : WF := wFun 1 b_is_integer
abbrev s_is_string_of : Stmt := top 8
abbrev n_is_string_of : List Str := ["value", "characters", "longest", "character"]
theorem sc_is_string_of : FnScope n_is_string_of ["value", "characters", "longest"] (defScope s_is_string_of) := ⟨rfl, rfl, rfl, by decide +kernel, rfl, by decide +kernel, by decide +kernel⟩
def b_is_string_of_1 : WS := (wRet (wCB fAll (wCons (wLc (wiSeq (wVar 0)) (gN 3) wYes (wBin (fInA false) (wVar 3) (wVar 1)) [3]) wNil)))
def b_is_string_of : WS :=
    (wSeq (wIfS (wOr (wNot (wTru (wCB fIsi (wCons (wVar 0) (wCons (wC (.ty "str")) wNil))))) (wNot (wB (wChain fLe fLe (wC (.int 1)) (wCB fLen (wCons (wVar 0) wNil)) (wVar 2))))) (wRet (wC (.bl false))) (fun D S A => D.nx S A)) b_is_string_of_1)
def w_is_string_of : WF := wFun 4 b_is_string_of
abbrev s_is_host_name : Stmt := top 9
abbrev n_is_host_name : List Str := ["value"]
theorem sc_is_host_name : FnScope n_is_host_name ["value"] (defScope s_is_host_name) := ⟨rfl, rfl, rfl, by decide +kernel, rfl, by decide +kernel, by decide +kernel⟩
def b_is_host_name : WS :=
    (wRet (wCall 3 w_is_string_of (wCons (wVar 0) (wCons (wC (.str "abcdefghijklmnopqrstuvwxyz")) (wCons (wC (.int 8)) wNil)))))
def w_is_host_name : WF := wFun 1 b_is_host_name
abbrev s_is_relink : Stmt := top 12
abbrev n_is_relink : List Str := ["value", "path", "cut", "host"]
theorem sc_is_relink : FnScope n_is_relink ["value"] (defScope s_is_relink) := ⟨rfl, rfl, rfl, by decide +kernel, rfl, by decide +kernel, by decide +kernel⟩
def b_is_relink_3 : WS := (wRet (wAndV (wBin (fEq false) (wLenSet (wVar 1)) (wCB fLen (wCons (wVar 1) wNil))) (wAndV (wCall 1 w_is_integer (wCons (wVar 2) wNil)) (wChain fLe fLe (wC (.int 0)) (wVar 2) (wBin fSub (wCB fLen (wCons (wVar 1) wNil)) (wC (.int 2)))))))
def b_is_relink_2 : WS := (wSeq (wIfS (wOr (wNot (wTru (wCB fIsi (wCons (wVar 1) (wCons (wC (.ty "tuple")) wNil))))) (wOr (wB (wBin fLt (wCB fLen (wCons (wVar 1) wNil)) (wC (.int 3)))) (wNot (wTru (wCB fAll (wCons (wLc (wiSeq (wVar 1)) (gN 3) wYes (wCall 1 w_is_host_name (wCons (wVar 3) wNil)) [3]) wNil)))))) (wRet (wC (.bl false))) (fun D S A => D.nx S A)) b_is_relink_3)
def b_is_relink_1 : WS := (wSeq (wAsg (wVar 0) (gT 2 (gCn (gN 1) (gCn (gN 2) gNl)))) b_is_relink_2)
def b_is_relink : WS :=
    (wSeq (wIfS (wOr (wNot (wTru (wCB fIsi (wCons (wVar 0) (wCons (wC (.ty "tuple")) wNil))))) (wB (wBin (fEq true) (wCB fLen (wCons (wVar 0) wNil)) (wC (.int 2))))) (wRet (wC (.bl false))) (fun D S A => D.nx S A)) b_is_relink_1)
def w_is_relink : WF := wFun 4 b_is_relink
abbrev s_require_relink : Stmt := top 13
abbrev n_require_relink : List Str := ["relink"]
theorem sc_require_relink : FnScope n_require_relink ["relink"] (defScope s_require_relink) := ⟨rfl, rfl, rfl, by decide +kernel, rfl, by decide +kernel, by decide +kernel⟩
def b_require_relink : WS :=
    (wIfS (wNot (wTru (wCall 1 w_is_relink (wCons (wVar 0) wNil)))) wNo (fun D S A => D.nx S A))
def w_require_relink : WF := wFun 1 b_require_relink
abbrev s_position : Stmt := top 14
abbrev n_position : List Str := ["relink", "host", "path", "cut"]
theorem sc_position : FnScope n_position ["relink", "host"] (defScope s_position) := ⟨rfl, rfl, rfl, by decide +kernel, rfl, by decide +kernel, by decide +kernel⟩
def b_position_3 : WS := (wRet (wMt (only .tup fTIndex) (wVar 2) (wCons (wVar 1) wNil)))
def b_position_2 : WS := (wSeq (wIfS (wOr (wNot (wTru (wCall 1 w_is_host_name (wCons (wVar 1) wNil)))) (wB (wBin (fInA true) (wVar 1) (wVar 2)))) wNo (fun D S A => D.nx S A)) b_position_3)
def b_position_1 : WS := (wSeq (wAsg (wVar 0) (gT 2 (gCn (gN 2) (gCn (gN 3) gNl)))) b_position_2)
def b_position : WS :=
    (wSeq (wEx (wCall 1 w_require_relink (wCons (wVar 0) wNil))) b_position_1)
def w_position : WF := wFun 4 b_position
abbrev s_carried_bit : Stmt := top 17
abbrev n_carried_bit : List Str := ["path", "source", "bit"]
theorem sc_carried_bit : FnScope n_carried_bit ["path", "source", "bit"] (defScope s_carried_bit) := ⟨rfl, rfl, rfl, by decide +kernel, rfl, by decide +kernel, by decide +kernel⟩
def b_carried_bit : WS :=
    (wRet (wIf (wB (wBin (fInA false) (wVar 1) (wVar 0))) (wVar 2) (wC (.int 1))))
def w_carried_bit : WF := wFun 3 b_carried_bit
abbrev s_is_near : Stmt := top 15
abbrev n_is_near : List Str := ["relink", "host"]
theorem sc_is_near : FnScope n_is_near ["relink", "host"] (defScope s_is_near) := ⟨rfl, rfl, rfl, by decide +kernel, rfl, by decide +kernel, by decide +kernel⟩
def b_is_near : WS :=
    (wRet (wBin fLe (wCall 2 w_position (wCons (wVar 0) (wCons (wVar 1) wNil))) (wBin fIx (wVar 0) (wC (.int 1)))))
def w_is_near : WF := wFun 2 b_is_near
abbrev s_forward_bit : Stmt := top 18
abbrev n_forward_bit : List Str := ["relink", "host", "phase", "source", "goal", "bit", "index", "path", "carried", "is_toward_new_link"]
theorem sc_forward_bit : FnScope n_forward_bit ["relink", "host", "phase", "source", "goal", "bit"] (defScope s_forward_bit) := ⟨rfl, rfl, rfl, by decide +kernel, rfl, by decide +kernel, by decide +kernel⟩
def b_forward_bit_6 : WS := (wRet (wIf (wTru (wVar 9)) (wVar 8) (wC (.int 0))))
def b_forward_bit_5 : WS := (wSeq (wIfS (wTru (wCall 2 w_is_near (wCons (wVar 0) (wCons (wVar 1) wNil)))) (wAsg (wAndV (wBin fGt (wVar 6) (wC (.int 0))) (wBin (fEq false) (wVar 4) (wBin fIx (wVar 7) (wBin fSub (wVar 6) (wC (.int 1)))))) (gN 9)) (wAsg (wAndV (wBin fLt (wVar 6) (wBin fSub (wCB fLen (wCons (wVar 7) wNil)) (wC (.int 1)))) (wBin (fEq false) (wVar 4) (wBin fIx (wVar 7) (wBin fAdd (wVar 6) (wC (.int 1)))))) (gN 9))) b_forward_bit_6)
def b_forward_bit_4 : WS := (wSeq (wIfS (wSetEq (rV 1) (rV 4) (rIx 7 0) (rIx 7 (-1))) (wRet (wIf (wB (wBin (fEq false) (wVar 8) (wC (.int 1)))) (wC (.int 0)) (wC .non))) (fun D S A => D.nx S A)) b_forward_bit_5)
def b_forward_bit_3 : WS := (wSeq (wAsg (wCall 3 w_carried_bit (wCons (wVar 7) (wCons (wVar 3) (wCons (wVar 5) wNil)))) (gN 8)) b_forward_bit_4)
def b_forward_bit_2 : WS := (wSeq (wIfS (wB (wBin (fEq true) (wVar 2) (wC (.str "turned")))) (wRet (wC (.int 0))) (fun D S A => D.nx S A)) b_forward_bit_3)
def b_forward_bit_1 : WS := (wSeq (wAsg (wBin fIx (wVar 0) (wC (.int 0))) (gN 7)) b_forward_bit_2)
def b_forward_bit : WS :=
    (wSeq (wAsg (wCall 2 w_position (wCons (wVar 0) (wCons (wVar 1) wNil))) (gN 6)) b_forward_bit_1)
def w_forward_bit : WF := wFun 10 b_forward_bit
abbrev s_law_host_right : Stmt := top 26
abbrev n_law_host_right : List Str := ["_law_relink", "_law_index", "_law_beside", "_law_path", "_law_cut", "_law_links_here", "_law_phase", "_law_source", "_law_goal", "_law_bit", "_law_due_here", "_law_told", "_law_one", "_law_time"]
theorem sc_law_host_right : FnScope n_law_host_right ["_law_relink", "_law_index", "_law_beside"] (defScope s_law_host_right) := ⟨rfl, rfl, rfl, by decide +kernel, rfl, by decide +kernel, by decide +kernel⟩
def b_law_host_right_x1 : WS := (wIfS (wB (wBin (fEq true) (wCB fRepr (wCons (wVar 11) wNil)) (wCB fRepr (wCons (wLst (wCons (wVar 10) (wCons (wVar 10) wNil))) wNil)))) (wRet (wC (.bl false))) (fun D S A => D.nx S A))
def b_law_host_right_x2 : WS := (wSeq (wAsg (wLc (wiR1 (wCons (wC (.int 2)) wNil)) (gN 13) wYes (wCall 6 w_forward_bit (wCons (wVar 0) (wCons (wBin fIx (wVar 3) (wVar 1)) (wCons (wVar 6) (wCons (wVar 7) (wCons (wVar 8) (wCons (wVar 9) wNil))))))) [13]) (gN 11)) b_law_host_right_x1)
def b_law_host_right_3 : WS := (wRet (wC (.bl true)))
def b_law_host_right_2 : WS := (wSeq (wFor (wiSeq (wTup (wCons (wC (.str "reserved")) (wCons (wC (.str "turned")) wNil)))) (gN 6) (wFor (wiSeq (wBin fAdd (wLst (wCons (wC .non) wNil)) (wVar 5))) (gN 7) (wFor (wiSeq (wLc (wiSeq (wVar 5)) (gN 12) (wB (wBin (fEq true) (wVar 12) (wVar 7))) (wVar 12) [12])) (gN 8) (wFor (wiSeq (wSl fSl (wTup (wCons (wC (.int 0)) (wCons (wC (.int 1)) wNil))) wNoP (wPt (wBin fSub (wC (.int 2)) (wCB fInt (wCons (wBin (fIsN false) (wVar 7) (wC .non)) wNil)))))) (gN 9) (wSeq (wAsg (wCall 7 w_law_due (wCons (wVar 3) (wCons (wVar 4) (wCons (wVar 1) (wCons (wVar 6) (wCons (wVar 7) (wCons (wVar 8) (wCons (wVar 9) wNil)))))))) (gN 10)) b_law_host_right_x2))))) b_law_host_right_3)
def b_law_host_right_1 : WS := (wSeq (wAsg (wCall 3 w_law_links (wCons (wVar 3) (wCons (wVar 1) (wCons (wVar 2) wNil)))) (gN 5)) b_law_host_right_2)
def b_law_host_right : WS :=
    (wSeq (wAsg (wVar 0) (gT 2 (gCn (gN 3) (gCn (gN 4) gNl)))) b_law_host_right_1)
def w_law_host_right : WF := wFun 14 b_law_host_right
abbrev s_law_right : Stmt := top 27
abbrev n_law_right : List Str := ["_law_pot_here", "_law_names_here", "_law_path", "_law_beside", "_law_relink", "_law_index"]
theorem sc_law_right : FnScope n_law_right ["_law_pot_here"] (defScope s_law_right) := ⟨rfl, rfl, rfl, by decide +kernel, rfl, by decide +kernel, by decide +kernel⟩
def b_law_right_3 : WS := (wRet (wCB fAll (wCons (wLc (wiR1 (wCons (wCB fLen (wCons (wVar 2) wNil)) wNil)) (gN 5) wYes (wCall 3 w_law_host_right (wCons (wVar 4) (wCons (wVar 5) (wCons (wVar 3) wNil)))) [5]) wNil)))
def b_law_right_2 : WS := (wSeq (wAsg (wTup (wCons (wVar 2) (wCons (wCall 2 w_law_draw (wCons (wVar 0) (wCons (wBin fSub (wCB fLen (wCons (wVar 2) wNil)) (wC (.int 1))) wNil))) wNil))) (gN 4)) b_law_right_3)
def b_law_right_1 : WS := (wSeq (wAsg (wTup (wCons (wCB fTupO (wCons (wSl fSl (wVar 1) (wPt (wC (.int 2))) wNoP) wNil)) (wCons (wSl fSl (wVar 1) wNoP (wPt (wC (.int 2)))) wNil))) (gT 2 (gCn (gN 2) (gCn (gN 3) gNl)))) b_law_right_2)
def b_law_right : WS :=
    (wSeq (wAsg (wCall 2 w_law_names (wCons (wVar 0) (wCons (wBin fAdd (wC (.int 5)) (wCall 2 w_law_draw (wCons (wVar 0) (wCons (wC (.int 7)) wNil)))) wNil))) (gN 1)) b_law_right_1)
def w_law_right : WF := wFun 6 b_law_right
abbrev s_law_pot : Stmt := top 20
abbrev n_law_pot : List Str := ["_law_script", "_law_k", "_law_cell"]
theorem sc_law_pot : FnScope n_law_pot ["_law_script", "_law_k"] (defScope s_law_pot) := ⟨rfl, rfl, rfl, by decide +kernel, rfl, by decide +kernel, by decide +kernel⟩
def b_law_pot_1 : WS := (wRet (wLst (wCons (wCB fMax (wCons (wC (.int 0)) (wCons (wBin fSub (wVar 2) (wBin fPow (wC (.int 10)) (wC (.int 18)))) wNil))) (wCons (wBin fAdd (wBin fMod (wBin fPow (wBin fAdd (wBin fAdd (wBin fMod (wVar 2) (wC (.int 2147483563))) (wBin fMul (wBin fMul (wC (.int 61)) (wVar 1)) (wVar 1))) (wC (.int 17))) (wC (.int 3))) (wC (.int 2147483549))) (wC (.int 1))) wNil))))
def b_law_pot : WS :=
    (wSeq (wAsg (wIf (wB (wBin fLt (wVar 1) (wCB fLen (wCons (wVar 0) wNil)))) (wCB fAbs (wCons (wBin fIx (wVar 0) (wVar 1)) wNil)) (wC (.int 0))) (gN 2)) b_law_pot_1)
def w_law_pot : WF := wFun 3 b_law_pot
abbrev s_law : Stmt := top 28
abbrev n_law : List Str := ["_law_script", "_law_k"]
theorem sc_law : FnScope n_law ["_law_script"] (defScope s_law) := ⟨rfl, rfl, rfl, by decide +kernel, rfl, by decide +kernel, by decide +kernel⟩
def b_law : WS :=
    (wRet (wCB fAll (wCons (wLc (wiR1 (wCons (wCB fMax (wCons (wC (.int 2)) (wCons (wCB fMin (wCons (wC (.int 6)) (wCons (wCB fLen (wCons (wVar 0) wNil)) wNil))) wNil))) wNil)) (gN 1) wYes (wCall 1 w_law_right (wCons (wCall 2 w_law_pot (wCons (wVar 0) (wCons (wVar 1) wNil))) wNil)) [1]) wNil)))
def w_law : WF := wFun 2 b_law
/-- where the defs stand -/
structure Ad where
  f_law_draw : Addr
  fd_law_draw : FuncData
  f_law_pick : Addr
  fd_law_pick : FuncData
  f_law_names : Addr
  fd_law_names : FuncData
  f_law_links : Addr
  fd_law_links : FuncData
  f_law_due : Addr
  fd_law_due : FuncData
  f_is_integer : Addr
  fd_is_integer : FuncData
  f_is_string_of : Addr
  fd_is_string_of : FuncData
  f_is_host_name : Addr
  fd_is_host_name : FuncData
  f_is_relink : Addr
  fd_is_relink : FuncData
  f_require_relink : Addr
  fd_require_relink : FuncData
  f_position : Addr
  fd_position : FuncData
  f_carried_bit : Addr
  fd_carried_bit : FuncData
  f_is_near : Addr
  fd_is_near : FuncData
  f_forward_bit : Addr
  fd_forward_bit : FuncData
  f_law_host_right : Addr
  fd_law_host_right : FuncData
  f_law_right : Addr
  fd_law_right : FuncData
  f_law_pot : Addr
  fd_law_pot : FuncData
  f_law : Addr
  fd_law : FuncData
/-- what the top has written -/
structure Tx (K : PySem.W.Frag) (mg : Str → Option Value) (F : Ad) : Prop where
  m_law_draw : mg "_law_draw" = some (.ref F.f_law_draw)
  d_law_draw : Df K "_law_draw" "_law_draw" s_law_draw F.f_law_draw F.fd_law_draw .none
  m_law_pick : mg "_law_pick" = some (.ref F.f_law_pick)
  d_law_pick : Df K "_law_pick" "_law_pick" s_law_pick F.f_law_pick F.fd_law_pick .none
  m_law_names : mg "_law_names" = some (.ref F.f_law_names)
  d_law_names : Df K "_law_names" "_law_names" s_law_names F.f_law_names F.fd_law_names .none
  m_law_links : mg "_law_links" = some (.ref F.f_law_links)
  d_law_links : Df K "_law_links" "_law_links" s_law_links F.f_law_links F.fd_law_links .none
  m_law_due : mg "_law_due" = some (.ref F.f_law_due)
  d_law_due : Df K "_law_due" "_law_due" s_law_due F.f_law_due F.fd_law_due .none
  m_is_integer : mg "is_integer" = some (.ref F.f_is_integer)
  d_is_integer : Df K "is_integer" "is_integer" s_is_integer F.f_is_integer F.fd_is_integer .none
  m_is_string_of : mg "is_string_of" = some (.ref F.f_is_string_of)
  d_is_string_of : Df K "is_string_of" "is_string_of" s_is_string_of F.f_is_string_of F.fd_is_string_of .none
  m_is_host_name : mg "is_host_name" = some (.ref F.f_is_host_name)
  d_is_host_name : Df K "is_host_name" "is_host_name" s_is_host_name F.f_is_host_name F.fd_is_host_name .none
  m_is_relink : mg "is_relink" = some (.ref F.f_is_relink)
  d_is_relink : Df K "is_relink" "is_relink" s_is_relink F.f_is_relink F.fd_is_relink .none
  m_require_relink : mg "require_relink" = some (.ref F.f_require_relink)
  d_require_relink : Df K "require_relink" "require_relink" s_require_relink F.f_require_relink F.fd_require_relink .none
  m_position : mg "position" = some (.ref F.f_position)
  d_position : Df K "position" "position" s_position F.f_position F.fd_position .none
  m_carried_bit : mg "carried_bit" = some (.ref F.f_carried_bit)
  d_carried_bit : Df K "carried_bit" "carried_bit" s_carried_bit F.f_carried_bit F.fd_carried_bit .none
  m_is_near : mg "is_near" = some (.ref F.f_is_near)
  d_is_near : Df K "is_near" "is_near" s_is_near F.f_is_near F.fd_is_near .none
  m_forward_bit : mg "forward_bit" = some (.ref F.f_forward_bit)
  d_forward_bit : Df K "forward_bit" "forward_bit" s_forward_bit F.f_forward_bit F.fd_forward_bit .none
  m_law_host_right : mg "_law_host_right" = some (.ref F.f_law_host_right)
  d_law_host_right : Df K "_law_host_right" "_law_host_right" s_law_host_right F.f_law_host_right F.fd_law_host_right .none
  m_law_right : mg "_law_right" = some (.ref F.f_law_right)
  d_law_right : Df K "_law_right" "_law_right" s_law_right F.f_law_right F.fd_law_right .none
  m_law_pot : mg "_law_pot" = some (.ref F.f_law_pot)
  d_law_pot : Df K "_law_pot" "_law_pot" s_law_pot F.f_law_pot F.fd_law_pot .none
  m_law : mg "law" = some (.ref F.f_law)
  d_law : Df K "law" "law" s_law F.f_law F.fd_law .none
  n_abs : mg "abs" = none
  n_all : mg "all" = none
  n_bool : mg "bool" = none
  n_divmod : mg "divmod" = none
  n_int : mg "int" = none
  n_isinstance : mg "isinstance" = none
  n_len : mg "len" = none
  n_list : mg "list" = none
  n_max : mg "max" = none
  n_min : mg "min" = none
  n_range : mg "range" = none
  n_repr : mg "repr" = none
  n_set : mg "set" = none
  n_str : mg "str" = none
  n_tuple : mg "tuple" = none
  e_LETTERS : ∃ t, mg "LETTERS" = some (.str "abcdefghijklmnopqrstuvwxyz" t)
  e_LONGEST_NAME : ∃ t, mg "LONGEST_NAME" = some (.int 8 t)
  e_SHORTEST_PATH : ∃ t, mg "SHORTEST_PATH" = some (.int 3 t)
section
variable {P : Program} {w : World} {K : PySem.W.Frag} {mg : Str → Option Value} {base : Heap} {F : Ad}
theorem bd_law_draw (T : Tx K mg F) : ∀ us : List Value, us.length = 2 → bindArgs F.fd_law_draw ⟨us, []⟩ = pure ((["_law_pot_here", "_law_many"] : List Str).zip us) := T.d_law_draw.bind fun _ _ _ _ _ _ us hu => match us, hu with | [_, _], _ => rfl
theorem ok_law_draw (T : Tx K mg F) : Gn P w K mg base 1 F.f_law_draw F.fd_law_draw ["_law_pot_here", "_law_many"] w_law_draw := by
  refine T.d_law_draw.gn (N := n_law_draw) sc_law_draw fun cdv A outer s H E C B => ?_
  exact (ass_cons (as_if (at_cmp o_gt sim2 (ae_ix o_ix sim2 (av 0) ae_int) ae_int) (ass_cons (as_asg (vs := [2]) (ae_callB o_divmod simC (by rfl) T.n_divmod bb_divmod (aa_cons (ae_ix o_ix sim2 (av 0) ae_int) (aa_cons (av 1) aa_nil))) (ag_tup B.calm (ags_cons (ag_sub (W := bodyW E) set_list s_set (av 0) ae_int) (ags_cons (agn 2 B.nd) ags_nil))))
    (ass_one (as_ret (av 2)))) ass_nil)
    (ass_cons (as_asg (vs := []) (ae_bin o_mod sim2 (ae_bin o_add sim2 (ae_bin o_mul sim2 (ae_ix o_ix sim2 (av 0) ae_int) ae_int) ae_int) ae_int) (ag_sub (W := bodyW E) set_list s_set (av 0) ae_int))
    (ass_one (as_ret (ae_bin o_mod sim2 (ae_bin o_div sim2 (ae_bin o_mod sim2 (ae_bin o_mul sim2 (ae_ix o_ix sim2 (av 0) ae_int) (ae_ix o_ix sim2 (av 0) ae_int)) ae_int) ae_int) (av 1))))))
theorem bd_law_pick (T : Tx K mg F) : ∀ us : List Value, us.length = 2 → bindArgs F.fd_law_pick ⟨us, []⟩ = pure ((["_law_pot_here", "_law_some"] : List Str).zip us) := T.d_law_pick.bind fun _ _ _ _ _ _ us hu => match us, hu with | [_, _], _ => rfl
theorem ok_law_pick (T : Tx K mg F) : Gn P w K mg base 2 F.f_law_pick F.fd_law_pick ["_law_pot_here", "_law_some"] w_law_pick := by
  refine T.d_law_pick.gn (N := n_law_pick) sc_law_pick fun cdv A outer s H E C B => ?_
  exact (ass_one (as_ret (ae_ix o_ix sim2 (av 1) (ae_call (runs_all (n := 2) B ((ok_law_draw T).mono (by decide)) rfl (bd_law_draw T)) (by rfl) T.m_law_draw T.d_law_draw.kp (aa_cons (av 0) (aa_cons (ae_callB o_len simC (by rfl) T.n_len bb_len (aa_cons (av 1) aa_nil)) aa_nil))))))
theorem bd_law_names (T : Tx K mg F) : ∀ us : List Value, us.length = 2 → bindArgs F.fd_law_names ⟨us, []⟩ = pure ((["_law_pot_here", "_law_many"] : List Str).zip us) := T.d_law_names.bind fun _ _ _ _ _ _ us hu => match us, hu with | [_, _], _ => rfl
theorem ok_law_names (T : Tx K mg F) : Gn P w K mg base 3 F.f_law_names F.fd_law_names ["_law_pot_here", "_law_many"] w_law_names := by
  refine T.d_law_names.gn (N := n_law_names) sc_law_names fun cdv A outer s H E C B => ?_
  exact (ass_cons (as_set (i := 2) B.nd rfl (by first | exact Or.inl rfl | exact Or.inr rfl) ae_str)
    (ass_cons (as_set (i := 3) B.nd rfl (by first | exact Or.inl rfl | exact Or.inr rfl) (ae_lst aa_nil))
    (ass_cons (as_for (vs := [4]) B.pass B.calm (ai_range1 (by rfl) T.n_range (aa_cons (av 1) aa_nil)) (agn 4 B.nd) (ass_cons (as_set (i := 5) B.nd rfl (by first | exact Or.inl rfl | exact Or.inr rfl) (ae_ix o_ix sim2 (ae_lst (aa_cons ae_int (aa_cons ae_int (aa_cons ae_int (aa_cons ae_int aa_nil))))) (ae_call (runs_all (n := 2) B ((ok_law_draw T).mono (by decide)) rfl (bd_law_draw T)) (by rfl) T.m_law_draw T.d_law_draw.kp (aa_cons (av 0) (aa_cons ae_int aa_nil)))))
    (ass_cons (as_set (i := 6) B.nd rfl (by first | exact Or.inl rfl | exact Or.inr rfl) (ae_mt (only_mt m_join) ae_str (aa_cons (ae_lc B.calm B.nd (ai_range1 (by rfl) T.n_range (aa_cons (av 5) aa_nil)) (blkOk_by (own := [(("_law_time" : Str), 8)]) (N := n_law_names) (sc := defScope s_law_names) (by decide +kernel)) (fun _ _ _ _ _ => (agn 8 (B.blk _ _ _ _ _).nd)) (fun _ _ _ _ _ => ats_nil) (fun _ _ _ _ _ => (ae_call (runs_all (n := 2) (B.blk _ _ _ _ _) ((ok_law_pick T).mono (by decide)) rfl (bd_law_pick T)) (by rfl) T.m_law_pick T.d_law_pick.kp (aa_cons (av 0) (aa_cons (av 2) aa_nil))))) aa_nil)))
    (ass_cons (as_if (at_w (aw_and (at_cmp (o_ne B.u64) sim2 (av 3) (ae_lst aa_nil)) (aw_and1 (at_cmp (o_eq B.u64) sim2 (ae_call (runs_all (n := 2) B ((ok_law_draw T).mono (by decide)) rfl (bd_law_draw T)) (by rfl) T.m_law_draw T.d_law_draw.kp (aa_cons (av 0) (aa_cons ae_int aa_nil))) ae_int)))) (ass_one (as_set (i := 6) B.nd rfl (by first | exact Or.inl rfl | exact Or.inr rfl) (ae_slice o_sl s_sl (ae_bin o_add sim2 (ae_ix o_ix sim2 (av 3) (ae_un un_neg s_neg ae_int)) (av 6)) ao_none (ao_some ae_int)))) ass_nil)
    (ass_cons (as_set (i := 7) B.nd rfl (by first | exact Or.inl rfl | exact Or.inr rfl) (ae_bin o_add sim2 (ae_lst (aa_cons (av 6) aa_nil)) (ae_lc B.calm B.nd (ai_seq (av 2)) (blkOk_by (own := [(("_law_letter" : Str), 9)]) (N := n_law_names) (sc := defScope s_law_names) (by decide +kernel)) (fun _ _ _ _ _ => (agn 9 (B.blk _ _ _ _ _).nd)) (fun _ _ _ _ _ => ats_nil) (fun _ _ _ _ _ => (ae_bin o_add sim2 (ae_slice o_sl s_sl (av 6) ao_none (ao_some ae_int)) (av 9))))))
    (ass_one (as_expr (ae_mt (only_mt m_append) (av 3) (aa_cons (ae_ix o_ix sim2 (ae_lc B.calm B.nd (ai_seq (av 7)) (blkOk_by (own := [(("_law_one" : Str), 10)]) (N := n_law_names) (sc := defScope s_law_names) (by decide +kernel)) (fun _ _ _ _ _ => (agn 10 (B.blk _ _ _ _ _).nd)) (fun _ _ _ _ _ => (ats_one (at_cmp o_notinA sim2 (av 10) (av 3)))) (fun _ _ _ _ _ => (av 10))) ae_int) aa_nil)))))))))
    (ass_one (as_ret (av 3))))))
theorem bd_law_links (T : Tx K mg F) : ∀ us : List Value, us.length = 3 → bindArgs F.fd_law_links ⟨us, []⟩ = pure ((["_law_path", "_law_index", "_law_beside"] : List Str).zip us) := T.d_law_links.bind fun _ _ _ _ _ _ us hu => match us, hu with | [_, _, _], _ => rfl
theorem ok_law_links (T : Tx K mg F) : Gn P w K mg base 1 F.f_law_links F.fd_law_links ["_law_path", "_law_index", "_law_beside"] w_law_links := by
  refine T.d_law_links.gn (N := n_law_links) sc_law_links fun cdv A outer s H E C B => ?_
  exact (ass_cons (as_set (i := 3) B.nd rfl (by first | exact Or.inl rfl | exact Or.inr rfl) (ae_bin o_add sim2 (ae_bin o_add sim2 (ae_callTy o_list simC (by rfl) T.n_list bb_list (aa_cons (ae_slice o_sl s_sl (av 0) (ao_some (ae_callB (o_max B.calm) simC (by rfl) T.n_max bb_max (aa_cons ae_int (aa_cons (ae_bin o_sub sim2 (av 1) ae_int) aa_nil)))) (ao_some (av 1))) aa_nil)) (ae_callTy o_list simC (by rfl) T.n_list bb_list (aa_cons (ae_slice o_sl s_sl (av 0) (ao_some (ae_bin o_add sim2 (av 1) ae_int)) (ao_some (ae_bin o_add sim2 (av 1) ae_int))) aa_nil))) (av 2)))
    (ass_cons (as_if (at_cmp o_inA sim2 (av 1) (ae_tup (aa_cons ae_int (aa_cons (ae_bin o_sub sim2 (ae_callB o_len simC (by rfl) T.n_len bb_len (aa_cons (av 0) aa_nil)) ae_int) aa_nil)))) (ass_one (as_expr (ae_mt (only_mt m_append) (av 3) (aa_cons (ae_if (at_cmp (o_eq B.u64) sim2 (av 1) ae_int) (ae_ix o_ix sim2 (av 0) (ae_un un_neg s_neg ae_int)) (ae_ix o_ix sim2 (av 0) ae_int)) aa_nil)))) ass_nil)
    (ass_one (as_ret (av 3)))))
theorem bd_law_due (T : Tx K mg F) : ∀ us : List Value, us.length = 7 → bindArgs F.fd_law_due ⟨us, []⟩ = pure ((["_law_path", "_law_cut", "_law_index", "_law_phase", "_law_source", "_law_goal", "_law_bit"] : List Str).zip us) := T.d_law_due.bind fun _ _ _ _ _ _ us hu => match us, hu with | [_, _, _, _, _, _, _], _ => rfl
theorem ok_law_due (T : Tx K mg F) : Gn P w K mg base 1 F.f_law_due F.fd_law_due ["_law_path", "_law_cut", "_law_index", "_law_phase", "_law_source", "_law_goal", "_law_bit"] w_law_due := by
  refine T.d_law_due.gn (N := n_law_due) sc_law_due fun cdv A outer s H E C B => ?_
  exact (ass_cons (as_set (i := 7) B.nd rfl (by first | exact Or.inl rfl | exact Or.inr rfl) (ae_if (at_cmp o_inA sim2 (av 4) (av 0)) (av 6) ae_int))
    (ass_cons (as_if (at_cmp (o_eq B.u64) sim2 (av 3) ae_str) (ass_one (as_ret ae_int)) ass_nil)
    (ass_cons (as_set (i := 8) B.nd rfl (by first | exact Or.inl rfl | exact Or.inr rfl) (ae_disp (ps_some ae_int (ae_ix o_ix sim2 (av 0) (ae_un un_neg s_neg ae_int)) (ps_some (ae_bin o_sub sim2 (ae_callB o_len simC (by rfl) T.n_len bb_len (aa_cons (av 0) aa_nil)) ae_int) (ae_ix o_ix sim2 (av 0) ae_int) ps_none)) rfl rfl (by simp) (by decide)))
    (ass_cons (as_if (at_cmp (o_eq B.u64) sim2 (av 5) (ae_mt (only_mt (m_dget B.u1)) (av 8) (aa_cons (av 2) (aa_cons ae_str aa_nil)))) (ass_one (as_ret (ae_ix o_ix sim2 (ae_lst (aa_cons ae_non (aa_cons ae_int aa_nil))) (av 7)))) ass_nil)
    (ass_cons (as_set (i := 9) B.nd rfl (by first | exact Or.inl rfl | exact Or.inr rfl) (ae_if (at_cmp o_gt sim2 (av 2) (av 1)) (ae_slice o_sl s_sl (av 0) (ao_some (ae_bin o_add sim2 (av 2) ae_int)) (ao_some (ae_bin o_add sim2 (av 2) ae_int))) (ae_slice o_sl s_sl (av 0) (ao_some (ae_callB (o_max B.calm) simC (by rfl) T.n_max bb_max (aa_cons (ae_bin o_sub sim2 (av 2) ae_int) (aa_cons ae_int aa_nil)))) (ao_some (av 2)))))
    (ass_one (as_ret (ae_if (at_cmp o_inA sim2 (av 5) (av 9)) (av 7) ae_int))))))))
theorem bd_is_integer (T : Tx K mg F) : ∀ us : List Value, us.length = 1 → bindArgs F.fd_is_integer ⟨us, []⟩ = pure ((["value"] : List Str).zip us) := T.d_is_integer.bind fun _ _ _ _ _ _ us hu => match us, hu with | [_], _ => rfl
theorem ok_is_integer (T : Tx K mg F) : Gn P w K mg base 1 F.f_is_integer F.fd_is_integer ["value"] w_is_integer := by
  refine T.d_is_integer.gn (N := n_is_integer) sc_is_integer fun cdv A outer s H E C B => ?_
  exact (ass_one (as_ret (ae_and (ae_callB o_isi simC (by rfl) T.n_isinstance bb_isinstance (aa_cons (av 0) (aa_cons (ae_bltn (v := .ty "int") (by rfl) T.n_int bb_int rfl re_ty) aa_nil))) (ae_one (ae_not (ae_callB o_isi simC (by rfl) T.n_isinstance bb_isinstance (aa_cons (av 0) (aa_cons (ae_bltn (v := .ty "bool") (by rfl) T.n_bool bb_bool rfl re_ty) aa_nil))))))))
theorem bd_is_string_of (T : Tx K mg F) : ∀ us : List Value, us.length = 3 → bindArgs F.fd_is_string_of ⟨us, []⟩ = pure ((["value", "characters", "longest"] : List Str).zip us) := T.d_is_string_of.bind fun _ _ _ _ _ _ us hu => match us, hu with | [_, _, _], _ => rfl
theorem ok_is_string_of (T : Tx K mg F) : Gn P w K mg base 1 F.f_is_string_of F.fd_is_string_of ["value", "characters", "longest"] w_is_string_of := by
  refine T.d_is_string_of.gn (N := n_is_string_of) sc_is_string_of fun cdv A outer s H E C B => ?_
  exact (ass_cons (as_if (at_w (aw_or (at_not (at_tru (ae_callB o_isi simC (by rfl) T.n_isinstance bb_isinstance (aa_cons (av 0) (aa_cons (ae_bltn (v := .ty "str") (by rfl) T.n_str bb_str rfl re_ty) aa_nil))))) (aw_or1 (at_not (at_chain o_le sim2 o_le sim2 ae_int (ae_callB o_len simC (by rfl) T.n_len bb_len (aa_cons (av 0) aa_nil)) (av 2)))))) (ass_one (as_ret ae_bl)) ass_nil)
    (ass_one (as_ret (ae_callB (o_all B.calm) simC (by rfl) T.n_all bb_all (aa_cons (ae_lc B.calm B.nd (ai_seq (av 0)) (blkOk_by (own := [(("character" : Str), 3)]) (N := n_is_string_of) (sc := defScope s_is_string_of) (by decide +kernel)) (fun _ _ _ _ _ => (agn 3 (B.blk _ _ _ _ _).nd)) (fun _ _ _ _ _ => ats_nil) (fun _ _ _ _ _ => (ae_cmp o_inA sim2 (av 3) (av 1)))) aa_nil)))))
theorem bd_is_host_name (T : Tx K mg F) : ∀ us : List Value, us.length = 1 → bindArgs F.fd_is_host_name ⟨us, []⟩ = pure ((["value"] : List Str).zip us) := T.d_is_host_name.bind fun _ _ _ _ _ _ us hu => match us, hu with | [_], _ => rfl
theorem ok_is_host_name (T : Tx K mg F) : Gn P w K mg base 2 F.f_is_host_name F.fd_is_host_name ["value"] w_is_host_name := by
  obtain ⟨t_LETTERS, h_LETTERS⟩ := T.e_LETTERS
  obtain ⟨t_LONGEST_NAME, h_LONGEST_NAME⟩ := T.e_LONGEST_NAME
  refine T.d_is_host_name.gn (N := n_is_host_name) sc_is_host_name fun cdv A outer s H E C B => ?_
  exact (ass_one (as_ret (ae_call (runs_all (n := 3) B ((ok_is_string_of T).mono (by decide)) rfl (bd_is_string_of T)) (by rfl) T.m_is_string_of T.d_is_string_of.kp (aa_cons (av 0) (aa_cons (ae_glob (v := .str "abcdefghijklmnopqrstuvwxyz") (by rfl) h_LETTERS ⟨_, rfl⟩ (re_str (okS_of (by decide +kernel)))) (aa_cons (ae_glob (v := .int 8) (by rfl) h_LONGEST_NAME ⟨_, rfl⟩ re_int) aa_nil))))))
theorem bd_is_relink (T : Tx K mg F) : ∀ us : List Value, us.length = 1 → bindArgs F.fd_is_relink ⟨us, []⟩ = pure ((["value"] : List Str).zip us) := T.d_is_relink.bind fun _ _ _ _ _ _ us hu => match us, hu with | [_], _ => rfl
theorem ok_is_relink (T : Tx K mg F) : Gn P w K mg base 3 F.f_is_relink F.fd_is_relink ["value"] w_is_relink := by
  obtain ⟨t_SHORTEST_PATH, h_SHORTEST_PATH⟩ := T.e_SHORTEST_PATH
  refine T.d_is_relink.gn (N := n_is_relink) sc_is_relink fun cdv A outer s H E C B => ?_
  exact (ass_cons (as_if (at_w (aw_or (at_not (at_tru (ae_callB o_isi simC (by rfl) T.n_isinstance bb_isinstance (aa_cons (av 0) (aa_cons (ae_bltn (v := .ty "tuple") (by rfl) T.n_tuple bb_tuple rfl re_ty) aa_nil))))) (aw_or1 (at_cmp (o_ne B.u64) sim2 (ae_callB o_len simC (by rfl) T.n_len bb_len (aa_cons (av 0) aa_nil)) ae_int)))) (ass_one (as_ret ae_bl)) ass_nil)
    (ass_cons (as_asg (vs := [1, 2]) (av 0) (ag_tup B.calm (ags_cons (agn 1 B.nd) (ags_cons (agn 2 B.nd) ags_nil))))
    (ass_cons (as_if (at_w (aw_or (at_not (at_tru (ae_callB o_isi simC (by rfl) T.n_isinstance bb_isinstance (aa_cons (av 1) (aa_cons (ae_bltn (v := .ty "tuple") (by rfl) T.n_tuple bb_tuple rfl re_ty) aa_nil))))) (aw_or (at_cmp o_lt sim2 (ae_callB o_len simC (by rfl) T.n_len bb_len (aa_cons (av 1) aa_nil)) (ae_glob (v := .int 3) (by rfl) h_SHORTEST_PATH ⟨_, rfl⟩ re_int)) (aw_or1 (at_not (at_tru (ae_callB (o_all B.calm) simC (by rfl) T.n_all bb_all (aa_cons (ae_lc B.calm B.nd (ai_seq (av 1)) (blkOk_by (own := [(("host" : Str), 3)]) (N := n_is_relink) (sc := defScope s_is_relink) (by decide +kernel)) (fun _ _ _ _ _ => (agn 3 (B.blk _ _ _ _ _).nd)) (fun _ _ _ _ _ => ats_nil) (fun _ _ _ _ _ => (ae_call (runs_all (n := 1) (B.blk _ _ _ _ _) ((ok_is_host_name T).mono (by decide)) rfl (bd_is_host_name T)) (by rfl) T.m_is_host_name T.d_is_host_name.kp (aa_cons (av 3) aa_nil)))) aa_nil)))))))) (ass_one (as_ret ae_bl)) ass_nil)
    (ass_one (as_ret (ae_and (ae_cmp (o_eq B.u64) sim2 (ae_lenSet B.calm (by rfl) T.n_len (by rfl) T.n_set (av 1)) (ae_callB o_len simC (by rfl) T.n_len bb_len (aa_cons (av 1) aa_nil))) (ae_and (ae_call (runs_all (n := 1) B ((ok_is_integer T).mono (by decide)) rfl (bd_is_integer T)) (by rfl) T.m_is_integer T.d_is_integer.kp (aa_cons (av 2) aa_nil)) (ae_one (ae_chain o_le sim2 o_le sim2 ae_int (av 2) (ae_bin o_sub sim2 (ae_callB o_len simC (by rfl) T.n_len bb_len (aa_cons (av 1) aa_nil)) ae_int))))))))))
theorem bd_require_relink (T : Tx K mg F) : ∀ us : List Value, us.length = 1 → bindArgs F.fd_require_relink ⟨us, []⟩ = pure ((["relink"] : List Str).zip us) := T.d_require_relink.bind fun _ _ _ _ _ _ us hu => match us, hu with | [_], _ => rfl
theorem ok_require_relink (T : Tx K mg F) : Gn P w K mg base 4 F.f_require_relink F.fd_require_relink ["relink"] w_require_relink := by
  refine T.d_require_relink.gn (N := n_require_relink) sc_require_relink fun cdv A outer s H E C B => ?_
  exact (ass_one (as_if (at_not (at_tru (ae_call (runs_all (n := 1) B ((ok_is_relink T).mono (by decide)) rfl (bd_is_relink T)) (by rfl) T.m_is_relink T.d_is_relink.kp (aa_cons (av 0) aa_nil)))) (ass_one as_no) ass_nil))
theorem bd_position (T : Tx K mg F) : ∀ us : List Value, us.length = 2 → bindArgs F.fd_position ⟨us, []⟩ = pure ((["relink", "host"] : List Str).zip us) := T.d_position.bind fun _ _ _ _ _ _ us hu => match us, hu with | [_, _], _ => rfl
theorem ok_position (T : Tx K mg F) : Gn P w K mg base 5 F.f_position F.fd_position ["relink", "host"] w_position := by
  refine T.d_position.gn (N := n_position) sc_position fun cdv A outer s H E C B => ?_
  exact (ass_cons (as_expr (ae_call (runs_all (n := 1) B ((ok_require_relink T).mono (by decide)) rfl (bd_require_relink T)) (by rfl) T.m_require_relink T.d_require_relink.kp (aa_cons (av 0) aa_nil)))
    (ass_cons (as_asg (vs := [2, 3]) (av 0) (ag_tup B.calm (ags_cons (agn 2 B.nd) (ags_cons (agn 3 B.nd) ags_nil))))
    (ass_cons (as_if (at_w (aw_or (at_not (at_tru (ae_call (runs_all (n := 1) B ((ok_is_host_name T).mono (by decide)) rfl (bd_is_host_name T)) (by rfl) T.m_is_host_name T.d_is_host_name.kp (aa_cons (av 1) aa_nil)))) (aw_or1 (at_cmp o_notinA sim2 (av 1) (av 2))))) (ass_one as_no) ass_nil)
    (ass_one (as_ret (ae_mt (only_mt m_tindex) (av 2) (aa_cons (av 1) aa_nil)))))))
theorem bd_carried_bit (T : Tx K mg F) : ∀ us : List Value, us.length = 3 → bindArgs F.fd_carried_bit ⟨us, []⟩ = pure ((["path", "source", "bit"] : List Str).zip us) := T.d_carried_bit.bind fun _ _ _ _ _ _ us hu => match us, hu with | [_, _, _], _ => rfl
theorem ok_carried_bit (T : Tx K mg F) : Gn P w K mg base 1 F.f_carried_bit F.fd_carried_bit ["path", "source", "bit"] w_carried_bit := by
  refine T.d_carried_bit.gn (N := n_carried_bit) sc_carried_bit fun cdv A outer s H E C B => ?_
  exact (ass_one (as_ret (ae_if (at_cmp o_inA sim2 (av 1) (av 0)) (av 2) ae_int)))
theorem bd_is_near (T : Tx K mg F) : ∀ us : List Value, us.length = 2 → bindArgs F.fd_is_near ⟨us, []⟩ = pure ((["relink", "host"] : List Str).zip us) := T.d_is_near.bind fun _ _ _ _ _ _ us hu => match us, hu with | [_, _], _ => rfl
theorem ok_is_near (T : Tx K mg F) : Gn P w K mg base 6 F.f_is_near F.fd_is_near ["relink", "host"] w_is_near := by
  refine T.d_is_near.gn (N := n_is_near) sc_is_near fun cdv A outer s H E C B => ?_
  exact (ass_one (as_ret (ae_cmp o_le sim2 (ae_call (runs_all (n := 2) B ((ok_position T).mono (by decide)) rfl (bd_position T)) (by rfl) T.m_position T.d_position.kp (aa_cons (av 0) (aa_cons (av 1) aa_nil))) (ae_ix o_ix sim2 (av 0) ae_int))))
theorem bd_forward_bit (T : Tx K mg F) : ∀ us : List Value, us.length = 6 → bindArgs F.fd_forward_bit ⟨us, []⟩ = pure ((["relink", "host", "phase", "source", "goal", "bit"] : List Str).zip us) := T.d_forward_bit.bind fun _ _ _ _ _ _ us hu => match us, hu with | [_, _, _, _, _, _], _ => rfl
theorem ok_forward_bit (T : Tx K mg F) : Gn P w K mg base 7 F.f_forward_bit F.fd_forward_bit ["relink", "host", "phase", "source", "goal", "bit"] w_forward_bit := by
  refine T.d_forward_bit.gn (N := n_forward_bit) sc_forward_bit fun cdv A outer s H E C B => ?_
  exact (ass_cons (as_set (i := 6) B.nd rfl (by first | exact Or.inl rfl | exact Or.inr rfl) (ae_call (runs_all (n := 2) B ((ok_position T).mono (by decide)) rfl (bd_position T)) (by rfl) T.m_position T.d_position.kp (aa_cons (av 0) (aa_cons (av 1) aa_nil))))
    (ass_cons (as_set (i := 7) B.nd rfl (by first | exact Or.inl rfl | exact Or.inr rfl) (ae_ix o_ix sim2 (av 0) ae_int))
    (ass_cons (as_if (at_cmp (o_ne B.u64) sim2 (av 2) ae_str) (ass_one (as_ret ae_int)) ass_nil)
    (ass_cons (as_set (i := 8) B.nd rfl (by first | exact Or.inl rfl | exact Or.inr rfl) (ae_call (runs_all (n := 3) B ((ok_carried_bit T).mono (by decide)) rfl (bd_carried_bit T)) (by rfl) T.m_carried_bit T.d_carried_bit.kp (aa_cons (av 7) (aa_cons (av 3) (aa_cons (av 5) aa_nil)))))
    (ass_cons (as_if (at_setEq B.u0 (kdsCode_of C) (ar_v 1) (ar_v 4) (ar_i 7 pe_int) (ar_i 7 pe_neg) rfl rfl) (ass_one (as_ret (ae_if (at_cmp (o_eq B.u64) sim2 (av 8) ae_int) ae_int ae_non))) ass_nil)
    (ass_cons (as_if (at_tru (ae_call (runs_all (n := 2) B ((ok_is_near T).mono (by decide)) rfl (bd_is_near T)) (by rfl) T.m_is_near T.d_is_near.kp (aa_cons (av 0) (aa_cons (av 1) aa_nil)))) (ass_one (as_set (i := 9) B.nd rfl (by first | exact Or.inl rfl | exact Or.inr rfl) (ae_and (ae_cmp o_gt sim2 (av 6) ae_int) (ae_one (ae_cmp (o_eq B.u64) sim2 (av 4) (ae_ix o_ix sim2 (av 7) (ae_bin o_sub sim2 (av 6) ae_int))))))) (ass_one (as_set (i := 9) B.nd rfl (by first | exact Or.inl rfl | exact Or.inr rfl) (ae_and (ae_cmp o_lt sim2 (av 6) (ae_bin o_sub sim2 (ae_callB o_len simC (by rfl) T.n_len bb_len (aa_cons (av 7) aa_nil)) ae_int)) (ae_one (ae_cmp (o_eq B.u64) sim2 (av 4) (ae_ix o_ix sim2 (av 7) (ae_bin o_add sim2 (av 6) ae_int))))))))
    (ass_one (as_ret (ae_if (at_tru (av 9)) (av 8) ae_int)))))))))
theorem bd_law_host_right (T : Tx K mg F) : ∀ us : List Value, us.length = 3 → bindArgs F.fd_law_host_right ⟨us, []⟩ = pure ((["_law_relink", "_law_index", "_law_beside"] : List Str).zip us) := T.d_law_host_right.bind fun _ _ _ _ _ _ us hu => match us, hu with | [_, _, _], _ => rfl
theorem ok_law_host_right (T : Tx K mg F) : Gn P w K mg base 8 F.f_law_host_right F.fd_law_host_right ["_law_relink", "_law_index", "_law_beside"] w_law_host_right := by
  refine T.d_law_host_right.gn (N := n_law_host_right) sc_law_host_right fun cdv A outer s H E C B => ?_
  exact (ass_cons (as_asg (vs := [3, 4]) (av 0) (ag_tup B.calm (ags_cons (agn 3 B.nd) (ags_cons (agn 4 B.nd) ags_nil))))
    (ass_cons (as_set (i := 5) B.nd rfl (by first | exact Or.inl rfl | exact Or.inr rfl) (ae_call (runs_all (n := 3) B ((ok_law_links T).mono (by decide)) rfl (bd_law_links T)) (by rfl) T.m_law_links T.d_law_links.kp (aa_cons (av 3) (aa_cons (av 1) (aa_cons (av 2) aa_nil)))))
    (ass_cons (as_for (vs := [6]) B.pass B.calm (ai_seq (ae_tup (aa_cons ae_str (aa_cons ae_str aa_nil)))) (agn 6 B.nd) (ass_one (as_for (vs := [7]) B.pass B.calm (ai_seq (ae_bin o_add sim2 (ae_lst (aa_cons ae_non aa_nil)) (av 5))) (agn 7 B.nd) (ass_one (as_for (vs := [8]) B.pass B.calm (ai_seq (ae_lc B.calm B.nd (ai_seq (av 5)) (blkOk_by (own := [(("_law_one" : Str), 12)]) (N := n_law_host_right) (sc := defScope s_law_host_right) (by decide +kernel)) (fun _ _ _ _ _ => (agn 12 (B.blk _ _ _ _ _).nd)) (fun _ _ _ _ _ => (ats_one (at_cmp (o_ne (B.blk _ _ _ _ _).u64) sim2 (av 12) (av 7)))) (fun _ _ _ _ _ => (av 12)))) (agn 8 B.nd) (ass_one (as_for (vs := [9]) B.pass B.calm (ai_seq (ae_slice o_sl s_sl (ae_tup (aa_cons ae_int (aa_cons ae_int aa_nil))) ao_none (ao_some (ae_bin o_sub sim2 ae_int (ae_callTy o_int simC (by rfl) T.n_int bb_int (aa_cons (ae_cmp o_is sim2 (av 7) ae_non) aa_nil)))))) (agn 9 B.nd) (ass_cons (as_set (i := 10) B.nd rfl (by first | exact Or.inl rfl | exact Or.inr rfl) (ae_call (runs_all (n := 7) B ((ok_law_due T).mono (by decide)) rfl (bd_law_due T)) (by rfl) T.m_law_due T.d_law_due.kp (aa_cons (av 3) (aa_cons (av 4) (aa_cons (av 1) (aa_cons (av 6) (aa_cons (av 7) (aa_cons (av 8) (aa_cons (av 9) aa_nil)))))))))
    (ass_cons (as_setLc (i := 11) B.calm B.nd rfl rfl (sw_true rfl rfl rfl (by decide +kernel)) (ai_range1 (by rfl) T.n_range (aa_cons ae_int aa_nil)) (blkOk_by (own := [(("_law_time" : Str), 13)]) (N := n_law_host_right) (sc := defScope s_law_host_right) (by decide +kernel)) (fun _ _ _ _ _ => (agn 13 (B.blk _ _ _ _ _).nd)) (fun _ _ _ _ _ => ats_nil) (fun _ _ _ _ _ => (ae_call (runs_all (n := 6) (B.blk _ _ _ _ _) ((ok_forward_bit T).mono (by decide)) rfl (bd_forward_bit T)) (by rfl) T.m_forward_bit T.d_forward_bit.kp (aa_cons (av 0) (aa_cons (ae_ix o_ix sim2 (av 3) (av 1)) (aa_cons (av 6) (aa_cons (av 7) (aa_cons (av 8) (aa_cons (av 9) aa_nil)))))))))
    (ass_one (as_if (at_cmp (o_ne B.u64) sim2 (ae_callB (o_repr B.gd B.u64) simC (by rfl) T.n_repr bb_repr (aa_cons (av 11) aa_nil)) (ae_callB (o_repr B.gd B.u64) simC (by rfl) T.n_repr bb_repr (aa_cons (ae_lst (aa_cons (av 10) (aa_cons (av 10) aa_nil))) aa_nil))) (ass_one (as_ret ae_bl)) ass_nil)))))))))))
    (ass_one (as_ret ae_bl)))))
theorem bd_law_right (T : Tx K mg F) : ∀ us : List Value, us.length = 1 → bindArgs F.fd_law_right ⟨us, []⟩ = pure ((["_law_pot_here"] : List Str).zip us) := T.d_law_right.bind fun _ _ _ _ _ _ us hu => match us, hu with | [_], _ => rfl
theorem ok_law_right (T : Tx K mg F) : Gn P w K mg base 9 F.f_law_right F.fd_law_right ["_law_pot_here"] w_law_right := by
  refine T.d_law_right.gn (N := n_law_right) sc_law_right fun cdv A outer s H E C B => ?_
  exact (ass_cons (as_set (i := 1) B.nd rfl (by first | exact Or.inl rfl | exact Or.inr rfl) (ae_call (runs_all (n := 2) B ((ok_law_names T).mono (by decide)) rfl (bd_law_names T)) (by rfl) T.m_law_names T.d_law_names.kp (aa_cons (av 0) (aa_cons (ae_bin o_add sim2 ae_int (ae_call (runs_all (n := 2) B ((ok_law_draw T).mono (by decide)) rfl (bd_law_draw T)) (by rfl) T.m_law_draw T.d_law_draw.kp (aa_cons (av 0) (aa_cons ae_int aa_nil)))) aa_nil))))
    (ass_cons (as_asg (vs := [2, 3]) (ae_tup (aa_cons (ae_callTy o_tuple simC (by rfl) T.n_tuple bb_tuple (aa_cons (ae_slice o_sl s_sl (av 1) (ao_some ae_int) ao_none) aa_nil)) (aa_cons (ae_slice o_sl s_sl (av 1) ao_none (ao_some ae_int)) aa_nil))) (ag_tup B.calm (ags_cons (agn 2 B.nd) (ags_cons (agn 3 B.nd) ags_nil))) (hw := by first | rfl | kernel_rfl))
    (ass_cons (as_set (i := 4) B.nd rfl (by first | exact Or.inl rfl | exact Or.inr rfl) (ae_tup (aa_cons (av 2) (aa_cons (ae_call (runs_all (n := 2) B ((ok_law_draw T).mono (by decide)) rfl (bd_law_draw T)) (by rfl) T.m_law_draw T.d_law_draw.kp (aa_cons (av 0) (aa_cons (ae_bin o_sub sim2 (ae_callB o_len simC (by rfl) T.n_len bb_len (aa_cons (av 2) aa_nil)) ae_int) aa_nil))) aa_nil))))
    (ass_one (as_ret (ae_callB (o_all B.calm) simC (by rfl) T.n_all bb_all (aa_cons (ae_lc B.calm B.nd (ai_range1 (by rfl) T.n_range (aa_cons (ae_callB o_len simC (by rfl) T.n_len bb_len (aa_cons (av 2) aa_nil)) aa_nil)) (blkOk_by (own := [(("_law_index" : Str), 5)]) (N := n_law_right) (sc := defScope s_law_right) (by decide +kernel)) (fun _ _ _ _ _ => (agn 5 (B.blk _ _ _ _ _).nd)) (fun _ _ _ _ _ => ats_nil) (fun _ _ _ _ _ => (ae_call (runs_all (n := 3) (B.blk _ _ _ _ _) ((ok_law_host_right T).mono (by decide)) rfl (bd_law_host_right T)) (by rfl) T.m_law_host_right T.d_law_host_right.kp (aa_cons (av 4) (aa_cons (av 5) (aa_cons (av 3) aa_nil)))))) aa_nil)))))))
theorem bd_law_pot (T : Tx K mg F) : ∀ us : List Value, us.length = 2 → bindArgs F.fd_law_pot ⟨us, []⟩ = pure ((["_law_script", "_law_k"] : List Str).zip us) := T.d_law_pot.bind fun _ _ _ _ _ _ us hu => match us, hu with | [_, _], _ => rfl
theorem ok_law_pot (T : Tx K mg F) : Gn P w K mg base 1 F.f_law_pot F.fd_law_pot ["_law_script", "_law_k"] w_law_pot := by
  refine T.d_law_pot.gn (N := n_law_pot) sc_law_pot fun cdv A outer s H E C B => ?_
  exact (ass_cons (as_set (i := 2) B.nd rfl (by first | exact Or.inl rfl | exact Or.inr rfl) (ae_if (at_cmp o_lt sim2 (av 1) (ae_callB o_len simC (by rfl) T.n_len bb_len (aa_cons (av 0) aa_nil))) (ae_callB o_abs simC (by rfl) T.n_abs bb_abs (aa_cons (ae_ix o_ix sim2 (av 0) (av 1)) aa_nil)) ae_int))
    (ass_one (as_ret (ae_lst (aa_cons (ae_callB (o_max B.calm) simC (by rfl) T.n_max bb_max (aa_cons ae_int (aa_cons (ae_bin o_sub sim2 (av 2) (ae_bin o_pow sim2 ae_int ae_int)) aa_nil))) (aa_cons (ae_bin o_add sim2 (ae_bin o_mod sim2 (ae_bin o_pow sim2 (ae_bin o_add sim2 (ae_bin o_add sim2 (ae_bin o_mod sim2 (av 2) ae_int) (ae_bin o_mul sim2 (ae_bin o_mul sim2 ae_int (av 1)) (av 1))) ae_int) ae_int) ae_int) ae_int) aa_nil))))))
theorem bd_law (T : Tx K mg F) : ∀ us : List Value, us.length = 1 → bindArgs F.fd_law ⟨us, []⟩ = pure ((["_law_script"] : List Str).zip us) := T.d_law.bind fun _ _ _ _ _ _ us hu => match us, hu with | [_], _ => rfl
theorem ok_law (T : Tx K mg F) : Gn P w K mg base 10 F.f_law F.fd_law ["_law_script"] w_law := by
  refine T.d_law.gn (N := n_law) sc_law fun cdv A outer s H E C B => ?_
  exact (ass_one (as_ret (ae_callB (o_all B.calm) simC (by rfl) T.n_all bb_all (aa_cons (ae_lc B.calm B.nd (ai_range1 (by rfl) T.n_range (aa_cons (ae_callB (o_max B.calm) simC (by rfl) T.n_max bb_max (aa_cons ae_int (aa_cons (ae_callB (o_min B.calm) simC (by rfl) T.n_min bb_min (aa_cons ae_int (aa_cons (ae_callB o_len simC (by rfl) T.n_len bb_len (aa_cons (av 0) aa_nil)) aa_nil))) aa_nil))) aa_nil)) (blkOk_by (own := [(("_law_k" : Str), 1)]) (N := n_law) (sc := defScope s_law) (by decide +kernel)) (fun _ _ _ _ _ => (agn 1 (B.blk _ _ _ _ _).nd)) (fun _ _ _ _ _ => ats_nil) (fun _ _ _ _ _ => (ae_call (runs_all (n := 1) (B.blk _ _ _ _ _) ((ok_law_right T).mono (by decide)) rfl (bd_law_right T)) (by rfl) T.m_law_right T.d_law_right.kp (aa_cons (ae_call (runs_all (n := 2) (B.blk _ _ _ _ _) ((ok_law_pot T).mono (by decide)) rfl (bd_law_pot T)) (by rfl) T.m_law_pot T.d_law_pot.kp (aa_cons (av 0) (aa_cons (av 1) aa_nil))) aa_nil)))) aa_nil))))
end
end Lw

set_option Elab.async false
set_option linter.all false
set_option maxRecDepth 100000
set_option maxHeartbeats 400000
namespace Lw
open PySem PySem.Spec PyProof.Rows L2 Rk
variable {A : Ah} {Q : QE} {E : EX}
/-- a path of hosts -/
abbrev P (ps : List Str) : Vl := .tup (ps.map .str)
def carr (ps : List Str) (src : Vl) (bit : Int) : Int := if inL src (ps.map .str) = true then bit else 1
def atEnd (ps : List Str) (i : Nat) (g : Str) : Prop := (i = 0 ∧ ps.getLast? = some g) ∨ (i + 1 = ps.length ∧ ps.head? = some g)
def ahead (ps : List Str) (cut i : Nat) (g : Str) : Prop := if cut < i then ps[i + 1]? = some g else (0 < i ∧ ps[i - 1]? = some g)
open Classical in
/-- what a host says to a neighbor -/
noncomputable def dueC (ps : List Str) (cut i : Nat) (turned : Bool) (c : Int) (g : Str) : Vl :=
  if turned = false then .int 0 else
  if atEnd ps i g then (if c = 1 then .int 0 else .non)
  else if ahead ps cut i g then .int c else .int 0
def phs (turned : Bool) : Str := if turned = true then Str.ofString "turned" else Str.ofString "reserved"
theorem last_at {ps : List Str} (h : 3 ≤ ps.length) : ∃ l, atI (ps.map Vl.str) (-1) = some (.str l) ∧ ps.getLast? = some l := by
  have hl : ps.length - 1 < ps.length := by omega
  refine ⟨ps[ps.length - 1], ?_, by rw [List.getLast?_eq_getElem?, List.getElem?_eq_getElem hl]⟩
  unfold atI ixN
  rw [if_neg (by decide), if_pos (by simp; omega)]
  simp only [Option.bind_some, List.length_map]
  rw [show ((-1 : Int) + (ps.length : Int)).toNat = ps.length - 1 by omega]
  simp [hl]
theorem head_at {ps : List Str} (h : 3 ≤ ps.length) : ∃ l, atI (ps.map Vl.str) 0 = some (.str l) ∧ ps.head? = some l := by
  cases ps with
  | nil => simp at h
  | cons p ps => exact ⟨p, by rw [show (0 : Int) = ((0 : Nat) : Int) from rfl, Rk.atI_nat (by simp)]; rfl, rfl⟩
theorem due4 {A0 : Ah} {ps : List Str} {cut i : Nat} {c : Int} {g : Str} {s3 s4 s6 s8 : Option Vl} (s : Rk.Sub A0 A) (h3 : 3 ≤ ps.length) (hi : i < ps.length) (q : ∀ v, (ahead ps cut i g → v = .int c) → (¬ ahead ps cut i g → v = .int 0) → Q v A0) :
    b_law_due_4 (Dx Q E) [some (P ps), some (.int cut), some (.int i), s3, s4, some (.str g), s6, some (.int c), s8, none] A := by
  simp [b_law_due_4, b_law_due_5]
  have fl : ∀ qs : List Str, ∀ x ∈ qs.map Vl.str, flatL x = true := fun qs x hx => by
    obtain ⟨z, _, rfl⟩ := List.mem_map.mp hx; rfl
  split
  · rename_i hc
    rw [cutL_map, cut_next]
    refine ⟨rfl, fl _, ?_⟩
    rw [inL_map]
    have e : ahead ps cut i g ↔ ps[i + 1]? = some g := by unfold ahead; rw [if_pos hc]
    split
    · rename_i h
      exact s.give (q _ (fun _ => rfl) fun z => (z (e.mpr (by simpa using h))).elim)
    · rename_i h
      exact s.give (q _ (fun z => (h (by simpa using e.mp z)).elim) fun _ => rfl)
  · rename_i hc
    cases i with
    | zero =>
      have e : ¬ ahead ps cut 0 g := by unfold ahead; rw [if_neg hc]; omega
      rw [show (if ((0 : Nat) : Int) - 1 < 0 then (0 : Int) else ((0 : Nat) : Int) - 1) = 0 from rfl, show ((0 : Nat) : Int) = 0 from rfl, cut_none]
      exact ⟨rfl, by simp, s.give (q _ (fun z => (e z).elim) fun _ => rfl)⟩
    | succ k =>
      have e : ahead ps cut (k + 1) g ↔ ps[k]? = some g := by unfold ahead; rw [if_neg hc]; simp
      rw [if_neg (by omega), show (((k + 1 : Nat) : Int) - 1) = (k : Int) by omega, show (((k + 1 : Nat) : Int)) = (k : Int) + 1 by omega, cutL_map, cut_prev (by omega)]
      refine ⟨rfl, fl _, ?_⟩
      rw [inL_map]
      rw [List.getElem?_eq_getElem (by omega)] at e
      split
      · rename_i h
        exact s.give (q _ (fun _ => rfl) fun z => (z (e.mpr (by simpa [eq_comm] using h))).elim)
      · rename_i h
        exact s.give (q _ (fun z => (h (by simpa [eq_comm] using e.mp z)).elim) fun _ => rfl)
theorem fresh_eq {s t : Str} : eqL (.str s) (.str t) = (s == t) := rfl
theorem due3 {A0 : Ah} {ps : List Str} {cut i : Nat} {c : Int} {g l f : Str} {s3 s4 s6 : Option Vl} {d : Addr} (s : Rk.Sub A0 A) (h3 : 3 ≤ ps.length) (hi : i < ps.length) (hl : ps.getLast? = some l) (hf : ps.head? = some f) (hg : g ≠ Str.ofString "") (hc : c = 0 ∨ c = 1)
    (hd : A d = some (.dct [(.int 0, .str l), (.int ((ps.length : Int) - 1), .str f)])) (q : Q (dueC ps cut i true c g) A0) :
    b_law_due_3 (Dx Q E) [some (P ps), some (.int cut), some (.int i), s3, s4, some (.str g), s6, some (.int c), some (.ref d), none] A := by
  simp [b_law_due_3]
  refine ⟨.dct, by show kdR (A d) = _; rw [hd]; rfl, fDGetN, rfl, by show kdR (A d) = _; rw [hd]; rfl, d, rfl, ?_⟩
  rw [dctA_eq hd]
  refine ⟨by simp, rfl, .inr ⟨_, _, _, rfl, rfl, ?_⟩⟩
  have look : (lookL [(.int 0, .str l), (.int ((ps.length : Int) - 1), .str f)] (.inl (i : Int))).getD (.str (Str.ofString "")) = .str (if i = 0 then l else if i + 1 = ps.length then f else Str.ofString "") := by
    have k1 : keyIsV (.int 0) (.inl (i : Int)) = decide (i = 0) := by
      unfold keyIsV; simp [keyOf?]; omega
    have k2 : keyIsV (.int ((ps.length : Int) - 1)) (.inl (i : Int)) = decide (i + 1 = ps.length) := by
      unfold keyIsV; simp [keyOf?]; omega
    simp only [lookL, k1, k2, decide_eq_true_eq]
    split
    · rfl
    · split <;> rfl
  simp only [look]
  refine eq_flat rfl rfl ?_
  rw [fresh_eq]
  have e : atEnd ps i g ↔ (g == if i = 0 then l else if i + 1 = ps.length then f else Str.ofString "") = true := by
    unfold atEnd
    rw [hl, hf, beq_iff_eq]
    split
    · rename_i h; subst h
      constructor
      · rintro (⟨_, e⟩ | ⟨e, _⟩)
        · cases e; rfl
        · omega
      · rintro rfl; exact .inl ⟨rfl, rfl⟩
    · rename_i h0
      split
      · rename_i h
        constructor
        · rintro (⟨e, _⟩ | ⟨_, e⟩)
          · exact (h0 e).elim
          · cases e; rfl
        · rintro rfl; exact .inr ⟨h, rfl⟩
      · rename_i h
        constructor
        · rintro (⟨e, _⟩ | ⟨e, _⟩)
          · exact (h0 e).elim
          · exact (h e).elim
        · intro e; exact (hg e).elim
  by_cases he : atEnd ps i g
  · rw [e.mp he]
    simp
    intro p hp
    rw [seqA_eq put_same]
    have hdue : dueC ps cut i true c g = if c = 1 then .int 0 else .non := by unfold dueC; rw [if_neg (by simp), if_pos he]
    rcases hc with rfl | rfl
    · exact ⟨.non, rfl, (s.trans (Sub.new hp)).give (by simpa [hdue] using q)⟩
    · exact ⟨.int 0, rfl, (s.trans (Sub.new hp)).give (by simpa [hdue] using q)⟩
  · rw [show (g == if i = 0 then l else if i + 1 = ps.length then f else Str.ofString "") = false by rw [← Bool.not_eq_true]; exact fun z => he (e.mpr z)]
    simp
    refine due4 s h3 hi fun v v1 v2 => ?_
    have hdue : dueC ps cut i true c g = v := by
      unfold dueC; rw [if_neg (by simp), if_neg he]
      split
      · rename_i h; exact (v1 h).symm
      · rename_i h; exact (v2 h).symm
    rw [← hdue]; exact q
theorem due1 {ps : List Str} {cut i : Nat} {turned : Bool} {c : Int} {g : Str} {s4 s6 : Option Vl} (h3 : 3 ≤ ps.length) (hi : i < ps.length) (hg : g ≠ Str.ofString "") (hc : c = 0 ∨ c = 1) (q : Q (dueC ps cut i turned c g) A) :
    b_law_due_1 (Dx Q E) [some (P ps), some (.int cut), some (.int i), some (.str (phs turned)), s4, some (.str g), s6, some (.int c), none, none] A := by
  obtain ⟨l, hl1, hl2⟩ := last_at h3
  obtain ⟨f, hf1, hf2⟩ := head_at h3
  simp [b_law_due_1]
  refine eq_flat rfl rfl ?_
  cases turned with
  | false =>
    have : eqL (.str (phs false)) (.str (Str.ofString "reserved")) = true := by decide +kernel
    rw [this]; simp
    exact Sub.refl.give (by simpa [dueC] using q)
  | true =>
    have : eqL (.str (phs true)) (.str (Str.ofString "reserved")) = false := by decide +kernel
    rw [this]; simp [b_law_due_2, hl1, hf1]
    intro d hd
    have hm : mergeL [] [(.inl 0, .str l), (.inl ((ps.length : Int) - 1), .str f)] = [(.int 0, .str l), (.int ((ps.length : Int) - 1), .str f)] := by
      have k : keyIsV (.int 0) (.inl ((ps.length : Int) - 1)) = false := by unfold keyIsV; simp [keyOf?]; omega
      simp [mergeL, putL, kVl, k]
    refine ⟨put_same, _, rfl, by simp, ?_⟩
    rw [hm, put_put]
    exact due3 (Sub.new hd) h3 hi hl2 hf2 hg hc put_same q
theorem c_due {ps : List Str} {cut i : Nat} {turned : Bool} {src : Vl} {g : Str} {bit : Int} (h3 : 3 ≤ ps.length) (hi : i < ps.length) (hs : flatL src = true) (hb : bit = 0 ∨ bit = 1) (hg : g ≠ Str.ofString "") (q : Q (dueC ps cut i turned (carr ps src bit) g) A) :
    w_law_due [P ps, .int cut, .int i, .str (phs turned), src, .str g, .int bit] A Q E := by
  rw [w_law_due, wFun_dx]
  simp only [b_law_due, e_wSeq, e_wAsg, e_wIf, e_wB, e_wBin, e_wVar, e_wC, e_inT, flat_map, hs, List.map_cons, List.map_nil, List.length_cons, List.length_nil, List.cons_append, List.nil_append, List.getElem?_cons_succ, List.getElem?_cons_zero, true_and, e_gN]
  by_cases h : inL src (ps.map Vl.str) = true
  · rw [if_pos (by simp [h])]
    rw [show carr ps src bit = bit by unfold carr; rw [if_pos h]] at q
    exact due1 (s4 := some src) (s6 := some (.int bit)) h3 hi hg hb q
  · rw [if_neg (by simp [h])]
    rw [show carr ps src bit = 1 by unfold carr; rw [if_neg h]] at q
    exact due1 (s4 := some src) (s6 := some (.int bit)) h3 hi hg (.inr rfl) q
/-- a host's name -/
def hostOk (s : Str) : Prop := 1 ≤ s.length ∧ s.length ≤ 8 ∧ ∀ c ∈ s.cps.toList, 97 ≤ c ∧ c ≤ 122
structure PathOk (ps : List Str) : Prop where
  nd : ps.Nodup
  lo : 3 ≤ ps.length
  hi : ps.length ≤ 100
  ok : ∀ p ∈ ps, hostOk p
theorem le_mem (c : Nat) : c ∈ (Str.ofString "abcdefghijklmnopqrstuvwxyz").cps.toList ↔ (97 ≤ c ∧ c ≤ 122) := by
  rw [show (Str.ofString "abcdefghijklmnopqrstuvwxyz").cps.toList = List.range' 97 26 by decide +kernel, List.mem_range'_1]; omega
theorem isi_str {s : Str} {QB : QE} (q : QB (.bl true) A) : fIsi [.str s, .ty "str"] A QB := e_isi (y := .str) (z := .str) rfl rfl q
theorem isi_tup {xs : List Vl} {QB : QE} (q : QB (.bl true) A) : fIsi [.tup xs, .ty "tuple"] A QB := e_isi (y := .tup) (z := .tup) rfl rfl q
theorem isi_int {i : Int} {QB : QE} (q : QB (.bl true) A) : fIsi [.int i, .ty "int"] A QB := e_isi (y := .int) (z := .int) rfl rfl q
theorem isi_intb {i : Int} {QB : QE} (q : QB (.bl false) A) : fIsi [.int i, .ty "bool"] A QB := e_isi (y := .int) (z := .bl) rfl rfl q
theorem bls_rep : ∀ n : Nat, bls (List.replicate n (.bl true)) = some (List.replicate n true)
  | 0 => rfl
  | n + 1 => by simp [List.replicate_succ, bls, bls_rep n]
theorem all_rep (n : Nat) : (List.replicate n true).all id = true := by simp
theorem map_rep {α : Type} (xs : List α) : xs.map (fun _ => Vl.bl true) = List.replicate xs.length (.bl true) := by
  induction xs with
  | nil => rfl
  | cons x xs ih => simp [List.replicate_succ, ih]
theorem c_host {A0 : Ah} {s : Str} (sb : Rk.Sub A0 A) (h : hostOk s) (q : Q (.bl true) A0) : w_is_host_name [.str s] A Q E := by
  rw [w_is_host_name, wFun_dx]
  simp [b_is_host_name]
  rw [w_is_string_of, wFun_dx]
  simp [b_is_string_of, b_is_string_of_1]
  refine isi_str ?_
  simp
  rw [if_pos (by have := h.1; omega), if_neg (by have := h.2.1; omega)]
  intro p hp
  refine lcL_map (i := 3) (fun _ => .bl true) ?_ (fun _ => trivial) ?_ ?_
  · have := h.2.1; simp [Rk.signs]; show s.length ≤ 16777216; omega
  · intro x hx acc K1 hk
    simp only [Rk.signs, List.mem_map] at hx
    obtain ⟨c, hc, rfl⟩ := hx
    simp [wipeA]
    rw [StrLaws.found_one, show decide (c ∈ (Str.ofString "abcdefghijklmnopqrstuvwxyz").cps.toList) = true from decide_eq_true ((le_mem c).mpr (h.2.2 c hc))]
    exact hk
  · rw [map_rep, seqA_eq put_same]
    refine ⟨_, bls_rep _, ?_⟩
    rw [all_rep]
    exact ⟨A, Sub.new hp, A0, sb, q⟩
theorem c_relink {A0 : Ah} {ps : List Str} {cut : Nat} (sb : Rk.Sub A0 A) (h : PathOk ps) (hc : cut + 2 ≤ ps.length) (q : Q (.bl true) A0) : w_is_relink [.tup [P ps, .int cut]] A Q E := by
  rw [w_is_relink, wFun_dx]
  simp [b_is_relink, b_is_relink_1]
  refine isi_tup ?_
  simp
  refine eq_flat rfl rfl ?_
  rw [show eqL (.int 2) (.int 2) = true from rfl]
  simp [b_is_relink_2]
  refine isi_tup ?_
  have lo := h.lo
  simp
  rw [if_neg (by omega)]
  intro p hp
  refine lcL_map (i := 3) (fun _ => .bl true) ?_ (fun _ => trivial) ?_ ?_
  · have := h.hi; simp; show ps.length ≤ 16777216; omega
  · intro x hx acc K1 hk
    obtain ⟨z, hz, rfl⟩ := List.mem_map.mp hx
    simp [wipeA]
    exact c_host .refl (h.ok z hz) hk
  rw [map_rep, seqA_eq put_same]
  refine ⟨_, bls_rep _, ?_⟩
  rw [if_neg (by simp)]
  simp [b_is_relink_3]
  refine ⟨_, ?_, keys_strs ps, ?_⟩
  · have := h.hi; simp; omega
  rw [dd_strs h.nd]
  refine eq_flat rfl rfl ?_
  rw [show eqL (.int ps.length) (.int ps.length) = true by simp [eqL]]
  simp
  rw [w_is_integer, wFun_dx]
  simp [b_is_integer]
  refine isi_int ?_
  simp
  refine isi_intb ?_
  simp
  refine ⟨_, .refl, ?_⟩
  have e : (cut : Int) ≤ (ps.length : Int) - 2 := by omega
  simp [e]
  exact ⟨A0, sb.trans (.new hp), q⟩
theorem flat_all (ps : List Str) : ∀ x ∈ ps, flatL (Vl.str x) = true := fun _ _ => rfl
theorem c_require {A0 : Ah} {ps : List Str} {cut : Nat} (sb : Rk.Sub A0 A) (h : PathOk ps) (hc : cut + 2 ≤ ps.length) (q : Q .non A0) : w_require_relink [.tup [P ps, .int cut]] A Q E := by
  rw [w_require_relink, wFun_dx]
  simp [b_require_relink]
  refine c_relink sb h hc ?_
  simp
  exact ⟨A0, .refl, q⟩
theorem first_at {ps : List Str} (h : ps.Nodup) {i : Nat} (hi : i < ps.length) : ps[i]? = some ps[i] ∧ ∀ m, m < i → ps[m]? ≠ some ps[i] := by
  refine ⟨List.getElem?_eq_getElem hi, fun m hm e => ?_⟩
  have hm2 : m < ps.length := by omega
  rw [List.getElem?_eq_getElem hm2] at e
  have := (List.pairwise_iff_getElem.mp h) m i hm2 hi hm
  exact this (Option.some.inj e)
theorem c_position {A0 : Ah} {ps : List Str} {cut i : Nat} (sb : Rk.Sub A0 A) (h : PathOk ps) (hc : cut + 2 ≤ ps.length) (hi : i < ps.length) (q : Q (.int i) A0) : w_position [.tup [P ps, .int cut], .str ps[i]] A Q E := by
  rw [w_position, wFun_dx]
  simp [b_position]
  refine c_require sb h hc ?_
  simp [b_position_1, b_position_2]
  refine c_host .refl (h.ok _ (List.getElem_mem hi)) ?_
  simp [flat_map, inL_map]
  refine ⟨rfl, flat_all ps, ?_⟩
  simp [b_position_3]
  obtain ⟨f1, f2⟩ := first_at h.nd hi
  refine ⟨.tup, rfl, fTIndex, rfl, rfl, ps.map .str, ps[i], ps, i, rfl, rfl, strL_map ps, f1, f2, A0, .refl, q⟩
theorem c_near {A0 : Ah} {ps : List Str} {cut i : Nat} (sb : Rk.Sub A0 A) (h : PathOk ps) (hc : cut + 2 ≤ ps.length) (hi : i < ps.length) (q : Q (.bl (decide (i ≤ cut))) A0) : w_is_near [.tup [P ps, .int cut], .str ps[i]] A Q E := by
  rw [w_is_near, wFun_dx]
  simp [b_is_near]
  refine c_position sb h hc hi ?_
  refine ⟨_, rfl, ?_⟩
  simp
  exact ⟨A0, .refl, q⟩
theorem c_carried {A0 : Ah} {ps : List Str} {src : Vl} {bit : Int} (sb : Rk.Sub A0 A) (hs : flatL src = true) (q : Q (.int (carr ps src bit)) A0) : w_carried_bit [P ps, src, .int bit] A Q E := by
  rw [w_carried_bit, wFun_dx]
  simp [b_carried_bit, hs]
  refine ⟨flat_all ps, ?_⟩
  unfold carr at q
  split
  · rename_i h; rw [if_pos h] at q; exact ⟨A0, sb, q⟩
  · rename_i h; rw [if_neg h] at q; exact ⟨A0, sb, q⟩
theorem setEq_at {a g f l : Str} (ne : f ≠ l) : setEq (.inr a) (.inr g) (.inr f) (.inr l) = true ↔ ((a = f ∧ g = l) ∨ (a = l ∧ g = f)) := by
  have e1 : ∀ x y : Str, decide ((Sum.inr x : Key) = .inr y) = decide (x = y) := fun x y => by simp
  have d2 : ∀ x y : Str, x ≠ y → ddN [] [(.inr x : Key), .inr y] = [.inr x, .inr y] := fun x y h => by simp [ddN, memK, h]
  have d1 : ∀ x : Str, ddN [] [(.inr x : Key), .inr x] = [.inr x] := fun x => by simp [ddN, memK]
  unfold setEq
  rw [d2 f l ne]
  by_cases h : a = g
  · subst h
    rw [d1]
    simp
    constructor
    · intro e e2; exact ne (e.symm.trans e2)
    · intro e e2; exact ne (e2.symm.trans e)
  · rw [d2 a g h]
    simp [memK]
    constructor
    · rintro ⟨h1 | h1, h2 | h2⟩
      · exact (h (h1.symm.trans h2)).elim
      · exact .inl ⟨h1.symm, h2.symm⟩
      · exact .inr ⟨h1.symm, h2.symm⟩
      · exact (h (h1.symm.trans h2)).elim
    · rintro (⟨h1, h2⟩ | ⟨h1, h2⟩)
      · exact ⟨.inl h1.symm, .inr h2.symm⟩
      · exact ⟨.inr h1.symm, .inl h2.symm⟩
theorem ends_ne {ps : List Str} {f l : Str} (h : PathOk ps) (hf : ps.head? = some f) (hl : ps.getLast? = some l) : f ≠ l := by
  have lo := h.lo
  rw [List.head?_eq_getElem?, List.getElem?_eq_getElem (by omega)] at hf
  rw [List.getLast?_eq_getElem?, List.getElem?_eq_getElem (by omega)] at hl
  cases hf; cases hl
  exact (List.pairwise_iff_getElem.mp h.nd) 0 (ps.length - 1) (by omega) (by omega) (by omega)
theorem at_end {ps : List Str} {f l g : Str} {i : Nat} (h : PathOk ps) (hi : i < ps.length) (hf : ps.head? = some f) (hl : ps.getLast? = some l) : ((ps[i] = f ∧ g = l) ∨ (ps[i] = l ∧ g = f)) ↔ atEnd ps i g := by
  have lo := h.lo
  have hf2 := hf; have hl2 := hl
  rw [List.head?_eq_getElem?, List.getElem?_eq_getElem (by omega)] at hf2
  rw [List.getLast?_eq_getElem?, List.getElem?_eq_getElem (by omega)] at hl2
  have inj : ∀ j (hj : j < ps.length), ps[i] = ps[j] → i = j := fun j hj e => by
    rcases Nat.lt_trichotomy i j with c | c | c
    · exact ((List.pairwise_iff_getElem.mp h.nd) i j hi hj c e).elim
    · exact c
    · exact ((List.pairwise_iff_getElem.mp h.nd) j i hj hi c e.symm).elim
  unfold atEnd
  rw [hf, hl]
  cases hf2; cases hl2
  constructor
  · rintro (⟨e, rfl⟩ | ⟨e, rfl⟩)
    · exact .inl ⟨inj 0 (by omega) e, rfl⟩
    · exact .inr ⟨by have := inj (ps.length - 1) (by omega) e; omega, rfl⟩
  · rintro (⟨rfl, e⟩ | ⟨e, e2⟩)
    · exact .inl ⟨rfl, (Option.some.inj e).symm⟩
    · refine .inr ⟨?_, (Option.some.inj e2).symm⟩
      congr 1; omega
theorem fwd6 {A0 : Ah} {s0 s1 s2 s3 s4 s5 s6 s7 : Option Vl} {c : Int} {k : Bool} {C : Prop} (sb : Rk.Sub A0 A) (hk : k = true ↔ C) (q : ∀ v, (C → v = .int c) → (¬ C → v = .int 0) → Q v A0) :
    b_forward_bit_6 (Dx Q E) [s0, s1, s2, s3, s4, s5, s6, s7, some (.int c), some (.bl k)] A := by
  cases k with
  | true =>
    simp [b_forward_bit_6]
    exact ⟨A0, sb, q _ (fun _ => rfl) fun z => (z (hk.mp rfl)).elim⟩
  | false =>
    simp [b_forward_bit_6]
    exact ⟨A0, sb, q _ (fun z => nomatch (hk.mpr z)) fun _ => rfl⟩
theorem c_fwd {A0 : Ah} {ps : List Str} {cut i : Nat} {turned : Bool} {src : Vl} {g : Str} {bit : Int} (sb : Rk.Sub A0 A) (h : PathOk ps) (hc : cut + 2 ≤ ps.length) (hi : i < ps.length) (hs : flatL src = true) (hb : bit = 0 ∨ bit = 1) (q : Q (dueC ps cut i turned (carr ps src bit) g) A0) :
    w_forward_bit [.tup [P ps, .int cut], .str ps[i], .str (phs turned), src, .str g, .int bit] A Q E := by
  obtain ⟨l, hl1, hl2⟩ := last_at h.lo
  obtain ⟨f, hf1, hf2⟩ := head_at h.lo
  rw [w_forward_bit, wFun_dx]
  simp [b_forward_bit]
  refine c_position sb h hc hi ?_
  simp [b_forward_bit_1, b_forward_bit_2]
  refine ⟨_, rfl, ?_⟩
  refine eq_flat rfl rfl ?_
  cases turned with
  | false =>
    rw [show eqL (.str (phs false)) (.str (Str.ofString "turned")) = false by decide +kernel]
    simp
    exact ⟨A0, .refl, by simpa [dueC] using q⟩
  | true =>
    rw [show eqL (.str (phs true)) (.str (Str.ofString "turned")) = true by decide +kernel]
    simp [b_forward_bit_3]
    refine c_carried .refl hs ?_
    simp [b_forward_bit_4]
    refine ⟨.inr ps[i], rfl, .inr g, rfl, .inr f, by simp [Rk.rIx, hf1, keyOf?], .inr l, by simp [Rk.rIx, hl1, keyOf?], ?_⟩
    have se := (setEq_at (a := ps[i]) (g := g) (ends_ne h hf2 hl2)).trans (at_end h hi hf2 hl2)
    have c01 : carr ps src bit = 0 ∨ carr ps src bit = 1 := by unfold carr; split <;> simp [hb]
    generalize carr ps src bit = c at *
    by_cases he : atEnd ps i g
    · rw [if_pos (se.mpr he)]
      have hdue : dueC ps cut i true c g = if c = 1 then .int 0 else .non := by unfold dueC; rw [if_neg (by simp), if_pos he]
      rw [hdue] at q
      refine eq_flat rfl rfl ?_
      rcases c01 with rfl | rfl
      · rw [show eqL (.int 0) (.int 1) = false from rfl]; simp; exact ⟨A0, .refl, by simpa using q⟩
      · rw [show eqL (.int 1) (.int 1) = true from rfl]; simp; exact ⟨A0, .refl, by simpa using q⟩
    · rw [if_neg fun z => he (se.mp z)]
      have hdue : ∀ v, (ahead ps cut i g → v = .int c) → (¬ ahead ps cut i g → v = .int 0) → Q v A0 := fun v v1 v2 => by
        have : dueC ps cut i true c g = v := by
          unfold dueC; rw [if_neg (by simp), if_neg he]
          split
          · rename_i h; exact (v1 h).symm
          · rename_i h; exact (v2 h).symm
        rw [← this]; exact q
      simp [b_forward_bit_5]
      refine c_near .refl h hc hi ?_
      simp
      have at' : ∀ j (hj : j < ps.length), atI (ps.map Vl.str) (j : Int) = some (.str ps[j]) := fun j hj => by rw [Rk.atI_nat (by simpa using hj)]; simp
      split
      · rename_i h1
        split
        · rename_i h2
          have hj : i - 1 < ps.length := by omega
          rw [show ((i : Int) - 1) = ((i - 1 : Nat) : Int) by omega]
          refine ⟨_, at' _ hj, ?_⟩
          refine eq_flat rfl rfl ?_
          refine fwd6 .refl ?_ hdue
          unfold ahead
          rw [if_neg (by omega), List.getElem?_eq_getElem hj]
          simp only [eqL, Bool.false_bne, beq_iff_eq, Option.some.injEq]
          exact ⟨fun e => ⟨h2, e.symm⟩, fun e => e.2.symm⟩
        · rename_i h2
          refine fwd6 .refl ?_ hdue
          unfold ahead
          rw [if_neg (by omega)]
          simp [h2]
      · rename_i h1
        split
        · rename_i h2
          have hj : i + 1 < ps.length := by omega
          rw [show ((i : Int) + 1) = ((i + 1 : Nat) : Int) by omega]
          refine ⟨_, at' _ hj, ?_⟩
          refine eq_flat rfl rfl ?_
          refine fwd6 .refl ?_ hdue
          unfold ahead
          rw [if_pos (by omega), List.getElem?_eq_getElem hj]
          simp only [eqL, Bool.false_bne, beq_iff_eq, Option.some.injEq]
          exact ⟨fun e => e.symm, fun e => e.symm⟩
        · rename_i h2
          refine fwd6 .refl ?_ hdue
          unfold ahead
          rw [if_pos (by omega), List.getElem?_eq_none (by omega)]
          simp
end Lw

set_option Elab.async false
set_option linter.all false
set_option maxRecDepth 100000
set_option maxHeartbeats 400000
namespace Lw
open PySem PySem.Spec PyProof.Rows L2 Rk
variable {A : Ah} {Q : QE} {E : EX}
/-- what stood there stands there still, the draws apart -/
def Off (A : Ah) (g : Addr) (B : Ah) : Prop := (∀ a o, a ≠ g → A a = some o → B a = some o) ∧ isG B g
theorem Off.new {B : Ah} {g p : Addr} {o : Ob} (h : Off A g B) (hp : B p = none) : Off A g (put B p o) :=
  ⟨fun a u ha e => Sub.new hp a u (h.1 a u ha e), h.2.put hp⟩
theorem Off.drawn {B : Ah} {g : Addr} {x y : Int} (h : Off A g B) (hx : 0 ≤ x) (hy : 0 ≤ y) : Off A g (put B g (.lst [.int x, .int y])) :=
  ⟨fun a u ha e => by rw [put_ne ha]; exact h.1 a u ha e, x, y, hx, hy, put_same⟩
theorem Off.refl {g : Addr} (h : isG A g) : Off A g A := ⟨fun _ _ _ e => e, h⟩
theorem Off.trans {B C : Ah} {g : Addr} (h : Off A g B) (k : Off B g C) : Off A g C := ⟨fun a u ha e => k.1 a u ha (h.1 a u ha e), k.2⟩
theorem Off.fresh {B : Ah} {g p : Addr} (h : Off A g B) (hp : B p = none) : p ≠ g := by
  obtain ⟨x, y, _, _, e⟩ := h.2
  rintro rfl; rw [e] at hp; cases hp
theorem Off.none {B : Ah} {g p : Addr} (h : Off A g B) (hp : B p = none) : A p = none := by
  cases e : A p with
  | none => rfl
  | some o => have := h.1 p o (h.fresh hp) e; rw [hp] at this; cases this
theorem c_draw {g : Addr} {n : Int} {A0 : Ah} (h : Off A0 g A) (hn : 0 < n) (hn2 : n < 1073741824) (hq : ∀ r A', 0 ≤ r → r < n → Off A0 g A' → (∀ a, a ≠ g → A' a = A a) → Q (.int r) A') : w_law_draw [.ref g, .int n] A Q E := by
  obtain ⟨x, y, hx, hy, hA⟩ := h.2
  rw [w_law_draw, wFun_dx]
  have i0 : ∀ x y : Int, atI [Vl.int x, Vl.int y] 0 = some (.int x) := fun _ _ => rfl
  have i1 : ∀ x y : Int, atI [Vl.int x, Vl.int y] 1 = some (.int y) := fun _ _ => rfl
  have n0 : ixN 2 0 = some 0 := rfl
  have n1 : ixN 2 1 = some 1 := rfl
  have hp : ∀ o, put A g o g = some o := fun o => put_same
  simp [b_law_draw, b_law_draw_x1, b_law_draw_1, b_law_draw_2, lstA_eq hA, seqA_eq hA, seqA_eq (hp _), lstA_eq (hp _), i0, i1, n0, n1]
  split
  · exact ⟨⟨hn, hn2⟩, _, .refl, hq _ _ (Int.emod_nonneg _ (by omega)) (Int.emod_lt_of_pos _ hn) (h.drawn (Int.ediv_nonneg hx (by omega)) hy) fun a ha => put_ne ha⟩
  · refine ⟨cMul_r, cMul_l (by omega) (by omega), ⟨by decide, by decide⟩, hn, _, .refl, hq _ _ (Int.emod_nonneg _ (by omega)) (Int.emod_lt_of_pos _ hn) (h.drawn hx (by omega)) fun a ha => put_ne ha⟩
theorem pot1 {a : Addr} {k m : Int} {s0 : Option Vl} (hk : 0 ≤ k) (hk2 : k ≤ 100) (hm : 0 ≤ m) (hq : ∀ p x y, A p = none → 0 ≤ x → 0 ≤ y → Q (.ref p) (put A p (.lst [.int x, .int y]))) : b_law_pot_1 (Dx Q E) [s0, some (.int k), some (.int m)] A := by
  have kk : 0 ≤ 61 * k * k := Int.mul_nonneg (by omega) hk
  have kk2 : 61 * k * k ≤ 610000 := by
    have := Int.mul_le_mul (a := 61 * k) (b := k) (c := 6100) (d := 100) (by omega) hk2 hk (by omega)
    omega
  simp [b_law_pot_1]
  have hb : 0 ≤ m % 2147483563 + 61 * k * k + 17 := by omega
  have hp : 0 ≤ (m % 2147483563 + 61 * k * k + 17) ^ 3 % 2147483549 := Int.emod_nonneg _ (by omega)
  refine ⟨cPow18, cMul_l, cMul_l, ⟨by decide, by decide, by omega⟩, fun p hpn => ⟨_, .refl, hq _ _ _ hpn (by split <;> omega) (by omega)⟩⟩
theorem c_pot {a : Addr} {k : Int} {ns : List Int} (hA : A a = some (.rol (ns.map .int))) (hl : ns.length ≤ 63) (hk : 0 ≤ k) (hk2 : k ≤ 100) (hq : ∀ p x y, A p = none → 0 ≤ x → 0 ≤ y → Q (.ref p) (put A p (.lst [.int x, .int y]))) : w_law_pot [.ref a, .int k] A Q E := by
  rw [w_law_pot, wFun_dx]
  simp [b_law_pot, lenA_eqR hA, seqA_eqR hA]
  split
  · rename_i h
    obtain ⟨z, hz, _⟩ := atI_map (f := Vl.int) hk h
    refine ⟨_, hz, ?_⟩
    simp
    exact pot1 (a := a) hk hk2 (by split <;> omega) hq
  · exact pot1 (a := a) hk hk2 (by omega) hq
theorem c_pickS {g : Addr} {s : Str} {A0 : Ah} (h : Off A0 g A) (hs : 0 < s.length) (hs2 : s.length < 10000) (hq : ∀ c A', c ∈ s.cps.toList → Off A0 g A' → (∀ a, a ≠ g → A' a = A a) → Q (.str ⟨#[c]⟩) A') : w_law_pick [.ref g, .str s] A Q E := by
  rw [w_law_pick, wFun_dx]
  simp [b_law_pick]
  refine c_draw h (by omega) (by omega) fun r A' h0 h1 O k => ?_
  have h2 : r < s.cps.toList.length := by simpa [Str.length] using h1
  simp
  exact ⟨_, atI_lo h0 h2, _, .refl, hq _ _ (List.getElem_mem _) O k⟩
/-! names -/
theorem pick {xs : List Vl} {r : Int} (h : 0 ≤ r) (g : r < xs.length) : ∃ z, atI xs r = some z ∧ z ∈ xs := ⟨_, atI_lo h g, List.getElem_mem _⟩
theorem join_chars : ∀ cs : List Nat, Txt.join (Str.ofString "") (cs.map fun c => ⟨#[c]⟩) = ⟨cs.toArray⟩ := by
  intro cs
  rw [TL.join_eq]
  have : ∀ cs : List Nat, TL.joinL [] ((cs.map fun c => (⟨#[c]⟩ : Str)).map TL.tl) = cs := by
    intro cs
    induction cs with
    | nil => rfl
    | cons c cs ih =>
      cases cs with
      | nil => rfl
      | cons d cs => simp only [List.map_cons, TL.joinL] at ih ⊢; rw [ih]; rfl
  have h := TL.tl_join (Str.ofString "") (cs.map fun c => ⟨#[c]⟩)
  rw [show TL.tl (Str.ofString "") = [] by decide +kernel, this] at h
  have : ∀ s : Str, TL.tl s = cs → s = ⟨cs.toArray⟩ := by
    rintro ⟨a⟩ e
    have e : a.toList = cs := e
    rw [← e]
  exact this _ h
def sgn (c : Nat) : Str := ⟨#[c]⟩
def ofC (cs : List Nat) : Str := ⟨cs.toArray⟩
def letter (c : Nat) : Prop := 97 ≤ c ∧ c ≤ 122
theorem join_sum (cs : List Nat) : ((cs.map fun c => (⟨#[c]⟩ : Str)).map (·.length)).sum + (cs.map fun c => (⟨#[c]⟩ : Str)).length * (Str.ofString "").length ≤ cs.length := by
  rw [show (Str.ofString "").length = 0 by decide +kernel]
  induction cs with
  | nil => simp
  | cons c cs ih =>
    simp only [List.map_cons, List.sum_cons, List.length_cons] at ih ⊢
    have : (⟨#[c]⟩ : Str).length = 1 := rfl
    omega
theorem okS_chars {cs : List Nat} (h : cs.length ≤ 16777216) (g : ∀ c ∈ cs, letter c) : okS (ofC cs) :=
  ⟨by simpa [Str.length, ofC] using h, by simp [PyData.strOk, ofC]; intro c hc; have := g c hc; unfold letter at this; omega⟩
theorem strL_chars : ∀ cs : List Nat, strL (cs.map fun c => .str ⟨#[c]⟩) = some (cs.map fun c => (⟨#[c]⟩ : Str))
  | [] => rfl
  | c :: cs => by simp [strL, strL_chars cs]
theorem ofC_host {cs : List Nat} (h1 : 1 ≤ cs.length) (h2 : cs.length ≤ 8) (g : ∀ c ∈ cs, letter c) : hostOk (ofC cs) := ⟨by simpa [Str.length, ofC] using h1, by simpa [Str.length, ofC] using h2, fun c hc => g c (by simpa [ofC] using hc)⟩
theorem host_ofC {s : Str} (h : hostOk s) : ∃ cs, s = ofC cs ∧ 1 ≤ cs.length ∧ cs.length ≤ 8 ∧ ∀ c ∈ cs, letter c := by
  refine ⟨s.cps.toList, by cases s; simp [ofC], ?_, ?_, h.2.2⟩
  · have := h.1; simpa [Str.length] using this
  · have := h.2.1; simpa [Str.length] using this
theorem ofC_inj {a b : List Nat} (h : ofC a = ofC b) : a = b := by
  have := congrArg (fun s => s.cps.toList) h
  simpa [ofC] using this
/-- of 26 distinct texts one is not among few -/
theorem some_new {α : Type} [DecidableEq α] (ts fs : List α) (h : ts.Nodup) (hl : fs.length < ts.length) : ∃ t ∈ ts, t ∉ fs := by
  apply Classical.byContradiction
  intro hn
  have hs : ∀ t ∈ ts, t ∈ fs := fun t ht => Classical.byContradiction fun hf => hn ⟨t, ht, hf⟩
  have : ts.length ≤ fs.length := by
    clear hn hl
    induction ts generalizing fs with
    | nil => simp
    | cons t ts ih =>
      obtain ⟨h1, h2⟩ := List.nodup_cons.mp h
      have ht := hs t List.mem_cons_self
      have := ih (fs.erase t) h2 fun x hx => (List.mem_erase_of_ne (fun e : x = t => h1 (by rw [← e]; exact hx))).2 (hs x (List.mem_cons_of_mem _ hx))
      rw [List.length_erase_of_mem ht] at this
      have := List.length_pos_of_mem ht
      simp only [List.length_cons]; omega
  omega
def cod : Vl → Nat
  | .str s => s.cps.toList.headD 0
  | _ => 0
theorem cutS_ofC (cs : List Nat) (k : Nat) : cutS (ofC cs) none (some (k : Int)) = ofC (cs.take k) := by
  unfold cutS ofC
  have : (ofC cs).length = cs.length := by simp [ofC, Str.length]
  unfold ofC at this
  rw [HT.sIx_none, HT.sIx_nat, this]
  simp [List.take_eq_take_min]
theorem ofC_app (a : List Nat) (c : Nat) : ofC a ++ (⟨#[c]⟩ : Str) = ofC (a ++ [c]) := by
  show (⟨(ofC a).cps ++ #[c]⟩ : Str) = _
  simp [ofC]
def tries (cs : List Nat) : List (List Nat) := cs :: (List.range' 97 26).map fun c => cs.take 7 ++ [c]
theorem tries_ok {cs : List Nat} (h1 : 1 ≤ cs.length) (h2 : cs.length ≤ 8) (g : ∀ c ∈ cs, letter c) : ∀ t ∈ tries cs, 1 ≤ t.length ∧ t.length ≤ 8 ∧ ∀ c ∈ t, letter c := by
  intro t ht
  rcases List.mem_cons.mp ht with rfl | ht
  · exact ⟨h1, h2, g⟩
  · obtain ⟨c, hc, rfl⟩ := List.mem_map.mp ht
    rw [List.mem_range'_1] at hc
    refine ⟨by simp, by simp; omega, fun d hd => ?_⟩
    rcases List.mem_append.mp hd with hd | hd
    · exact g d (List.mem_of_mem_take hd)
    · simp at hd; subst hd; unfold letter; omega
theorem tries_new {cs : List Nat} (ps : List Str) (h : ps.length < 26) : ∃ t ∈ tries cs, ofC t ∉ ps := by
  have nd : ((List.range' 97 26).map fun c => ofC (cs.take 7 ++ [c])).Nodup := by
    refine List.Pairwise.map _ (fun a b hne e => hne ?_) List.nodup_range'
    have := ofC_inj e
    have := List.append_cancel_left this
    simpa using this
  obtain ⟨t, ht, hn⟩ := some_new _ ps nd (by simpa using h)
  obtain ⟨c, hc, rfl⟩ := List.mem_map.mp ht
  exact ⟨_, List.mem_cons_of_mem _ (List.mem_map.mpr ⟨c, hc, rfl⟩), hn⟩
theorem names_x1 {g p r : Addr} {A0 : Ah} {D : Es} {ps : List Str} {ts : List (List Nat)} {s1 s2 s4 s5 s6 s8 s9 s10 : Option Vl} (O : Off A0 g A) (gp : p ≠ g) (pr : p ≠ r) (rg : r ≠ g) (hp0 : A0 p = none) (e : A p = some (.lst (ps.map .str))) (er : A r = some (.lst (ts.map fun t => .str (ofC t))))
    (hn : ∃ t ∈ ts, ofC t ∉ ps) (few : ts.length ≤ 100) (pfew : ps.length ≤ 100)
    (hN : ∀ A' t z, t ∈ ts → ofC t ∉ ps → Off A0 g A' → A' p = some (.lst ((ps ++ [ofC t]).map .str)) → D.nx [some (.ref g), s1, s2, some (.ref p), s4, s5, s6, some (.ref r), s8, s9, z] A') :
    b_law_names_x1 D [some (.ref g), s1, s2, some (.ref p), s4, s5, s6, some (.ref r), s8, s9, s10] A := by
  simp [b_law_names_x1]
  refine ⟨.lst, by show kdR (A p) = _; rw [e]; rfl, fAppend, rfl, ?_⟩
  rw [itV_eq er]
  intro q hq
  have qg := O.fresh hq
  have qp : p ≠ q := ne_of_nn e hq
  have qr : r ≠ q := ne_of_nn er hq
  refine lcL_ind (fun i acc A' => ∃ us : List (List Nat), A' = put A q (.lst acc) ∧ acc = us.map (fun t => .str (ofC t)) ∧ us = (ts.take i).filter fun t => decide (ofC t ∉ ps)) ⟨[], rfl, rfl, by simp⟩ ?_ ?_ ?_
  · rintro i acc A' ⟨us, rfl, _, _⟩
    exact (put_ne qr).trans er
  · rintro i x acc A' K1 K2 hx ⟨us, rfl, rfl, hus⟩ g1 g2
    obtain ⟨hi, hx⟩ := List.getElem?_eq_some_iff.mp hx
    simp at hi hx
    subst hx
    have tk : ts.take (i + 1) = ts.take i ++ [ts[i]] := (List.take_append_getElem hi).symm
    have ul : us.length ≤ 100 := by
      rw [hus]
      refine Nat.le_trans (List.length_filter_le _ _) ?_
      simp; omega
    simp [wipeA]
    rw [seqA_eq ((put_ne qp).trans e)]
    refine ⟨rfl, List.all_eq_true.mp (flat_map ps), ?_⟩
    rw [inL_map]
    by_cases hin : ofC ts[i] ∈ ps
    · rw [show decide (ofC ts[i] ∈ ps) = true from decide_eq_true hin]
      try simp only [Bool.true_eq_false, if_false, Bool.bne_self_eq_false, Bool.false_eq_true, bne_self_eq_false]
      exact g2 _ ⟨us, rfl, rfl, by rw [tk, List.filter_append, ← hus]; simp [hin]⟩
    · rw [show decide (ofC ts[i] ∈ ps) = false from decide_eq_false hin]
      try simp only [if_true, Bool.true_bne, Bool.not_false]
      exact g1 _ _ put_same (by simp; show us.length < 16777216; omega) ⟨us ++ [ts[i]], put_put, by simp, by rw [tk, List.filter_append, ← hus]; simp [hin]⟩
  · rintro acc A' ⟨us, rfl, rfl, hus⟩
    simp only [List.length_map, List.take_length] at hus
    rw [seqA_eq put_same]
    cases us with
    | nil =>
      obtain ⟨t, ht, hn⟩ := hn
      have : t ∈ ts.filter fun t => decide (ofC t ∉ ps) := List.mem_filter.mpr ⟨ht, by simp [hn]⟩
      rw [← hus] at this; cases this
    | cons t us =>
      have ht : t ∈ ts.filter fun t => decide (ofC t ∉ ps) := by rw [← hus]; exact List.mem_cons_self
      obtain ⟨ht, hnt⟩ := List.mem_filter.mp ht
      refine ⟨.str (ofC t), by rw [show (0 : Int) = ((0 : Nat) : Int) from rfl, Rk.atI_nat (by simp)]; rfl, by show kdR (put A q _ p) = _; rw [put_ne qp, e]; rfl, p, .str (ofC t), rfl, rfl, ?_⟩
      rw [lstA_eq ((put_ne qp).trans e)]
      refine ⟨by simp; show ps.length < 16777216; omega, ?_⟩
      have O2 := O.new (o := .lst ((t :: us).map fun t => .str (ofC t))) hq
      refine hN _ t _ ht (by simpa using hnt) ⟨fun a o ha he => ?_, ?_⟩ (by rw [put_same]; simp)
      · have ap : a ≠ p := by rintro rfl; rw [he] at hp0; cases hp0
        rw [put_ne ap]; exact O2.1 a o ha he
      · obtain ⟨x, y, hx, hy, e3⟩ := O2.2
        exact ⟨x, y, hx, hy, by rw [put_ne gp.symm]; exact e3⟩
theorem names_x2 {g p : Addr} {A0 : Ah} {D : Es} {ps : List Str} {cs : List Nat} {s1 s4 s5 s7 s8 s9 s10 : Option Vl} (O : Off A0 g A) (gp : p ≠ g) (hp0 : A0 p = none) (e : A p = some (.lst (ps.map .str)))
    (h1 : 1 ≤ cs.length) (h2 : cs.length ≤ 8) (hl : ∀ c ∈ cs, letter c) (pfew : ps.length ≤ 20)
    (hN : ∀ A' t u v w, hostOk (ofC t) → ofC t ∉ ps → Off A0 g A' → A' p = some (.lst ((ps ++ [ofC t]).map .str)) → D.nx [some (.ref g), s1, some (.str "abcdefghijklmnopqrstuvwxyz"), some (.ref p), s4, s5, some (.str (ofC cs)), u, s8, v, w] A') :
    b_law_names_x2 D [some (.ref g), s1, some (.str "abcdefghijklmnopqrstuvwxyz"), some (.ref p), s4, s5, some (.str (ofC cs)), s7, s8, s9, s10] A := by
  simp [b_law_names_x2]
  intro q1 hq1 q2 hq2
  have O1 := O.new (o := .lst [.str (ofC cs)]) hq1
  have q1p : p ≠ q1 := ne_of_nn e hq1
  have e1 : put A q1 (.lst [.str (ofC cs)]) p = some (.lst (ps.map .str)) := (put_ne q1p).trans e
  have q2p : p ≠ q2 := ne_of_nn e1 hq2
  have q12 : q1 ≠ q2 := ne_of_nn put_same hq2
  have sg : Rk.signs (Str.ofString "abcdefghijklmnopqrstuvwxyz") = (List.range' 97 26).map fun c => Vl.str ⟨#[c]⟩ := by
    unfold Rk.signs
    rw [show (Str.ofString "abcdefghijklmnopqrstuvwxyz").cps.toList = List.range' 97 26 by decide +kernel]
  rw [sg]
  refine lcL_map (i := 9) (fun x => .str (ofC (cs.take 7 ++ [cod x]))) (by simp) (fun _ => trivial) ?_ ?_
  · intro x hx acc K1 hk
    obtain ⟨c, hc, rfl⟩ := List.mem_map.mp hx
    simp [wipeA]
    rw [show (7 : Int) = ((7 : Nat) : Int) from rfl, cutS_ofC, ofC_app]
    refine ⟨?_, hk⟩
    have : (ofC (cs.take 7)).length = (cs.take 7).length := by simp [ofC, Str.length]
    have l1 : (⟨#[c]⟩ : Str).length = 1 := rfl
    rw [this, l1]
    simp; omega
  rw [lstA_eq ((put_ne q12).trans put_same), lstA_eq put_same]
  refine ⟨by simp, fun r hr => ?_⟩
  have O2 := (O1.new (o := .lst (List.map (fun x => Vl.str (ofC (cs.take 7 ++ [cod x]))) ((List.range' 97 26).map fun c => Vl.str ⟨#[c]⟩))) hq2)
  have rg := O2.fresh hr
  have e2 : put (put A q1 (.lst [.str (ofC cs)])) q2 (.lst (List.map (fun x => Vl.str (ofC (cs.take 7 ++ [cod x]))) ((List.range' 97 26).map fun c => Vl.str ⟨#[c]⟩))) p = some (.lst (ps.map .str)) := (put_ne q2p).trans e1
  have rp : p ≠ r := ne_of_nn e2 hr
  have el : [Vl.str (ofC cs)] ++ List.map (fun x => Vl.str (ofC (cs.take 7 ++ [cod x]))) ((List.range' 97 26).map fun c => Vl.str ⟨#[c]⟩) = (tries cs).map fun t => Vl.str (ofC t) := by
    simp [tries, cod]
  rw [el]
  refine names_x1 (O2.new hr) gp rp rg hp0 ((put_ne rp).trans e2) put_same (tries_new ps (by omega)) (by simp [tries]) (by omega) fun A' t z ht hnt O3 e3 => ?_
  obtain ⟨t1, t2, t3⟩ := tries_ok h1 h2 hl t ht
  exact hN A' t _ _ z (ofC_host t1 t2 t3) hnt O3 e3
theorem dats_strs {n : Nat} {A : Ah} : ∀ ps : List Str, dats (dat (n + 1) A) (ps.map .str) = some (ps.map PyData.str)
  | [] => rfl
  | p :: ps => by rw [List.map_cons, dats, dats_strs ps]; rfl
theorem eq_nil {k : Bool} {p q : Addr} {ps : List Str} {Q : QE} (hp : A p = some (.lst (ps.map .str))) (hq : A q = some (.lst [])) (w : Q (.bl (k != decide (ps = []))) A) : fEq k (.ref p) (.ref q) A Q := by
  refine ⟨.list (ps.map PyData.str), .list [], ?_, ?_, ?_, rfl, ?_⟩
  · show datR (dats (dat 11 A)) (A p) = _
    rw [hp]; show (dats (dat 11 A) (ps.map .str)).map PyData.list = _
    rw [dats_strs]; rfl
  · show datR (dats (dat 11 A)) (A q) = _
    rw [hq]; rfl
  · have : ∀ ps : List Str, PyData.hasDictAll (ps.map PyData.str) = false := fun ps => by
      induction ps with
      | nil => rfl
      | cons p ps ih => simp [PyData.hasDictAll, PyData.hasDict, ih]
    simp [PyData.hasDict, this]
  · have : PyData.eqv (.list (ps.map PyData.str)) (.list []) = decide (ps = []) := by
      cases ps <;> simp [PyData.eqv, PyData.eqvAll]
    rw [this]; exact w
theorem ofC_app2 (a b : List Nat) : ofC a ++ ofC b = ofC (a ++ b) := by
  show (⟨(ofC a).cps ++ (ofC b).cps⟩ : Str) = _
  simp [ofC]
theorem last_of {ps : List Str} (h : ps ≠ []) : ∃ l ∈ ps, atI (ps.map Vl.str) (-1) = some (.str l) := by
  have hl : ps.length - 1 < ps.length := by have := List.length_pos_iff.mpr h; omega
  refine ⟨ps[ps.length - 1], List.getElem_mem hl, ?_⟩
  unfold atI ixN
  rw [if_neg (by decide), if_pos (by simp; omega)]
  simp only [Option.bind_some, List.length_map]
  rw [show ((-1 : Int) + (ps.length : Int)).toNat = ps.length - 1 by omega]
  simp [hl]
theorem names_x3 {g p : Addr} {A0 : Ah} {D : Es} {ps : List Str} {cs : List Nat} {s1 s4 s5 s7 s8 s9 s10 : Option Vl} (O : Off A0 g A) (gp : p ≠ g) (hp0 : A0 p = none) (e : A p = some (.lst (ps.map .str)))
    (h1 : 1 ≤ cs.length) (h2 : cs.length ≤ 8) (hl : ∀ c ∈ cs, letter c) (pfew : ps.length ≤ 20) (hok : ∀ z ∈ ps, hostOk z)
    (hN : ∀ A' t u v w x, hostOk (ofC t) → ofC t ∉ ps → Off A0 g A' → A' p = some (.lst ((ps ++ [ofC t]).map .str)) → D.nx [some (.ref g), s1, some (.str "abcdefghijklmnopqrstuvwxyz"), some (.ref p), s4, s5, x, u, s8, v, w] A') :
    b_law_names_x3 D [some (.ref g), s1, some (.str "abcdefghijklmnopqrstuvwxyz"), some (.ref p), s4, s5, some (.str (ofC cs)), s7, s8, s9, s10] A := by
  simp [b_law_names_x3]
  intro q hq
  have pq : p ≠ q := ne_of_nn e hq
  have e1 : put A q (.lst []) p = some (.lst (ps.map .str)) := (put_ne pq).trans e
  have O1 := O.new (o := .lst []) hq
  refine eq_nil e1 put_same ?_
  cases ps with
  | nil =>
    simp
    exact names_x2 O1 gp hp0 e1 h1 h2 hl pfew fun A' t u v w a b c d => hN A' t u v w _ a b c d
  | cons p0 ps =>
    simp
    refine c_draw O1 (by decide) (by decide) fun r A2 h0 h3 O2 k2 => ?_
    have e2 := (k2 p gp).trans e1
    refine eq_flat rfl rfl ?_
    cases hr : (false != eqL (.int r) (.int 0)) with
    | false =>
      simp [hr]
      exact names_x2 O2 gp hp0 e2 h1 h2 hl pfew fun A' t u v w a b c d => hN A' t u v w _ a b c d
    | true =>
      simp [hr]
      rw [seqA_eq e2]
      obtain ⟨l, hl1, hl2⟩ := last_of (ps := p0 :: ps) (by simp)
      obtain ⟨ds, rfl, d1, d2, d3⟩ := host_ofC (hok l hl1)
      refine ⟨_, hl2, ?_⟩
      simp
      refine ⟨?_, ?_⟩
      · have : ∀ cs, (ofC cs).length = cs.length := fun cs => by simp [ofC, Str.length]
        rw [this, this]; omega
      · rw [ofC_app2, show (8 : Int) = ((8 : Nat) : Int) from rfl, cutS_ofC]
        refine names_x2 O2 gp hp0 e2 (by simp; omega) (by simp; omega) (fun c hc => ?_) pfew fun A' t u v w a b c d => hN A' t u v w _ a b c d
        rcases List.mem_append.mp (List.mem_of_mem_take hc) with h | h
        · exact d3 c h
        · exact hl c h
theorem names_x4 {g p : Addr} {A0 : Ah} {D : Es} {ps : List Str} {m : Nat} {s1 s4 s6 s7 s8 s9 s10 : Option Vl} (O : Off A0 g A) (gp : p ≠ g) (hp0 : A0 p = none) (e : A p = some (.lst (ps.map .str)))
    (h1 : 1 ≤ m) (h2 : m ≤ 8) (pfew : ps.length ≤ 20) (hok : ∀ z ∈ ps, hostOk z)
    (hN : ∀ A' t u v w x, hostOk (ofC t) → ofC t ∉ ps → Off A0 g A' → A' p = some (.lst ((ps ++ [ofC t]).map .str)) → D.nx [some (.ref g), s1, some (.str "abcdefghijklmnopqrstuvwxyz"), some (.ref p), s4, some (.int m), x, u, s8, v, w] A') :
    b_law_names_x4 D [some (.ref g), s1, some (.str "abcdefghijklmnopqrstuvwxyz"), some (.ref p), s4, some (.int m), s6, s7, s8, s9, s10] A := by
  simp [b_law_names_x4]
  refine ⟨⟨by decide, by decide, by omega, by omega⟩, ?_⟩
  intro q hq
  have qg := O.fresh hq
  have pq : p ≠ q := ne_of_nn e hq
  have O1 := O.new (o := .lst []) hq
  have hq0 : A0 q = none := O.none hq
  refine lcL_ind (fun i acc A' => Off A0 g A' ∧ A' p = some (.lst (ps.map .str)) ∧ A' q = some (.lst acc) ∧ ∃ cs : List Nat, cs.length = i ∧ (∀ c ∈ cs, letter c) ∧ acc = cs.map fun c => .str ⟨#[c]⟩) ⟨O1, (put_ne pq).trans e, put_same, [], rfl, by simp, rfl⟩ (fun _ _ _ _ => trivial) ?_ ?_
  · rintro i x acc A' K1 K2 hx ⟨O2, e2, eq2, cs, hc, hlt, rfl⟩ g1 g2
    simp [wipeA]
    refine c_pickS O2 (by decide +kernel) (by decide +kernel) fun c A5 hcm O5 k5 => ?_
    have e5 := (k5 q qg).trans eq2
    have hi : i < m := by
      have := (List.getElem?_eq_some_iff.mp hx).1
      simpa [rngL] using this
    refine g1 _ _ e5 (by simp; show cs.length < 16777216; omega) ⟨⟨fun a o ha he => ?_, ?_⟩, (put_ne pq).trans ((k5 p gp).trans e2), put_same, cs ++ [c], by simp [hc], ?_, by simp⟩
    · have aq : a ≠ q := by rintro rfl; rw [he] at hq0; cases hq0
      rw [put_ne aq]; exact O5.1 a o ha he
    · obtain ⟨u, v, hu, hv, e⟩ := O5.2
      exact ⟨u, v, hu, hv, by rw [put_ne qg.symm]; exact e⟩
    · intro d hd
      rcases List.mem_append.mp hd with hd | hd
      · exact hlt d hd
      · simp at hd; subst hd; exact (le_mem d).mp hcm
  · rintro acc A' ⟨O2, e2, eq2, cs, hc, hlt, rfl⟩
    have hcm : cs.length = m := by rw [hc]; simp [rngL]
    refine ⟨_, rfl, .inl ⟨q, rfl, ?_⟩⟩
    rw [seqA_eq eq2]
    refine ⟨_, strL_chars cs, ⟨Nat.le_trans (join_sum cs) (by omega), ?_⟩, ?_⟩
    · rw [join_chars]; exact okS_chars (by omega) hlt
    · rw [join_chars]
      exact names_x3 (cs := cs) O2 gp hp0 e2 (by omega) (by omega) hlt pfew hok hN
theorem c_names {g : Addr} {n : Nat} (hg : isG A g) (hn : n ≤ 20) (q : ∀ (p : Addr) (ps : List Str) (A' : Ah), Off A g A' → A p = none → A' p = some (.lst (ps.map .str)) → ps.Nodup → ps.length = n → (∀ z ∈ ps, hostOk z) → Q (.ref p) A') : w_law_names [.ref g, .int n] A Q E := by
  rw [w_law_names, wFun_dx]
  simp [b_law_names, b_law_names_1, b_law_names_2]
  intro p hp
  have gp := (Off.refl hg).fresh hp
  refine ⟨⟨by decide, by decide, by omega, by omega⟩, ?_⟩
  refine forL_ind (fun i S' A' => Off A g A' ∧ ∃ ps : List Str, A' p = some (.lst (ps.map .str)) ∧ ps.length = i ∧ ps.Nodup ∧ (∀ z ∈ ps, hostOk z) ∧ ∃ u4 u5 u6 u7 u8 u9 u10, S' = [some (.ref g), some (.int n), some (.str "abcdefghijklmnopqrstuvwxyz"), some (.ref p), u4, u5, u6, u7, u8, u9, u10])
    ⟨(Off.refl hg).new hp, [], put_same, rfl, List.nodup_nil, by simp, _, _, _, _, _, _, _, rfl⟩ (fun _ _ _ _ => trivial) ?_ ?_
  · rintro i x S' A1 N hx ⟨O1, ps, e1, len, nd, ok, u4, u5, u6, u7, u8, u9, u10, rfl⟩ hN
    simp
    intro p1 hp1
    have g1 := O1.fresh hp1
    have pp1 : p ≠ p1 := ne_of_nn e1 hp1
    have hi : i < n := by
      have := (List.getElem?_eq_some_iff.mp hx).1
      simpa [rngL] using this
    refine c_draw (O1.new hp1) (by decide) (by decide) fun r A2 h0 h1 O2 k2 => ?_
    rw [e_ixL, seqA_eq ((k2 p1 g1).trans put_same)]
    obtain ⟨z, hz, hm⟩ := pick h0 (xs := [_, _, _, _]) h1
    refine ⟨z, hz, ?_⟩
    have hs : ∃ m : Nat, z = .int m ∧ 1 ≤ m ∧ m ≤ 8 := by
      simp only [List.mem_cons, List.not_mem_nil, or_false] at hm
      rcases hm with rfl | rfl | rfl | rfl
      · exact ⟨1, rfl, by omega, by omega⟩
      · exact ⟨1, rfl, by omega, by omega⟩
      · exact ⟨2, rfl, by omega, by omega⟩
      · exact ⟨8, rfl, by omega, by omega⟩
    obtain ⟨m, rfl, m1, m2⟩ := hs
    refine names_x4 O2 gp hp ((k2 p gp).trans ((put_ne pp1).trans e1)) m1 m2 (by omega) ok fun A' t u v w y t1 t2 O3 e3 => ?_
    refine hN _ _ ⟨O3, ps ++ [ofC t], e3, by simp [len], ?_, fun z hz => ?_, _, _, _, _, _, _, _, rfl⟩
    · rw [List.nodup_append]
      exact ⟨nd, by simp, fun a ha b hb => by simp at hb; subst hb; rintro rfl; exact t2 ha⟩
    · rcases List.mem_append.mp hz with hz | hz
      · exact ok z hz
      · simp at hz; subst hz; exact t1
  · rintro S' A' ⟨O1, ps, e1, len, nd, ok, u4, u5, u6, u7, u8, u9, u10, rfl⟩
    simp [b_law_names_3]
    exact ⟨_, .refl, q p ps A' O1 hp e1 nd (by simpa [rngL] using len) ok⟩
end Lw

set_option Elab.async false
set_option linter.all false
set_option maxRecDepth 100000
set_option maxHeartbeats 400000
namespace Lw
open PySem PySem.Spec PyProof.Rows L2 Rk
variable {A : Ah} {Q : QE} {E : EX}
theorem cut_mem {α : Type} {xs : List α} {lo hi : Option Int} {x : α} (h : x ∈ cutL xs lo hi) : x ∈ xs := List.mem_of_mem_drop (List.mem_of_mem_take h)
theorem cut_len {α : Type} (xs : List α) (lo hi : Option Int) : (cutL xs lo hi).length ≤ xs.length := by unfold cutL; simp; omega
theorem c_links {ps bs : List Str} {i : Nat} {b : Addr} (h : PathOk ps) (hi : i < ps.length) (hb : A b = some (.lst (bs.map .str))) (hbo : ∀ z ∈ bs, hostOk z) (hbl : bs.length ≤ 100)
    (q : ∀ (p : Addr) (ls : List Str) (A' : Ah), Rk.Sub A A' → A' p = some (.lst (ls.map .str)) → (∀ z ∈ ls, hostOk z) → ls.length ≤ 1000 → Q (.ref p) A') : w_law_links [P ps, .int i, .ref b] A Q E := by
  rw [w_law_links, wFun_dx]
  simp [b_law_links, cutL_map]
  intro p1 hp1 p2 hp2
  have m1 : ∀ z ∈ cutL ps (some (if 1 < (i : Int) then (i : Int) - 1 else 0)) (some (i : Int)), z ∈ ps := fun z hz => cut_mem hz
  have m2 : ∀ z ∈ cutL ps (some ((i : Int) + 1)) (some ((i : Int) + 2)), z ∈ ps := fun z hz => cut_mem hz
  have l1 := cut_len ps (some (if 1 < (i : Int) then (i : Int) - 1 else 0)) (some (i : Int))
  have l2 := cut_len ps (some ((i : Int) + 1)) (some ((i : Int) + 2))
  have ph := h.hi
  generalize cutL ps (some (if 1 < (i : Int) then (i : Int) - 1 else 0)) (some (i : Int)) = xs at *
  generalize cutL ps (some ((i : Int) + 1)) (some ((i : Int) + 2)) = ys at *
  have s1 := Sub.new (o := .lst (xs.map .str)) hp1
  have s2 := Sub.new (o := .lst (ys.map .str)) hp2
  rw [lstA_eq (s2 _ _ put_same), lstA_eq put_same]
  refine ⟨by simp; omega, fun r hr => ?_⟩
  have s3 := Sub.new (o := .lst (xs.map .str ++ ys.map .str)) hr
  rw [lstA_eq put_same, lstA_eq (((s1.trans s2).trans s3) _ _ hb)]
  refine ⟨by simp; omega, fun r2 hr2 => ?_⟩
  have s4 := Sub.new (o := .lst (xs.map .str ++ ys.map .str ++ bs.map .str)) hr2
  have e5 := put_same (A := put (put (put A p1 (.lst (xs.map .str))) p2 (.lst (ys.map .str))) r (.lst (xs.map .str ++ ys.map .str))) (a := r2) (o := .lst (xs.map .str ++ ys.map .str ++ bs.map .str))
  have s5 := ((s1.trans s2).trans s3).trans s4
  generalize put (put (put (put A p1 _) p2 _) r _) r2 _ = B at *
  have e5 : B r2 = some (.lst ((xs ++ ys ++ bs).map .str)) := by rw [e5]; simp
  have ok : ∀ z ∈ xs ++ ys ++ bs, hostOk z := fun z hz => by
    rcases List.mem_append.mp hz with hz | hz
    · rcases List.mem_append.mp hz with hz | hz
      · exact h.ok z (m1 z hz)
      · exact h.ok z (m2 z hz)
    · exact hbo z hz
  have ll : (xs ++ ys ++ bs).length ≤ 900 := by simp; omega
  generalize xs ++ ys ++ bs = ls at *
  obtain ⟨l, hl1, hl2⟩ := last_at h.lo
  obtain ⟨f, hf1, hf2⟩ := head_at h.lo
  have hrr : A r2 = none := by
    cases e : A r2 with
    | none => rfl
    | some o => have := ((s1.trans s2).trans s3) _ _ e; rw [this] at hr2; cases hr2
  have fin : ∀ z, hostOk z → b_law_links_2 (Dx Q E) [some (P ps), some (.int i), some (.ref b), some (.ref r2)] (put B r2 (.lst (ls.map .str ++ [.str z]))) := fun z hz => by
    simp [b_law_links_2]
    refine ⟨_, .refl, q r2 (ls ++ [z]) _ (fun a o e => ?_) (by rw [put_same]; simp) (fun y hy => ?_) (by simp; omega)⟩
    · have : a ≠ r2 := by rintro rfl; rw [e] at hrr; cases hrr
      rw [put_ne this]; exact s5 a o e
    · rcases List.mem_append.mp hy with hy | hy
      · exact ok y hy
      · simp at hy; subst hy; exact hz
  simp [b_law_links_1]
  refine ⟨rfl, ⟨rfl, rfl⟩, ?_⟩
  split
  · have kd : kdM B (.ref r2) = some .lst := by show kdR (B r2) = _; rw [e5]; rfl
    refine ⟨.lst, kd, fAppend, rfl, ?_⟩
    refine eq_flat rfl rfl ?_
    have app : ∀ z, hostOk z → kdM B (.ref r2) = some .lst ∧ fAppend (.ref r2) [.str z] B fun x A1 => b_law_links_2 (Dx Q E) [some (P ps), some (.int i), some (.ref b), some (.ref r2)] A1 := fun z hz => by
      refine ⟨kd, r2, .str z, rfl, rfl, ?_⟩
      rw [lstA_eq e5]
      exact ⟨by simp; show ls.length < 16777216; omega, fin z hz⟩
    have hlast : hostOk l := h.ok l (List.mem_of_getLast? hl2)
    have hfirst : hostOk f := h.ok f (List.mem_of_head? hf2)
    cases hz : (false != eqL (.int i) (.int 0)) with
    | true =>
      simp only [hz, if_true]
      exact ⟨_, hl1, app l hlast⟩
    | false =>
      simp only [hz, Bool.false_eq_true, if_false]
      exact ⟨_, hf1, app f hfirst⟩
  · simp [b_law_links_2]
    exact ⟨_, .refl, q r2 ls _ s5 e5 ok (by omega)⟩
def dueish (d : Vl) : Prop := d = .int 0 ∨ d = .int 1 ∨ d = .non
theorem dueC_ish {ps : List Str} {cut i : Nat} {turned : Bool} {c : Int} {g : Str} (hc : c = 0 ∨ c = 1) : dueish (dueC ps cut i turned c g) := by
  unfold dueC dueish
  split
  · exact .inl rfl
  · split
    · split
      · exact .inl rfl
      · exact .inr (.inr rfl)
    · split
      · rcases hc with rfl | rfl
        · exact .inl rfl
        · exact .inr (.inl rfl)
      · exact .inl rfl
def datOf : Vl → PyData
  | .int i => .int i
  | _ => .none
theorem c_rep2 {p : Addr} {d : Vl} (hd : dueish d) (h : A p = some (.lst [d, d])) (q : Q (.str (PyData.shown (.list [datOf d, datOf d]))) A) : fRepr [.ref p] A Q := by
  refine ⟨_, .list [datOf d, datOf d], rfl, ?_, ?_, ?_, ?_, q⟩
  · show datR (dats (dat 11 A)) (A p) = _
    rw [h]
    rcases hd with rfl | rfl | rfl <;> rfl
  · rcases hd with rfl | rfl | rfl <;> exact .inl rfl
  · rcases hd with rfl | rfl | rfl <;> decide +kernel
  · rcases hd with rfl | rfl | rfl <;> exact ⟨by decide +kernel, by decide +kernel⟩
theorem hr_x2 {D : Es} {ps : List Str} {cut i : Nat} {turned : Bool} {src : Vl} {z : Str} {bit : Int} {d : Vl} {u2 u4 u5 u11 u12 u13 : Option Vl} (h : PathOk ps) (hc : cut + 2 ≤ ps.length) (hi : i < ps.length) (hs : flatL src = true) (hb : bit = 0 ∨ bit = 1)
    (hd : d = dueC ps cut i turned (carr ps src bit) z) (hN : ∀ A' v w, Rk.Sub A A' → D.nx [some (.tup [P ps, .int cut]), some (.int i), u2, some (P ps), u4, u5, some (.str (phs turned)), some src, some (.str z), some (.int bit), some d, v, u12, w] A') :
    b_law_host_right_x2 D [some (.tup [P ps, .int cut]), some (.int i), u2, some (P ps), u4, u5, some (.str (phs turned)), some src, some (.str z), some (.int bit), some d, u11, u12, u13] A := by
  have ish : dueish d := by
    rw [hd]
    refine dueC_ish ?_
    unfold carr; split <;> simp [hb]
  have at' : atI (ps.map Vl.str) (i : Int) = some (.str ps[i]) := by rw [Rk.atI_nat (by simpa using hi)]; simp
  simp [b_law_host_right_x2]
  refine ⟨⟨by decide, by decide, by decide, by decide⟩, ?_⟩
  intro q hq
  refine lcL_ind (fun j acc A' => Rk.Sub A A' ∧ A' q = some (.lst acc) ∧ acc = List.replicate j d) ⟨.new hq, put_same, rfl⟩ (fun _ _ _ _ => trivial) ?_ ?_
  · rintro j x acc A' K1 K2 hx ⟨s1, e1, rfl⟩ g1 _
    have hj := (List.getElem?_eq_some_iff.mp hx).1
    simp [rngL] at hj
    simp [wipeA, at']
    refine c_fwd .refl h hc hi hs hb ?_
    rw [← hd]
    refine g1 _ _ e1 (by simp; show j < 16777216; omega) ⟨fun a o e => ?_, put_same, by rw [List.replicate_succ']⟩
    rw [put_ne (ne_of_nn e hq)]; exact s1 a o e
  · rintro acc A' ⟨s1, e1, rfl⟩
    have e1 : A' q = some (.lst [d, d]) := e1
    simp [b_law_host_right_x1]
    refine c_rep2 ish e1 ?_
    intro q2 hq2
    refine c_rep2 ish put_same ?_
    refine eq_flat rfl rfl ?_
    rw [fresh_eq, beq_self_eq_true]
    simp
    exact hN _ _ _ (s1.trans (.new hq2))
theorem c_hostright {ps bs : List Str} {cut i : Nat} {b : Addr} (h : PathOk ps) (hc : cut + 2 ≤ ps.length) (hi : i < ps.length) (hb : A b = some (.lst (bs.map .str))) (hbo : ∀ z ∈ bs, hostOk z) (hbl : bs.length ≤ 100)
    (q : ∀ A', Rk.Sub A A' → Q (.bl true) A') : w_law_host_right [.tup [P ps, .int cut], .int i, .ref b] A Q E := by
  rw [w_law_host_right, wFun_dx]
  simp [b_law_host_right, b_law_host_right_1]
  refine c_links h hi hb hbo hbl fun p ls A1 s1 e1 ok few => ?_
  simp [b_law_host_right_2]
  refine forL_ind (fun k S' A' => Rk.Sub A1 A' ∧ ∃ v6 v7 v8 v9 v10 v11 v12 v13, S' = [some (.tup [P ps, .int cut]), some (.int i), some (.ref b), some (P ps), some (.int cut), some (.ref p), v6, v7, v8, v9, v10, v11, v12, v13]) ⟨.refl, _, _, _, _, _, _, _, _, rfl⟩ (fun _ _ _ _ => trivial) ?_ ?_
  · rintro k x S' A2 N hx ⟨s2, v6, v7, v8, v9, v10, v11, v12, v13, rfl⟩ hN
    have ht : ∃ t : Bool, x = .str (phs t) := by
      have := List.mem_of_getElem? hx
      simp only [List.mem_cons, List.not_mem_nil, or_false] at this
      rcases this with rfl | rfl
      · exact ⟨false, rfl⟩
      · exact ⟨true, rfl⟩
    obtain ⟨t, rfl⟩ := ht
    simp
    intro p1 hp1
    have e2 := s2 _ _ e1
    have pp1 : p ≠ p1 := ne_of_nn e2 hp1
    rw [lstA_eq put_same, lstA_eq ((put_ne pp1).trans e2)]
    refine ⟨by simp; omega, fun r hr => ?_⟩
    rw [itV_eq put_same]
    have s3 := (s2.trans (Sub.new (o := .lst [.non]) hp1)).trans (Sub.new (o := .lst ([.non] ++ ls.map .str)) hr)
    have er := put_same (A := put A2 p1 (.lst [.non])) (a := r) (o := .lst ([.non] ++ ls.map .str))
    generalize put (put A2 p1 (.lst [.non])) r (.lst ([.non] ++ ls.map .str)) = B at *
    refine forL_ind (fun k S' A' => Rk.Sub B A' ∧ ∃ v7 v8 v9 v10 v11 v12 v13, S' = [some (.tup [P ps, .int cut]), some (.int i), some (.ref b), some (P ps), some (.int cut), some (.ref p), some (.str (phs t)), v7, v8, v9, v10, v11, v12, v13]) ⟨.refl, _, _, _, _, _, _, _, rfl⟩ (fun _ _ _ w => w.1 _ _ er) ?_ ?_
    · rintro k2 x S' A3 N2 hx2 ⟨s4, w7, w8, w9, w10, w11, w12, w13, rfl⟩ hN2
      have hs : flatL x = true := by
        have := List.mem_of_getElem? hx2
        rcases List.mem_append.mp this with h | h
        · simp at h; subst h; rfl
        · obtain ⟨z, _, rfl⟩ := List.mem_map.mp h; rfl
      have e3 := (s3.trans s4) _ _ e1
      simp
      rw [itV_eq e3]
      intro q2 hq2
      have pq2 : p ≠ q2 := ne_of_nn e3 hq2
      refine lcL_ind (fun j acc A' => A' = put A3 q2 (.lst acc) ∧ ∃ zs : List Str, acc = zs.map .str ∧ (∀ z ∈ zs, hostOk z) ∧ zs.length ≤ j) ⟨rfl, [], rfl, by simp, by simp⟩ ?_ ?_ ?_
      · rintro j acc A' ⟨rfl, _⟩; exact (put_ne pq2).trans e3
      · rintro j y acc A' K1 K2 hy ⟨rfl, zs, rfl, zok, zl⟩ g1 g2
        obtain ⟨hj, hy⟩ := List.getElem?_eq_some_iff.mp hy
        simp at hj hy
        subst hy
        simp [wipeA]
        refine eq_flat rfl hs ?_
        cases hb2 : (true != eqL (.str ls[j]) x) with
        | true =>
          simp only [if_true]
          refine g1 _ _ put_same (by simp; show zs.length < 16777216; omega) ⟨put_put, zs ++ [ls[j]], by simp, fun z hz => ?_, by simp; omega⟩
          rcases List.mem_append.mp hz with hz | hz
          · exact zok z hz
          · simp at hz; subst hz; exact ok _ (List.getElem_mem hj)
        | false =>
          simp only [Bool.false_eq_true, if_false]
          exact g2 _ ⟨rfl, zs, rfl, zok, by omega⟩
      · rintro acc A' ⟨rfl, zs, rfl, zok, zl⟩
        rw [itV_eq put_same]
        have s5 := s4.trans (Sub.new (o := .lst (zs.map .str)) hq2)
        have eq2 := put_same (A := A3) (a := q2) (o := .lst (zs.map .str))
        generalize put A3 q2 (.lst (zs.map .str)) = B2 at *
        refine forL_ind (fun k S' A' => Rk.Sub B2 A' ∧ ∃ v8 v9 v10 v11 v12 v13, S' = [some (.tup [P ps, .int cut]), some (.int i), some (.ref b), some (P ps), some (.int cut), some (.ref p), some (.str (phs t)), some x, v8, v9, v10, v11, v12, v13]) ⟨.refl, _, _, _, _, _, _, rfl⟩ (fun _ _ _ w => w.1 _ _ eq2) ?_ ?_
        · rintro k3 y S' A4 N3 hx3 ⟨s6, w8, w9, w10, w11, w12, w13, rfl⟩ hN3
          have hy : ∃ z, y = .str z ∧ hostOk z := by
            obtain ⟨z, hz, rfl⟩ := List.mem_map.mp (List.mem_of_getElem? hx3)
            exact ⟨z, rfl, zok z hz⟩
          obtain ⟨z, rfl, hz⟩ := hy
          simp
          refine forL_ind (fun k S' A' => Rk.Sub A4 A' ∧ ∃ v9 v10 v11 v12 v13, S' = [some (.tup [P ps, .int cut]), some (.int i), some (.ref b), some (P ps), some (.int cut), some (.ref p), some (.str (phs t)), some x, some (.str z), v9, v10, v11, v12, v13]) ⟨.refl, _, _, _, _, _, rfl⟩ (fun _ _ _ _ => trivial) ?_ ?_
          · rintro k4 y S' A5 N4 hx4 ⟨s7, y9, y10, y11, y12, y13, rfl⟩ hN4
            have hy : ∃ bit : Int, y = .int bit ∧ (bit = 0 ∨ bit = 1) := by
              have := cut_mem (List.mem_of_getElem? hx4)
              simp only [List.mem_cons, List.not_mem_nil, or_false] at this
              rcases this with rfl | rfl
              · exact ⟨0, rfl, .inl rfl⟩
              · exact ⟨1, rfl, .inr rfl⟩
            obtain ⟨bit, rfl, hbit⟩ := hy
            simp
            refine c_due (by have := h.lo; omega) hi hs hbit (by rintro rfl; have := hz.1; exact absurd this (by decide +kernel)) ?_
            refine hr_x2 h hc hi hs hbit rfl fun A' v w s8 => ?_
            exact hN4 _ _ ⟨s7.trans s8, _, _, _, _, _, rfl⟩
          · rintro S' A5 ⟨s7, y9, y10, y11, y12, y13, rfl⟩
            exact hN3 _ _ ⟨s6.trans s7, _, _, _, _, _, _, rfl⟩
        · rintro S' A4 ⟨s6, w8, w9, w10, w11, w12, w13, rfl⟩
          exact hN2 _ _ ⟨s5.trans s6, _, _, _, _, _, _, _, rfl⟩
    · rintro S' A3 ⟨s4, w7, w8, w9, w10, w11, w12, w13, rfl⟩
      exact hN _ _ ⟨s3.trans s4, _, _, _, _, _, _, _, _, rfl⟩
  · rintro S' A2 ⟨s2, v6, v7, v8, v9, v10, v11, v12, v13, rfl⟩
    simp [b_law_host_right_3]
    exact ⟨_, .refl, q _ (s1.trans s2)⟩
end Lw

set_option Elab.async false
set_option linter.all false
set_option maxRecDepth 100000
set_option maxHeartbeats 400000
namespace Lw
open PySem PySem.Spec PyProof.Rows L2 Rk
variable {A : Ah} {Q : QE} {E : EX}
theorem cut_from {α : Type} (xs : List α) : cutL xs (some 2) none = xs.drop 2 := by
  unfold cutL
  rw [show (2 : Int) = ((2 : Nat) : Int) from rfl, HT.sIx_nat, HT.sIx_none]
  by_cases h : 2 ≤ xs.length
  · rw [Nat.min_eq_left h, List.take_of_length_le (by simp)]
  · rw [Nat.min_eq_right (by omega)]
    rw [List.drop_eq_nil_iff.mpr (Nat.le_refl _), List.drop_eq_nil_iff.mpr (by omega)]; simp
theorem c_right {g : Addr} (hg : isG A g) (q : ∀ A', Off A g A' → Q (.bl true) A') : w_law_right [.ref g] A Q E := by
  rw [w_law_right, wFun_dx]
  simp [b_law_right]
  refine c_draw (.refl hg) (by decide) (by decide) fun r A1 h0 h1 O1 _ => ?_
  simp
  obtain ⟨n, rfl⟩ : ∃ n : Nat, r = n := ⟨r.toNat, by omega⟩
  rw [show (5 : Int) + (n : Int) = ((5 + n : Nat) : Int) by omega]
  refine c_names O1.2 (by omega) fun p ps A2 O2 hp e2 nd len ok => ?_
  simp [b_law_right_1, seqA_eq e2]
  intro p1 hp1
  have pp1 : p ≠ p1 := ne_of_nn e2 hp1
  rw [seqA_eq put_same, seqA_eq ((put_ne pp1).trans e2)]
  intro b hb
  rw [cutL_map, cut_from, cutL_map]
  have O3 := (O2.new (o := .lst (cutL (ps.map .str) (some 2) none)) hp1).new (o := .lst ((cutL ps none (some 2)).map .str)) hb
  rw [cutL_map, cut_from] at O3
  have eb := put_same (A := put A2 p1 (.lst ((ps.drop 2).map .str))) (a := b) (o := .lst ((cutL ps none (some 2)).map .str))
  have gb : b ≠ g := by
    rw [cutL_map, cut_from] at hb
    exact (O2.new (o := .lst ((ps.drop 2).map .str)) (g := g) hp1).fresh hb
  generalize put (put A2 p1 (.lst ((ps.drop 2).map .str))) b (.lst ((cutL ps none (some 2)).map .str)) = B at *
  have bl := cut_len ps none (some 2)
  have bo : ∀ z ∈ cutL ps none (some 2), hostOk z := fun z hz => ok z (cut_mem hz)
  generalize cutL ps none (some 2) = bs at *
  have ph : PathOk (ps.drop 2) := ⟨nd.sublist (List.drop_sublist 2 ps), by simp; omega, by simp; omega, fun z hz => ok z (List.mem_of_mem_drop hz)⟩
  have pl : (ps.drop 2).length = 3 + n := by simp; omega
  generalize ps.drop 2 = path at *
  simp [b_law_right_2]
  refine c_draw O3 (by omega) (by omega) fun c A3 h2 h3 O4 k4 => ?_
  obtain ⟨cut, rfl⟩ : ∃ m : Nat, c = m := ⟨c.toNat, by omega⟩
  have eb3 := (k4 b gb).trans eb
  simp [b_law_right_3]
  refine ⟨⟨by decide, by decide, by omega, by omega⟩, ?_⟩
  intro l hl
  have hl0 : A3 l = none := hl
  refine lcL_ind (fun j acc A' => Rk.Sub A3 A' ∧ A' l = some (.lst acc) ∧ acc = List.replicate j (.bl true)) ⟨.new hl, put_same, rfl⟩ (fun _ _ _ _ => trivial) ?_ ?_
  · rintro j x acc A' K1 K2 hx ⟨s1, e1, rfl⟩ g1 _
    have hj := (List.getElem?_eq_some_iff.mp hx).1
    have hx2 := (List.getElem?_eq_some_iff.mp hx).2
    simp [rngL] at hj hx2
    subst hx2
    simp [wipeA]
    refine c_hostright ph (by omega) hj (s1 _ _ eb3) bo (by omega) fun A4 s2 => ?_
    refine g1 _ _ (s2 _ _ e1) (by simp; show j < 16777216; omega) ⟨fun a o e => ?_, put_same, by rw [List.replicate_succ']⟩
    rw [put_ne (ne_of_nn e hl)]; exact s2 _ _ (s1 a o e)
  · rintro acc A' ⟨s1, e1, rfl⟩
    rw [seqA_eq e1]
    refine ⟨_, bls_rep _, ?_⟩
    rw [all_rep]
    refine ⟨A3, s1, q _ ?_⟩
    exact O1.trans O4
theorem rngL_get {n i : Nat} {x : Vl} (h : (rngL 0 n)[i]? = some x) : x = .int i ∧ i < n := by
  have hi := (List.getElem?_eq_some_iff.mp h).1
  have e := (List.getElem?_eq_some_iff.mp h).2
  simp [rngL] at e hi
  exact ⟨e.symm, hi⟩
theorem law_true (a : Addr) (ns : List Int) (A : Ah) (Q : QE) (E : EX) (hl : ns.length ≤ 63) (h : A a = some (.rol (ns.map .int))) (hq : ∀ A', Q (.bl true) A') : w_law [.ref a] A Q E := by
  rw [w_law, wFun_dx]
  simp [b_law, lenA_eqR h]
  refine ⟨⟨by decide, by decide, by (repeat' split) <;> omega, by (repeat' split) <;> omega⟩, ?_⟩
  intro l hl0
  refine lcL_ind (fun j acc A' => Rk.Sub A A' ∧ A' l = some (.lst acc) ∧ acc = List.replicate j (.bl true)) ⟨.new hl0, put_same, rfl⟩ (fun _ _ _ _ => trivial) ?_ ?_
  · rintro j x acc A' K1 K2 hx ⟨s1, e1, rfl⟩ g1 _
    obtain ⟨rfl, hj⟩ := rngL_get hx
    have hj : j < 64 := by
      have : (if 2 < if (ns.length : Int) < 6 then (ns.length : Int) else 6 then if (ns.length : Int) < 6 then (ns.length : Int) else 6 else 2).toNat ≤ 6 := by (repeat' split) <;> omega
      omega
    simp [wipeA]
    refine c_pot (s1 _ _ h) hl (by omega) (by omega) fun p x y hp hx hy => ?_
    refine c_right (.new hx hy) fun A2 O => ?_
    have s2 : Rk.Sub A' A2 := fun b o e => O.1 b o (ne_of_nn e hp) (by rw [put_ne (ne_of_nn e hp)]; exact e)
    refine g1 _ _ (s2 _ _ e1) (by simp; show j < 16777216; omega) ⟨fun a o e => ?_, put_same, by rw [List.replicate_succ']⟩
    rw [put_ne (ne_of_nn e hl0)]; exact s2 _ _ (s1 a o e)
  · rintro acc A' ⟨s1, e1, rfl⟩
    rw [seqA_eq e1]
    refine ⟨_, bls_rep _, ?_⟩
    rw [all_rep]
    exact ⟨_, .refl, hq _⟩
end Lw

set_option Elab.async false
set_option linter.all false
set_option maxRecDepth 100000
set_option maxHeartbeats 1000000
namespace Lw
open PySem PySem.Spec PyProof.Rows L2 Rk
theorem all_mk {P : Program} {w : World} {K : PySem.W.Frag} {h : Heap} {mg : Str → Option Value} {fa : Addr} (X : K.In h) (G : h.Ns mainGlobals mg) (hfa : mg "law" = some (.ref fa))
    {f0 f1 f2 f3 f4 f5 f6 f7 f8 f9 f10 f11 f12 f13 f14 f15 f16 f17 : Addr} {od0 an0 od1 an1 od2 an2 od3 an3 od4 an4 od5 an5 od6 an6 od7 an7 od8 an8 od9 an9 od10 an10 od11 an11 od12 an12 od13 an13 od14 an14 od15 an15 od16 an16 od17 an17 : Option Addr} {sl0 sl1 sl2 sl3 sl4 sl5 sl6 sl7 sl8 sl9 sl10 sl11 sl12 sl13 sl14 sl15 sl16 sl17 : Array (Option Value)} {oc0 kV0 dc0 pm0 cd0 ct0 oc1 kV1 dc1 pm1 cd1 ct1 oc2 kV2 dc2 pm2 cd2 ct2 oc3 kV3 dc3 pm3 cd3 ct3 oc4 kV4 dc4 pm4 cd4 ct4 oc5 kV5 dc5 pm5 cd5 ct5 oc6 kV6 dc6 pm6 cd6 ct6 oc7 kV7 dc7 pm7 cd7 ct7 oc8 kV8 dc8 pm8 cd8 ct8 oc9 kV9 dc9 pm9 cd9 ct9 oc10 kV10 dc10 pm10 cd10 ct10 oc11 kV11 dc11 pm11 cd11 ct11 oc12 kV12 dc12 pm12 cd12 ct12 oc13 kV13 dc13 pm13 cd13 ct13 oc14 kV14 dc14 pm14 cd14 ct14 oc15 kV15 dc15 pm15 cd15 ct15 oc16 kV16 dc16 pm16 cd16 ct16 oc17 kV17 dc17 pm17 cd17 ct17 : Value} {t_LETTERS t_LONGEST_NAME t_SHORTEST_PATH : Tok}
    (a0 : PySem.W.nsIn K mainGlobals "_law_draw" = some (some (.ref f0))) (l0 : K.lookup f0 = some ⟨oc0, od0, .func (PySem.W.fnOf "_law_draw" "_law_draw" (defArgs s_law_draw) (defBody s_law_draw) (defScope s_law_draw) .none kV0 dc0 pm0 an0 cd0 ct0), sl0⟩) (c0 : PySem.W.codeIn K cd0 "_law_draw" = true) (k0 : PySem.W.keepIn K (.ref f0) = true)
    (a1 : PySem.W.nsIn K mainGlobals "_law_pick" = some (some (.ref f1))) (l1 : K.lookup f1 = some ⟨oc1, od1, .func (PySem.W.fnOf "_law_pick" "_law_pick" (defArgs s_law_pick) (defBody s_law_pick) (defScope s_law_pick) .none kV1 dc1 pm1 an1 cd1 ct1), sl1⟩) (c1 : PySem.W.codeIn K cd1 "_law_pick" = true) (k1 : PySem.W.keepIn K (.ref f1) = true)
    (a2 : PySem.W.nsIn K mainGlobals "_law_names" = some (some (.ref f2))) (l2 : K.lookup f2 = some ⟨oc2, od2, .func (PySem.W.fnOf "_law_names" "_law_names" (defArgs s_law_names) (defBody s_law_names) (defScope s_law_names) .none kV2 dc2 pm2 an2 cd2 ct2), sl2⟩) (c2 : PySem.W.codeIn K cd2 "_law_names" = true) (k2 : PySem.W.keepIn K (.ref f2) = true)
    (a3 : PySem.W.nsIn K mainGlobals "_law_links" = some (some (.ref f3))) (l3 : K.lookup f3 = some ⟨oc3, od3, .func (PySem.W.fnOf "_law_links" "_law_links" (defArgs s_law_links) (defBody s_law_links) (defScope s_law_links) .none kV3 dc3 pm3 an3 cd3 ct3), sl3⟩) (c3 : PySem.W.codeIn K cd3 "_law_links" = true) (k3 : PySem.W.keepIn K (.ref f3) = true)
    (a4 : PySem.W.nsIn K mainGlobals "_law_due" = some (some (.ref f4))) (l4 : K.lookup f4 = some ⟨oc4, od4, .func (PySem.W.fnOf "_law_due" "_law_due" (defArgs s_law_due) (defBody s_law_due) (defScope s_law_due) .none kV4 dc4 pm4 an4 cd4 ct4), sl4⟩) (c4 : PySem.W.codeIn K cd4 "_law_due" = true) (k4 : PySem.W.keepIn K (.ref f4) = true)
    (a5 : PySem.W.nsIn K mainGlobals "is_integer" = some (some (.ref f5))) (l5 : K.lookup f5 = some ⟨oc5, od5, .func (PySem.W.fnOf "is_integer" "is_integer" (defArgs s_is_integer) (defBody s_is_integer) (defScope s_is_integer) .none kV5 dc5 pm5 an5 cd5 ct5), sl5⟩) (c5 : PySem.W.codeIn K cd5 "is_integer" = true) (k5 : PySem.W.keepIn K (.ref f5) = true)
    (a6 : PySem.W.nsIn K mainGlobals "is_string_of" = some (some (.ref f6))) (l6 : K.lookup f6 = some ⟨oc6, od6, .func (PySem.W.fnOf "is_string_of" "is_string_of" (defArgs s_is_string_of) (defBody s_is_string_of) (defScope s_is_string_of) .none kV6 dc6 pm6 an6 cd6 ct6), sl6⟩) (c6 : PySem.W.codeIn K cd6 "is_string_of" = true) (k6 : PySem.W.keepIn K (.ref f6) = true)
    (a7 : PySem.W.nsIn K mainGlobals "is_host_name" = some (some (.ref f7))) (l7 : K.lookup f7 = some ⟨oc7, od7, .func (PySem.W.fnOf "is_host_name" "is_host_name" (defArgs s_is_host_name) (defBody s_is_host_name) (defScope s_is_host_name) .none kV7 dc7 pm7 an7 cd7 ct7), sl7⟩) (c7 : PySem.W.codeIn K cd7 "is_host_name" = true) (k7 : PySem.W.keepIn K (.ref f7) = true)
    (a8 : PySem.W.nsIn K mainGlobals "is_relink" = some (some (.ref f8))) (l8 : K.lookup f8 = some ⟨oc8, od8, .func (PySem.W.fnOf "is_relink" "is_relink" (defArgs s_is_relink) (defBody s_is_relink) (defScope s_is_relink) .none kV8 dc8 pm8 an8 cd8 ct8), sl8⟩) (c8 : PySem.W.codeIn K cd8 "is_relink" = true) (k8 : PySem.W.keepIn K (.ref f8) = true)
    (a9 : PySem.W.nsIn K mainGlobals "require_relink" = some (some (.ref f9))) (l9 : K.lookup f9 = some ⟨oc9, od9, .func (PySem.W.fnOf "require_relink" "require_relink" (defArgs s_require_relink) (defBody s_require_relink) (defScope s_require_relink) .none kV9 dc9 pm9 an9 cd9 ct9), sl9⟩) (c9 : PySem.W.codeIn K cd9 "require_relink" = true) (k9 : PySem.W.keepIn K (.ref f9) = true)
    (a10 : PySem.W.nsIn K mainGlobals "position" = some (some (.ref f10))) (l10 : K.lookup f10 = some ⟨oc10, od10, .func (PySem.W.fnOf "position" "position" (defArgs s_position) (defBody s_position) (defScope s_position) .none kV10 dc10 pm10 an10 cd10 ct10), sl10⟩) (c10 : PySem.W.codeIn K cd10 "position" = true) (k10 : PySem.W.keepIn K (.ref f10) = true)
    (a11 : PySem.W.nsIn K mainGlobals "carried_bit" = some (some (.ref f11))) (l11 : K.lookup f11 = some ⟨oc11, od11, .func (PySem.W.fnOf "carried_bit" "carried_bit" (defArgs s_carried_bit) (defBody s_carried_bit) (defScope s_carried_bit) .none kV11 dc11 pm11 an11 cd11 ct11), sl11⟩) (c11 : PySem.W.codeIn K cd11 "carried_bit" = true) (k11 : PySem.W.keepIn K (.ref f11) = true)
    (a12 : PySem.W.nsIn K mainGlobals "is_near" = some (some (.ref f12))) (l12 : K.lookup f12 = some ⟨oc12, od12, .func (PySem.W.fnOf "is_near" "is_near" (defArgs s_is_near) (defBody s_is_near) (defScope s_is_near) .none kV12 dc12 pm12 an12 cd12 ct12), sl12⟩) (c12 : PySem.W.codeIn K cd12 "is_near" = true) (k12 : PySem.W.keepIn K (.ref f12) = true)
    (a13 : PySem.W.nsIn K mainGlobals "forward_bit" = some (some (.ref f13))) (l13 : K.lookup f13 = some ⟨oc13, od13, .func (PySem.W.fnOf "forward_bit" "forward_bit" (defArgs s_forward_bit) (defBody s_forward_bit) (defScope s_forward_bit) .none kV13 dc13 pm13 an13 cd13 ct13), sl13⟩) (c13 : PySem.W.codeIn K cd13 "forward_bit" = true) (k13 : PySem.W.keepIn K (.ref f13) = true)
    (a14 : PySem.W.nsIn K mainGlobals "_law_host_right" = some (some (.ref f14))) (l14 : K.lookup f14 = some ⟨oc14, od14, .func (PySem.W.fnOf "_law_host_right" "_law_host_right" (defArgs s_law_host_right) (defBody s_law_host_right) (defScope s_law_host_right) .none kV14 dc14 pm14 an14 cd14 ct14), sl14⟩) (c14 : PySem.W.codeIn K cd14 "_law_host_right" = true) (k14 : PySem.W.keepIn K (.ref f14) = true)
    (a15 : PySem.W.nsIn K mainGlobals "_law_right" = some (some (.ref f15))) (l15 : K.lookup f15 = some ⟨oc15, od15, .func (PySem.W.fnOf "_law_right" "_law_right" (defArgs s_law_right) (defBody s_law_right) (defScope s_law_right) .none kV15 dc15 pm15 an15 cd15 ct15), sl15⟩) (c15 : PySem.W.codeIn K cd15 "_law_right" = true) (k15 : PySem.W.keepIn K (.ref f15) = true)
    (a16 : PySem.W.nsIn K mainGlobals "_law_pot" = some (some (.ref f16))) (l16 : K.lookup f16 = some ⟨oc16, od16, .func (PySem.W.fnOf "_law_pot" "_law_pot" (defArgs s_law_pot) (defBody s_law_pot) (defScope s_law_pot) .none kV16 dc16 pm16 an16 cd16 ct16), sl16⟩) (c16 : PySem.W.codeIn K cd16 "_law_pot" = true) (k16 : PySem.W.keepIn K (.ref f16) = true)
    (a17 : PySem.W.nsIn K mainGlobals "law" = some (some (.ref f17))) (l17 : K.lookup f17 = some ⟨oc17, od17, .func (PySem.W.fnOf "law" "law" (defArgs s_law) (defBody s_law) (defScope s_law) .none kV17 dc17 pm17 an17 cd17 ct17), sl17⟩) (c17 : PySem.W.codeIn K cd17 "law" = true) (k17 : PySem.W.keepIn K (.ref f17) = true)
    (z_abs : PySem.W.nsIn K mainGlobals "abs" = some none)
    (z_all : PySem.W.nsIn K mainGlobals "all" = some none)
    (z_bool : PySem.W.nsIn K mainGlobals "bool" = some none)
    (z_divmod : PySem.W.nsIn K mainGlobals "divmod" = some none)
    (z_int : PySem.W.nsIn K mainGlobals "int" = some none)
    (z_isinstance : PySem.W.nsIn K mainGlobals "isinstance" = some none)
    (z_len : PySem.W.nsIn K mainGlobals "len" = some none)
    (z_list : PySem.W.nsIn K mainGlobals "list" = some none)
    (z_max : PySem.W.nsIn K mainGlobals "max" = some none)
    (z_min : PySem.W.nsIn K mainGlobals "min" = some none)
    (z_range : PySem.W.nsIn K mainGlobals "range" = some none)
    (z_repr : PySem.W.nsIn K mainGlobals "repr" = some none)
    (z_set : PySem.W.nsIn K mainGlobals "set" = some none)
    (z_str : PySem.W.nsIn K mainGlobals "str" = some none)
    (z_tuple : PySem.W.nsIn K mainGlobals "tuple" = some none)
    (g_LETTERS : PySem.W.nsIn K mainGlobals "LETTERS" = some (some (.str "abcdefghijklmnopqrstuvwxyz" t_LETTERS)))
    (g_LONGEST_NAME : PySem.W.nsIn K mainGlobals "LONGEST_NAME" = some (some (.int 8 t_LONGEST_NAME)))
    (g_SHORTEST_PATH : PySem.W.nsIn K mainGlobals "SHORTEST_PATH" = some (some (.int 3 t_SHORTEST_PATH))) :
    ∃ fd : FuncData, (∀ (s : Shared) (u : Value), BindsTo s fd ⟨[u], []⟩ [("_law_script", u)]) ∧ ∀ base : Heap, K.In base → base.Ns mainGlobals mg → Gn P w K mg base 10 fa fd ["_law_script"] w_law := by
  have e := hfa.symm.trans (PySem.W.mg_of X G a17)
  cases e
  have T : Tx K mg { f_law_draw := f0, fd_law_draw := PySem.W.fnOf "_law_draw" "_law_draw" (defArgs s_law_draw) (defBody s_law_draw) (defScope s_law_draw) .none kV0 dc0 pm0 an0 cd0 ct0, f_law_pick := f1, fd_law_pick := PySem.W.fnOf "_law_pick" "_law_pick" (defArgs s_law_pick) (defBody s_law_pick) (defScope s_law_pick) .none kV1 dc1 pm1 an1 cd1 ct1, f_law_names := f2, fd_law_names := PySem.W.fnOf "_law_names" "_law_names" (defArgs s_law_names) (defBody s_law_names) (defScope s_law_names) .none kV2 dc2 pm2 an2 cd2 ct2, f_law_links := f3, fd_law_links := PySem.W.fnOf "_law_links" "_law_links" (defArgs s_law_links) (defBody s_law_links) (defScope s_law_links) .none kV3 dc3 pm3 an3 cd3 ct3, f_law_due := f4, fd_law_due := PySem.W.fnOf "_law_due" "_law_due" (defArgs s_law_due) (defBody s_law_due) (defScope s_law_due) .none kV4 dc4 pm4 an4 cd4 ct4, f_is_integer := f5, fd_is_integer := PySem.W.fnOf "is_integer" "is_integer" (defArgs s_is_integer) (defBody s_is_integer) (defScope s_is_integer) .none kV5 dc5 pm5 an5 cd5 ct5, f_is_string_of := f6, fd_is_string_of := PySem.W.fnOf "is_string_of" "is_string_of" (defArgs s_is_string_of) (defBody s_is_string_of) (defScope s_is_string_of) .none kV6 dc6 pm6 an6 cd6 ct6, f_is_host_name := f7, fd_is_host_name := PySem.W.fnOf "is_host_name" "is_host_name" (defArgs s_is_host_name) (defBody s_is_host_name) (defScope s_is_host_name) .none kV7 dc7 pm7 an7 cd7 ct7, f_is_relink := f8, fd_is_relink := PySem.W.fnOf "is_relink" "is_relink" (defArgs s_is_relink) (defBody s_is_relink) (defScope s_is_relink) .none kV8 dc8 pm8 an8 cd8 ct8, f_require_relink := f9, fd_require_relink := PySem.W.fnOf "require_relink" "require_relink" (defArgs s_require_relink) (defBody s_require_relink) (defScope s_require_relink) .none kV9 dc9 pm9 an9 cd9 ct9, f_position := f10, fd_position := PySem.W.fnOf "position" "position" (defArgs s_position) (defBody s_position) (defScope s_position) .none kV10 dc10 pm10 an10 cd10 ct10, f_carried_bit := f11, fd_carried_bit := PySem.W.fnOf "carried_bit" "carried_bit" (defArgs s_carried_bit) (defBody s_carried_bit) (defScope s_carried_bit) .none kV11 dc11 pm11 an11 cd11 ct11, f_is_near := f12, fd_is_near := PySem.W.fnOf "is_near" "is_near" (defArgs s_is_near) (defBody s_is_near) (defScope s_is_near) .none kV12 dc12 pm12 an12 cd12 ct12, f_forward_bit := f13, fd_forward_bit := PySem.W.fnOf "forward_bit" "forward_bit" (defArgs s_forward_bit) (defBody s_forward_bit) (defScope s_forward_bit) .none kV13 dc13 pm13 an13 cd13 ct13, f_law_host_right := f14, fd_law_host_right := PySem.W.fnOf "_law_host_right" "_law_host_right" (defArgs s_law_host_right) (defBody s_law_host_right) (defScope s_law_host_right) .none kV14 dc14 pm14 an14 cd14 ct14, f_law_right := f15, fd_law_right := PySem.W.fnOf "_law_right" "_law_right" (defArgs s_law_right) (defBody s_law_right) (defScope s_law_right) .none kV15 dc15 pm15 an15 cd15 ct15, f_law_pot := f16, fd_law_pot := PySem.W.fnOf "_law_pot" "_law_pot" (defArgs s_law_pot) (defBody s_law_pot) (defScope s_law_pot) .none kV16 dc16 pm16 an16 cd16 ct16, f_law := fa, fd_law := PySem.W.fnOf "law" "law" (defArgs s_law) (defBody s_law) (defScope s_law) .none kV17 dc17 pm17 an17 cd17 ct17 } := { m_law_draw := PySem.W.mg_of X G a0, d_law_draw := ⟨⟨_, _, _, _, _, _, _, _, _, rfl, l0, c0⟩, k0⟩, m_law_pick := PySem.W.mg_of X G a1, d_law_pick := ⟨⟨_, _, _, _, _, _, _, _, _, rfl, l1, c1⟩, k1⟩, m_law_names := PySem.W.mg_of X G a2, d_law_names := ⟨⟨_, _, _, _, _, _, _, _, _, rfl, l2, c2⟩, k2⟩, m_law_links := PySem.W.mg_of X G a3, d_law_links := ⟨⟨_, _, _, _, _, _, _, _, _, rfl, l3, c3⟩, k3⟩, m_law_due := PySem.W.mg_of X G a4, d_law_due := ⟨⟨_, _, _, _, _, _, _, _, _, rfl, l4, c4⟩, k4⟩, m_is_integer := PySem.W.mg_of X G a5, d_is_integer := ⟨⟨_, _, _, _, _, _, _, _, _, rfl, l5, c5⟩, k5⟩, m_is_string_of := PySem.W.mg_of X G a6, d_is_string_of := ⟨⟨_, _, _, _, _, _, _, _, _, rfl, l6, c6⟩, k6⟩, m_is_host_name := PySem.W.mg_of X G a7, d_is_host_name := ⟨⟨_, _, _, _, _, _, _, _, _, rfl, l7, c7⟩, k7⟩, m_is_relink := PySem.W.mg_of X G a8, d_is_relink := ⟨⟨_, _, _, _, _, _, _, _, _, rfl, l8, c8⟩, k8⟩, m_require_relink := PySem.W.mg_of X G a9, d_require_relink := ⟨⟨_, _, _, _, _, _, _, _, _, rfl, l9, c9⟩, k9⟩, m_position := PySem.W.mg_of X G a10, d_position := ⟨⟨_, _, _, _, _, _, _, _, _, rfl, l10, c10⟩, k10⟩, m_carried_bit := PySem.W.mg_of X G a11, d_carried_bit := ⟨⟨_, _, _, _, _, _, _, _, _, rfl, l11, c11⟩, k11⟩, m_is_near := PySem.W.mg_of X G a12, d_is_near := ⟨⟨_, _, _, _, _, _, _, _, _, rfl, l12, c12⟩, k12⟩, m_forward_bit := PySem.W.mg_of X G a13, d_forward_bit := ⟨⟨_, _, _, _, _, _, _, _, _, rfl, l13, c13⟩, k13⟩, m_law_host_right := PySem.W.mg_of X G a14, d_law_host_right := ⟨⟨_, _, _, _, _, _, _, _, _, rfl, l14, c14⟩, k14⟩, m_law_right := PySem.W.mg_of X G a15, d_law_right := ⟨⟨_, _, _, _, _, _, _, _, _, rfl, l15, c15⟩, k15⟩, m_law_pot := PySem.W.mg_of X G a16, d_law_pot := ⟨⟨_, _, _, _, _, _, _, _, _, rfl, l16, c16⟩, k16⟩, m_law := PySem.W.mg_of X G a17, d_law := ⟨⟨_, _, _, _, _, _, _, _, _, rfl, l17, c17⟩, k17⟩, n_abs := PySem.W.mg_none_of X G z_abs, n_all := PySem.W.mg_none_of X G z_all, n_bool := PySem.W.mg_none_of X G z_bool, n_divmod := PySem.W.mg_none_of X G z_divmod, n_int := PySem.W.mg_none_of X G z_int, n_isinstance := PySem.W.mg_none_of X G z_isinstance, n_len := PySem.W.mg_none_of X G z_len, n_list := PySem.W.mg_none_of X G z_list, n_max := PySem.W.mg_none_of X G z_max, n_min := PySem.W.mg_none_of X G z_min, n_range := PySem.W.mg_none_of X G z_range, n_repr := PySem.W.mg_none_of X G z_repr, n_set := PySem.W.mg_none_of X G z_set, n_str := PySem.W.mg_none_of X G z_str, n_tuple := PySem.W.mg_none_of X G z_tuple, e_LETTERS := ⟨_, PySem.W.mg_of X G g_LETTERS⟩, e_LONGEST_NAME := ⟨_, PySem.W.mg_of X G g_LONGEST_NAME⟩, e_SHORTEST_PATH := ⟨_, PySem.W.mg_of X G g_SHORTEST_PATH⟩ }
  exact ⟨PySem.W.fnOf "law" "law" (defArgs s_law) (defBody s_law) (defScope s_law) .none kV17 dc17 pm17 an17 cd17 ct17, fun s u => .of_eq (bd_law T [u] rfl), fun base _ _ => ok_law T⟩
end Lw
open PySem PySem.W PyProof.Rows
set_option maxRecDepth 100000 in
set_option maxHeartbeats 0 in
theorem PySem.Challenge.cw_relinktree_k31_whole_bits_holds : PySem.Challenge.rw_relinktree_k31_whole_bits.Holds := by
  w_on; o_law; k_head; (case hw => w_witness2)
  k_fill
  refine Rk.gn_walk (l := PySem.Challenge.rw_relinktree_k31_whole_bits) (n := 63) (k := 10) (x := "_law_script") (wf := Lw.w_law) rfl (by decide) rfl ⟨rfl, by decide, by decide⟩ (fun w h Y => PySem.W.kIn_of Y) ?lwN ?lwF Lw.law_true
  case lwN =>
    intro w
    kernel_rfl
  case lwF =>
    intro w mg fa h KX G hmg
    refine' Lw.all_mk KX G hmg ?a0 ?l0 ?c0 ?k0 ?a1 ?l1 ?c1 ?k1 ?a2 ?l2 ?c2 ?k2 ?a3 ?l3 ?c3 ?k3 ?a4 ?l4 ?c4 ?k4 ?a5 ?l5 ?c5 ?k5 ?a6 ?l6 ?c6 ?k6 ?a7 ?l7 ?c7 ?k7 ?a8 ?l8 ?c8 ?k8 ?a9 ?l9 ?c9 ?k9 ?a10 ?l10 ?c10 ?k10 ?a11 ?l11 ?c11 ?k11 ?a12 ?l12 ?c12 ?k12 ?a13 ?l13 ?c13 ?k13 ?a14 ?l14 ?c14 ?k14 ?a15 ?l15 ?c15 ?k15 ?a16 ?l16 ?c16 ?k16 ?a17 ?l17 ?c17 ?k17 ?z_abs ?z_all ?z_bool ?z_divmod ?z_int ?z_isinstance ?z_len ?z_list ?z_max ?z_min ?z_range ?z_repr ?z_set ?z_str ?z_tuple ?g_LETTERS ?g_LONGEST_NAME ?g_SHORTEST_PATH
    (case a0 => k_is)
    (case l0 => k_is)
    (case c0 => k_is)
    (case k0 => k_is)
    (case a1 => k_is)
    (case l1 => k_is)
    (case c1 => k_is)
    (case k1 => k_is)
    (case a2 => k_is)
    (case l2 => k_is)
    (case c2 => k_is)
    (case k2 => k_is)
    (case a3 => k_is)
    (case l3 => k_is)
    (case c3 => k_is)
    (case k3 => k_is)
    (case a4 => k_is)
    (case l4 => k_is)
    (case c4 => k_is)
    (case k4 => k_is)
    (case a5 => k_is)
    (case l5 => k_is)
    (case c5 => k_is)
    (case k5 => k_is)
    (case a6 => k_is)
    (case l6 => k_is)
    (case c6 => k_is)
    (case k6 => k_is)
    (case a7 => k_is)
    (case l7 => k_is)
    (case c7 => k_is)
    (case k7 => k_is)
    (case a8 => k_is)
    (case l8 => k_is)
    (case c8 => k_is)
    (case k8 => k_is)
    (case a9 => k_is)
    (case l9 => k_is)
    (case c9 => k_is)
    (case k9 => k_is)
    (case a10 => k_is)
    (case l10 => k_is)
    (case c10 => k_is)
    (case k10 => k_is)
    (case a11 => k_is)
    (case l11 => k_is)
    (case c11 => k_is)
    (case k11 => k_is)
    (case a12 => k_is)
    (case l12 => k_is)
    (case c12 => k_is)
    (case k12 => k_is)
    (case a13 => k_is)
    (case l13 => k_is)
    (case c13 => k_is)
    (case k13 => k_is)
    (case a14 => k_is)
    (case l14 => k_is)
    (case c14 => k_is)
    (case k14 => k_is)
    (case a15 => k_is)
    (case l15 => k_is)
    (case c15 => k_is)
    (case k15 => k_is)
    (case a16 => k_is)
    (case l16 => k_is)
    (case c16 => k_is)
    (case k16 => k_is)
    (case a17 => k_is)
    (case l17 => k_is)
    (case c17 => k_is)
    (case k17 => k_is)
    (case z_abs => k_is)
    (case z_all => k_is)
    (case z_bool => k_is)
    (case z_divmod => k_is)
    (case z_int => k_is)
    (case z_isinstance => k_is)
    (case z_len => k_is)
    (case z_list => k_is)
    (case z_max => k_is)
    (case z_min => k_is)
    (case z_range => k_is)
    (case z_repr => k_is)
    (case z_set => k_is)
    (case z_str => k_is)
    (case z_tuple => k_is)
    (case g_LETTERS => k_is)
    (case g_LONGEST_NAME => k_is)
    (case g_SHORTEST_PATH => k_is)
#print axioms PySem.Challenge.cw_relinktree_k31_whole_bits_holds
