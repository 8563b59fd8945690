import PyProof.Rows.All
import Wide.All
import OpenK.AllK
import Wide.FinOn
import PySem.Challenge.RW_relinktree_k16_relinks_judged
import HandS.ForMost
import HandS.Exc
import HandS.IsInst
import HandS.TupAny
import HandS.WideBits
import HandS.RaiseMore
import HandS.TupLen
import HandS.WordsDict
import HandS.SetKeys
import HandS.Strs
import HandS.SetFor
import HandS.SetIn
import HandS.StrMore
import HandS.ExcInit
import HandS.ExcField
import HandS.TryMany
import HandS.WordsExc
import KE.KExcInit
import KE.KExcIs
import HandS.Defaults
import HandS.FStr
import HandS.Text
import HandS.More
import HandS.Style
import KE.GoesEnum
set_option Elab.async false
set_option linter.all false
set_option maxRecDepth 100000
set_option maxHeartbeats 4000000
/-! Rk: plain values over the layer. A tuple is a value; lists, dicts and instances stand in a plain heap. A judgement AE says that an expression does what a plain transformer of (slots, heap) says. -/
namespace Rk
open PySem PySem.Spec PyProof.Rows L2

/-- plain values -/
inductive Vl where
  | non | bl (b : Bool) | int (i : Int) | str (s : Str) | tup (xs : List Vl) | ref (a : Addr) | ty (n : String)
  /-- a pair that a walk makes, to be taken apart at once; a list, a dict that nobody changes any more; a def or class of the top by its name; a caught error (its address, its dict's) -/
  | wtp (xs : List Vl) | lst (xs : List Vl) | dct (ks : List Key) (xs : List Vl) | gl (n : String) | xv (a : Addr) (d : Option Addr) (C : String) (ns : List Str) (xs : List Vl)
  deriving Inhabited
/-- where the top's name n stands -/
def cA (K : PySem.W.Frag) (n : String) : Addr := match PySem.W.nsIn K mainGlobals (Str.ofString n) with
  | some (some (.ref a)) => a
  | _ => 0
/-- a class by its name: the top's own, or else a built-in one -/
def clsV (K : PySem.W.Frag) (n : String) : Value := match PySem.W.nsIn K mainGlobals (Str.ofString n) with
  | some (some (.ref a)) => .ref a
  | _ => .type n

/-- what stands at a plain address -/
inductive Ob where
  | lst (xs : List Vl)
  | dct (kvs : List (Vl × Vl))
  | lok (kvs : List (Vl × Vl))
  | dtt (kvs : List (Vl × Vl))
  | lot (kvs : List (Vl × Vl))
  | ins (C : String) (fs : List (Str × Vl))
abbrev Ah := Addr → Option Ob
def put (A : Ah) (a : Addr) (o : Ob) : Ah := fun b => if b = a then some o else A b
theorem put_same {A : Ah} {a : Addr} {o : Ob} : put A a o a = some o := if_pos rfl
theorem put_ne {A : Ah} {a b : Addr} {o : Ob} (h : b ≠ a) : put A a o b = A b := if_neg h

/-- an exception: its class, its fields -/
structure Xv where
  C : String
  ns : List Str
  xs : List Vl

/-- a text that the machine can measure -/
def okS (s : Str) : Prop := s.length ≤ sizeLine ∧ PyData.strOk s = true
/-- a tuple's object: no dict of its own -/
def tupO (us : List Value) : Obj := { cls := .type "tuple", data := .seq us.toArray }
def Own (K : PySem.W.Frag) (H : Hp) (a : Addr) : Prop := (∃ us vs, H a = some (.frz (tupO us) (.tup vs))) ∨ ∃ o, K.lookup a = some o ∧ o.cls = .type "tuple" ∧ o.dict = none
def StT (K : PySem.W.Frag) (H : Hp) (a : Addr) (vs : List V) : Prop := SqT K H a vs ∧ Own K H a
variable (K : PySem.W.Frag) in
mutual
def Re (H : Hp) : Vl → V → Prop
  | .non, v => v = .non
  | .bl b, v => v = .bl b
  | .int i, v => v = .int i
  | .str s, v => v = .str s ∧ okS s
  | .ref a, v => v = .ref a
  | .ty n, v => v = .ty n
  | .tup xs, v => ∃ a vs, v = .ref a ∧ StT K H a vs ∧ Rl H xs vs
  | .wtp xs, v => ∃ a vs, v = .ref a ∧ SqT K H a vs ∧ Rl H xs vs
  | .lst xs, v => ∃ a o vs, v = .ref a ∧ H a = some (.frz o (.lst vs)) ∧ Rl H xs vs
  | .dct ks xs, v => ∃ a o kk, v = .ref a ∧ H a = some (.frz o (.dK kk)) ∧ kk.map (·.1) = ks ∧ Rl H xs (kk.map (·.2))
  | .gl n, v => v = .ref (cA K n)
  | .xv a d _ ns xs, v => v = .ref a ∧ ((d = none ∧ ns = [] ∧ Rl H xs []) ∨ ∃ dd gs, d = some dd ∧ H dd = some (.xd gs) ∧ gs.map (·.1) = ns ∧ Rl H xs (gs.map (·.2)))
def Rl (H : Hp) : List Vl → List V → Prop
  | [], vs => vs = []
  | x :: xs, vs => ∃ v ws, vs = v :: ws ∧ Re H x v ∧ Rl H xs ws
end

/-- locked once, not twice -/
def one : HO → Prop
  | .frz _ _ => False
  | _ => True
/-- tuples, locked things and errors' dicts stay -/
structure Kw (H H' : Hp) : Prop where
  tup : ∀ b xs, H b = some (.tup xs) → H' b = some (.tup xs)
  frz : ∀ b o u, one u → H b = some (.frz o u) → H' b = some (.frz o u)
  xd : ∀ b gs, H b = some (.xd gs) → H' b = some (.xd gs)
/-- .. and what is locked twice (a list in the making) -/
structure Keep (H H' : Hp) : Prop where
  w : Kw H H'
  dbl : ∀ b o u, H b = some (.frz o u) → H' b = some (.frz o u)
theorem Keep.tup {H H' : Hp} (k : Keep H H') : ∀ b xs, H b = some (.tup xs) → H' b = some (.tup xs) := k.w.tup
theorem Keep.frz {H H' : Hp} (k : Keep H H') : ∀ b o u, H b = some (.frz o u) → H' b = some (.frz o u) := k.dbl
theorem Keep.xd {H H' : Hp} (k : Keep H H') : ∀ b gs, H b = some (.xd gs) → H' b = some (.xd gs) := k.w.xd
theorem Keep.mk' {H H' : Hp} (a : ∀ b xs, H b = some (.tup xs) → H' b = some (.tup xs)) (b : ∀ b o u, H b = some (.frz o u) → H' b = some (.frz o u)) (c : ∀ b gs, H b = some (.xd gs) → H' b = some (.xd gs)) : Keep H H' := ⟨⟨a, fun p o u _ h => b p o u h, c⟩, b⟩
theorem Kw.refl {H : Hp} : Kw H H := ⟨fun _ _ h => h, fun _ _ _ _ h => h, fun _ _ h => h⟩
theorem Kw.trans {H H1 H2 : Hp} (a : Kw H H1) (b : Kw H1 H2) : Kw H H2 := ⟨fun c xs h => b.tup c xs (a.tup c xs h), fun c o u m h => b.frz c o u m (a.frz c o u m h), fun c g h => b.xd c g (a.xd c g h)⟩
theorem Keep.refl {H : Hp} : Keep H H := ⟨.refl, fun _ _ _ h => h⟩
theorem Keep.trans {H H1 H2 : Hp} (a : Keep H H1) (b : Keep H1 H2) : Keep H H2 := ⟨a.w.trans b.w, fun c o u h => b.dbl c o u (a.dbl c o u h)⟩
theorem Keep.of {H H' : Hp} {p : Addr} (h : H p = none ∨ Mut (H p)) (e : ∀ b, b ≠ p → H' b = H b) : Keep H H' := by
  have ne : ∀ {b : Addr} {x : HO}, H b = some x → ¬ Mut (some x) → H' b = H b := fun {b x} hb m => e b fun z => by
    subst z; rw [hb] at h; rcases h with h | h
    · cases h
    · exact m h
  exact .mk' (fun b xs g => (ne g fun z => z).trans g) (fun b o u g => (ne g fun z => z).trans g) fun b gs g => (ne g fun z => z).trans g
theorem Keep.new {H : Hp} {p : Addr} {o : HO} (h : H p = none) : Keep H (upd H p o) := .of (.inl h) fun b hb => upd_ne hb
theorem Keep.write {H : Hp} {p : Addr} {o : HO} (h : Mut (H p)) : Keep H (upd H p o) := .of (.inr h) fun b hb => upd_ne hb
theorem sqT_keep {K : PySem.W.Frag} {H H' : Hp} {a : Addr} {xs : List V} (k : Kw H H') (h : SqT K H a xs) : SqT K H' a xs := by
  rcases h with (h | ⟨o, h⟩) | h
  · exact .inl (.inl (k.tup _ _ h))
  · exact .inl (.inr ⟨o, k.frz _ _ _ trivial h⟩)
  · exact .inr h
theorem StT.kw {K : PySem.W.Frag} {H H' : Hp} {a : Addr} {xs : List V} (k : Kw H H') (h : StT K H a xs) : StT K H' a xs :=
  ⟨sqT_keep k h.1, h.2.imp (fun ⟨us, vs, e⟩ => ⟨us, vs, k.frz _ _ _ trivial e⟩) id⟩
theorem StT.keep {K : PySem.W.Frag} {H H' : Hp} {a : Addr} {xs : List V} (k : Keep H H') (h : StT K H a xs) : StT K H' a xs := h.kw k.w
theorem StT.new {K : PySem.W.Frag} {H : Hp} {p : Addr} {us : List Value} {vs : List V} : StT K (upd H p (.frz (tupO us) (.tup vs))) p vs := ⟨.inl (.inr ⟨_, upd_same⟩), .inl ⟨us, vs, upd_same⟩⟩
variable {K : PySem.W.Frag}
mutual
theorem Re.kw {H H' : Hp} (k : Kw H H') : ∀ {x : Vl} {v : V}, Re K H x v → Re K H' x v
  | .non, _, h => by unfold Re at h ⊢; exact h
  | .bl _, _, h => by unfold Re at h ⊢; exact h
  | .int _, _, h => by unfold Re at h ⊢; exact h
  | .str _, _, h => by unfold Re at h ⊢; exact h
  | .ref _, _, h => by unfold Re at h ⊢; exact h
  | .ty _, _, h => by unfold Re at h ⊢; exact h
  | .tup _, _, h => by
    unfold Re at h ⊢
    obtain ⟨a, vs, e, s, r⟩ := h
    exact ⟨a, vs, e, s.kw k, Rl.kw k r⟩
  | .wtp _, _, h => by
    unfold Re at h ⊢
    obtain ⟨a, vs, e, s, r⟩ := h
    exact ⟨a, vs, e, sqT_keep k s, Rl.kw k r⟩
  | .lst _, _, h => by
    unfold Re at h ⊢
    obtain ⟨a, o, vs, e, s, r⟩ := h
    exact ⟨a, o, vs, e, k.frz _ _ _ trivial s, Rl.kw k r⟩
  | .dct _ _, _, h => by
    unfold Re at h ⊢
    obtain ⟨a, o, kk, e, s, e2, r⟩ := h
    exact ⟨a, o, kk, e, k.frz _ _ _ trivial s, e2, Rl.kw k r⟩
  | .gl _, _, h => by unfold Re at h ⊢; exact h
  | .xv _ _ _ _ _, _, h => by
    unfold Re at h ⊢
    obtain ⟨e, h⟩ := h
    refine ⟨e, ?_⟩
    rcases h with ⟨e1, e2, r⟩ | ⟨dd, gs, e1, e2, e3, r⟩
    · exact .inl ⟨e1, e2, Rl.kw k r⟩
    · exact .inr ⟨dd, gs, e1, k.xd _ _ e2, e3, Rl.kw k r⟩
theorem Rl.kw {H H' : Hp} (k : Kw H H') : ∀ {xs : List Vl} {vs : List V}, Rl K H xs vs → Rl K H' xs vs
  | [], _, h => by unfold Rl at h ⊢; exact h
  | _ :: _, _, h => by
    unfold Rl at h ⊢
    obtain ⟨v, ws, e, r, t⟩ := h
    exact ⟨v, ws, e, Re.kw k r, Rl.kw k t⟩
end
theorem Re.keep {H H' : Hp} (k : Keep H H') {x : Vl} {v : V} (h : Re K H x v) : Re K H' x v := h.kw k.w
theorem Rl.keep {H H' : Hp} (k : Keep H H') {xs : List Vl} {vs : List V} (h : Rl K H xs vs) : Rl K H' xs vs := h.kw k.w
theorem Rl.nil {H : Hp} : Rl K H [] [] := by unfold Rl; rfl
theorem Rl.cons {H : Hp} {x : Vl} {v : V} {xs : List Vl} {vs : List V} (a : Re K H x v) (b : Rl K H xs vs) : Rl K H (x :: xs) (v :: vs) := by unfold Rl; exact ⟨v, vs, rfl, a, b⟩
theorem Rl.nil_inv {H : Hp} {vs : List V} (h : Rl K H [] vs) : vs = [] := by unfold Rl at h; exact h
theorem Rl.cons_inv {H : Hp} {x : Vl} {xs : List Vl} {vs : List V} (h : Rl K H (x :: xs) vs) : ∃ v ws, vs = v :: ws ∧ Re K H x v ∧ Rl K H xs ws := by unfold Rl at h; exact h
theorem Rl.length {H : Hp} : ∀ {xs : List Vl} {vs : List V}, Rl K H xs vs → xs.length = vs.length
  | [], _, h => by rw [h.nil_inv]; rfl
  | _ :: _, _, h => by
    obtain ⟨v, ws, rfl, _, t⟩ := h.cons_inv
    simp [t.length]
theorem Rl.append {H : Hp} : ∀ {xs ys : List Vl} {vs ws : List V}, Rl K H xs vs → Rl K H ys ws → Rl K H (xs ++ ys) (vs ++ ws)
  | [], _, _, _, h, g => by rw [h.nil_inv]; exact g
  | _ :: _, _, _, _, h, g => by
    obtain ⟨v, us, rfl, r, t⟩ := h.cons_inv
    exact .cons r (t.append g)
theorem Rl.get {H : Hp} : ∀ {xs : List Vl} {vs : List V} {i : Nat} {x : Vl}, Rl K H xs vs → xs[i]? = some x → ∃ v, vs[i]? = some v ∧ Re K H x v
  | [], _, _, _, _, e => by simp at e
  | y :: _, _, 0, x, h, e => by
    obtain ⟨v, us, rfl, r, t⟩ := h.cons_inv
    simp at e; subst e
    exact ⟨v, rfl, r⟩
  | _ :: _, _, i + 1, x, h, e => by
    obtain ⟨v, us, rfl, r, t⟩ := h.cons_inv
    simpa using t.get (i := i) (by simpa using e)
theorem Rl.get' {H : Hp} : ∀ {xs : List Vl} {vs : List V} {i : Nat} {v : V}, Rl K H xs vs → vs[i]? = some v → ∃ x, xs[i]? = some x ∧ Re K H x v
  | [], _, _, _, h, e => by rw [h.nil_inv] at e; simp at e
  | y :: _, _, 0, x, h, e => by
    obtain ⟨v, us, rfl, r, t⟩ := h.cons_inv
    simp at e; subst e
    exact ⟨y, rfl, r⟩
  | _ :: _, _, i + 1, x, h, e => by
    obtain ⟨v, us, rfl, r, t⟩ := h.cons_inv
    simpa using t.get' (i := i) (by simpa using e)
theorem Rl.set {H : Hp} {x : Vl} {v : V} (r : Re K H x v) : ∀ {xs : List Vl} {vs : List V} (i : Nat), Rl K H xs vs → Rl K H (xs.set i x) (vs.set i v)
  | [], _, _, h => by rw [h.nil_inv]; exact .nil
  | _ :: _, _, 0, h => by obtain ⟨w, us, rfl, q, t⟩ := h.cons_inv; exact .cons r t
  | _ :: _, _, i + 1, h => by obtain ⟨w, us, rfl, q, t⟩ := h.cons_inv; exact .cons q (t.set r i)
theorem Rl.take {H : Hp} : ∀ {xs : List Vl} {vs : List V} (n : Nat), Rl K H xs vs → Rl K H (xs.take n) (vs.take n)
  | _, _, 0, _ => by simp; exact .nil
  | [], _, _ + 1, h => by rw [h.nil_inv]; simp; exact .nil
  | _ :: _, _, n + 1, h => by obtain ⟨w, us, rfl, q, t⟩ := h.cons_inv; exact .cons q (t.take n)
theorem Rl.drop {H : Hp} : ∀ {xs : List Vl} {vs : List V} (n : Nat), Rl K H xs vs → Rl K H (xs.drop n) (vs.drop n)
  | _, _, 0, h => by simpa using h
  | [], _, _ + 1, h => by rw [h.nil_inv]; simp; exact .nil
  | _ :: _, _, n + 1, h => by obtain ⟨w, us, rfl, q, t⟩ := h.cons_inv; simpa using t.drop n
theorem Rl.reverse {H : Hp} : ∀ {xs : List Vl} {vs : List V}, Rl K H xs vs → Rl K H xs.reverse vs.reverse
  | [], _, h => by rw [h.nil_inv]; exact .nil
  | _ :: _, _, h => by
    obtain ⟨w, us, rfl, q, t⟩ := h.cons_inv
    simpa using t.reverse.append (.cons q .nil)
theorem Rl.erase {H : Hp} : ∀ {xs : List Vl} {vs : List V} (i : Nat), Rl K H xs vs → Rl K H (xs.eraseIdx i) (vs.eraseIdx i)
  | [], _, _, h => by rw [h.nil_inv]; simp; exact .nil
  | _ :: _, _, 0, h => by obtain ⟨w, us, rfl, q, t⟩ := h.cons_inv; simpa using t
  | _ :: _, _, i + 1, h => by obtain ⟨w, us, rfl, q, t⟩ := h.cons_inv; simpa using Rl.cons q (t.erase i)
theorem Rl.dropLast {H : Hp} : ∀ {xs : List Vl} {vs : List V}, Rl K H xs vs → Rl K H xs.dropLast vs.dropLast
  | [], _, h => by rw [h.nil_inv]; exact .nil
  | [_], _, h => by obtain ⟨w, us, rfl, q, t⟩ := h.cons_inv; rw [t.nil_inv]; exact .nil
  | _ :: y :: _, _, h => by
    obtain ⟨w, us, rfl, q, t⟩ := h.cons_inv
    obtain ⟨w', us', rfl, q', t'⟩ := t.cons_inv
    simpa using Rl.cons q (Rl.cons q' t').dropLast

/-- named fields -/
def Fr (K : PySem.W.Frag) (H : Hp) : List (Str × Vl) → List (Str × V) → Prop
  | [], gs => gs = []
  | (n, x) :: fs, gs => ∃ v hs, gs = (n, v) :: hs ∧ Re K H x v ∧ Fr K H fs hs
theorem Fr.kw {H H' : Hp} (k : Kw H H') : ∀ {fs : List (Str × Vl)} {gs : List (Str × V)}, Fr K H fs gs → Fr K H' fs gs
  | [], _, h => h
  | (_, _) :: _, _, ⟨v, hs, e, r, t⟩ => ⟨v, hs, e, r.kw k, Fr.kw k t⟩
theorem Fr.keep {H H' : Hp} (k : Keep H H') {fs : List (Str × Vl)} {gs : List (Str × V)} (h : Fr K H fs gs) : Fr K H' fs gs := Fr.kw k.w h
theorem Fr.lookup {H : Hp} : ∀ {fs : List (Str × Vl)} {gs : List (Str × V)} {n : Str} {x : Vl}, Fr K H fs gs → fs.lookup n = some x → ∃ v, gs.lookup n = some v ∧ Re K H x v
  | [], _, _, _, _, e => by simp at e
  | (m, y) :: fs, _, n, x, ⟨v, hs, rfl, r, t⟩, e => by
    rw [List.lookup_cons] at e ⊢
    by_cases h : n == m
    · rw [h] at e ⊢; cases e; exact ⟨v, rfl, r⟩
    · simp only [Bool.not_eq_true] at h
      rw [h] at e ⊢; exact Fr.lookup t e
theorem Fr.lookup_none {H : Hp} : ∀ {fs : List (Str × Vl)} {gs : List (Str × V)} {n : Str}, Fr K H fs gs → fs.lookup n = none → gs.lookup n = none
  | [], _, _, h, e => by rw [show _ = [] from h]; rfl
  | (m, y) :: fs, _, n, ⟨v, hs, rfl, r, t⟩, e => by
    rw [List.lookup_cons] at e ⊢
    by_cases h : n == m
    · rw [h] at e; cases e
    · simp only [Bool.not_eq_true] at h
      rw [h] at e ⊢; exact Fr.lookup_none t e
theorem Fr.length {H : Hp} : ∀ {fs : List (Str × Vl)} {gs : List (Str × V)}, Fr K H fs gs → fs.length = gs.length
  | [], _, h => by rw [show _ = [] from h]; rfl
  | (_, _) :: _, _, ⟨v, hs, rfl, r, t⟩ => by simp [Fr.length t]
def putF' (f : Str) (v : Vl) : List (Str × Vl) → List (Str × Vl)
  | [] => [(f, v)]
  | (g, u) :: r => if g = f then (f, v) :: r else (g, u) :: putF' f v r

/-- keys -/
def kVl : Key → Vl
  | .inl i => .int i
  | .inr s => .str s
def kTl (k : List Key) : Vl := .tup (k.map kVl)
def Kr (K : PySem.W.Frag) (H : Hp) {κ : Type} (kf : κ → Vl) : List (Vl × Vl) → List (κ × V) → Prop
  | [], gs => gs = []
  | (k, x) :: fs, gs => ∃ c v hs, gs = (c, v) :: hs ∧ k = kf c ∧ Re K H x v ∧ Kr K H kf fs hs
theorem Kr.kw {H H' : Hp} (k : Kw H H') {κ : Type} {kf : κ → Vl} : ∀ {fs : List (Vl × Vl)} {gs : List (κ × V)}, Kr K H kf fs gs → Kr K H' kf fs gs
  | [], _, h => h
  | (_, _) :: _, _, ⟨c, v, hs, e, q, r, t⟩ => ⟨c, v, hs, e, q, r.kw k, Kr.kw k t⟩
theorem Kr.keep {H H' : Hp} (k : Keep H H') {κ : Type} {kf : κ → Vl} {fs : List (Vl × Vl)} {gs : List (κ × V)} (h : Kr K H kf fs gs) : Kr K H' kf fs gs := Kr.kw k.w h
def ObR (K : PySem.W.Frag) (H : Hp) (a : Addr) : Ob → Prop
  | .lst xs => ∃ vs, H a = some (.lst vs) ∧ Rl K H xs vs
  | .dct kvs => ∃ kk, H a = some (.dK kk) ∧ Kr K H kVl kvs kk
  | .lok kvs => ∃ o kk, H a = some (.frz o (.dK kk)) ∧ Kr K H kVl kvs kk
  | .dtt kvs => ∃ kk, H a = some (.dT kk) ∧ Kr K H kTl kvs kk
  | .lot kvs => ∃ o kk, H a = some (.frz o (.dT kk)) ∧ Kr K H kTl kvs kk
  | .ins C fs => ∃ dx gs, H a = some (.ins (cA K C) dx gs) ∧ Fr K H fs gs
def SA (K : PySem.W.Frag) (A : Ah) (H : Hp) : Prop := ∀ a o, A a = some o → ObR K H a o
theorem ObR.there {H : Hp} {a : Addr} : ∀ {o : Ob}, ObR K H a o → ∃ u, H a = some u
  | .lst _, ⟨_, e, _⟩ => ⟨_, e⟩
  | .dct _, ⟨_, e, _⟩ => ⟨_, e⟩
  | .lok _, ⟨_, _, e, _⟩ => ⟨_, e⟩
  | .dtt _, ⟨_, e, _⟩ => ⟨_, e⟩
  | .lot _, ⟨_, _, e, _⟩ => ⟨_, e⟩
  | .ins _ _, ⟨_, _, e, _⟩ => ⟨_, e⟩
/-- the same objects, tuples kept -/
theorem ObR.moveW {H H' : Hp} {a : Addr} (k : Kw H H') (e : H' a = H a) : ∀ {o : Ob}, ObR K H a o → ObR K H' a o
  | .lst _, ⟨vs, h, r⟩ => ⟨vs, e.trans h, r.kw k⟩
  | .dct _, ⟨o, h, r⟩ => ⟨o, e.trans h, r.kw k⟩
  | .lok _, ⟨o, u, h, r⟩ => ⟨o, u, e.trans h, r.kw k⟩
  | .dtt _, ⟨o, h, r⟩ => ⟨o, e.trans h, r.kw k⟩
  | .lot _, ⟨o, u, h, r⟩ => ⟨o, u, e.trans h, r.kw k⟩
  | .ins _ _, ⟨dx, gs, h, r⟩ => ⟨dx, gs, e.trans h, r.kw k⟩
theorem ObR.move {H H' : Hp} {a : Addr} (k : Keep H H') (e : H' a = H a) {o : Ob} (h : ObR K H a o) : ObR K H' a o := h.moveW k.w e
theorem SA.fresh {A : Ah} {H : Hp} {p : Addr} (s : SA K A H) (h : H p = none) : A p = none := by
  cases e : A p with
  | none => rfl
  | some o =>
    obtain ⟨u, q⟩ := (s p o e).there
    rw [h] at q; cases q
theorem SA.new {A : Ah} {H : Hp} {p : Addr} {o : Ob} {u : HO} (s : SA K A H) (h : H p = none) (n : ObR K (upd H p u) p o) : SA K (put A p o) (upd H p u) := fun b ob e => by
  by_cases hb : b = p
  · subst hb; rw [put_same] at e; cases e; exact n
  · rw [put_ne hb] at e
    exact (s b ob e).move (.new h) (upd_ne hb)
/-- a new object that is not told of -/
theorem SA.newU {A : Ah} {H : Hp} {p : Addr} {u : HO} (s : SA K A H) (h : H p = none) : SA K A (upd H p u) := fun b ob e =>
  (s b ob e).move (.new h) (upd_ne fun z => by
    subst z
    obtain ⟨u, q⟩ := (s _ ob e).there
    rw [h] at q; cases q)
theorem SA.write {A : Ah} {H : Hp} {p : Addr} {o : Ob} {u : HO} (s : SA K A H) (h : Mut (H p)) (n : ObR K (upd H p u) p o) : SA K (put A p o) (upd H p u) := fun b ob e => by
  by_cases hb : b = p
  · subst hb; rw [put_same] at e; cases e; exact n
  · rw [put_ne hb] at e
    exact (s b ob e).move (.write h) (upd_ne hb)

/-- slots -/
abbrev Sl := List (Option Vl)
structure SS (K : PySem.W.Frag) (H : Hp) (S : Sl) (σ : L2.St) : Prop where
  len : S.length = σ.length
  get : ∀ (i : Nat) (x : Vl), S[i]? = some (some x) → ∃ v, σ[i]? = some (some v) ∧ Re K H x v
theorem SS.kw {H H' : Hp} {S : Sl} {σ : L2.St} (k : Kw H H') (s : SS K H S σ) : SS K H' S σ := ⟨s.len, fun i x e => by
  obtain ⟨v, h, r⟩ := s.get i x e
  exact ⟨v, h, r.kw k⟩⟩
theorem SS.keep {H H' : Hp} {S : Sl} {σ : L2.St} (k : Keep H H') (s : SS K H S σ) : SS K H' S σ := s.kw k.w
theorem SS.set {H : Hp} {S : Sl} {σ : L2.St} {x : Vl} {v : V} (s : SS K H S σ) (i : Nat) (r : Re K H x v) : SS K H (S.set i (some x)) (σ.set i (some v)) := ⟨by simp [s.len], fun j y e => by
  by_cases hj : i = j
  · subst hj
    by_cases hi : i < S.length
    · rw [List.getElem?_set_self hi] at e
      cases e
      exact ⟨v, by rw [List.getElem?_set_self (s.len ▸ hi)], r⟩
    · rw [List.getElem?_eq_none (by simpa using hi)] at e; cases e
  · rw [List.getElem?_set_ne hj] at e ⊢
    exact s.get j y e⟩
theorem SS.setNone {H : Hp} {S : Sl} {σ : L2.St} (s : SS K H S σ) (i : Nat) : SS K H (S.set i none) (σ.set i none) := ⟨by simp [s.len], fun j y e => by
  by_cases hj : i = j
  · subst hj
    by_cases hi : i < S.length
    · rw [List.getElem?_set_self hi] at e; cases e
    · rw [List.getElem?_eq_none (by simpa using hi)] at e; cases e
  · rw [List.getElem?_set_ne hj] at e ⊢
    exact s.get j y e⟩

/-- an exception in the air -/
def Xr (K : PySem.W.Frag) (H : Hp) (x : Xv) (cls : Value) (d : Option Addr) : Prop :=
  (cls = clsV K x.C ∧ ∃ c, clsV K x.C = .ref c) ∧ ((d = none ∧ x.ns = [] ∧ Rl K H x.xs []) ∨ ∃ dd gs, d = some dd ∧ H dd = some (.xd gs) ∧ gs.map (·.1) = x.ns ∧ Rl K H x.xs (gs.map (·.2)))
theorem Xr.keep {H H' : Hp} (k : Keep H H') {x : Xv} {cls : Value} {d : Option Addr} (h : Xr K H x cls d) : Xr K H' x cls d := by
  obtain ⟨e, h⟩ := h
  refine ⟨e, ?_⟩
  rcases h with ⟨e1, e2, r⟩ | ⟨dd, gs, e1, e2, e3, r⟩
  · exact .inl ⟨e1, e2, r.keep k⟩
  · exact .inr ⟨dd, gs, e1, k.xd _ _ e2, e3, r.keep k⟩

/-! ### transformers and judgements -/
abbrev QE := Vl → Ah → Prop
abbrev EX := Xv → Ah → Prop
abbrev WE := Sl → Ah → QE → EX → Prop
abbrev WT := Sl → Ah → (Bool → Ah → Prop) → EX → Prop
abbrev WA := Sl → Ah → (List Vl → Ah → Prop) → EX → Prop
abbrev WF := List Vl → Ah → QE → EX → Prop
structure Es where
  nx : Sl → Ah → Prop
  rt : QE
  bk : Sl → Ah → Prop := fun _ _ => False
  ct : Sl → Ah → Prop := fun _ _ => False
  ex : Xv → Sl → Ah → Prop := fun _ _ _ => False
abbrev WS := Es → Sl → Ah → Prop

/-- a wish of plain values, as one of the layer -/
def QL (K : PySem.W.Frag) (H : Hp) (Qa : QE) (Q : VK) : Prop := ∀ x A' v H', Re K H' x v → SA K A' H' → Keep H H' → Qa x A' → Q v H'
def QLB (K : PySem.W.Frag) (H : Hp) (Qa : Bool → Ah → Prop) (Q : Bool → Hp → Prop) : Prop := ∀ b A' H', SA K A' H' → Keep H H' → Qa b A' → Q b H'
def QLA (K : PySem.W.Frag) (H : Hp) (Qa : List Vl → Ah → Prop) (Q : List V → Hp → Prop) : Prop := ∀ xs A' vs H', Rl K H' xs vs → SA K A' H' → Keep H H' → Qa xs A' → Q vs H'
def QX (K : PySem.W.Frag) (H : Hp) (Ea : EX) (E : XK) : Prop := ∀ x A' cls d H', Xr K H' x cls d → SA K A' H' → Keep H H' → Ea x A' → E cls d H'
def QS (K : PySem.W.Frag) (H : Hp) (Na : Sl → Ah → Prop) (N : L2.St → Hp → Prop) : Prop := ∀ S A' σ H', SS K H' S σ → SA K A' H' → Keep H H' → Na S A' → N σ H'
def QXS (K : PySem.W.Frag) (H : Hp) (Ea : Xv → Sl → Ah → Prop) (E : WX) : Prop := ∀ x S A' cls d σ H', Xr K H' x cls d → SS K H' S σ → SA K A' H' → Keep H H' → Ea x S A' → E cls d σ H'

def LE (K : PySem.W.Frag) (W : WX) (w : WE) : TE := fun σ H Q => ∃ S A Qa Ea, SS K H S σ ∧ SA K A H ∧ QL K H Qa Q ∧ QX K H Ea (fun c d H' => W c d σ H') ∧ w S A Qa Ea
def LT (K : PySem.W.Frag) (W : WX) (w : WT) : TT := fun σ H Q => ∃ S A Qa Ea, SS K H S σ ∧ SA K A H ∧ QLB K H Qa Q ∧ QX K H Ea (fun c d H' => W c d σ H') ∧ w S A Qa Ea
def LA (K : PySem.W.Frag) (W : WX) (w : WA) : TA := fun σ H Q => ∃ S A Qa Ea, SS K H S σ ∧ SA K A H ∧ QLA K H Qa Q ∧ QX K H Ea (fun c d H' => W c d σ H') ∧ w S A Qa Ea
structure QD (K : PySem.W.Frag) (W : WX) (H : Hp) (Da : Es) (D : Ends) : Prop where
  nx : QS K H Da.nx D.nx
  rt : QL K H Da.rt D.rt
  bk : QS K H Da.bk D.bk
  ct : QS K H Da.ct D.ct
  ex : QXS K H Da.ex W
def LS (K : PySem.W.Frag) (W : WX) (w : WS) : TS := fun D σ H => ∃ S A Da, SS K H S σ ∧ SA K A H ∧ QD K W H Da D ∧ w Da S A
/-- a def's promise -/
def LF (K : PySem.W.Frag) (n : Nat) (w : WF) : Sp := fun vs H Q E => ∃ xs A Qa Ea, Rl K H xs vs ∧ xs.length = n ∧ SA K A H ∧ QL K H Qa Q ∧ QX K H Ea E ∧ w xs A Qa Ea

theorem QL.keep {H H1 : Hp} {Qa : QE} {Q : VK} (q : QL K H Qa Q) (k : Keep H H1) : QL K H1 Qa Q := fun x A' v H' r s kk h => q x A' v H' r s (k.trans kk) h
theorem QLB.keep {H H1 : Hp} {Qa : Bool → Ah → Prop} {Q : Bool → Hp → Prop} (q : QLB K H Qa Q) (k : Keep H H1) : QLB K H1 Qa Q := fun x A' H' s kk h => q x A' H' s (k.trans kk) h
theorem QLA.keep {H H1 : Hp} {Qa : List Vl → Ah → Prop} {Q : List V → Hp → Prop} (q : QLA K H Qa Q) (k : Keep H H1) : QLA K H1 Qa Q := fun x A' v H' r s kk h => q x A' v H' r s (k.trans kk) h
theorem QX.keep {H H1 : Hp} {Ea : EX} {E : XK} (q : QX K H Ea E) (k : Keep H H1) : QX K H1 Ea E := fun x A' c d H' r s kk h => q x A' c d H' r s (k.trans kk) h
theorem QS.keep {H H1 : Hp} {Na : Sl → Ah → Prop} {N : L2.St → Hp → Prop} (q : QS K H Na N) (k : Keep H H1) : QS K H1 Na N := fun S A' σ H' r s kk h => q S A' σ H' r s (k.trans kk) h
theorem QXS.keep {H H1 : Hp} {Ea : Xv → Sl → Ah → Prop} {E : WX} (q : QXS K H Ea E) (k : Keep H H1) : QXS K H1 Ea E := fun x S A' c d σ H' r s1 s kk h => q x S A' c d σ H' r s1 s (k.trans kk) h
theorem QD.keep {W : WX} {H H1 : Hp} {Da : Es} {D : Ends} (q : QD K W H Da D) (k : Keep H H1) : QD K W H1 Da D := ⟨q.nx.keep k, q.rt.keep k, q.bk.keep k, q.ct.keep k, q.ex.keep k⟩
/-- an expression's exception, at the slots -/
theorem QXS.at {H : Hp} {Ea : Xv → Sl → Ah → Prop} {W : WX} {S : Sl} {σ : L2.St} (q : QXS K H Ea W) (s : SS K H S σ) : QX K H (fun x A' => Ea x S A') (fun c d H' => W c d σ H') := fun x A' c d H' r sa k h => q x S A' c d σ H' r (s.keep k) sa k h

abbrev AE (X : Cx) (W : WX) (e : Expr) (w : WE) : Prop := PE X e (LE X.K W w)
abbrev AT (X : Cx) (W : WX) (e : Expr) (w : WT) : Prop := PT X e (LT X.K W w)
abbrev AW (X : Cx) (W : WX) (e : Expr) (w : WT) : Prop := PW X e (LT X.K W w)
abbrev AA (X : Cx) (W : WX) (es : List Expr) (w : WA) : Prop := PA X es (LA X.K W w)
abbrev AS (X : Cx) (W : WX) (st : Stmt) (w : WS) : Prop := PS X st (LS X.K W w)
abbrev ASs (X : Cx) (W : WX) (st : List Stmt) (w : WS) : Prop := PSs X st (LS X.K W w)

section
variable {X : Cx}
theorem pe_imp {e : Expr} {t t' : TE} (h : PE X e t) (i : ∀ σ H Q, t' σ H Q → t σ H Q) : PE X e t' := ⟨fun pins s σ H Q I w => h.run pins s σ H Q I (i _ _ _ w)⟩
theorem pt_imp {e : Expr} {t t' : TT} (h : PT X e t) (i : ∀ σ H Q, t' σ H Q → t σ H Q) : PT X e t' := ⟨fun pins s σ H Q I w => h.run pins s σ H Q I (i _ _ _ w)⟩
theorem pw_imp {e : Expr} {t t' : TT} (h : PW X e t) (i : ∀ σ H Q, t' σ H Q → t σ H Q) : PW X e t' := ⟨fun wh pins s σ H Q I w => h.run wh pins s σ H Q I (i _ _ _ w)⟩
theorem pa_imp {es : List Expr} {t t' : TA} (h : PA X es t) (i : ∀ σ H Q, t' σ H Q → t σ H Q) : PA X es t' := ⟨fun p pins s σ H Q I w => h.run p pins s σ H Q I (i _ _ _ w)⟩
theorem ps_imp {e : Stmt} {t t' : TS} (h : PS X e t) (i : ∀ D σ H, t' D σ H → t D σ H) : PS X e t' := ⟨fun pins s σ H D I w => h.run pins s σ H D I (i _ _ _ w)⟩
theorem pss_imp {e : List Stmt} {t t' : TS} (h : PSs X e t) (i : ∀ D σ H, t' D σ H → t D σ H) : PSs X e t' := ⟨fun pins s σ H D I w => h.run pins s σ H D I (i _ _ _ w)⟩
/-! ### new tuples, their objects known -/
theorem laidT {pins : List (Addr × Obj)} {σ : L2.St} {H : Hp} {s : Shared} {vs : List V} {us : List Value} (I : Inv X pins σ H s) (r : Vals vs us) (z : vs.length ≤ sizeLine) :
    Inv X pins σ (upd H s.heap.objs.size (.frz (tupO us) (.tup vs))) { s with heap := s.heap.push (tupO us) } :=
  I.laid (t' := s.toks) (fun _ _ e => Heap.get?_push_of_some _ e) (Nat.le_refl _) ⟨Heap.get?_push_size _ rfl, z, us, r, _, Heap.get?_push_size _ rfl, rfl, _, rfl⟩
/-- what a rule gives that makes a tuple -/
def QT (H : Hp) (vs : List V) (Q : VK) : Prop := ∀ p us, H p = none → Q (.ref p) (upd H p (.frz (tupO us) (.tup vs)))
theorem qt_go {pins : List (Addr × Obj)} {σ : L2.St} {H : Hp} {s : Shared} {vs : List V} {us : List Value} {Q : VK} (I : Inv X pins σ H s) (r : Vals vs us) (z : vs.length ≤ sizeLine) (q : QT H vs Q) :
    EP X pins σ Q (.ref s.heap.objs.size) { s with heap := s.heap.push (tupO us) } := ⟨.ref _, _, laidT I r z, rfl, q _ us (I.hok.fresh (Nat.le_refl _))⟩
theorem pe_tupS {es : List Expr} {t : TA} {n : Nat} {pos : Pos} (h : PA X es t) : PE X (.Tuple es n pos) (fun σ H Q => t σ H fun vs H1 => vs.length ≤ sizeLine ∧ QT H1 vs Q) :=
  ⟨fun pins s σ H Q I w => wpAny_Tuple_spliced (thn (h.run pos pins s σ H _ I w) fun us t ⟨vs, H1, J, r, z, q⟩ => ⟨r.length ▸ z, qt_go J r z q⟩)⟩
def rCatS (K : PySem.W.Frag) : R2 := fun x y H Q => ∃ a b vs ws, x = .ref a ∧ y = .ref b ∧ SqT K H a vs ∧ SqT K H b ws ∧ vs.length + ws.length ≤ sizeLine ∧ (vs = [] → Q (.ref b) H) ∧ (vs ≠ [] → ws = [] → Q (.ref a) H) ∧ (vs ≠ [] → ws ≠ [] → QT H (vs ++ ws) Q)
theorem op_catS : OpR X (binaryOp .Add) (rCatS X.K) := by
  intro pins s σ H x y v u Q I rx ry ⟨a, b, vs, ws, ex, ey, ha, hb, z, q0, q1, q2⟩
  subst ex ey
  cases rx; cases ry
  by_cases c : vs = []
  · exact op_catA pins s σ H (.ref a) (.ref b) _ _ Q I rfl rfl ⟨a, b, vs, ws, rfl, rfl, ha, hb, z, q0, fun h => (h c).elim, fun h => (h c).elim⟩
  by_cases d : ws = []
  · exact op_catA pins s σ H (.ref a) (.ref b) _ _ Q I rfl rfl ⟨a, b, vs, ws, rfl, rfl, ha, hb, z, q0, q1, fun _ h => (h d).elim⟩
  obtain ⟨us, r1, p1, _⟩ := I.tuple ha
  obtain ⟨us2, r2, p2, _⟩ := I.tuple hb
  refine HT.cat_tup p1 p2 (fun e => c (r1.nil_iff.mp e)) (fun e => (d (r2.nil_iff.mp e)).elim) (fun _ => ?_) (by rw [← r1.length, ← r2.length]; exact z)
  have := qt_go I (r1.append r2) (by rw [List.length_append]; exact z) (q2 c d)
  unfold tupO at this
  exact this
theorem call_divmodS : CallR X (.builtin "divmod") (fun xs H Q => ∃ i j, xs = [.int i, .int j] ∧ CDiv i j ∧ QT H [.int (i / j), .int (i % j)] Q) := by
  intro pins s σ H xs us Q I r ⟨i, j, ex, ⟨h1, h2⟩, q⟩
  subst ex
  obtain ⟨u, v, rfl, ⟨t, rfl⟩, ⟨t2, rfl⟩⟩ := vals2 r
  refine divmod_int (by omega) ?_ (.inl (PyProof.noPylong_small (by omega)))
  rw [Int.fdiv_eq_ediv_of_nonneg i (by omega), Int.fmod_eq_emod_of_nonneg i (by omega)]
  refine ⟨.ref s.heap.objs.size, _, I.laid (fun _ _ e => Heap.get?_push_of_some _ e) (Nat.le_refl _) (o := .frz (tupO [.int (i / j) s.toks, .int (i % j) (s.toks + 1)]) (.tup [.int (i / j), .int (i % j)])) ⟨Heap.get?_push_size s.heap rfl, ?_, [.int (i / j) s.toks, .int (i % j) (s.toks + 1)], .cons ⟨_, rfl⟩ (.cons ⟨_, rfl⟩ .nil), ?_⟩, rfl, q _ _ (I.hok.fresh (Nat.le_refl _))⟩
  · simp only [List.length_cons, List.length_nil]; rw [sizeLine_eq]; decide
  · exact ⟨_, Heap.get?_push_size s.heap rfl, rfl, 0, rfl⟩
theorem call_tupleS : CallR X (.type "tuple") (fun xs H Q => ∃ p vs, xs = [.ref p] ∧ SqL X.K H p vs ∧ QT H vs Q) := by
  intro pins s σ H xs us Q I r ⟨p, vs, ex, hq, q⟩
  subst ex
  obtain ⟨u, rfl, rx⟩ := vals1 r
  cases rx
  obtain ⟨its, r2, pl, z⟩ := I.list hq
  refine call_tuple_list pl.isList (fun h' kp => ?_) (by rw [List.size_toArray, ← r2.length]; exact z)
  have J : Inv X pins σ H { s with heap := h' } := I.kept (t' := s.toks) kp
  exact qt_go J r2 z q
def rSlN (K : PySem.W.Frag) : V → Option Int → Option Int → Hp → VK → Prop := fun x lo hi H Q => ∃ a vs, x = .ref a ∧ SqT K H a vs ∧
  (HT.sIx vs.length 0 lo = 0 ∧ HT.sIx vs.length vs.length hi = vs.length → Q (.ref a) H) ∧ QT H (cutV vs lo hi) Q
theorem sl_tupS : L2.SlR X (rSlN X.K) := by
  intro pins s σ H x v vl vu lo hi sl Q I rx hs pl pu ⟨a, vs, ex, hx, q1, q2⟩
  subst ex
  by_cases c : HT.sIx vs.length 0 lo = 0 ∧ HT.sIx vs.length vs.length hi = vs.length
  · exact sl_tupA pins s σ H _ v vl vu lo hi sl Q I rx hs pl pu ⟨a, vs, rfl, hx, q1, fun h => (h c).elim⟩
  cases rx
  obtain ⟨us, r, ht, z⟩ := I.tuple hx
  have e : us.toArray.size = vs.length := by rw [List.size_toArray, r.length]
  refine ⟨"tuple", _, PyProof.Rows.slot_tuple_getitem.lookup, ht.typeIs, ?_⟩
  refine HT.getItem_tuple_cut ht hs pl pu (by rw [e]; exact c) ?_ (by rw [e]; exact z)
  rw [e]
  have := qt_go I ((r.drop (HT.sIx vs.length 0 lo)).take (HT.sIx vs.length vs.length hi - HT.sIx vs.length 0 lo)) (Nat.le_trans (cutV_length vs lo hi) z) q2
  unfold tupO at this
  exact this
/-! ### locking, as a step that the program does not take -/
def Gq (Q : VK) : VK := fun v H => Q v H ∨ ∃ d u, H d = some u ∧ Mut (some u) ∧ ∀ od, Q v (upd H d (.frz od u))
theorem gq_ep {pins : List (Addr × Obj)} {σ : L2.St} {Q : VK} {u : Value} {s : Shared} (h : EP X pins σ (Gq Q) u s) : EP X pins σ Q u s := by
  obtain ⟨v, H', I, r, q⟩ := h
  rcases q with q | ⟨d, w, hd, mu, q⟩
  · exact ⟨v, H', I, r, q⟩
  · obtain ⟨od, I1⟩ := I.lock hd mu
    exact ⟨v, _, I1, r, q od⟩
theorem gh {pins : List (Addr × Obj)} {σ : L2.St} {Q : VK} {s : Shared} {c : Sem Value} (h : wpAny (model X.prog X.w) X.A c (EP X pins σ (Gq Q)) X.xe s) : wpAny (model X.prog X.w) X.A c (EP X pins σ Q) X.xe s := thn h fun _ _ q => gq_ep q
theorem pe_gh {e : Expr} {t : TE} (h : PE X e t) : PE X e (fun σ H Q => t σ H (Gq Q)) := ⟨fun pins s σ H Q I w => gh (h.run pins s σ H _ I w)⟩
end
theorem upd_upd {H : Hp} {p : Addr} {o u : HO} : upd (upd H p o) p u = upd H p u := by
  funext b
  by_cases h : b = p
  · subst h; rw [upd_same, upd_same]
  · rw [upd_ne h, upd_ne h, upd_ne h]
section
variable {K : PySem.W.Frag}
theorem QL.gq {H : Hp} {Qa : QE} {Q : VK} (q : QL K H Qa Q) : QL K H Qa (Gq Q) := fun x A' v H' r sa k h => .inl (q x A' v H' r sa k h)
/-- a new list: one that nobody changes, or one that stands in the plain heap -/
inductive Md | F | M
def newL (m : Md) (xs : List Vl) (A : Ah) (Q : QE) : Prop := match m with
  | .F => Q (.lst xs) A
  | .M => ∀ p, A p = none → Q (.ref p) (put A p (.lst xs))
theorem Keep.lock {H : Hp} {p : Addr} {o : HO} {od : Obj} (h : H p = some o) (m : Mut (some o)) : Keep H (upd H p (.frz od o)) := .write (by rw [h]; exact m)
theorem ql_new {A : Ah} {H : Hp} {Qa : QE} {Q : VK} {m : Md} {xs : List Vl} {vs : List V} (q : QL K H Qa Q) (sa : SA K A H) (rl : Rl K H xs vs) (h : newL m xs A Qa) : ∀ p, H p = none → Gq Q (.ref p) (upd H p (.lst vs)) := by
  intro p hp
  have k1 : Keep H (upd H p (.lst vs)) := .new hp
  cases m with
  | M => exact .inl (q _ _ _ _ (by unfold Re; rfl) (sa.new (o := .lst xs) hp ⟨vs, upd_same, rl.keep k1⟩) k1 (h p (sa.fresh hp)))
  | F =>
    refine .inr ⟨p, .lst vs, upd_same, trivial, fun od => ?_⟩
    rw [upd_upd]
    have k2 : Keep H (upd H p (.frz od (.lst vs))) := .new hp
    exact q _ _ _ _ (by unfold Re; exact ⟨p, od, vs, rfl, upd_same, rl.keep k2⟩) (sa.newU hp) k2 h
end
end Rk

set_option Elab.async false
set_option linter.all false
set_option maxRecDepth 100000
set_option maxHeartbeats 4000000
namespace Rk
open PySem PySem.Spec PyProof.Rows L2
/-! ### syntax, by the head of an expression alone -/
section
variable {env : Env} {e o a b t v : Expr} {es : List Expr} {pos : Pos} {kws : List Keyword}
def noSt : Expr → Bool
  | .Starred .. => false
  | _ => true
def noSts : List Expr → Bool
  | [] => true
  | e :: es => noSt e && noSts es
theorem starOf (h : noSt e = true) : starEach (e :: es) env = (false, eval e env) :: starEach es env := by
  cases e <;> first | rfl | cases h
theorem starsOf (h : noSts es = true) : (backTo pos (starEach es env)).any (·.1) = false := by
  induction es with
  | nil => rfl
  | cons e es ih =>
    unfold noSts at h
    rw [Bool.and_eq_true] at h
    rw [starOf h.1]
    show (false || (backTo pos (starEach es env)).any (·.1)) = false
    rw [ih h.2]; rfl
theorem star1 (h : noSt a = true) : starEach [a] env = [(false, eval a env)] := starOf h
theorem star2 (h : noSts [a, b] = true) : starEach [a, b] env = [(false, eval a env), (false, eval b env)] := by
  unfold noSts noSts noSts at h
  simp only [Bool.and_true, Bool.and_eq_true] at h
  rw [starOf h.1, starOf h.2]; rfl
theorem fewOf (h : (noSts es && decide (es.length < 29)) = true) : ((backTo pos (starEach es env)).all (fun x => !x.1) && (backToKw pos (keywordEach [] env)).all (fun x => x.1.isSome)
      && decide (es.length + ([] : List Keyword).length + (if ([] : List Keyword).isEmpty then 0 else 1) < 30)) = true := by
  rw [Bool.and_eq_true] at h
  have h2 := of_decide_eq_true h.2
  have h3 : (backTo pos (starEach es env)).all (fun x => !x.1) = true := by
    have := starsOf (env := env) (pos := pos) h.1
    rw [List.all_eq_not_any_not]
    simpa using this
  rw [h3]
  simp only [keywordEach, backToKw, List.map_nil, List.all_nil, Bool.and_true, List.length_nil, List.isEmpty_nil, if_true, Bool.true_and]
  exact decide_eq_true (by omega)
def plainT : Expr → Bool
  | .UnaryOp .Not _ _ => false
  | .BoolOp .. => false
  | .IfExp .. => false
  | .Compare .. => false
  | _ => true
theorem trueOf (h : plainT e = true) : ∀ whole, isTrue e env whole = (do let v ← whole; standAt e.pos; holding [v] (truthy v)) := by
  intro w
  cases e with
  | UnaryOp op x p => cases op <;> first | rfl | cases h
  | _ => first | rfl | cases h
def noCmp : Expr → Bool
  | .ListComp .. => false
  | .SetComp .. => false
  | .DictComp .. => false
  | _ => true
theorem swapOf {t : Option Expr} {l : Nat} (h : noCmp e = true) : swapsWith e t l env = pure false := by
  cases e <;> first | rfl | cases h
theorem swap1 {l : Nat} (h : noCmp e = true) : swapsWithSole [t] e l env = pure false := swapOf h
def noTups : Expr → Expr → Bool
  | .Tuple .., .Tuple .. => false
  | .List .., .Tuple .. => false
  | _, _ => true
theorem storesOf (h : noTups t v = true) : swappedStores [t] v env = pure none := by
  cases t <;> first
    | rfl
    | (cases v <;> first | rfl | cases h)
theorem asg1 (h : noSt t = true) : (assignEach [t] env).map (·.2) = [assign t env] := by
  cases t <;> first | rfl | cases h
theorem asgN (h : noSt t = true) : (assignEach (t :: es) env).map (·.2) = assign t env :: (assignEach es env).map (·.2) := by
  cases t <;> first | rfl | cases h
theorem asgLen : (assignEach es env).length = es.length := by
  induction es with
  | nil => rfl
  | cons t es ih => cases t <;> exact congrArg (· + 1) ih
theorem asgLenOf {n : Nat} (h : es.length = n) : (assignEach es env).length = n := asgLen.trans h
theorem asgIdx (h : noSts es = true) : (assignEach es env).findIdx? (·.1) = none := by
  have : ∀ x ∈ assignEach es env, x.1 = false := by
    induction es with
    | nil => intro x hx; cases hx
    | cons t es ih =>
      unfold noSts at h
      rw [Bool.and_eq_true] at h
      intro x hx
      have : assignEach (t :: es) env = (false, assign t env) :: assignEach es env := by cases t <;> first | rfl | cases h.1
      rw [this] at hx
      rcases List.mem_cons.mp hx with rfl | hx
      · rfl
      · exact ih h.2 x hx
  rw [List.findIdx?_eq_none_iff]
  intro x hx
  rw [this x hx]
def baseB : Expr → Bool
  | .Call (.Name id _) [] [] _ => id != "super"
  | _ => true
theorem baseOf {n : Str} (h : baseB o = true) : attributeBase o n env (eval o env) = eval o env := by
  unfold attributeBase
  split
  · rename_i id _ _
    have h : (id != "super") = true := h
    rw [h]; rfl
  · rfl
def noSet : Expr → Bool
  | .Set .. => false
  | _ => true
theorem foldOf (h : noSet e = true) : ∀ x, foldedSetIterable e env x = pure x := by
  intro x
  cases e <;> first | rfl | cases h
def noSlc : Expr → Bool
  | .Slice .. => false
  | _ => true
theorem ixOf (h : noSlc e = true) : PlainIx e := by
  intro o i
  cases e <;> first | rfl | cases h
theorem kwsOf : (backToKw pos (keywordEach kws env)).map (·.1) = kws.map fun k => k.1 := by
  induction kws with
  | nil => rfl
  | cons k ks ih => obtain ⟨n, v, p⟩ := k; exact congrArg (n :: ·) ih
theorem kwNames {ks : List Str} (h : kws.filterMap (fun k => k.1) = ks) : (backToKw pos (keywordEach kws env)).filterMap (·.1) = ks := by
  rw [← h]
  have := congrArg (List.filterMap id) (kwsOf (pos := pos) (env := env) (kws := kws))
  simpa [List.filterMap_map] using this
theorem kwAll (h : kws.all (fun k => k.1.isSome) = true) : (backToKw pos (keywordEach kws env)).all (·.1.isSome) = true := by
  have := congrArg (List.all · Option.isSome) (kwsOf (pos := pos) (env := env) (kws := kws))
  simp only [List.all_map] at this
  exact this.trans h
theorem kwPl (h : noSts es = true) (g : kws.all (fun k => k.1.isSome) = true) : ((backTo pos (starEach es env)).any (·.1) || (backToKw pos (keywordEach kws env)).any (·.1.isNone)) = false := by
  rw [starsOf h, Bool.false_or]
  have := kwAll (env := env) (pos := pos) g
  rw [List.any_eq_false]
  intro x hx
  have q := List.all_eq_true.mp this x hx
  cases hn : x.1 with
  | none => rw [hn] at q; cases q
  | some _ => simp
theorem asgSub {i : Expr} (h : noSlc i = true) : ∀ v, assign (.Subscript o i pos) env v = (do
      let ov ← holding [v] (eval o env)
      let iv ← holding [v, ov] (eval i env)
      standAt pos
      holding [v, ov, iv] (setItem ov iv v)
      release [v, ov, iv] []) := by
  intro v
  cases i <;> first | rfl | cases h
end
section
variable {X : Cx} {W : WX} {a b c e o : Expr} {es : List Expr} {pos : Pos}

/-! ### names, constants -/
def wVar (i : Nat) : WE := fun S A Q _ => match S[i]? with
  | some (some x) => Q x A
  | _ => False
theorem ae_var {i : Nat} {x : Str} (hN : X.N[i]? = some x) (hv : Vis X.env.scope x) (hd : (x == ("__debug__" : Str)) = false := by decide) (hcd : (x == ("__classdict__" : Str)) = false := by decide) : AE X W (.Name x pos) (wVar i) :=
  pe_imp (pe_var hN hv hd hcd) fun σ H Q ⟨S, A, Qa, Ea, ss, sa, q, _, w⟩ => by
    unfold wVar at w
    split at w
    · rename_i y he
      obtain ⟨v, hv, r⟩ := ss.get _ _ he
      exact ⟨v, hv, q _ _ _ _ r sa .refl w⟩
    · exact w.elim
def wC (x : Vl) : WE := fun _ A Q _ => Q x A
theorem ae_c {x : Vl} {v : V} (h : PE X e (tC v)) (r : ∀ H, Re X.K H x v) : AE X W e (wC x) :=
  pe_imp h fun σ H Q ⟨S, A, Qa, Ea, ss, sa, q, _, w⟩ => q _ _ _ _ (r H) sa .refl w
theorem re_int {K : PySem.W.Frag} {i : Int} (H : Hp) : Re K H (.int i) (.int i) := by unfold Re; rfl
theorem re_bl {K : PySem.W.Frag} {i : Bool} (H : Hp) : Re K H (.bl i) (.bl i) := by unfold Re; rfl
theorem re_non {K : PySem.W.Frag} (H : Hp) : Re K H .non .non := by unfold Re; rfl
theorem re_ref {K : PySem.W.Frag} {a : Addr} (H : Hp) : Re K H (.ref a) (.ref a) := by unfold Re; rfl
theorem re_ty {K : PySem.W.Frag} {n : String} (H : Hp) : Re K H (.ty n) (.ty n) := by unfold Re; rfl
theorem re_str {K : PySem.W.Frag} {s : Str} (h : okS s) (H : Hp) : Re K H (.str s) (.str s) := by unfold Re; exact ⟨rfl, h⟩
theorem re_tup {K : PySem.W.Frag} {H : Hp} {p : Addr} {xs : List Vl} {vs : List V} (h : StT K H p vs) (r : Rl K H xs vs) : Re K H (.tup xs) (.ref p) := by unfold Re; exact ⟨p, vs, rfl, h, r⟩
theorem re_new {K : PySem.W.Frag} {H : Hp} {p : Addr} {xs : List Vl} {vs : List V} {us : List Value} (h : H p = none) (r : Rl K H xs vs) : Re K (upd H p (.frz (tupO us) (.tup vs))) (.tup xs) (.ref p) := re_tup .new (r.keep (.new h))
/-- a text's size within the line, by computation -/
def okB (s : Str) : Bool := decide (s.length ≤ 16777216) && PyData.strOk s
theorem okS_of {s : Str} (h : okB s = true) : okS s := by
  unfold okB at h
  rw [Bool.and_eq_true] at h
  exact ⟨by rw [sizeLine_eq]; exact of_decide_eq_true h.1, h.2⟩
theorem ae_int {i : Int} {k : Nat} : AE X W (.Constant (.int i) k pos) (wC (.int i)) := ae_c pe_int re_int
theorem ae_bl {i : Bool} {k : Nat} : AE X W (.Constant (.bool i) k pos) (wC (.bl i)) := ae_c pe_bl re_bl
theorem ae_non {k : Nat} : AE X W (.Constant .none k pos) (wC .non) := ae_c pe_non re_non
theorem ae_str {s : Str} {k : Nat} (h : okB s = true := by decide +kernel) : AE X W (.Constant (.str s) k pos) (wC (.str s)) := ae_c pe_str (re_str (okS_of h))
/-- a module's name -/
theorem ae_glob {x : Str} {y : Vl} {v : V} {u : Value} (hg : Gl X x) (hm : X.mg x = some u) (r : RelV v u) (r2 : ∀ H, Re X.K H y v) (hd : (x == ("__debug__" : Str)) = false := by decide) : AE X W (.Name x pos) (wC y) := ae_c (pe_glob hg hm r hd) r2
/-- a built-in's name as a value -/
theorem ae_bltn {x : Str} {y : Vl} {v : V} {u : Value} (hg : Gl X x) (hm : X.mg x = none) (hv : bootBuiltins x = some u) (r : RelV v u) (r2 : ∀ H, Re X.K H y v) (hn : x ≠ "__name__" := by decide) (hd : (x == ("__debug__" : Str)) = false := by decide) : AE X W (.Name x pos) (wC y) := ae_c (pe_bltn hg hm hv r hn hd) r2

/-! ### operators by values -/
abbrev F2 := Vl → Vl → Ah → QE → Prop
def Sim2 (K : PySem.W.Frag) (r : R2) (f : F2) : Prop := ∀ {x y : Vl} {v u : V} {A : Ah} {H : Hp} {Q : VK} {Qa : QE}, Re K H x v → Re K H y u → SA K A H → QL K H Qa Q → f x y A Qa → r v u H Q
def wBin (f : F2) (wa wb : WE) : WE := fun S A Q E => wa S A (fun x A1 => wb S A1 (fun y A2 => f x y A2 Q) E) E
theorem le_two {K : PySem.W.Frag} {r : R2} {f : F2} {wa wb : WE} (hs : Sim2 K r f) {σ : L2.St} {H : Hp} {Q : VK} (h : LE K W (wBin f wa wb) σ H Q) : tOp r (LE K W wa) (LE K W wb) σ H Q := by
  obtain ⟨S, A, Qa, Ea, ss, sa, q, qx, w⟩ := h
  refine ⟨S, A, _, Ea, ss, sa, ?_, qx, w⟩
  intro x A1 v H1 r1 sa1 k1 w1
  refine ⟨S, A1, _, Ea, ss.keep k1, sa1, ?_, qx.keep k1, w1⟩
  intro y A2 u H2 r2 sa2 k2 w2
  exact hs (r1.keep k2) r2 sa2 (q.keep (k1.trans k2)) w2
theorem ae_bin {op : Operator} {r : R2} {f : F2} {wa wb : WE} (ho : OpR X (binaryOp op) r) (hs : Sim2 X.K r f) (ha : AE X W a wa) (hb : AE X W b wb) : AE X W (.BinOp a op b pos) (wBin f wa wb) :=
  pe_imp (pe_op ho ha hb) fun _ _ _ h => le_two hs h
theorem ae_cmp {op : CmpOp} {r : R2} {f : F2} {wa wb : WE} (ho : OpR X (compareOp op) r) (hs : Sim2 X.K r f) (ha : AE X W a wa) (hb : AE X W b wb) (hm : behindInMarks op b = false := by first | rfl | exact nomark _) : AE X W (.Compare a [op] [b] pos) (wBin f wa wb) :=
  pe_imp (pe_cmpR ho ha hb hm) fun _ _ _ h => le_two hs h
def wUn (f : Vl → Ah → QE → Prop) (wa : WE) : WE := fun S A Q E => wa S A (fun x A1 => f x A1 Q) E
def Sim1 (K : PySem.W.Frag) (r : V → Hp → VK → Prop) (f : Vl → Ah → QE → Prop) : Prop := ∀ {x : Vl} {v : V} {A : Ah} {H : Hp} {Q : VK} {Qa : QE}, Re K H x v → SA K A H → QL K H Qa Q → f x A Qa → r v H Q
theorem ae_un {op : UnaryOp} {r : V → Hp → VK → Prop} {f : Vl → Ah → QE → Prop} {wa : WE} (ho : UnR X (unaryOp op) r) (hs : Sim1 X.K r f) (ha : AE X W a wa) : AE X W (.UnaryOp op a pos) (wUn f wa) :=
  pe_imp (pe_un ho ha) fun σ H Q ⟨S, A, Qa, Ea, ss, sa, q, qx, w⟩ => ⟨S, A, _, Ea, ss, sa, fun x A1 v H1 r1 sa1 k1 w1 => hs r1 sa1 (q.keep k1) w1, qx, w⟩
/-- a bool as a test -/
def wB (w : WE) : WT := fun S A Q E => w S A (fun x A1 => match x with
  | .bl k => Q k A1
  | _ => False) E
theorem lb_of {K : PySem.W.Frag} {w : WE} {σ : L2.St} {H : Hp} {Q : Bool → Hp → Prop} (h : LT K W (wB w) σ H Q) : LE K W w σ H fun x H1 => ∃ k, x = .bl k ∧ Q k H1 := by
  obtain ⟨S, A, Qa, Ea, ss, sa, q, qx, w⟩ := h
  refine ⟨S, A, _, Ea, ss, sa, ?_, qx, w⟩
  intro x A1 v H1 r1 sa1 k1 w1
  cases x with
  | bl k => unfold Re at r1; exact ⟨k, r1, q _ _ _ sa1 k1 w1⟩
  | _ => exact w1.elim
theorem at_cmp {op : CmpOp} {r : R2} {f : F2} {wa wb : WE} (ho : OpR X (compareOp op) r) (hs : Sim2 X.K r f) (ha : AE X W a wa) (hb : AE X W b wb) (hm : behindInMarks op b = false := by first | rfl | exact nomark _) : AT X W (.Compare a [op] [b] pos) (wB (wBin f wa wb)) :=
  pt_imp (pt_cmpR ho ha hb hm) fun _ _ _ h => le_two hs (lb_of h)
/-- a < b < c -/
def wChain (f g : F2) (wa wb wc : WE) : WE := fun S A Q E => wa S A (fun x A1 => wb S A1 (fun y A2 => f x y A2 fun z A3 => match z with
  | .bl true => wc S A3 (fun t A4 => g y t A4 Q) E
  | .bl false => Q (.bl false) A3
  | _ => False) E) E
theorem le_chain {K : PySem.W.Frag} {r r' : R2} {f g : F2} {wa wb wc : WE} (hs : Sim2 K r f) (hs' : Sim2 K r' g) {σ : L2.St} {H : Hp} {Q : VK} (h : LE K W (wChain f g wa wb wc) σ H Q) : tChain r r' (LE K W wa) (LE K W wb) (LE K W wc) σ H Q := by
  obtain ⟨S, A, Qa, Ea, ss, sa, q, qx, w⟩ := h
  refine ⟨S, A, _, Ea, ss, sa, ?_, qx, w⟩
  intro x A1 v H1 r1 sa1 k1 w1
  refine ⟨S, A1, _, Ea, ss.keep k1, sa1, ?_, qx.keep k1, w1⟩
  intro y A2 u H2 r2 sa2 k2 w2
  refine hs (r1.keep k2) r2 sa2 ?_ w2
  intro z A3 t H3 r3 sa3 k3 w3
  cases z with
  | bl k =>
    unfold Re at r3
    cases k with
    | true =>
      refine ⟨true, r3, ?_⟩
      rw [if_pos rfl]
      refine ⟨S, A3, _, Ea, ss.keep ((k1.trans k2).trans k3), sa3, ?_, qx.keep ((k1.trans k2).trans k3), w3⟩
      intro t A4 s H4 r4 sa4 k4 w4
      exact hs' (r2.keep (k3.trans k4)) r4 sa4 (q.keep (((k1.trans k2).trans k3).trans k4)) w4
    | false =>
      refine ⟨false, r3, ?_⟩
      rw [if_neg Bool.false_ne_true]
      exact q _ _ _ _ (re_bl _) sa3 ((k1.trans k2).trans k3) w3
  | _ => exact w3.elim
theorem ae_chain {op op' : CmpOp} {r r' : R2} {f g : F2} {wa wb wc : WE} (ho : OpR X (compareOp op) r) (hs : Sim2 X.K r f) (ho' : OpR X (compareOp op') r') (hs' : Sim2 X.K r' g) (ha : AE X W a wa) (hb : AE X W b wb) (hc : AE X W c wc)
    (hm : lastMarks [op, op'] [b, c] = false := by rfl) : AE X W (.Compare a [op, op'] [b, c] pos) (wChain f g wa wb wc) :=
  pe_imp (pe_chain ho ho' ha hb hc hm) fun _ _ _ h => le_chain hs hs' h
theorem at_chain {op op' : CmpOp} {r r' : R2} {f g : F2} {wa wb wc : WE} (ho : OpR X (compareOp op) r) (hs : Sim2 X.K r f) (ho' : OpR X (compareOp op') r') (hs' : Sim2 X.K r' g) (ha : AE X W a wa) (hb : AE X W b wb) (hc : AE X W c wc)
    (hm : lastMarks [op, op'] [b, c] = false := by rfl) : AT X W (.Compare a [op, op'] [b, c] pos) (wB (wChain f g wa wb wc)) :=
  pt_imp (pt_chain ho ho' ha hb hc hm) fun _ _ _ h => le_chain hs hs' (lb_of h)

/-! ### truth, and, or, not -/
def truR (o : Option Ob) (P : Bool → Prop) : Prop := match o with
  | some (.lst xs) => P (!xs.isEmpty)
  | _ => False
def truA (x : Vl) (A : Ah) (P : Bool → Prop) : Prop := match x with
  | .non => P false
  | .bl k => P k
  | .int i => P (i != 0)
  | .str s => P ((s.length : Int) != 0)
  | .tup xs => P (!xs.isEmpty)
  | .lst xs => P (!xs.isEmpty)
  | .ref p => truR (A p) P
  | _ => False
theorem Rl.isEmpty {K : PySem.W.Frag} {H : Hp} {xs : List Vl} {vs : List V} (h : Rl K H xs vs) : (!xs.isEmpty) = !vs.isEmpty := by
  cases xs with
  | nil => rw [h.nil_inv]; rfl
  | cons x xs => obtain ⟨v, ws, rfl, _, _⟩ := h.cons_inv; rfl
theorem truA_ok {K : PySem.W.Frag} {x : Vl} {v : V} {A : Ah} {H : Hp} {P : Bool → Prop} (r : Re K H x v) (sa : SA K A H) (h : truA x A P) : ∃ k, TruV K v H k ∧ P k := by
  cases x with
  | non => unfold Re at r; subst r; exact ⟨_, rfl, h⟩
  | bl k => unfold Re at r; subst r; exact ⟨_, rfl, h⟩
  | int k => unfold Re at r; subst r; exact ⟨_, rfl, h⟩
  | str k => unfold Re at r; obtain ⟨rfl, hz, _⟩ := r; exact ⟨_, ⟨hz, rfl⟩, h⟩
  | tup xs => unfold Re at r; obtain ⟨p, vs, rfl, st, rl⟩ := r; exact ⟨_, .inr (.inl ⟨vs, st.1, rfl⟩), by rw [← rl.isEmpty]; exact h⟩
  | lst xs => unfold Re at r; obtain ⟨p, o, vs, rfl, st, rl⟩ := r; exact ⟨_, .inl ⟨vs, .inl (.inr ⟨o, st⟩), rfl⟩, by rw [← rl.isEmpty]; exact h⟩
  | ty n => exact h.elim
  | dct _ _ => exact h.elim
  | wtp _ => exact h.elim
  | gl _ => exact h.elim
  | xv _ _ _ _ _ => exact h.elim
  | ref p =>
    unfold Re at r; subst r
    have h : truR (A p) P := h
    unfold truR at h
    split at h
    · rename_i xs e
      obtain ⟨vs, hv, rl⟩ := sa _ _ e
      exact ⟨_, .inl ⟨vs, .of hv, rfl⟩, by rw [← rl.isEmpty]; exact h⟩
    · exact h.elim
def wTru (w : WE) : WT := fun S A Q E => w S A (fun x A1 => truA x A1 fun k => Q k A1) E
theorem at_tru {w : WE} (h : AE X W e w) (he : ∀ whole, isTrue e X.env whole = (do let v ← whole; standAt e.pos; holding [v] (truthy v)) := by exact trueOf rfl) : AT X W e (wTru w) :=
  pt_imp (pt_truth h he) fun σ H Q ⟨S, A, Qa, Ea, ss, sa, q, qx, w⟩ => ⟨S, A, _, Ea, ss, sa, fun x A1 v H1 r1 sa1 k1 w1 => by
    obtain ⟨k, t, p⟩ := truA_ok r1 sa1 w1
    exact ⟨k, t, q _ _ _ sa1 k1 p⟩, qx, w⟩
def wNot (t : WT) : WT := fun S A Q E => t S A (fun k A1 => Q (!k) A1) E
theorem at_not {t : WT} (h : AT X W a t) : AT X W (.UnaryOp .Not a pos) (wNot t) :=
  pt_imp (pt_not h) fun σ H Q ⟨S, A, Qa, Ea, ss, sa, q, qx, w⟩ => ⟨S, A, _, Ea, ss, sa, fun k A1 H1 sa1 k1 w1 => q _ _ _ sa1 k1 w1, qx, w⟩
def wAnd (t u : WT) : WT := fun S A Q E => t S A (fun k A1 => if k = true then u S A1 Q E else Q false A1) E
def wOr (t u : WT) : WT := fun S A Q E => t S A (fun k A1 => if k = true then Q true A1 else u S A1 Q E) E
theorem aw_and1 {t : WT} (h : AT X W a t) : AW X W (.BoolOp .And [a] pos) t := pw_and1 h
theorem aw_or1 {t : WT} (h : AT X W a t) : AW X W (.BoolOp .Or [a] pos) t := pw_or1 h
theorem aw_and {t u : WT} (h : AT X W a t) (g : AW X W (.BoolOp .And (b :: es) pos) u) : AW X W (.BoolOp .And (a :: b :: es) pos) (wAnd t u) :=
  pw_imp (pw_and h g) fun σ H Q ⟨S, A, Qa, Ea, ss, sa, q, qx, w⟩ => ⟨S, A, _, Ea, ss, sa, fun k A1 H1 sa1 k1 w1 => by
    cases k with
    | true => rw [if_pos rfl] at w1 ⊢; exact ⟨S, A1, Qa, Ea, ss.keep k1, sa1, q.keep k1, qx.keep k1, w1⟩
    | false => rw [if_neg Bool.false_ne_true] at w1 ⊢; exact q _ _ _ sa1 k1 w1, qx, w⟩
theorem aw_or {t u : WT} (h : AT X W a t) (g : AW X W (.BoolOp .Or (b :: es) pos) u) : AW X W (.BoolOp .Or (a :: b :: es) pos) (wOr t u) :=
  pw_imp (pw_or h g) fun σ H Q ⟨S, A, Qa, Ea, ss, sa, q, qx, w⟩ => ⟨S, A, _, Ea, ss, sa, fun k A1 H1 sa1 k1 w1 => by
    cases k with
    | true => rw [if_pos rfl] at w1 ⊢; exact q _ _ _ sa1 k1 w1
    | false => rw [if_neg Bool.false_ne_true] at w1 ⊢; exact ⟨S, A1, Qa, Ea, ss.keep k1, sa1, q.keep k1, qx.keep k1, w1⟩, qx, w⟩
theorem at_w {t : WT} (h : AW X W e t) : AT X W e t := h.pt
/-- as values -/
def wNotV (w : WE) : WE := fun S A Q E => w S A (fun x A1 => match x with
  | .bl k => Q (.bl (!k)) A1
  | _ => False) E
theorem ae_not {w : WE} (h : AE X W a w) : AE X W (.UnaryOp .Not a pos) (wNotV w) :=
  pe_imp (pe_not h) fun σ H Q ⟨S, A, Qa, Ea, ss, sa, q, qx, w⟩ => ⟨S, A, _, Ea, ss, sa, fun x A1 v H1 r1 sa1 k1 w1 => by
    cases x with
    | bl k => unfold Re at r1; exact ⟨k, r1, q _ _ _ _ (re_bl _) sa1 k1 w1⟩
    | _ => exact w1.elim, qx, w⟩
def wAndV (wa wb : WE) : WE := fun S A Q E => wa S A (fun x A1 => match x with
  | .bl true => wb S A1 Q E
  | .bl false => Q (.bl false) A1
  | _ => False) E
def wOrV (wa wb : WE) : WE := fun S A Q E => wa S A (fun x A1 => match x with
  | .bl false => wb S A1 Q E
  | .bl true => Q (.bl true) A1
  | _ => False) E
theorem ae_one {op : BoolOp} {w : WE} (h : AE X W a w) : AE X W (.BoolOp op [a] pos) w := pe_one h
theorem ae_and {wa wb : WE} (h : AE X W a wa) (g : AE X W (.BoolOp .And (b :: es) pos) wb) : AE X W (.BoolOp .And (a :: b :: es) pos) (wAndV wa wb) :=
  pe_imp (pe_and h g) fun σ H Q ⟨S, A, Qa, Ea, ss, sa, q, qx, w⟩ => ⟨S, A, _, Ea, ss, sa, fun x A1 v H1 r1 sa1 k1 w1 => by
    cases x with
    | bl k =>
      unfold Re at r1
      cases k with
      | true => exact ⟨true, r1, by rw [if_pos rfl]; exact ⟨S, A1, Qa, Ea, ss.keep k1, sa1, q.keep k1, qx.keep k1, w1⟩⟩
      | false => exact ⟨false, r1, by rw [if_neg Bool.false_ne_true]; exact q _ _ _ _ (re_bl _) sa1 k1 w1⟩
    | _ => exact w1.elim, qx, w⟩
theorem ae_or {wa wb : WE} (h : AE X W a wa) (g : AE X W (.BoolOp .Or (b :: es) pos) wb) : AE X W (.BoolOp .Or (a :: b :: es) pos) (wOrV wa wb) :=
  pe_imp (pe_or h g) fun σ H Q ⟨S, A, Qa, Ea, ss, sa, q, qx, w⟩ => ⟨S, A, _, Ea, ss, sa, fun x A1 v H1 r1 sa1 k1 w1 => by
    cases x with
    | bl k =>
      unfold Re at r1
      cases k with
      | false => exact ⟨false, r1, by rw [if_neg Bool.false_ne_true]; exact ⟨S, A1, Qa, Ea, ss.keep k1, sa1, q.keep k1, qx.keep k1, w1⟩⟩
      | true => exact ⟨true, r1, by rw [if_pos rfl]; exact q _ _ _ _ (re_bl _) sa1 k1 w1⟩
    | _ => exact w1.elim, qx, w⟩
def wIf (t : WT) (wa wb : WE) : WE := fun S A Q E => t S A (fun k A1 => if k = true then wa S A1 Q E else wb S A1 Q E) E
theorem ae_if {t : WT} {wa wb : WE} (ht : AT X W c t) (h : AE X W a wa) (g : AE X W b wb) : AE X W (.IfExp c a b pos) (wIf t wa wb) :=
  pe_imp (pe_ifExp ht h g) fun σ H Q ⟨S, A, Qa, Ea, ss, sa, q, qx, w⟩ => ⟨S, A, _, Ea, ss, sa, fun k A1 H1 sa1 k1 w1 => by
    cases k with
    | true => rw [if_pos rfl] at w1 ⊢; exact ⟨S, A1, Qa, Ea, ss.keep k1, sa1, q.keep k1, qx.keep k1, w1⟩
    | false => rw [if_neg Bool.false_ne_true] at w1 ⊢; exact ⟨S, A1, Qa, Ea, ss.keep k1, sa1, q.keep k1, qx.keep k1, w1⟩, qx, w⟩

/-! ### arguments, displays -/
def wNil : WA := fun _ A Q _ => Q [] A
def wCons (w : WE) (r : WA) : WA := fun S A Q E => w S A (fun x A1 => r S A1 (fun xs A2 => Q (x :: xs) A2) E) E
theorem aa_nil : AA X W [] wNil := pa_imp pa_nil fun σ H Q ⟨S, A, Qa, Ea, ss, sa, q, qx, w⟩ => q _ _ _ _ .nil sa .refl w
theorem aa_cons {w : WE} {r : WA} (h : AE X W e w) (g : AA X W es r) (hs : starEach (e :: es) X.env = (false, eval e X.env) :: starEach es X.env := by exact starOf rfl) : AA X W (e :: es) (wCons w r) :=
  pa_imp (pa_cons h g hs) fun σ H Q ⟨S, A, Qa, Ea, ss, sa, q, qx, w⟩ => ⟨S, A, _, Ea, ss, sa, fun x A1 v H1 r1 sa1 k1 w1 =>
    ⟨S, A1, _, Ea, ss.keep k1, sa1, fun xs A2 vs H2 r2 sa2 k2 w2 => q _ _ _ _ (.cons (r1.keep k2) r2) sa2 (k1.trans k2) w2, qx.keep k1, w1⟩, qx, w⟩
def wTup (wa : WA) : WE := fun S A Q E => wa S A (fun xs A1 => xs.length ≤ sizeLine ∧ Q (.tup xs) A1) E
theorem ae_tup {wa : WA} {x1 : Nat} (h : AA X W es wa) : AE X W (.Tuple es x1 pos) (wTup wa) :=
  pe_imp (pe_tupS h) fun σ H Q ⟨S, A, Qa, Ea, ss, sa, q, qx, w⟩ => ⟨S, A, _, Ea, ss, sa, fun xs A1 vs H1 r1 sa1 k1 w1 =>
    ⟨by rw [← r1.length]; exact w1.1, fun p us hp => q _ _ _ _ (re_new hp r1) (sa1.newU hp) (k1.trans (.new hp)) w1.2⟩, qx, w⟩
def wLst (m : Md) (wa : WA) : WE := fun S A Q E => wa S A (fun xs A1 => xs.length ≤ sizeLine ∧ newL m xs A1 Q) E
theorem obr_lst {K : PySem.W.Frag} {H : Hp} {p : Addr} {xs : List Vl} {vs : List V} (k : Keep H (upd H p (.lst vs))) (r : Rl K H xs vs) : ObR K (upd H p (.lst vs)) p (.lst xs) := ⟨vs, upd_same, r.keep k⟩
theorem ae_lst (m : Md) {wa : WA} (h : AA X W es wa) : AE X W (.List es pos) (wLst m wa) :=
  pe_imp (pe_gh (pe_lst h)) fun σ H Q ⟨S, A, Qa, Ea, ss, sa, q, qx, w⟩ => ⟨S, A, _, Ea, ss, sa, fun xs A1 vs H1 r1 sa1 k1 w1 =>
    ⟨by rw [← r1.length]; exact w1.1, ql_new (q.keep k1) sa1 r1 w1.2⟩, qx, w⟩

/-! ### calls of built-ins -/
abbrev FC := List Vl → Ah → QE → Prop
def SimC (K : PySem.W.Frag) (r : List V → Hp → VK → Prop) (f : FC) : Prop := ∀ {xs : List Vl} {vs : List V} {A : Ah} {H : Hp} {Q : VK} {Qa : QE}, Rl K H xs vs → SA K A H → QL K H Qa Q → f xs A Qa → r vs H Q
def wCB (f : FC) (wa : WA) : WE := fun S A Q E => wa S A (fun xs A1 => f xs A1 Q) E
theorem le_cb {K : PySem.W.Frag} {r : List V → Hp → VK → Prop} {f : FC} {wa : WA} (hs : SimC K r f) {σ : L2.St} {H : Hp} {Q : VK} (h : LE K W (wCB f wa) σ H Q) : tCB r (LA K W wa) σ H Q := by
  obtain ⟨S, A, Qa, Ea, ss, sa, q, qx, w⟩ := h
  exact ⟨S, A, _, Ea, ss, sa, fun xs A1 vs H1 r1 sa1 k1 w1 => hs r1 sa1 (q.keep k1) w1, qx, w⟩
theorem ae_callB {x : Str} {id : String} {p : Pos} {r : List V → Hp → VK → Prop} {f : FC} {wa : WA} (hc : CallR X (.builtin id) r) (hs : SimC X.K r f) (hg : Gl X x) (hm : X.mg x = none) (hv : bootBuiltins x = some (.builtin id)) (ha : AA X W (e :: es) wa) (hn : x ≠ "__name__" := by decide) (hdb : (x == ("__debug__" : Str)) = false := by decide)
    (he : starEach (e :: es) X.env = (false, eval e X.env) :: starEach es X.env := by exact starOf rfl) (hpl : (backTo pos (starEach es X.env)).any (·.1) = false := by exact starsOf rfl) : AE X W (.Call (.Name x p) (e :: es) [] pos) (wCB f wa) :=
  pe_imp (pe_callB hc hg hm hv ha hn hdb he hpl) fun _ _ _ h => le_cb hs h
theorem ae_callTy {x : Str} {T : String} {p : Pos} {r : List V → Hp → VK → Prop} {f : FC} {wa : WA} (hc : CallR X (.type T) r) (hs : SimC X.K r f) (hg : Gl X x) (hm : X.mg x = none) (hv : bootBuiltins x = some (.type T)) (ha : AA X W (e :: es) wa) (hn : x ≠ "__name__" := by decide) (hdb : (x == ("__debug__" : Str)) = false := by decide)
    (he : starEach (e :: es) X.env = (false, eval e X.env) :: starEach es X.env := by exact starOf rfl) (hpl : (backTo pos (starEach es X.env)).any (·.1) = false := by exact starsOf rfl) : AE X W (.Call (.Name x p) (e :: es) [] pos) (wCB f wa) :=
  pe_imp (pe_callTy hc hg hm hv ha hn hdb he hpl) fun _ _ _ h => le_cb hs h

/-! ### subscripts, slices -/
theorem ae_ix {r : R2} {f : F2} {wa wb : WE} (hr : IxR X r) (hs : Sim2 X.K r f) (ha : AE X W a wa) (hb : AE X W b wb) (hp : PlainIx b := by exact ixOf rfl) : AE X W (.Subscript a b pos) (wBin f wa wb) :=
  pe_imp (pe_ix hr ha hb hp) fun _ _ _ h => le_two hs h
abbrev WO := Sl → Ah → (Option Int → Ah → Prop) → EX → Prop
def LO (K : PySem.W.Frag) (W : WX) (w : WO) : TO := fun σ H Q => ∃ S A Qa Ea, SS K H S σ ∧ SA K A H ∧ (∀ i A' H', SA K A' H' → Keep H H' → Qa i A' → Q i H') ∧ QX K H Ea (fun c d H' => W c d σ H') ∧ w S A Qa Ea
abbrev AO (X : Cx) (W : WX) (e : Option Expr) (w : WO) : Prop := PO X e (LO X.K W w)
def wNoP : WO := fun _ A Q _ => Q none A
def wPt (w : WE) : WO := fun S A Q E => w S A (fun x A1 => match x with
  | .int i => Q (some i) A1
  | _ => False) E
theorem po_imp {e : Option Expr} {t t' : TO} (h : PO X e t) (i : ∀ σ H Q, t' σ H Q → t σ H Q) : PO X e t' := ⟨fun pins s σ H Q I w => h.run pins s σ H Q I (i _ _ _ w)⟩
theorem ao_none : AO X W none wNoP := po_imp po_none fun σ H Q ⟨S, A, Qa, Ea, ss, sa, q, qx, w⟩ => q _ _ _ sa .refl w
theorem ao_some {w : WE} (h : AE X W e w) : AO X W (some e) (wPt w) := po_imp (po_some h) fun σ H Q ⟨S, A, Qa, Ea, ss, sa, q, qx, w⟩ => ⟨S, A, _, Ea, ss, sa, fun x A1 v H1 r1 sa1 k1 w1 => by
  cases x with
  | int i => unfold Re at r1; exact ⟨i, r1, q _ _ _ sa1 k1 w1⟩
  | _ => exact w1.elim, qx, w⟩
abbrev FS := Vl → Option Int → Option Int → Ah → QE → Prop
def SimS (K : PySem.W.Frag) (r : V → Option Int → Option Int → Hp → VK → Prop) (f : FS) : Prop := ∀ {x : Vl} {lo hi : Option Int} {v : V} {A : Ah} {H : Hp} {Q : VK} {Qa : QE}, Re K H x v → SA K A H → QL K H Qa Q → f x lo hi A Qa → r v lo hi H (Gq Q)
def wSl (f : FS) (w : WE) (wl wh : WO) : WE := fun S A Q E => w S A (fun x A1 => wl S A1 (fun i A2 => wh S A2 (fun j A3 => f x i j A3 Q) E) E) E
theorem ae_slice {r : V → Option Int → Option Int → Hp → VK → Prop} {f : FS} {lo hi : Option Expr} {p2 : Pos} {w : WE} {wl wh : WO} (hr : SlR X r) (hs : SimS X.K r f) (he : AE X W e w) (hl : AO X W lo wl) (hu : AO X W hi wh) : AE X W (.Subscript e (.Slice lo hi none p2) pos) (wSl f w wl wh) :=
  pe_imp (pe_gh (pe_slice hr he hl hu)) fun σ H Q ⟨S, A, Qa, Ea, ss, sa, q, qx, w⟩ => ⟨S, A, _, Ea, ss, sa, fun x A1 v H1 r1 sa1 k1 w1 =>
    ⟨S, A1, _, Ea, ss.keep k1, sa1, fun i A2 H2 sa2 k2 w2 => ⟨S, A2, _, Ea, ss.keep (k1.trans k2), sa2, fun j A3 H3 sa3 k3 w3 =>
      hs (r1.keep (k2.trans k3)) sa3 (q.keep ((k1.trans k2).trans k3)) w3, qx.keep (k1.trans k2), w2⟩, qx.keep k1, w1⟩, qx, w⟩
end
end Rk

set_option Elab.async false
set_option linter.all false
set_option maxRecDepth 100000
set_option maxHeartbeats 4000000
namespace Rk
open PySem PySem.Spec PyProof.Rows L2
/-! ### defs -/
def Sub (B A : Ah) : Prop := ∀ a o, B a = some o → A a = some o
theorem Sub.refl {A : Ah} : Sub A A := fun _ _ h => h
theorem Sub.trans {A B C : Ah} (x : Sub A B) (y : Sub B C) : Sub A C := fun a o h => y a o (x a o h)
theorem SA.sub {K : PySem.W.Frag} {A B : Ah} {H : Hp} (s : SA K A H) (h : Sub B A) : SA K B H := fun a o e => s a o (h a o e)
/-- the slots at a def's entry -/
def slots0 (n : Nat) (xs : List Vl) : Sl := xs.map some ++ List.replicate (n - xs.length) none
def wFun (n : Nat) (b : WS) : WF := fun xs A Q E => b { nx := fun _ A' => ∃ B, Sub B A' ∧ Q .non B, rt := fun v A' => ∃ B, Sub B A' ∧ Q v B, ex := fun x _ A' => ∃ B, Sub B A' ∧ E x B } (slots0 n xs) A
structure Gn (P : Program) (w : World) (K : PySem.W.Frag) (mg : Str → Option Value) (base : Heap) (k : Nat) (f : Addr) (fd : FuncData) (ps : List Str) (wf : WF) : Prop where
  run : ∀ (A : Around) (outer : List Env) (s : Shared) (H : Hp) (args : Args) (us : List Value) (vs : List V) (Q : VK) (E : XK), Room k A → A.guards = some [] → Env0 P w K mg base A outer s H → BindsTo s fd args (ps.zip us) → Vals vs us →
    LF K ps.length wf vs H Q E → codeAny (model P w) A (.call (.ref f) args) (CR (L2.CX P w) outer P w H s Q E) s
theorem Gn.mono {P : Program} {w : World} {K : PySem.W.Frag} {mg : Str → Option Value} {base : Heap} {j k : Nat} {f : Addr} {fd : FuncData} {ps : List Str} {wf : WF} (G : Gn P w K mg base j f fd ps wf) (h : j ≤ k) : Gn P w K mg base k f fd ps wf :=
  ⟨fun A outer s H args us vs Q E hr => G.run A outer s H args us vs Q E (hr.mono h)⟩
/-- the context of a def's body -/
abbrev bodyX (P : Program) (w : World) (K : PySem.W.Frag) (mg : Str → Option Value) (base : Heap) (N : List Str) (qual : Str) (scope : Scope) (f : Addr) (cd : Value) (A : Around) (outer : List Env) (s : Shared) (H : Hp) (E : XK) : Cx :=
  cxOf (L2.CX P w) P w K mg base N qual scope f cd A outer s H E
abbrev bodyW (E : XK) : WX := fun c d _ H => E c d H
/-- what a derivation of a body may lean on -/
structure Bd (k : Nat) (X : Cx) (W : WX) : Prop where
  room : Room k X.A
  gd : X.A.guards = some []
  calm : X.calm = true
  nd : X.N.Nodup
  tk : Takes X W
  pass : PassesOwn (model X.prog X.w) X.A X.env X.xe
theorem gn_of {P : Program} {w : World} {K : PySem.W.Frag} {mg : Str → Option Value} {base : Heap} {k : Nat} {f : Addr} {name qual : Str} {params : Arguments} {body : List Stmt} {scope : Scope} {dV kV doc pm cdv ct oc : Value} {an od : Option Addr}
    {osl : Array (Option Value)} {N ps : List Str} {wb : WS} (lk : K.lookup f = some ⟨oc, od, .func (PySem.W.fnOf name qual params body scope dV kV doc pm an cdv ct), osl⟩) (hcd : PySem.W.codeIn K cdv qual = true) (S : FnScope N ps scope)
    (hb : ∀ (A : Around) (outer : List Env) (s : Shared) (H : Hp) (E : XK), Bd k (bodyX P w K mg base N qual scope f cdv A outer s H E) (bodyW E) → ASs (bodyX P w K mg base N qual scope f cdv A outer s H E) (bodyW E) body wb) :
    Gn P w K mg base (k + 1) f (PySem.W.fnOf name qual params body scope dV kV doc pm an cdv ct) ps (wFun N.length wb) := by
  refine ⟨fun A outer s H args us vs Q E hr hgd e0 hbt r hsp => ?_⟩
  obtain ⟨xs, Ap, Qa, Ea, rl, hlen, sa, q, qx, wv⟩ := hsp
  have hl : vs.length = ps.length := rl.length.symm.trans hlen
  have inK : K.In s.heap := e0.mod.kin.keeps fun b o e => (e0.bs b o e).1
  have kinds : ∀ y ∈ ps.zip us, scope.names.lookup y.1 = some .local ∨ (scope.names.lookup y.1 = some .cell ∧ ((cellsFrom (s.heap.objs.size + 1) scope.names []).lookup y.1).isSome = true) := by
    rintro ⟨n, v⟩ hy
    rcases S.par n (List.of_mem_zip hy).1 with g | g
    · exact .inl g
    · exact .inr ⟨g, PySem.W.cellsFrom_some _ _ _ (.inl g)⟩
  refine codeAny_call_function hr.depth (inK _ _ lk) rfl S.co S.gen rfl (PySem.W.codeRec_of inK hcd) (hbt _ _ _ _ ?_)
  refine wpAny_newFunctionEnv_cells S.kind kinds fun env he s1 x => ?_
  subst he
  refine ⟨(e0.mod.nolimit.keeps fun b o e => (e0.bs b o e).1).keeps x.toInCall.keep, codeAny_func ?_⟩
  have B : Bd k (bodyX P w K mg base N qual scope f cdv A outer s H E) (bodyW E) :=
    ⟨hr.deeper _, by first | exact hgd | (simpa [Around.deeper] using hgd), rfl, S.nd, takes_of (E₁ := fun e' s'' => L2.CX P w outer H s E e' s'') rfl rfl rfl rfl, passes_of (K := fun e s'' => L2.CX P w outer H s E e s'') (E₁ := fun e' s'' => L2.CX P w outer H s E e' s'') rfl⟩
  have D := hb A outer s H E B
  have I : Inv (bodyX P w K mg base N qual scope f cdv A outer s H E) [] (L2.start N vs) H s1 := inv_start S hr.hd e0 hl r x
  have hN : ps.length ≤ N.length := by
    have := congrArg List.length S.pre
    rw [List.length_take] at this
    omega
  have s0 : SS K H (slots0 N.length xs) (L2.start N vs) := by
    refine ⟨by unfold slots0 L2.start; simp [rl.length], fun i y e => ?_⟩
    unfold slots0 at e
    by_cases hi : i < xs.length
    · rw [List.getElem?_append_left (by simpa using hi), List.getElem?_map] at e
      cases h : xs[i]? with
      | none => rw [h] at e; cases e
      | some z =>
        rw [h] at e
        cases e
        obtain ⟨v, hv, rv⟩ := rl.get h
        refine ⟨v, ?_, rv⟩
        unfold L2.start
        rw [List.getElem?_append_left (by rw [List.length_map, ← rl.length]; exact hi), List.getElem?_map, hv]
        rfl
    · rw [List.getElem?_append_right (by simpa using hi), List.getElem?_replicate] at e
      split at e <;> cases e
  refine wpAny_mono (D.run [] s1 (L2.start N vs) H { nx := fun _ H' => Q .non H', rt := Q } I ⟨_, Ap, _, s0, sa, ?_, wv⟩) (fun fl s' hs => ?_) fun e s' hs => hs
  · refine ⟨fun S' A' σ' H' _ sa' kk hq => ?_, fun v A' u H' rv sa' kk hq => ?_, fun _ _ _ _ _ _ _ hq => hq.elim, fun _ _ _ _ _ _ _ hq => hq.elim, fun xv S' A' c d σ' H' xr _ sa' kk hq => ?_⟩
    · obtain ⟨B', hs, hq⟩ := hq
      exact q _ _ _ _ (re_non _) (sa'.sub hs) kk hq
    · obtain ⟨B', hs, hq⟩ := hq
      exact q _ _ _ _ rv (sa'.sub hs) kk hq
    · obtain ⟨B', hs, hq⟩ := hq
      exact qx _ _ _ _ _ xr (sa'.sub hs) kk hq
  · have fin : ∀ {σ' : L2.St} {H' : Hp} {v : V} {u : Value}, Inv (bodyX P w K mg base N qual scope f cdv A outer s H E) [] σ' H' s' → RelV v u → Q v H' → CE outer P w H s Q u s' :=
      fun {σ' H' v u} J rv hq => ⟨v, H', J.os, J.bare, J.base, J.hok, rv, hq⟩
    cases fl with
    | ret u => obtain ⟨v, σ', H', J, rv, hq⟩ := hs; exact fin J rv hq
    | next => obtain ⟨σ', H', J, hq⟩ := hs; exact fin (v := V.non) (u := Value.none) J rfl hq
    | brk => obtain ⟨_, _, _, hq⟩ := hs; exact False.elim hq
    | cont => obtain ⟨_, _, _, hq⟩ := hs; exact False.elim hq

section
variable {X : Cx} {W : WX} {a b c e o : Expr} {es : List Expr} {pos : Pos}
variable {k : Nat} {f : Addr} {fd : FuncData} {ps : List Str} {wf : WF}
/-- a call of f with n positional values and the keywords ks does as wf says of all values, the keywords' behind -/
def Runs (X : Cx) (W : WX) (f : Addr) (n : Nat) (ks : List Str) (wf : WF) : Prop :=
  ∀ (pins : List (Addr × Obj)) (σ : L2.St) (H : Hp) (s : Shared) (Q : VK) (us ws : List Value) (vs zs : List V), Inv X pins σ H s → Vals vs us → Vals zs ws → us.length = n → ws.length = ks.length → LF X.K (n + ks.length) wf (vs ++ zs) H Q (fun c d H' => W c d σ H') →
    wpAny (model X.prog X.w) X.A (call (.ref f) us (ks.zip ws)) (EP X pins σ Q) X.xe s
/-- where a parameter's value comes from: a positional value, a keyword's, a default -/
inductive Src where
  | p (i : Nat)
  | d (u : Value) (v : V) (x : Vl)
def Src.mu (us : List Value) : Src → Value
  | .p i => us.getD i .none
  | .d u _ _ => u
def Src.mv (vs : List V) : Src → L2.V
  | .p i => vs.getD i .non
  | .d _ v _ => v
def Src.pl (xs : List Vl) : Src → Vl
  | .p i => xs.getD i .non
  | .d _ _ x => x
def Src.ok (K : PySem.W.Frag) (n : Nat) : Src → Prop
  | .p i => i < n
  | .d u v x => RelV v u ∧ ∀ H, Re K H x v
/-- parameters by sources -/
def wSel (l : List Src) (wf : WF) : WF := fun xs => wf (l.map (Src.pl xs))
theorem sel_vals {K : PySem.W.Frag} {n : Nat} {vs : List L2.V} {us : List Value} (r : Vals vs us) (hn : vs.length = n) : ∀ {l : List Src}, (∀ x ∈ l, x.ok K n) → Vals (l.map (Src.mv vs)) (l.map (Src.mu us))
  | [], _ => .nil
  | y :: l, h => by
    refine .cons ?_ (sel_vals r hn fun x hx => h x (List.mem_cons_of_mem _ hx))
    have q := h y List.mem_cons_self
    cases y with
    | p i =>
      have hi : i < vs.length := by rw [hn]; exact q
      obtain ⟨u, hu, ru⟩ := r.get (i := i) (x := vs[i]) (by simp [hi])
      show RelV (vs.getD i .non) (us.getD i .none)
      rw [List.getD_eq_getElem?_getD, List.getD_eq_getElem?_getD, hu, List.getElem?_eq_getElem hi]
      exact ru
    | d u v x => exact q.1
theorem sel_rl {K : PySem.W.Frag} {n : Nat} {H : Hp} {xs : List Vl} {vs : List L2.V} (r : Rl K H xs vs) (hn : vs.length = n) : ∀ {l : List Src}, (∀ x ∈ l, x.ok K n) → Rl K H (l.map (Src.pl xs)) (l.map (Src.mv vs))
  | [], _ => .nil
  | y :: l, h => by
    refine .cons ?_ (sel_rl r hn fun x hx => h x (List.mem_cons_of_mem _ hx))
    have q := h y List.mem_cons_self
    cases y with
    | p i =>
      have hi : i < xs.length := by rw [r.length, hn]; exact q
      obtain ⟨v, hv, rv⟩ := r.get (i := i) (x := xs[i]) (by simp [hi])
      show Re K H (xs.getD i .non) (vs.getD i .non)
      rw [List.getD_eq_getElem?_getD, List.getD_eq_getElem?_getD, hv, List.getElem?_eq_getElem hi]
      exact rv
    | d u v x => exact q.2 H
/-- a def's promise as calls of one form -/
theorem runs_sel {ks : List Str} {n : Nat} {l : List Src} (B : Bd k X W) (G : Gn X.prog X.w X.K X.mg X.base k f fd ps wf) (hl : l.length = ps.length) (ok : ∀ x ∈ l, x.ok X.K (n + ks.length))
    (hb : ∀ (s : Shared) (us ws : List Value), X.K.In s.heap → us.length = n → ws.length = ks.length → BindsTo s fd ⟨us, ks.zip ws⟩ (ps.zip (l.map (Src.mu (us ++ ws))))) : Runs X W f n ks (wSel l wf) := by
  intro pins σ H s Q us ws vs zs I r rz hu hw h
  obtain ⟨xs, Ap, Qa, Ea, rl, hlen, sa, q, qx, wv⟩ := h
  have hvl : (vs ++ zs).length = n + ks.length := by rw [← rl.length, hlen]
  refine wpAny_call (codeAny_mono (G.run X.A X.stack s H ⟨us, ks.zip ws⟩ _ _ Q (fun c d H' => W c d σ H') B.room B.gd I.env0 (hb s us ws I.kIn hu hw) (sel_vals (r.append rz) hvl ok) ⟨_, Ap, Qa, Ea, sel_rl rl hvl ok, by simp [hl], sa, q, qx, wv⟩) fun r s' hq => ?_)
  cases r with
  | error e => exact B.tk e s' (XE.of_call I (fun _ _ _ h => h) hq)
  | ok fl =>
    cases fl with
    | ret u => exact I.after hq
    | next => exact False.elim hq
    | brk => exact False.elim hq
    | cont => exact False.elim hq
/-- .. all positional, in order -/
theorem runs_all {n : Nat} (B : Bd k X W) (G : Gn X.prog X.w X.K X.mg X.base k f fd ps wf) (hn : ps.length = n) (hb : ∀ us : List Value, us.length = n → bindArgs fd ⟨us, []⟩ = pure (ps.zip us)) : Runs X W f n [] wf := by
  intro pins σ H s Q us ws vs zs I r rz hu hw h
  have e1 : ws = [] := by cases ws with | nil => rfl | cons _ _ => simp at hw
  subst e1
  cases rz
  rw [List.append_nil] at h
  subst hn
  refine wpAny_call (codeAny_mono (G.run X.A X.stack s H ⟨us, []⟩ us vs Q (fun c d H' => W c d σ H') B.room B.gd I.env0 (.of_eq (hb us hu)) r h) fun r s' hq => ?_)
  cases r with
  | error e => exact B.tk e s' (XE.of_call I (fun _ _ _ h => h) hq)
  | ok fl =>
    cases fl with
    | ret u => exact I.after hq
    | next => exact False.elim hq
    | brk => exact False.elim hq
    | cont => exact False.elim hq
def wCall (n : Nat) (wf : WF) (wa : WA) : WE := fun S A Q E => wa S A (fun xs A1 => xs.length = n ∧ wf xs A1 Q E) E
theorem la_call {K : PySem.W.Frag} {n : Nat} {wa : WA} {σ : L2.St} {H : Hp} {Q : VK} (h : LE K W (wCall n wf wa) σ H Q) : LA K W wa σ H (fun vs H1 => LF K n wf vs H1 Q (fun c d H' => W c d σ H')) := by
  obtain ⟨S, A, Qa, Ea, ss, sa, q, qx, w⟩ := h
  exact ⟨S, A, _, Ea, ss, sa, fun xs A1 vs H1 r1 sa1 k1 w1 => ⟨xs, A1, Qa, Ea, r1, w1.1, sa1, q.keep k1, qx.keep k1, w1.2⟩, qx, w⟩
/-- f(e, ..) -/
theorem ae_call {x : Str} {p : Pos} {wa : WA} {n : Nat} (R : Runs X W f n [] wf) (hg : Gl X x) (hm : X.mg x = some (.ref f)) (hk : PySem.W.keepIn X.K (.ref f) = true) (ha : AA X W (e :: es) wa)
    (hdb : (x == ("__debug__" : Str)) = false := by decide) (he : starEach (e :: es) X.env = (false, eval e X.env) :: starEach es X.env := by exact starOf rfl) (hpl : (backTo pos (starEach es X.env)).any (·.1) = false := by exact starsOf rfl) :
    AE X W (.Call (.Name x p) (e :: es) [] pos) (wCall n wf wa) := by
  refine ⟨fun pins s σ H Q I h => wpAny_Call_Name_kw (ld_glob I hg hm ?_ hdb)⟩
  refine PySem.W.callWith_K (h₀ := X.base) I.ok.mod.kin hk (thn (ha.run pos pins s σ H _ I (la_call h)) fun us s1 ⟨vs, H1, I1, r, q⟩ => ⟨I1.kIn, ?_⟩) he hpl
  have hu : us.length = n := by
    obtain ⟨xs, _, _, _, rl, hl, _⟩ := q
    rw [← r.length, ← rl.length, hl]
  exact R pins σ H1 s1 Q us [] vs [] I1 r .nil hu rfl (by simpa using q)
/-- f() -/
theorem ae_call0 {x : Str} {p : Pos} (R : Runs X W f 0 [] wf) (hg : Gl X x) (hm : X.mg x = some (.ref f)) (hk : PySem.W.keepIn X.K (.ref f) = true)
    (hdb : (x == ("__debug__" : Str)) = false := by decide) : AE X W (.Call (.Name x p) [] [] pos) (wCall 0 wf wNil) := by
  refine ⟨fun pins s σ H Q I h => wpAny_Call_Name_kw (ld_glob I hg hm ?_ hdb)⟩
  refine PySem.W.callWith_K0 I.kIn hk ?_
  obtain ⟨S, A, Qa, Ea, ss, sa, q, qx, w⟩ := h
  exact R pins σ H s Q [] [] [] [] I .nil .nil rfl rfl ⟨[], A, Qa, Ea, .nil, rfl, sa, q, qx, w.2⟩
/-- keywords' values -/
abbrev AK (X : Cx) (W : WX) (kws : List Keyword) (w : WA) : Prop := PK X kws (LA X.K W w)
theorem ak_nil : AK X W [] wNil := ⟨fun pos pins s σ H Q I ⟨S, A, Qa, Ea, ss, sa, q, qx, w⟩ => pk_nil.run pos pins s σ H Q I (q _ _ _ _ .nil sa .refl w)⟩
theorem ak_cons {w : WE} {r : WA} {kws : List Keyword} {nm : Option Str} {kpos : Pos} (h : AE X W e w) (g : AK X W kws r) : AK X W (⟨nm, e, kpos⟩ :: kws) (wCons w r) :=
  ⟨fun pos pins s σ H Q I ⟨S, A, Qa, Ea, ss, sa, q, qx, w⟩ => (pk_cons h g).run pos pins s σ H Q I ⟨S, A, _, Ea, ss, sa, fun x A1 v H1 r1 sa1 k1 w1 =>
    ⟨S, A1, _, Ea, ss.keep k1, sa1, fun xs A2 vs H2 r2 sa2 k2 w2 => q _ _ _ _ (.cons (r1.keep k2) r2) sa2 (k1.trans k2) w2, qx.keep k1, w1⟩, qx, w⟩⟩
/-- positional values, then the keywords' -/
def wCat (wa wk : WA) : WA := fun S A Q E => wa S A (fun xs A1 => wk S A1 (fun ys A2 => Q (xs ++ ys) A2) E) E
def wCallK (n m : Nat) (wf : WF) (wa wk : WA) : WE := fun S A Q E => wa S A (fun xs A1 => xs.length = n ∧ wk S A1 (fun ys A2 => ys.length = m ∧ wf (xs ++ ys) A2 Q E) E) E
/-- f(e, .., k = e, ..) -/
theorem ae_callK {x : Str} {p : Pos} {wa wk : WA} {n : Nat} {ks : List Str} {kws : List Keyword} (R : Runs X W f n ks wf) (hg : Gl X x) (hm : X.mg x = some (.ref f)) (hk : PySem.W.keepIn X.K (.ref f) = true) (ha : AA X W (e :: es) wa) (hkw : AK X W kws wk)
    (hks : (backToKw pos (keywordEach kws X.env)).filterMap (·.1) = ks := by exact kwNames rfl) (hall : (backToKw pos (keywordEach kws X.env)).all (·.1.isSome) = true := by exact kwAll rfl)
    (hdb : (x == ("__debug__" : Str)) = false := by decide) (he : starEach (e :: es) X.env = (false, eval e X.env) :: starEach es X.env := by exact starOf rfl)
    (hpl : ((backTo pos (starEach (e :: es) X.env)).any (·.1) || (backToKw pos (keywordEach kws X.env)).any (·.1.isNone)) = false := by exact kwPl rfl rfl) :
    AE X W (.Call (.Name x p) (e :: es) kws pos) (wCallK n ks.length wf wa wk) := by
  refine ⟨fun pins s σ H Q I h => wpAny_Call_Name_kw (ld_glob I hg hm ?_ hdb)⟩
  obtain ⟨S, A, Qa, Ea, ss, sa, q, qx, w⟩ := h
  refine PySem.W.callWith_KW (h₀ := X.base) I.ok.mod.kin hk hall (thn (ha.run pos pins s σ H (fun vs H1 => ∃ xs A1, Rl X.K H1 xs vs ∧ SA X.K A1 H1 ∧ Keep H H1 ∧ xs.length = n ∧ wk S A1 (fun ys A2 => ys.length = ks.length ∧ wf (xs ++ ys) A2 Qa Ea) Ea) I
    ⟨S, A, _, Ea, ss, sa, fun xs A1 vs H1 r1 sa1 k1 w1 => ⟨xs, A1, r1, sa1, k1, w1.1, w1.2⟩, qx, w⟩) fun us s1 ⟨vs, H1, I1, r, xs, A1, r1, sa1, k1, hn, w1⟩ => ?_) hpl he
  refine thn (hkw.run pos pins s1 σ H1 (fun zs H2 => ∃ ys A2, Rl X.K H2 ys zs ∧ SA X.K A2 H2 ∧ Keep H1 H2 ∧ ys.length = ks.length ∧ wf (xs ++ ys) A2 Qa Ea) I1
    ⟨S, A1, _, Ea, ss.keep k1, sa1, fun ys A2 zs H2 r2 sa2 k2 w2 => ⟨ys, A2, r2, sa2, k2, w2.1, w2.2⟩, qx.keep k1, w1⟩) fun ws s2 ⟨zs, H2, I2, rz, ys, A2, r2, sa2, k2, hm2, w2⟩ => ⟨I2.kIn, ?_⟩
  rw [hks]
  refine R pins σ H2 s2 Q us ws vs zs I2 r rz (by rw [← r.length, ← r1.length, hn]) (by rw [← rz.length, ← r2.length, hm2]) ⟨xs ++ ys, A2, Qa, Ea, (r1.keep k2).append r2, by simp [hn, hm2], sa2, q.keep (k1.trans k2), qx.keep (k1.trans k2), w2⟩
/-- f(k = e, ..) -/
theorem ae_callK0 {x : Str} {p : Pos} {wk : WA} {ks : List Str} {kws : List Keyword} (R : Runs X W f 0 ks wf) (hg : Gl X x) (hm : X.mg x = some (.ref f)) (hk : PySem.W.keepIn X.K (.ref f) = true) (hkw : AK X W kws wk)
    (hks : (backToKw pos (keywordEach kws X.env)).filterMap (·.1) = ks := by exact kwNames rfl) (hall : (backToKw pos (keywordEach kws X.env)).all (·.1.isSome) = true := by exact kwAll rfl)
    (hdb : (x == ("__debug__" : Str)) = false := by decide) 
    (hpl : ((backTo pos (starEach [] X.env)).any (·.1) || (backToKw pos (keywordEach kws X.env)).any (·.1.isNone)) = false := by exact kwPl rfl rfl) :
    AE X W (.Call (.Name x p) [] kws pos) (wCallK 0 ks.length wf wNil wk) := by
  refine ⟨fun pins s σ H Q I h => wpAny_Call_Name_kw (ld_glob I hg hm ?_ hdb)⟩
  obtain ⟨S, A, Qa, Ea, ss, sa, q, qx, w⟩ := h
  refine PySem.W.callWith_KW0 (h₀ := X.base) I.ok.mod.kin hk hall ?_ hpl
  refine thn (hkw.run pos pins s σ H (fun zs H2 => ∃ ys A2, Rl X.K H2 ys zs ∧ SA X.K A2 H2 ∧ Keep H H2 ∧ ys.length = ks.length ∧ wf ([] ++ ys) A2 Qa Ea) I
    ⟨S, A, _, Ea, ss, sa, fun ys A2 zs H2 r2 sa2 k2 w2 => ⟨ys, A2, r2, sa2, k2, w2.1, w2.2⟩, qx, w.2⟩) fun ws s2 ⟨zs, H2, I2, rz, ys, A2, r2, sa2, k2, hm2, w2⟩ => ⟨I2.kIn, ?_⟩
  rw [hks]
  exact R pins σ H2 s2 Q [] ws [] zs I2 .nil rz rfl (by rw [← rz.length, ← r2.length, hm2]) ⟨ys, A2, Qa, Ea, r2, by simp [hm2], sa2, q.keep k2, qx.keep k2, w2⟩
end
end Rk

set_option Elab.async false
set_option linter.all false
set_option maxRecDepth 100000
set_option maxHeartbeats 400000
namespace Rk
open PySem PySem.Spec PyProof.Rows L2
section
variable {X : Cx} {W : WX} {a b c e o tg iter : Expr} {es : List Expr} {pos : Pos} {K : PySem.W.Frag}
/-! ### what is walked: its items, and what must stay true of the heap meanwhile -/
structure Wk where
  its : List Vl
  ok : Ah → Prop
  up : ∀ (A : Ah) (p : Addr) (o : Ob), A p = none → ok A → ok (put A p o) := by exact fun _ _ _ _ _ => trivial
theorem up_at {p : Addr} {u : Ob} : ∀ (A : Ah) (q : Addr) (o : Ob), A q = none → A p = some u → put A q o p = some u := fun A q o hq h => by
  rw [put_ne fun z => by subst z; rw [h] at hq; cases hq]; exact h
def SimIt (K : PySem.W.Frag) (k : Wk) (J : It) (H0 : Hp) : Prop := ∀ (i : Nat) (A : Ah) (H : Hp), SA K A H → Keep H0 H → k.ok A →
  (k.its.length ≤ i → J.stop i H) ∧ ∀ y, k.its[i]? = some y → J.go i H ∧ ∀ x H', J.yld i H x H' → Keep H H' ∧ SA K A H' ∧ Re K H' y x
abbrev WI := Sl → Ah → (Wk → Ah → Prop) → EX → Prop
def LI (K : PySem.W.Frag) (W : WX) (w : WI) : TI := fun σ H R => ∃ S A Qa Ea, SS K H S σ ∧ SA K A H ∧ (∀ k A' J H', SimIt K k J H' → SA K A' H' → Keep H H' → Qa k A' → R J H') ∧ QX K H Ea (fun c d H' => W c d σ H') ∧ w S A Qa Ea
abbrev AI (X : Cx) (W : WX) (tg iter : Expr) (w : WI) : Prop := PI X tg iter (LI X.K W w)
theorem pi_imp {wi wi' : TI} (h : PI X tg iter wi) (i : ∀ σ H R, wi' σ H R → wi σ H R) : PI X tg iter wi' := ⟨fun pins s σ H R I w => h.run pins s σ H R I (i _ _ _ w)⟩
theorem sim_lst {p : Addr} {xs : List Vl} {H0 : Hp} : SimIt K ⟨xs, fun A => A p = some (.lst xs), up_at⟩ (Itl K p) H0 := fun i A H sa k hk => by
  obtain ⟨vs, hv, rl⟩ := sa _ _ hk
  refine ⟨fun hi => ⟨vs, .of hv, by rw [← rl.length]; exact hi⟩, fun y hy => ?_⟩
  obtain ⟨v, ev, rv⟩ := rl.get hy
  refine ⟨⟨vs, v, .of hv, ev⟩, fun x H' ⟨e, q⟩ => ?_⟩
  subst e
  have := q vs (.of hv)
  rw [ev] at this; cases this
  exact ⟨.refl, sa, rv⟩
theorem sim_frz {p : Addr} {xs : List Vl} {vs : List V} {o : Obj} {H0 : Hp} (st : H0 p = some (.frz o (.lst vs))) (rl : Rl K H0 xs vs) : SimIt K ⟨xs, fun _ => True, fun _ _ _ _ _ => trivial⟩ (Itl K p) H0 := fun i A H sa k _ => by
  have st' : SqL K H p vs := .inl (.inr ⟨o, k.frz _ _ _ st⟩)
  have rl' := rl.keep k
  refine ⟨fun hi => ⟨vs, st', by rw [← rl.length]; exact hi⟩, fun y hy => ?_⟩
  obtain ⟨v, ev, rv⟩ := rl'.get hy
  refine ⟨⟨vs, v, st', ev⟩, fun x H' ⟨e, q⟩ => ?_⟩
  subst e
  have := q vs st'
  rw [ev] at this; cases this
  exact ⟨.refl, sa, rv⟩
theorem sim_tup {p : Addr} {xs : List Vl} {vs : List V} {H0 : Hp} (st : SqT K H0 p vs) (rl : Rl K H0 xs vs) : SimIt K ⟨xs, fun _ => True, fun _ _ _ _ _ => trivial⟩ (Itt K p) H0 := fun i A H sa k _ => by
  have st' := sqT_keep k.w st
  have rl' := rl.keep k
  refine ⟨fun hi => ⟨vs, st', by rw [← rl.length]; exact hi⟩, fun y hy => ?_⟩
  obtain ⟨v, ev, rv⟩ := rl'.get hy
  refine ⟨⟨vs, v, st', ev⟩, fun x H' ⟨e, q⟩ => ?_⟩
  subst e
  have := q vs st'
  rw [ev] at this; cases this
  exact ⟨.refl, sa, rv⟩
/-- a text's signs -/
def signs (s : Str) : List Vl := s.cps.toList.map fun c => .str ⟨#[c]⟩
theorem okS_sign {s : Str} (h : okS s) {c : Nat} (hc : c ∈ s.cps.toList) : okS ⟨#[c]⟩ := by
  have h2 := h.2
  unfold PyData.strOk at h2
  rw [Array.all_eq_true_iff_forall_mem] at h2
  have q := h2 c (by simpa using hc)
  refine ⟨by show 1 ≤ sizeLine; decide, ?_⟩
  unfold PyData.strOk
  simpa using q
theorem sim_str {s : Str} {H0 : Hp} (h : okS s) : SimIt K ⟨signs s, fun _ => True, fun _ _ _ _ _ => trivial⟩ (Its s) H0 := fun i A H sa k _ => by
  refine ⟨fun hi => by unfold signs at hi; simpa [Its] using hi, fun y hy => ?_⟩
  unfold signs at hy
  rw [List.getElem?_map] at hy
  cases hc : s.cps.toList[i]? with
  | none => rw [hc] at hy; cases hy
  | some c =>
    rw [hc] at hy; cases hy
    have hi : i < s.cps.size := by simpa using (List.getElem?_eq_some_iff.mp hc).1
    refine ⟨hi, fun x H' ⟨e, c', hc', ex⟩ => ?_⟩
    subst e
    have e2 : s.cps[i]? = some c := by simpa using hc
    rw [e2] at hc'; cases hc'
    subst ex
    exact ⟨.refl, sa, re_str (okS_sign h (List.mem_of_getElem? hc)) _⟩
def rngL (lo : Int) (n : Nat) : List Vl := (List.range n).map fun i : Nat => .int (lo + i)
/-- enumerate over a list -/
def enL (i : Nat) : List Vl → List Vl
  | [] => []
  | x :: xs => .wtp [.int i, x] :: enL (i + 1) xs
theorem enL_get {xs : List Vl} : ∀ {i j : Nat}, (enL i xs)[j]? = (xs[j]?).map fun x => .wtp [.int ((i + j : Nat) : Int), x] := by
  induction xs with
  | nil => intro i j; simp [enL]
  | cons x xs ih =>
    intro i j
    cases j with
    | zero => simp [enL]
    | succ j => simp only [enL, List.getElem?_cons_succ, ih]; congr 2; funext x; congr 4; omega
theorem enL_len : ∀ {xs : List Vl} {i : Nat}, (enL i xs).length = xs.length
  | [], _ => rfl
  | _ :: xs, i => by simp [enL, enL_len (xs := xs)]
theorem sim_en {p : Addr} {xs : List Vl} {ok : Ah → Prop} {up : ∀ (A : Ah) (p : Addr) (o : Ob), A p = none → ok A → ok (put A p o)} {H0 : Hp} (g : ∀ (A : Ah) (H : Hp), SA K A H → Keep H0 H → ok A → ∃ vs, SqL K H p vs ∧ Rl K H xs vs) : SimIt K ⟨enL 0 xs, ok, up⟩ (Ite K p) H0 := fun i A H sa k hk => by
  obtain ⟨vs, hv, rl⟩ := g A H sa k hk
  refine ⟨fun hi => ⟨vs, hv, by rw [← rl.length, ← enL_len (xs := xs) (i := 0)]; exact hi⟩, fun y hy => ?_⟩
  rw [enL_get] at hy
  cases hx : xs[i]? with
  | none => rw [hx] at hy; cases hy
  | some x =>
    rw [hx] at hy; cases hy
    obtain ⟨v, ev, rv⟩ := rl.get hx
    refine ⟨⟨vs, v, hv, ev⟩, fun u H' ⟨T, x', e1, e2, e3, e4⟩ => ?_⟩
    subst e1 e3
    have := e4 vs hv
    rw [ev] at this; cases this
    have kn : Keep H (upd H T (.tup [.int (i : Nat), v])) := .new e2
    refine ⟨kn, sa.newU e2, ?_⟩
    unfold Re
    exact ⟨T, _, rfl, .inl (.inl upd_same), .cons (by unfold Re; simp) (.cons (rv.keep kn) .nil)⟩
theorem sim_rng {lo : Int} {n : Nat} {H0 : Hp} : SimIt K ⟨rngL lo n, fun _ => True, fun _ _ _ _ _ => trivial⟩ (Itr lo n) H0 := fun i A H sa k _ => by
  refine ⟨fun hi => by unfold rngL at hi; simpa [Itr] using hi, fun y hy => ?_⟩
  unfold rngL at hy
  rw [List.getElem?_map] at hy
  cases hc : (List.range n)[i]? with
  | none => rw [hc] at hy; cases hy
  | some j =>
    rw [hc] at hy; cases hy
    obtain ⟨hi, hj⟩ := List.getElem?_eq_some_iff.mp hc
    simp at hi hj; subst hj
    refine ⟨hi, fun x H' ⟨e, ex⟩ => ?_⟩
    subst e; subst ex
    exact ⟨.refl, sa, re_int _⟩
/-- a list, a tuple, a text, by value -/
def itR (o : Option Ob) (p : Addr) (Q : Wk → Prop) : Prop := match o with
  | some (.lst xs) => Q ⟨xs, fun A => A p = some (.lst xs), up_at⟩
  | _ => False
def itV (x : Vl) (A : Ah) (Q : Wk → Ah → Prop) : Prop := match x with
  | .tup xs => Q ⟨xs, fun _ => True, fun _ _ _ _ _ => trivial⟩ A
  | .lst xs => Q ⟨xs, fun _ => True, fun _ _ _ _ _ => trivial⟩ A
  | .str s => Q ⟨signs s, fun _ => True, fun _ _ _ _ _ => trivial⟩ A
  | .ref p => itR (A p) p fun k => Q k A
  | _ => False
def wiSeq (w : WE) : WI := fun S A Q E => w S A (fun x A1 => itV x A1 Q) E
theorem ai_seq {w : WE} (h : AE X W e w) : AI X W tg e (wiSeq w) := by
  refine ⟨fun pins s σ H R I hw => ?_⟩
  obtain ⟨S, A, Qa, Ea, ss, sa, q, qx, w⟩ := hw
  refine thn (h.run pins s σ H (fun v H1 => ∃ x A1, Re X.K H1 x v ∧ SA X.K A1 H1 ∧ Keep H H1 ∧ itV x A1 Qa) I ⟨S, A, _, Ea, ss, sa, fun x A1 v H1 r1 sa1 k1 w1 => ⟨x, A1, r1, sa1, k1, w1⟩, qx, w⟩) fun v s1 ⟨y, H1, I1, rv, x, A1, r1, sa1, k1, w1⟩ => ?_
  have go : ∀ (p : Addr) (vs : List V), y = .ref p → SqL X.K H1 p vs → ∀ J, J = Itl X.K p → R J H1 → wpAny (model X.prog X.w) X.A (pyIter v) (PIE X pins σ tg R) X.xe s1 := by
    intro p vs hy hq J hJ hR
    subst hJ hy
    cases rv
    obtain ⟨its, rv, pl, hz⟩ := I1.list hq
    refine wpAny_pyIter_list pl.isList ?_
    refine ⟨s1.heap.objs.size, [s1.heap.objs.size], _, _, H1, rfl, I1.kept (t' := s1.toks) fun b o e => Heap.get?_push_of_some _ e, turn_list p _, ⟨_, Heap.get?_push_size _ rfl, rfl, rfl⟩, fun b hb => ?_, hR⟩
    obtain rfl : b = s1.heap.objs.size := by simpa using hb
    exact I1.fpOk (Nat.le_refl _) (I1.hok.fresh (Nat.le_refl _))
  cases x with
  | tup xs =>
    unfold Re at r1
    obtain ⟨p, vs, rfl, st, rl⟩ := r1
    cases rv
    obtain ⟨its, rv, pl, hz⟩ := I1.tuple st.1
    refine wpAny_pyIter_tuple (show s1.heap.IsTuple p its.toArray from pl) ?_
    refine ⟨s1.heap.objs.size, [s1.heap.objs.size], _, _, H1, rfl, I1.kept (t' := s1.toks) fun b o e => Heap.get?_push_of_some _ e, turn_tuple p _, ⟨_, Heap.get?_push_size _ rfl, rfl, rfl⟩, fun b hb => ?_, q _ _ _ _ (sim_tup st.1 rl) sa1 k1 w1⟩
    obtain rfl : b = s1.heap.objs.size := by simpa using hb
    exact I1.fpOk (Nat.le_refl _) (I1.hok.fresh (Nat.le_refl _))
  | lst xs =>
    unfold Re at r1
    obtain ⟨p, o, vs, hy, st, rl⟩ := r1
    exact go p vs hy (.inl (.inr ⟨o, st⟩)) _ rfl (q _ _ _ _ (sim_frz st rl) sa1 k1 w1)
  | str z =>
    unfold Re at r1
    obtain ⟨rfl, hz⟩ := r1
    obtain ⟨t, rfl⟩ := rv
    have qq := q _ _ _ _ (sim_str (K := X.K) (H0 := H1) hz) sa1 k1 w1
    cases ha : z.cps.all (· < 128)
    · exact wpAny_pyIter_wide ha (pi_one (tk := s1.toks) I1 _ (turn_str _ z t "str_iterator" (.inr rfl)) ⟨_, Heap.get?_push_size _ rfl, rfl, rfl⟩ qq)
    · exact wpAny_pyIter_ascii ha (pi_one (tk := s1.toks) I1 _ (turn_str _ z t "str_ascii_iterator" (.inl rfl)) ⟨_, Heap.get?_push_size _ rfl, rfl, rfl⟩ qq)
  | ref p =>
    unfold Re at r1
    have w1 : itR (A1 p) p fun k => Qa k A1 := w1
    unfold itR at w1
    split at w1
    · rename_i xs he
      obtain ⟨vs, hv, rl⟩ := sa1 _ _ he
      exact go p vs r1 (.of hv) _ rfl (q _ _ _ _ sim_lst sa1 k1 w1)
    · exact w1.elim
  | _ => exact w1.elim
def int1 : List Vl → Option Int
  | [.int n] => some n
  | _ => none
theorem int1_of {xs : List Vl} {n : Int} (h : int1 xs = some n) : xs = [.int n] := by
  unfold int1 at h
  split at h
  · cases h; rfl
  · cases h
def int2 : List Vl → Option (Int × Int)
  | [.int m, .int n] => some (m, n)
  | _ => none
theorem int2_of {xs : List Vl} {m n : Int} (h : int2 xs = some (m, n)) : xs = [.int m, .int n] := by
  unfold int2 at h
  split at h
  · cases h; rfl
  · cases h
theorem Rl.one {H : Hp} {x : Vl} {vs : List V} (h : Rl K H [x] vs) : ∃ v, vs = [v] ∧ Re K H x v := by
  obtain ⟨v, ws, rfl, r, t⟩ := h.cons_inv
  have := t.nil_inv; subst this
  exact ⟨v, rfl, r⟩
theorem Rl.two {H : Hp} {x y : Vl} {vs : List V} (h : Rl K H [x, y] vs) : ∃ v u, vs = [v, u] ∧ Re K H x v ∧ Re K H y u := by
  obtain ⟨v, ws, rfl, r, t⟩ := h.cons_inv
  obtain ⟨u, rfl, q⟩ := t.one
  exact ⟨v, u, rfl, r, q⟩
def rngOk (m n : Int) : Prop := -(2 ^ 62) ≤ m ∧ m < 2 ^ 62 ∧ -(2 ^ 62) ≤ n ∧ n < 2 ^ 62
def wiR1 (wa : WA) : WI := fun S A Q E => wa S A (fun xs A1 => ∃ n, int1 xs = some n ∧ rngOk 0 n ∧ Q ⟨rngL 0 n.toNat, fun _ => True, fun _ _ _ _ _ => trivial⟩ A1) E
theorem ai_range1 {wa : WA} {p : Pos} (hg : Gl X "range") (hm : X.mg "range" = none) (ha : AA X W [a] wa) (hs : starEach [a] X.env = [(false, eval a X.env)] := by exact star1 rfl) : AI X W tg (.Call (.Name "range" p) [a] [] pos) (wiR1 wa) :=
  pi_imp (pi_range1 hg hm ha hs) fun σ H R ⟨S, A, Qa, Ea, ss, sa, q, qx, w⟩ => ⟨S, A, _, Ea, ss, sa, fun xs A1 vs H1 r1 sa1 k1 w1 => by
    obtain ⟨n, e, ⟨_, _, h1, h2⟩, w1⟩ := w1
    rw [int1_of e] at r1
    obtain ⟨v, rfl, r⟩ := r1.one
    unfold Re at r; subst r
    exact ⟨n, rfl, h1, h2, q _ _ _ _ sim_rng sa1 k1 w1⟩, qx, w⟩
def wiR2 (wa : WA) : WI := fun S A Q E => wa S A (fun xs A1 => ∃ m n, int2 xs = some (m, n) ∧ rngOk m n ∧ Q ⟨rngL m (n - m).toNat, fun _ => True, fun _ _ _ _ _ => trivial⟩ A1) E
theorem ai_range2 {wa : WA} {p : Pos} (hg : Gl X "range") (hm : X.mg "range" = none) (ha : AA X W [a, b] wa) (hs : starEach [a, b] X.env = [(false, eval a X.env), (false, eval b X.env)] := by exact star2 rfl) (hs2 : starEach [b] X.env = [(false, eval b X.env)] := by exact star1 rfl) : AI X W tg (.Call (.Name "range" p) [a, b] [] pos) (wiR2 wa) :=
  pi_imp (pi_range2 hg hm ha hs hs2) fun σ H R ⟨S, A, Qa, Ea, ss, sa, q, qx, w⟩ => ⟨S, A, _, Ea, ss, sa, fun xs A1 vs H1 r1 sa1 k1 w1 => by
    obtain ⟨m, n, e, ho, w1⟩ := w1
    rw [int2_of e] at r1
    obtain ⟨v, u, rfl, r, r'⟩ := r1.two
    unfold Re at r r'; subst r; subst r'
    exact ⟨m, n, rfl, ho, q _ _ _ _ sim_rng sa1 k1 w1⟩, qx, w⟩

def enR (o : Option Ob) (p : Addr) (Q : Wk → Prop) : Prop := match o with
  | some (.lst xs) => Q ⟨enL 0 xs, fun A => A p = some (.lst xs), up_at⟩
  | _ => False
def enV (x : Vl) (A : Ah) (Q : Wk → Ah → Prop) : Prop := match x with
  | .lst xs => Q ⟨enL 0 xs, fun _ => True, fun _ _ _ _ _ => trivial⟩ A
  | .ref p => enR (A p) p fun k => Q k A
  | _ => False
def wiEn (wa : WA) : WI := fun S A Q E => wa S A (fun xs A1 => ∃ x, xs = [x] ∧ enV x A1 Q) E
theorem ai_enum {elts : List Expr} {kk : Nat} {tpos p : Pos} {wa : WA} (hg : Gl X "enumerate") (hm : X.mg "enumerate" = none) (ha : AA X W [e] wa) (hs : starEach [e] X.env = [(false, eval e X.env)] := by exact star1 rfl) : AI X W (.Tuple elts kk tpos) (.Call (.Name "enumerate" p) [e] [] pos) (wiEn wa) :=
  pi_imp (pi_enum hg hm ha hs) fun σ H R ⟨S, A, Qa, Ea, ss, sa, q, qx, w⟩ => ⟨S, A, _, Ea, ss, sa, fun xs A1 vs H1 r1 sa1 k1 ⟨x, ex, w1⟩ => by
    subst ex
    obtain ⟨v, rfl, rx⟩ := r1.one
    cases x with
    | lst ys =>
      unfold Re at rx
      obtain ⟨p, o, ws, rfl, st, rl⟩ := rx
      exact ⟨p, ws, rfl, .inl (.inr ⟨o, st⟩), q _ _ _ _ (sim_en fun A H sa k _ => ⟨ws, .inl (.inr ⟨o, k.frz _ _ _ st⟩), rl.keep k⟩) sa1 k1 w1⟩
    | ref p =>
      unfold Re at rx; subst rx
      have w1 : enR (A1 p) p fun k => Qa k A1 := w1
      unfold enR at w1
      split at w1
      · rename_i ys he
        obtain ⟨ws, hv, rl⟩ := sa1 _ _ he
        exact ⟨p, ws, rfl, .of hv, q _ _ _ _ (sim_en fun A H sa k ok => by obtain ⟨us, hu, r⟩ := sa _ _ ok; exact ⟨us, .of hu, r⟩) sa1 k1 w1⟩
      · exact w1.elim
    | _ => exact w1.elim, qx, w⟩
/-! ### targets; vs: the slots that they may store -/
abbrev WG := Vl → Sl → Ah → (Sl → Ah → Prop) → Prop
abbrev WGs := List Vl → Sl → Ah → (Sl → Ah → Prop) → Prop
def QG (K : PySem.W.Frag) (vs : List Nat) (σ : L2.St) (H : Hp) (Na : Sl → Ah → Prop) (N : L2.St → Hp → Prop) : Prop := ∀ S A' σ' H', SS K H' S σ' → SA K A' H' → Keep H H' → wipe σ' vs = wipe σ vs → Na S A' → N σ' H'
def LG (K : PySem.W.Frag) (vs : List Nat) (w : WG) : TG := fun v σ H Q => ∃ x S A Qa, Re K H x v ∧ SS K H S σ ∧ SA K A H ∧ QG K vs σ H Qa Q ∧ w x S A Qa
def LGs (K : PySem.W.Frag) (vs : List Nat) (w : WGs) : TGs := fun v σ H Q => ∃ x S A Qa, Rl K H x v ∧ SS K H S σ ∧ SA K A H ∧ QG K vs σ H Qa Q ∧ w x S A Qa
abbrev AG (X : Cx) (vs : List Nat) (tg : Expr) (w : WG) : Prop := PG X tg (LG X.K vs w)
abbrev AGs (X : Cx) (vs : List Nat) (tgs : List Expr) (w : WGs) : Prop := PGs X tgs (LGs X.K vs w)
theorem wipe_get {σ : L2.St} {j : Nat} : ∀ {vs : List Nat}, (wipe σ vs)[j]? = if j ∈ vs then (if j < σ.length then some none else none) else σ[j]?
  | [] => by simp [wipe]
  | v :: vs => by
    unfold wipe
    by_cases h : v = j
    · subst h
      simp only [List.mem_cons, true_or, if_true]
      by_cases hl : v < σ.length
      · rw [if_pos hl, List.getElem?_set_self (by rw [wipe_length]; exact hl)]
      · rw [if_neg hl, List.getElem?_eq_none (by rw [List.length_set, wipe_length]; omega)]
    · rw [List.getElem?_set_ne h, wipe_get]
      have : (j ∈ v :: vs) ↔ j ∈ vs := by simp [Ne.symm h]
      simp only [this]
theorem wipe_set {σ : L2.St} {i : Nat} {x : Option V} {vs : List Nat} (h : i ∈ vs) : wipe (σ.set i x) vs = wipe σ vs := by
  apply List.ext_getElem?
  intro j
  rw [wipe_get, wipe_get, List.length_set]
  by_cases hj : j ∈ vs
  · rw [if_pos hj, if_pos hj]
  · rw [if_neg hj, if_neg hj, List.getElem?_set_ne (fun z => hj (by rw [← z]; exact h))]
def wipeA (S : Sl) : List Nat → Sl
  | [] => S
  | v :: vs => (wipeA S vs).set v none
theorem SS.wipe {H : Hp} {S : Sl} {σ : L2.St} (s : SS K H S σ) : ∀ vs : List Nat, SS K H (wipeA S vs) (wipe σ vs)
  | [] => s
  | v :: vs => (s.wipe vs).setNone v
def gN (i : Nat) : WG := fun x S A Q => Q (S.set i (some x)) A
theorem pg_imp {t t' : TG} (h : PG X tg t) (i : ∀ v σ H Q, t' v σ H Q → t v σ H Q) : PG X tg t' := ⟨fun pins s σ H v u Q I r w => h.run pins s σ H v u Q I r (i _ _ _ _ w)⟩
theorem pgs_imp {t t' : TGs} (h : PGs X es t) (i : ∀ v σ H Q, t' v σ H Q → t v σ H Q) : PGs X es t' := ⟨fun pins s σ H v u Q I r w => h.run pins s σ H v u Q I r (i _ _ _ _ w)⟩
theorem ag_name {i : Nat} {x : Str} {vs : List Nat} (hN : X.N.Nodup) (hi : X.N[i]? = some x) (hx : Loc X.env.scope x) (hv : i ∈ vs) (hf : X.fn x = true ∨ X.env.scope.names.lookup x = some .local := by first | exact .inl rfl | exact .inr rfl | assumption) : AG X vs (.Name x pos) (gN i) :=
  pg_imp (pg_name hN hi hx hf) fun v σ H Q ⟨y, S, A, Qa, r, ss, sa, q, w⟩ => q _ _ _ _ (ss.set i r) sa .refl (wipe_set hv) w
def gNl : WGs := fun xs S A Q => xs = [] ∧ Q S A
def gCn (g : WG) (r : WGs) : WGs := fun xs S A Q => match xs with
  | x :: xs => g x S A fun S1 A1 => r xs S1 A1 Q
  | [] => False
theorem ags_nil {vs : List Nat} : AGs X vs [] gNl := pgs_imp pgs_nil fun v σ H Q ⟨xs, S, A, Qa, r, ss, sa, q, w⟩ => by
  obtain ⟨rfl, w⟩ := w
  exact ⟨r.nil_inv, q _ _ _ _ ss sa .refl rfl w⟩
theorem ags_cons {g : WG} {r : WGs} {vs : List Nat} (h1 : AG X vs e g) (h2 : AGs X vs es r) (hs : (assignEach (e :: es) X.env).map (·.2) = assign e X.env :: (assignEach es X.env).map (·.2) := by exact asgN rfl) : AGs X vs (e :: es) (gCn g r) :=
  pgs_imp (pgs_cons h1 h2 hs) fun v σ H Q ⟨xs, S, A, Qa, rl, ss, sa, q, w⟩ => by
    cases xs with
    | nil => exact w.elim
    | cons x xs =>
      obtain ⟨u, us, rfl, r1, rr⟩ := rl.cons_inv
      refine ⟨u, us, rfl, x, S, A, _, r1, ss, sa, fun S1 A1 σ1 H1 ss1 sa1 k1 hw w1 => ?_, w⟩
      exact ⟨xs, S1, A1, Qa, rr.keep k1, ss1, sa1, fun S2 A2 σ2 H2 ss2 sa2 k2 hw2 w2 => q _ _ _ _ ss2 sa2 (k1.trans k2) (hw2.trans hw) w2, w1⟩
def gT (n : Nat) (g : WGs) : WG := fun x S A Q => match x with
  | .tup xs => xs.length = n ∧ g xs S A Q
  | .wtp xs => xs.length = n ∧ g xs S A Q
  | _ => False
theorem ag_tup {g : WGs} {vs : List Nat} {n k : Nat} (hc : X.calm = true) (h : AGs X vs es g) (hn : (assignEach es X.env).length = n := by exact asgLenOf rfl) (hst : (assignEach es X.env).findIdx? (·.1) = none := by exact asgIdx rfl) : AG X vs (.Tuple es k pos) (gT n g) :=
  pg_imp (pg_tup hc h hn hst) fun v σ H Q ⟨x, S, A, Qa, r, ss, sa, q, w⟩ => by
    cases x with
    | tup xs =>
      unfold Re at r
      obtain ⟨p, us, rfl, st, rl⟩ := r
      exact ⟨p, us, rfl, st.1, by rw [← rl.length]; exact w.1, xs, S, A, Qa, rl, ss, sa, q, w.2⟩
    | wtp xs =>
      unfold Re at r
      obtain ⟨p, us, rfl, st, rl⟩ := r
      exact ⟨p, us, rfl, st, by rw [← rl.length]; exact w.1, xs, S, A, Qa, rl, ss, sa, q, w.2⟩
    | _ => exact w.elim
/-- o[i] = x, by values -/
abbrev F3 := Vl → Vl → Vl → Ah → (Ah → Prop) → Prop
def Sim3 (K : PySem.W.Frag) (t : TSet) (f : F3) : Prop := ∀ {x y z : Vl} {o i v : V} {A : Ah} {H : Hp} {Q : Hp → Prop} {Qa : Ah → Prop}, Re K H x o → Re K H y i → Re K H z v → SA K A H → (∀ A' H', SA K A' H' → Keep H H' → Qa A' → Q H') → f x y z A Qa → t o i v H Q
def noE : EX := fun _ _ => False
theorem noE_qx {H : Hp} {E : XK} : QX K H noE E := fun _ _ _ _ _ _ _ _ h => h.elim
def gS (f : F3) (wo wi : WE) : WG := fun z S A Q => wo S A (fun x A1 => wi S A1 (fun y A2 => f x y z A2 fun A3 => Q S A3) noE) noE
theorem ag_sub {t : TSet} {f : F3} {wo wi : WE} {i : Expr} {vs : List Nat} (hp : PSet X t) (hs : Sim3 X.K t f) (ho : AE X W o wo) (hi : AE X W i wi)
    (ha : ∀ v, assign (.Subscript o i pos) X.env v = (do
      let ov ← holding [v] (eval o X.env)
      let iv ← holding [v, ov] (eval i X.env)
      standAt pos
      holding [v, ov, iv] (setItem ov iv v)
      release [v, ov, iv] []) := by exact asgSub rfl) : AG X vs (.Subscript o i pos) (gS f wo wi) :=
  pg_imp (pg_sub ho hi hp ha) fun v σ H Q ⟨z, S, A, Qa, r, ss, sa, q, w⟩ => ⟨S, A, _, noE, ss, sa, fun x A1 u H1 r1 sa1 k1 w1 =>
    ⟨S, A1, _, noE, ss.keep k1, sa1, fun y A2 t H2 r2 sa2 k2 w2 => hs (r1.keep k2) r2 (r.keep (k1.trans k2)) sa2 (fun A3 H3 sa3 k3 w3 => q _ _ _ _ (ss.keep ((k1.trans k2).trans k3)) sa3 ((k1.trans k2).trans k3) rfl w3) w2, noE_qx, w1⟩, noE_qx, w⟩

/-! ### statements -/
variable {st : Stmt} {sts : List Stmt} {body orelse : List Stmt}
theorem ass_nil : ASs X W [] (fun D S A => D.nx S A) := pss_imp pss_nil fun D σ H ⟨S, A, Da, ss, sa, q, w⟩ => q.nx _ _ _ _ ss sa .refl w
def wSeq (w1 w2 : WS) : WS := fun D S A => w1 { D with nx := w2 D } S A
theorem ass_cons {w1 w2 : WS} (h1 : AS X W st w1) (h2 : ASs X W sts w2) : ASs X W (st :: sts) (wSeq w1 w2) :=
  pss_imp (pss_cons h1 h2) fun D σ H ⟨S, A, Da, ss, sa, q, w⟩ => ⟨S, A, { Da with nx := w2 Da }, ss, sa, ⟨fun S1 A1 σ1 H1 ss1 sa1 k1 w1 => ⟨S1, A1, Da, ss1, sa1, q.keep k1, w1⟩, q.rt, q.bk, q.ct, q.ex⟩, w⟩
theorem ass_one {w1 : WS} (h1 : AS X W st w1) : ASs X W [st] w1 := pss_one h1
theorem as_pass : AS X W (.Pass pos) (fun D S A => D.nx S A) := ps_imp ps_pass fun D σ H ⟨S, A, Da, ss, sa, q, w⟩ => q.nx _ _ _ _ ss sa .refl w
theorem as_break : AS X W (.Break pos) (fun D S A => D.bk S A) := ps_imp ps_break fun D σ H ⟨S, A, Da, ss, sa, q, w⟩ => q.bk _ _ _ _ ss sa .refl w
theorem as_continue : AS X W (.Continue pos) (fun D S A => D.ct S A) := ps_imp ps_continue fun D σ H ⟨S, A, Da, ss, sa, q, w⟩ => q.ct _ _ _ _ ss sa .refl w
def wEx (w : WE) : WS := fun D S A => w S A (fun _ A1 => D.nx S A1) (fun x A1 => D.ex x S A1)
theorem as_expr {w : WE} (h : AE X W e w) (hs : swapsWith e none pos.line X.env = pure false := by exact swapOf rfl) : AS X W (.Expr e pos) (wEx w) :=
  ps_imp (ps_expr h hs) fun D σ H ⟨S, A, Da, ss, sa, q, w⟩ => ⟨S, A, _, _, ss, sa, fun x A1 v H1 r1 sa1 k1 w1 => q.nx _ _ _ _ (ss.keep k1) sa1 k1 w1, q.ex.at ss, w⟩
def wRet (w : WE) : WS := fun D S A => w S A D.rt (fun x A1 => D.ex x S A1)
theorem as_ret {w : WE} (h : AE X W e w) : AS X W (.Return (some e) pos) (wRet w) :=
  ps_imp (ps_ret h) fun D σ H ⟨S, A, Da, ss, sa, q, w⟩ => ⟨S, A, _, _, ss, sa, q.rt, q.ex.at ss, w⟩
theorem as_retN : AS X W (.Return none pos) (fun D S A => D.rt .non A) := ps_imp ps_retN fun D σ H ⟨S, A, Da, ss, sa, q, w⟩ => q.rt _ _ _ _ (re_non _) sa .refl w
def wIfS (t : WT) (w1 w2 : WS) : WS := fun D S A => t S A (fun k A1 => if k = true then w1 D S A1 else w2 D S A1) (fun x A1 => D.ex x S A1)
theorem as_if {t : WT} {w1 w2 : WS} (ht : AT X W c t) (h1 : ASs X W body w1) (h2 : ASs X W orelse w2) : AS X W (.If c body orelse pos) (wIfS t w1 w2) :=
  ps_imp (ps_if ht h1 h2) fun D σ H ⟨S, A, Da, ss, sa, q, w⟩ => ⟨S, A, _, _, ss, sa, fun k A1 H1 sa1 k1 w1 => by
    cases k with
    | true => rw [if_pos rfl] at w1 ⊢; exact ⟨S, A1, Da, ss.keep k1, sa1, q.keep k1, w1⟩
    | false => rw [if_neg Bool.false_ne_true] at w1 ⊢; exact ⟨S, A1, Da, ss.keep k1, sa1, q.keep k1, w1⟩, q.ex.at ss, w⟩
def wAsg (w : WE) (g : WG) : WS := fun D S A => w S A (fun x A1 => g x S A1 D.nx) (fun x A1 => D.ex x S A1)
theorem ls_asg {w : WE} {g : WG} {vs : List Nat} {D : Ends} {σ : L2.St} {H : Hp} (h : LS K W (wAsg w g) D σ H) : tAsg (LE K W w) (LG K vs g) D σ H := by
  obtain ⟨S, A, Da, ss, sa, q, w⟩ := h
  exact ⟨S, A, _, _, ss, sa, fun x A1 v H1 r1 sa1 k1 w1 => ⟨x, S, A1, _, r1, ss.keep k1, sa1, fun S2 A2 σ2 H2 ss2 sa2 k2 _ w2 => q.nx _ _ _ _ ss2 sa2 (k1.trans k2) w2, w1⟩, q.ex.at ss, w⟩
theorem as_asg {w : WE} {g : WG} {vs : List Nat} (h : AE X W e w) (hg : AG X vs tg g) (hs : swapsWithSole [tg] e pos.line X.env = pure false := by exact swap1 rfl) (hw : swappedStores [tg] e X.env = pure none := by exact storesOf rfl)
    (h1 : (assignEach [tg] X.env).map (·.2) = [assign tg X.env] := by exact asg1 rfl) : AS X W (.Assign [tg] e pos) (wAsg w g) := ps_imp (ps_asg h hg hs hw h1) fun _ _ _ h => ls_asg h
theorem as_set {i : Nat} {x : Str} {w : WE} {pos' : Pos} (hN : X.N.Nodup) (hi : X.N[i]? = some x) (hx : Loc X.env.scope x) (h : AE X W e w) (hs : swapsWith e (some (.Name x pos')) pos.line X.env = pure false := by exact swapOf rfl) (hf : X.fn x = true ∨ X.env.scope.names.lookup x = some .local := by first | exact .inl rfl | exact .inr rfl | assumption) :
    AS X W (.Assign [.Name x pos'] e pos) (wAsg w (gN i)) :=
  ps_imp (ps_set hN hi hx h hs hf) fun D σ H ⟨S, A, Da, ss, sa, q, w⟩ => ⟨S, A, _, _, ss, sa, fun x A1 v H1 r1 sa1 k1 w1 => q.nx _ _ _ _ ((ss.keep k1).set i r1) sa1 k1 w1, q.ex.at ss, w⟩
/-- a, b = x, y -/
def wPar (i j : Nat) (wa : WA) : WS := fun D S A => wa S A (fun xs A1 => ∃ x y, xs = [x, y] ∧ D.nx ((S.set i (some x)).set j (some y)) A1) (fun x A1 => D.ex x S A1)
theorem as_par {i j : Nat} {x y : Str} {px py pt : Pos} {kt k2 pt2} {wa : WA} (hc : X.calm = true) (hN : X.N.Nodup) (hi : X.N[i]? = some x) (hj : X.N[j]? = some y) (hij : i ≠ j)
    (hx : X.env.scope.names.lookup x = some .local) (hy : X.env.scope.names.lookup y = some .local) (ha : AA X W [a, b] wa) (h : ∀ {t}, PA X [a, b] t → PS X (.Assign [.Tuple [.Name x px, .Name y py] kt pt] (.Tuple [a, b] k2 pt2) pos) (tPar i j t)) :
    AS X W (.Assign [.Tuple [.Name x px, .Name y py] kt pt] (.Tuple [a, b] k2 pt2) pos) (wPar i j wa) :=
  ps_imp (h ha) fun D σ H ⟨S, A, Da, ss, sa, q, w⟩ => ⟨S, A, _, _, ss, sa, fun xs A1 vs H1 r1 sa1 k1 w1 => by
    obtain ⟨x, y, rfl, w1⟩ := w1
    obtain ⟨v, u, rfl, r, r'⟩ := r1.two
    exact ⟨v, u, rfl, q.nx _ _ _ _ (((ss.keep k1).set i r).set j r') sa1 k1 w1⟩, q.ex.at ss, w⟩

/-! ### loops -/
def forL (ok : Ah → Prop) (g : WG) (w : WS) (D : Es) : List Vl → Sl → Ah → Prop
  | [], S, A => ok A ∧ D.nx S A
  | x :: xs, S, A => ok A ∧ g x S A fun S1 A1 => w { D with nx := forL ok g w D xs, ct := forL ok g w D xs, bk := D.nx } S1 A1
def wFor (wi : WI) (g : WG) (w : WS) : WS := fun D S A => wi S A (fun k A1 => forL k.ok g w D k.its S A1) (fun x A1 => D.ex x S A1)
theorem as_for {wi : WI} {g : WG} {w : WS} {vs : List Nat} (hp : PassesOwn (model X.prog X.w) X.A X.env X.xe) (hc : X.calm = true) (hi : AI X W tg iter wi) (hg : AG X vs tg g) (hb : ASs X W body w)
    (hs : ∀ x, foldedSetIterable iter X.env x = pure x := by exact foldOf rfl) : AS X W (.For tg iter body [] pos) (wFor wi g w) :=
  ps_imp (ps_for hp hc hi hg hb hs) fun D σ H ⟨S, A, Da, ss, sa, q, wv⟩ => ⟨S, A, _, _, ss, sa, fun k A1 J H1 sim sa1 k1 w1 => by
    refine ⟨fun i m σ' H' => m = k.its.length - i ∧ i ≤ k.its.length ∧ ∃ S' A', SS X.K H' S' σ' ∧ SA X.K A' H' ∧ Keep H1 H' ∧ forL k.ok g w Da (k.its.drop i) S' A', ⟨_, rfl, Nat.zero_le _, S, A1, ss.keep k1, sa1, .refl, w1⟩, ?_⟩
    rintro i m σ2 H2 ⟨rfl, hi, S2, A2, ss2, sa2, k2, w2⟩
    by_cases hlt : i < k.its.length
    · rw [List.drop_eq_getElem_cons hlt] at w2
      obtain ⟨ok2, w2⟩ := w2
      obtain ⟨_, go⟩ := sim i A2 H2 sa2 k2 ok2
      obtain ⟨go, yl⟩ := go k.its[i] (by simp [hlt])
      refine .inr ⟨go, fun σ' H' => ∃ S' A', SS X.K H' S' σ' ∧ SA X.K A' H' ∧ Keep H1 H' ∧ forL k.ok g w Da (k.its.drop (i + 1)) S' A', fun σ' H' ⟨S', A', h1, h2, h3, h4⟩ => ⟨k.its.length - (i + 1), by omega, rfl, hlt, S', A', h1, h2, h3, h4⟩, fun x H3 y3 => ?_⟩
      obtain ⟨k3, sa3, r3⟩ := yl x H3 y3
      refine ⟨_, S2, A2, _, r3, ss2.keep k3, sa3, fun S4 A4 σ4 H4 ss4 sa4 k4 _ w4 => ?_, w2⟩
      have kk : Keep H H4 := ((k1.trans k2).trans k3).trans k4
      have k14 : Keep H1 H4 := (k2.trans k3).trans k4
      exact ⟨S4, A4, { Da with nx := forL k.ok g w Da (k.its.drop (i + 1)), ct := forL k.ok g w Da (k.its.drop (i + 1)), bk := Da.nx }, ss4, sa4, ⟨fun S5 A5 σ5 H5 ss5 sa5 k5 w5 => ⟨S5, A5, ss5, sa5, k14.trans k5, w5⟩, q.rt.keep kk, q.nx.keep kk, fun S5 A5 σ5 H5 ss5 sa5 k5 w5 => ⟨S5, A5, ss5, sa5, k14.trans k5, w5⟩, q.ex.keep kk⟩, w4⟩
    · rw [List.drop_eq_nil_of_le (by omega)] at w2
      obtain ⟨ok2, w2⟩ := w2
      obtain ⟨stop, _⟩ := sim i A2 H2 sa2 k2 ok2
      exact .inl ⟨stop (by omega), q.nx _ _ _ _ ss2 sa2 (k1.trans k2) w2⟩, q.ex.at ss, wv⟩
def whN (t : WT) (w : WS) (D : Es) : Nat → Sl → Ah → Prop
  | 0, _, _ => False
  | n + 1, S, A => t S A (fun k A1 => if k = true then w { D with nx := whN t w D n, ct := whN t w D n, bk := D.nx } S A1 else D.nx S A1) (fun x A1 => D.ex x S A1)
def wWh (t : WT) (w : WS) : WS := fun D S A => ∃ n, whN t w D n S A
theorem as_while {t : WT} {w : WS} (hp : PassesOwn (model X.prog X.w) X.A X.env X.xe) (ht : AT X W c t) (hb : ASs X W body w) : AS X W (.While c body [] pos) (wWh t w) :=
  ps_imp (ps_while hp ht hb) fun D σ H ⟨S, A, Da, ss, sa, q, n, wv⟩ => by
    refine ⟨fun m σ' H' => ∃ S' A', SS X.K H' S' σ' ∧ SA X.K A' H' ∧ Keep H H' ∧ whN t w Da m S' A', ⟨n, S, A, ss, sa, .refl, wv⟩, ?_⟩
    rintro m σ2 H2 ⟨S2, A2, ss2, sa2, k2, w2⟩
    cases m with
    | zero => exact w2.elim
    | succ m =>
      refine ⟨S2, A2, _, _, ss2, sa2, fun b A3 H3 sa3 k3 w3 => ?_, (q.ex.keep k2).at ss2, w2⟩
      have k23 := k2.trans k3
      cases b with
      | true =>
        rw [if_pos rfl] at w3
        simp only [if_true]
        refine ⟨fun σ' H' => ∃ S' A', SS X.K H' S' σ' ∧ SA X.K A' H' ∧ Keep H H' ∧ whN t w Da m S' A', fun σ' H' h => ⟨m, Nat.lt_succ_self _, h⟩, S2, A3, { Da with nx := whN t w Da m, ct := whN t w Da m, bk := Da.nx }, ss2.keep k3, sa3, ⟨fun S5 A5 σ5 H5 ss5 sa5 k5 w5 => ⟨S5, A5, ss5, sa5, k23.trans k5, w5⟩, q.rt.keep k23, q.nx.keep k23, fun S5 A5 σ5 H5 ss5 sa5 k5 w5 => ⟨S5, A5, ss5, sa5, k23.trans k5, w5⟩, q.ex.keep k23⟩, w3⟩
      | false =>
        rw [if_neg Bool.false_ne_true] at w3
        simp only [Bool.false_eq_true, if_false]
        exact q.nx _ _ _ _ (ss2.keep k3) sa3 k23 w3

/-! ### comprehensions -/
abbrev noW : WX := fun _ _ _ _ => False
def lcP (ok : Ah → Prop) (g : WG) (t : WT) (w : WE) (S : Sl) (Q : List Vl → Ah → Prop) : List Vl → List Vl → Ah → Prop
  | [], acc, A => ok A ∧ Q acc A
  | x :: xs, acc, A => ok A ∧ g x S A fun S1 A1 => t S1 A1 (fun b A2 => if b = true then w S1 A2 (fun y A3 => acc.length < sizeLine ∧ lcP ok g t w S Q xs (acc ++ [y]) A3) noE else lcP ok g t w S Q xs acc A2) noE
def wLc (m : Md) (wi : WI) (g : WG) (t : WT) (w : WE) (vs : List Nat) : WE := fun S A Q E => wi S A (fun k A1 => lcP k.ok g t w (wipeA S vs) (fun ys A2 => newL m ys A2 Q) k.its [] A1) E
/-! a list in the making is locked, twice, while its items are made -/
section
variable {pins : List (Addr × Obj)} {σ : L2.St} {H : Hp} {s : Shared}
theorem lock2 {d : Addr} {u : HO} (I : Inv X pins σ H s) (h : H d = some u) (mu : Mut (some u)) : ∃ od, Inv X pins σ (upd H d (.frz od (.frz od u))) s := by
  have x := I.hok d u h
  obtain ⟨od, I1⟩ := I.lock h mu
  have e : s.heap.get? d = some od := (I1.hok d _ upd_same).1
  have new : ObjOk X.prog X.w (upd H d (.frz od (.frz od u))) s.heap d (.frz od (.frz od u)) := by
    refine ⟨e, e, x.stay (fun b v _ q => q) (fun b q => ?_) fun b xs q => ?_⟩
    · rw [upd_ne (fun z => by rw [z, h] at q; cases q; exact mu)]; exact q
    · rw [upd_ne (fun z => by rw [z, h] at q; cases q; exact mu)]; exact q
  exact ⟨od, I.write (x := d) (e := d) (t' := s.toks) (h' := s.heap) (by rw [h]; exact mu) (.inl rfl) (fun b v _ q => q) ⟨od, e⟩ new⟩
theorem unlock2 {d : Addr} {od : Obj} {u : HO} {H1 : Hp} {σ1 : L2.St} {pins1 : List (Addr × Obj)} {s1 : Shared} (I : Inv X pins σ H s) (h : H d = some u) (mu : Mut (some u)) (J : Inv X pins1 σ1 H1 s1) (h1 : H1 d = some (.frz od (.frz od u))) : Inv X pins1 σ1 (upd H1 d u) s1 := by
  have n := I.nofrz h mu
  have J1 := J.unlock h1 n
  have J2 := J1.unlock (u := u) upd_same n
  rwa [upd_upd] at J2
end
def dbl (od : Obj) (u : HO) : HO := .frz od (.frz od u)
def tLockG (t : TG) : TG := fun v σ H Q => ∃ d w, H d = some w ∧ Mut (some w) ∧ ∀ od, t v σ (upd H d (dbl od w)) fun σ' H' => H' d = some (dbl od w) ∧ Q σ' (upd H' d w)
theorem pg_lock {e : Expr} {t : TG} (h : PG X e t) : PG X e (tLockG t) := by
  refine ⟨fun pins s σ H v u Q I r hw => ?_⟩
  obtain ⟨d, w, hd, mu, hw⟩ := hw
  obtain ⟨od, I1⟩ := lock2 I hd mu
  exact thn (h.run pins s σ _ v _ _ I1 r (hw od)) fun _ s1 ⟨σ', H1, I2, e2, q⟩ => ⟨σ', _, unlock2 I hd mu I2 e2, q⟩
def tLockT (t : TT) : TT := fun σ H Q => ∃ d w, H d = some w ∧ Mut (some w) ∧ ∀ od, t σ (upd H d (dbl od w)) fun b H' => H' d = some (dbl od w) ∧ Q b (upd H' d w)
theorem pts_lock {es : List Expr} {t : TT} (h : PTs X es t) : PTs X es (tLockT t) := by
  refine ⟨fun pins s σ H Q I hw => ?_⟩
  obtain ⟨d, w, hd, mu, hw⟩ := hw
  obtain ⟨od, I1⟩ := lock2 I hd mu
  exact thn (h.run pins s σ _ _ I1 (hw od)) fun b s1 ⟨H1, I2, e2, q⟩ => ⟨_, unlock2 I hd mu I2 e2, q⟩
def tLockE (t : TE) : TE := fun σ H Q => ∃ d w, H d = some w ∧ Mut (some w) ∧ ∀ od, t σ (upd H d (dbl od w)) fun v H' => H' d = some (dbl od w) ∧ Q v (upd H' d w)
theorem pe_lock2 {e : Expr} {t : TE} (h : PE X e t) : PE X e (tLockE t) := by
  refine ⟨fun pins s σ H Q I hw => ?_⟩
  obtain ⟨d, w, hd, mu, hw⟩ := hw
  obtain ⟨od, I1⟩ := lock2 I hd mu
  exact thn (h.run pins s σ _ _ I1 (hw od)) fun v s1 ⟨x, H1, I2, r, e2, q⟩ => ⟨x, _, unlock2 I hd mu I2 e2, r, q⟩
/-- nothing is told of a list that is locked twice -/
theorem SA.locked {A : Ah} {H : Hp} {d : Addr} {o : Obj} {w : HO} (s : SA K A H) (h : H d = some (dbl o w)) : A d = none := by
  cases e : A d with
  | none => rfl
  | some b =>
    have x := s d b e
    cases b with
    | lst xs => obtain ⟨vs, q, _⟩ := x; rw [h] at q; cases q
    | dct kvs => obtain ⟨u, q, _⟩ := x; rw [h] at q; cases q
    | lok kvs => obtain ⟨o, u, q, _⟩ := x; rw [h] at q; cases q
    | dtt kvs => obtain ⟨u, q, _⟩ := x; rw [h] at q; cases q
    | lot kvs => obtain ⟨o, u, q, _⟩ := x; rw [h] at q; cases q
    | ins C fs => obtain ⟨dx, gs, q, _⟩ := x; rw [h] at q; cases q
theorem Kw.unl {H : Hp} {d : Addr} {u w : HO} {od : Obj} (h : H d = some (dbl od w)) : Kw H (upd H d u) :=
  ⟨fun b xs e => by rw [upd_ne fun z => by subst z; rw [h] at e; cases e]; exact e, fun b o w m e => by rw [upd_ne fun z => by subst z; rw [h] at e; cases e; exact m]; exact e, fun b gs e => by rw [upd_ne fun z => by subst z; rw [h] at e; cases e]; exact e⟩
theorem Keep.unlock {H H' : Hp} {d : Addr} {u u' : HO} (k : Keep (upd H d u') H') (n : Mut (H d)) : Keep H (upd H' d u) := by
  have ne : ∀ {b : Addr} {x : HO}, H b = some x → ¬ Mut (some x) → b ≠ d := fun {b x} h m z => by subst z; rw [h] at n; exact m n
  exact .mk' (fun b xs h => by have := ne h (fun z => z); rw [upd_ne this]; exact k.tup b xs (by rw [upd_ne this]; exact h)) (fun b o w h => by have := ne h (fun z => z); rw [upd_ne this]; exact k.frz b o w (by rw [upd_ne this]; exact h)) fun b gs h => by have := ne h (fun z => z); rw [upd_ne this]; exact k.xd b gs (by rw [upd_ne this]; exact h)
theorem Keep.trans0 {H H1 : Hp} {d : Addr} {u w : HO} {us : List V} (k : Keep H H1) (_ : H1 d = some w) (n : Mut (H d)) (_ : H d = some (.lst us)) : Keep H (upd H1 d u) := by
  have ne : ∀ {b : Addr} {x : HO}, H b = some x → ¬ Mut (some x) → b ≠ d := fun {b x} h m z => by subst z; rw [h] at n; exact m n
  exact .mk' (fun b xs h => by rw [upd_ne (ne h fun z => z)]; exact k.tup b xs h) (fun b o w h => by rw [upd_ne (ne h fun z => z)]; exact k.frz b o w h) fun b gs h => by rw [upd_ne (ne h fun z => z)]; exact k.xd b gs h
theorem SA.aside {A : Ah} {H : Hp} {d : Addr} {u : HO} (s : SA K A H) (n : A d = none) (k : Kw H (upd H d u)) : SA K A (upd H d u) := fun b o e => (s b o e).moveW k (upd_ne fun z => by subst z; rw [n] at e; cases e)
theorem SA.with {A : Ah} {H : Hp} {d : Addr} {xs : List Vl} {us : List V} (s : SA K A H) (h : H d = some (.lst us)) (r : Rl K H xs us) : SA K (put A d (.lst xs)) H := fun b o e => by
  by_cases hb : b = d
  · subst hb; rw [put_same] at e; cases e; exact ⟨us, h, r⟩
  · rw [put_ne hb] at e; exact s b o e
theorem SA.less {A : Ah} {H : Hp} {d : Addr} {o : Ob} (s : SA K (put A d o) H) (n : A d = none) : SA K A H := fun b u e => s b u (by rw [put_ne fun z => by subst z; rw [n] at e; cases e]; exact e)
/-- a list just made: one that nobody changes, or one that is told of -/
theorem ql_fin {A : Ah} {H1 H2 : Hp} {Qa : QE} {Q : VK} {m : Md} {acc : List Vl} {us : List V} {D : Addr} (q : QL K H1 Qa Q) (sa : SA K A H2) (k : Keep H1 H2) (d : H2 D = some (.lst us)) (n : A D = none) (r : Rl K H2 acc us) (_ : H1 D = none) (w : newL m acc A Qa) : Gq Q (.ref D) H2 := by
  cases m with
  | M => exact .inl (q _ _ _ _ (by unfold Re; rfl) (sa.with d r) k (w D n))
  | F =>
    refine .inr ⟨D, .lst us, d, trivial, fun od => ?_⟩
    have kl : Keep H2 (upd H2 D (.frz od (.lst us))) := .write (by rw [d]; trivial)
    exact q _ _ _ _ (by unfold Re; exact ⟨D, od, us, rfl, upd_same, r.keep kl⟩) (sa.aside n kl.w) (k.trans kl) w
abbrev ATs (X : Cx) (W : WX) (ifs : List Expr) (t : WT) : Prop := PTs X ifs (LT X.K W t)
def wYes : WT := fun _ A Q _ => Q true A
theorem ats_nil : ATs X W [] wYes := ⟨fun pins s σ H Q I ⟨S, A, Qa, Ea, ss, sa, q, qx, w⟩ => pts_nil.run pins s σ H Q I (q _ _ _ sa .refl w)⟩
theorem ats_one {t : WT} (h : AT X W c t) : ATs X W [c] t := pts_one h
theorem le_lc {m : Md} {wi : WI} {g : WG} {t : WT} {w : WE} {vs : List Nat} {σ : L2.St} {H : Hp} {Q : VK} (h : LE K W (wLc m wi g t w vs) σ H Q) : tLc (LI K W wi) (tLockG (LG K vs g)) (tLockT (LT K noW t)) (tLockE (LE K noW w)) vs σ H (Gq Q) := by
  obtain ⟨S, A, Qa, Ea, ss, sa, q, qx, wv⟩ := h
  refine ⟨S, A, _, _, ss, sa, fun k A1 J H1 sim sa1 k1 w1 => ?_, qx, wv⟩
  intro D hD
  have kD : Keep H1 (upd H1 D (.lst [])) := .new hD
  refine ⟨fun i n H' => n = k.its.length - i ∧ i ≤ k.its.length ∧ ∃ A' acc us, SA K A' H' ∧ A' D = none ∧ Keep H1 H' ∧ H' D = some (.lst us) ∧ Rl K H' acc us ∧ lcP k.ok g t w (wipeA S vs) (fun ys A2 => newL m ys A2 Qa) (k.its.drop i) acc A', ⟨_, rfl, Nat.zero_le _, A1, [], [], sa1.newU hD, sa1.fresh hD, kD, upd_same, .nil, w1⟩, ?_⟩
  rintro i n H2 ⟨rfl, hi, A2, acc, us, sa2, n2, k2, d2, r2, w2⟩
  by_cases hlt : i < k.its.length
  · rw [List.drop_eq_getElem_cons hlt] at w2
    obtain ⟨ok2, w2⟩ := w2
    obtain ⟨_, go⟩ := sim i (put A2 D (.lst acc)) H2 (sa2.with d2 r2) k2 (k.up _ _ _ n2 ok2)
    obtain ⟨go, yl⟩ := go k.its[i] (by simp [hlt])
    refine .inr ⟨go, fun H' => ∃ A' acc us, SA K A' H' ∧ A' D = none ∧ Keep H1 H' ∧ H' D = some (.lst us) ∧ Rl K H' acc us ∧ lcP k.ok g t w (wipeA S vs) (fun ys A2 => newL m ys A2 Qa) (k.its.drop (i + 1)) acc A', fun H' ⟨A', acc, us, h2, h3, h4, h5, h6, h7⟩ => ⟨k.its.length - (i + 1), by omega, rfl, hlt, A', acc, us, h2, h3, h4, h5, h6, h7⟩, fun x H3 y3 => ?_⟩
    obtain ⟨k3, sa3', r3⟩ := yl x H3 y3
    obtain ⟨us3, d3, rl3⟩ := sa3' D _ put_same
    have sa3 := sa3'.less n2
    have k13 := k2.trans k3
    have mu3 : Mut (H3 D) := by rw [d3]; trivial
    refine ⟨D, .lst us3, d3, trivial, fun od => ?_⟩
    have kl : Keep H3 (upd H3 D (dbl od (.lst us3))) := .write mu3
    refine ⟨_, wipeA S vs, A2, _, r3.keep kl, (ss.keep ((k1.trans k13).trans kl)).wipe vs, sa3.aside n2 kl.w, fun S4 A4 σ4 H4 ss4 sa4 k4 hw w4 => ?_, w2⟩
    have ww : wipe (wipe σ vs) vs = wipe σ vs := by
      apply List.ext_getElem?
      intro j
      by_cases hj : j ∈ vs <;> simp only [wipe_get, wipe_length, hj, if_true, if_false]
    have d4 : H4 D = some (dbl od (.lst us3)) := k4.frz D _ _ upd_same
    have n4 := sa4.locked d4
    have ku4 : Keep H3 (upd H4 D (.lst us3)) := k4.unlock mu3
    have kw4 : Kw H4 (upd H4 D (.lst us3)) := .unl d4
    refine ⟨d4, hw.trans ww, D, .lst us3, upd_same, trivial, fun od2 => ?_⟩
    rw [upd_upd]
    have kx4 : Kw H4 (upd H4 D (dbl od2 (.lst us3))) := .unl d4
    have ky4 : Keep H3 (upd H4 D (dbl od2 (.lst us3))) := k4.unlock mu3
    refine ⟨S4, A4, _, noE, ss4.kw kx4, sa4.aside n4 kx4, fun b A5 H5 sa5 k5 w5 => ?_, noE_qx, w4⟩
    have d5 : H5 D = some (dbl od2 (.lst us3)) := k5.frz D _ _ upd_same
    have n5 := sa5.locked d5
    have kw5 : Kw H5 (upd H5 D (.lst us3)) := .unl d5
    have k35 : Keep H3 (upd H5 D (.lst us3)) := ky4.trans k5 |>.trans0 d5 mu3 d3
    refine ⟨d5, ?_⟩
    cases b with
    | false =>
      rw [if_neg Bool.false_ne_true] at w5
      simp only [Bool.false_eq_true, if_false]
      exact ⟨A5, acc, us3, sa5.aside n5 kw5, n5, k13.trans k35, upd_same, rl3.keep k35, w5⟩
    | true =>
      rw [if_pos rfl] at w5
      simp only [if_true]
      refine ⟨D, .lst us3, upd_same, trivial, fun od3 => ?_⟩
      rw [upd_upd]
      have kx5 : Kw H5 (upd H5 D (dbl od3 (.lst us3))) := .unl d5
      have ky5 : Keep H3 (upd H5 D (dbl od3 (.lst us3))) := ky4.trans k5 |>.trans0 d5 mu3 d3
      refine ⟨S4, A5, _, noE, ((ss4.kw kx4).keep k5).kw kx5, sa5.aside n5 kx5, fun y A6 v H6 r6 sa6 k6 w6 => ?_, noE_qx, w5⟩
      have d6 : H6 D = some (dbl od3 (.lst us3)) := k6.frz D _ _ upd_same
      have n6 := sa6.locked d6
      have kw6 : Kw H6 (upd H6 D (.lst us3)) := .unl d6
      have k36 : Keep H3 (upd H6 D (.lst us3)) := ky5.trans k6 |>.trans0 d6 mu3 d3
      have kv : Keep H3 (upd H6 D (.lst (us3 ++ [v]))) := ky5.trans k6 |>.trans0 d6 mu3 d3
      have kw7 : Kw H6 (upd H6 D (.lst (us3 ++ [v]))) := .unl d6
      refine ⟨d6, us3, upd_same, by rw [← rl3.length]; exact w6.1, A6, acc ++ [y], us3 ++ [v], ?_, n6, ?_, upd_same, ?_, w6.2⟩
      · rw [upd_upd]; exact sa6.aside n6 kw7
      · rw [upd_upd]; exact k13.trans kv
      · rw [upd_upd]; exact (rl3.keep kv).append (.cons (r6.kw kw7) .nil)
  · rw [List.drop_eq_nil_of_le (by omega)] at w2
    obtain ⟨ok2, w2⟩ := w2
    obtain ⟨stop, _⟩ := sim i (put A2 D (.lst acc)) H2 (sa2.with d2 r2) k2 (k.up _ _ _ n2 ok2)
    refine .inl ⟨stop (by omega), ?_⟩
    exact ql_fin (q.keep k1) sa2 k2 d2 n2 r2 hD w2
theorem ae_lc {m : Md} {ifs : List Expr} {scope : Scope} {own : List (Str × Nat)} {vs : List Nat} {wi : WI} {g : WG} {t : WT} {w : WE} (hc : X.calm = true) (hN : X.N.Nodup) (hi : AI X W tg iter wi) (ok : BlkOk X.N X.env.scope scope own)
    (hg : ∀ (s : Shared) (H : Hp) (C : Addr) (cl : List (Str × Addr)) (fp : List Addr), AG (X.blk s H scope (compEnvC scope cl C X.env) fp) vs tg g)
    (ht : ∀ (s : Shared) (H : Hp) (C : Addr) (cl : List (Str × Addr)) (fp : List Addr), ATs (X.blk s H scope (compEnvC scope cl C X.env) fp) noW ifs t)
    (he : ∀ (s : Shared) (H : Hp) (C : Addr) (cl : List (Str × Addr)) (fp : List Addr), AE (X.blk s H scope (compEnvC scope cl C X.env) fp) noW e w) (hvs : own.map (·.2) = vs := by rfl) (hs : ∀ x, foldedSetIterable iter X.env x = pure x := by exact foldOf rfl) :
    AE X W (.ListComp e [⟨tg, iter, ifs, 0⟩] scope pos) (wLc m wi g t w vs) := by
  subst hvs
  exact pe_imp (pe_gh (pe_lc hc hN hi ok (fun s H C cl fp => pg_lock (hg s H C cl fp)) (fun s H C cl fp => pts_lock (ht s H C cl fp)) (fun s H C cl fp => pe_lock2 (he s H C cl fp)) hs)) fun _ _ _ h => le_lc h
/-- behind a statement, locking -/
def gN' (N : L2.St → Hp → Prop) : L2.St → Hp → Prop := fun σ H => N σ H ∨ ∃ d u, H d = some u ∧ Mut (some u) ∧ ∀ od, N σ (upd H d (.frz od u))
theorem ps_gh {st : Stmt} {t : TS} (h : PS X st t) : PS X st (fun D σ H => t { D with nx := gN' D.nx } σ H) := by
  refine ⟨fun pins s σ H D I w => thn (h.run pins s σ H _ I w) fun f s1 q => ?_⟩
  cases f with
  | next =>
    obtain ⟨σ', H', I', q⟩ := q
    rcases q with q | ⟨d, u, hd, mu, q⟩
    · exact ⟨σ', H', I', q⟩
    · obtain ⟨od, I1⟩ := I'.lock hd mu
      exact ⟨σ', _, I1, q od⟩
  | brk => exact q
  | cont => exact q
  | ret v => exact q
theorem as_setLc {m : Md} {i : Nat} {y : Str} {py spos : Pos} {ifs : List Expr} {scope : Scope} {own : List (Str × Nat)} {vs : List Nat} {wi : WI} {g : WG} {t : WT} {w : WE} (hc : X.calm = true) (hN : X.N.Nodup) (hy : X.N[i]? = some y) (hyl : X.env.scope.names.lookup y = some .local)
    (hsw : swapsWith (.ListComp e [⟨tg, iter, ifs, 0⟩] scope pos) (some (.Name y py)) spos.line X.env = pure true) (hi : AI X W tg iter wi) (ok : BlkOk X.N X.env.scope scope own)
    (hg : ∀ (s : Shared) (H : Hp) (C : Addr) (cl : List (Str × Addr)) (fp : List Addr), AG (X.blk s H scope (compEnvC scope cl C X.env) fp) vs tg g)
    (ht : ∀ (s : Shared) (H : Hp) (C : Addr) (cl : List (Str × Addr)) (fp : List Addr), ATs (X.blk s H scope (compEnvC scope cl C X.env) fp) noW ifs t)
    (he : ∀ (s : Shared) (H : Hp) (C : Addr) (cl : List (Str × Addr)) (fp : List Addr), AE (X.blk s H scope (compEnvC scope cl C X.env) fp) noW e w) (hvs : own.map (·.2) = vs := by rfl) (hs : ∀ x, foldedSetIterable iter X.env x = pure x := by exact foldOf rfl) :
    AS X W (.Assign [.Name y py] (.ListComp e [⟨tg, iter, ifs, 0⟩] scope pos) spos) (wAsg (wLc m wi g t w vs) (gN i)) := by
  subst hvs
  refine ps_imp (ps_gh (ps_setLc hc hN hy hyl hsw hi ok (fun s H C cl fp => pg_lock (t := LG X.K (own.map (·.2)) g) (hg s H C cl fp)) (fun s H C cl fp => pts_lock (t := LT X.K noW t) (ht s H C cl fp)) (fun s H C cl fp => pe_lock2 (t := LE X.K noW w) (he s H C cl fp)) hs)) fun D σ H ⟨S, A, Da, ss, sa, q, wv⟩ => ?_
  exact le_lc (Q := fun v H' => D.nx (σ.set i (some v)) H') ⟨S, A, _, _, ss, sa, fun x A1 v H1 r1 sa1 k1 w1 => q.nx _ _ _ _ ((ss.keep k1).set i r1) sa1 k1 w1, q.ex.at ss, wv⟩
/-- a block's context -/
theorem Bd.blk {k : Nat} (B : Bd k X W) (s : Shared) (H : Hp) (scope : Scope) (cenv : Env) (fp : List Addr) : Bd k (X.blk s H scope cenv fp) noW :=
  ⟨B.room, B.gd, B.calm, B.nd, fun _ _ ⟨_, _, _, _, _, _, _, _, _, _, _, _, _, _, _, _, w⟩ => w.elim, PassesOwn.never⟩
end
end Rk

set_option Elab.async false
set_option linter.all false
set_option maxRecDepth 100000
set_option maxHeartbeats 400000
namespace Rk
open PySem PySem.Spec PyProof.Rows L2
section
variable {X : Cx} {W : WX} {a b c e o tg iter : Expr} {es : List Expr} {pos : Pos} {K : PySem.W.Frag}
/-! ### operators by plain values -/
def R2of (K : PySem.W.Frag) (f : F2) : R2 := fun v u H Q => ∃ x y A Qa, Re K H x v ∧ Re K H y u ∧ SA K A H ∧ QL K H Qa Q ∧ f x y A Qa
abbrev O2 (X : Cx) (fn : Value → Value → Sem Value) (f : F2) : Prop := OpR X fn (R2of X.K f)
theorem sim2 {f : F2} : Sim2 K (R2of K f) f := fun r1 r2 sa q w => ⟨_, _, _, _, r1, r2, sa, q, w⟩
def RCof (K : PySem.W.Frag) (f : FC) : List V → Hp → VK → Prop := fun vs H Q => ∃ xs A Qa, Rl K H xs vs ∧ SA K A H ∧ QL K H Qa Q ∧ f xs A Qa
abbrev OC (X : Cx) (fn : Value) (f : FC) : Prop := CallR X fn (RCof X.K f)
theorem simC {f : FC} : SimC K (RCof K f) f := fun r sa q w => ⟨_, _, _, r, sa, q, w⟩
theorem re_int_inv {H : Hp} {i : Int} {v : V} (h : Re K H (.int i) v) : v = .int i := by unfold Re at h; exact h
theorem re_bl_inv {H : Hp} {i : Bool} {v : V} (h : Re K H (.bl i) v) : v = .bl i := by unfold Re at h; exact h
theorem re_non_inv {H : Hp} {v : V} (h : Re K H .non v) : v = .non := by unfold Re at h; exact h
theorem re_ref_inv {H : Hp} {i : Addr} {v : V} (h : Re K H (.ref i) v) : v = .ref i := by unfold Re at h; exact h
theorem re_ty_inv {H : Hp} {i : String} {v : V} (h : Re K H (.ty i) v) : v = .ty i := by unfold Re at h; exact h
theorem re_str_inv {H : Hp} {i : Str} {v : V} (h : Re K H (.str i) v) : v = .str i ∧ okS i := by unfold Re at h; exact h
theorem re_tup_inv {H : Hp} {xs : List Vl} {v : V} (h : Re K H (.tup xs) v) : ∃ p vs, v = .ref p ∧ SqT K H p vs ∧ Rl K H xs vs := by unfold Re at h; obtain ⟨p, vs, e, st, rl⟩ := h; exact ⟨p, vs, e, st.1, rl⟩
theorem re_lst_inv {H : Hp} {xs : List Vl} {v : V} (h : Re K H (.lst xs) v) : ∃ p o vs, v = .ref p ∧ H p = some (.frz o (.lst vs)) ∧ Rl K H xs vs := by unfold Re at h; exact h
theorem re_wtp_inv {H : Hp} {xs : List Vl} {v : V} (h : Re K H (.wtp xs) v) : ∃ p vs, v = .ref p ∧ SqT K H p vs ∧ Rl K H xs vs := by unfold Re at h; exact h
theorem re_dct_inv {H : Hp} {ks : List Key} {xs : List Vl} {v : V} (h : Re K H (.dct ks xs) v) : ∃ p o kk, v = .ref p ∧ H p = some (.frz o (.dK kk)) ∧ kk.map (·.1) = ks ∧ Rl K H xs (kk.map (·.2)) := by unfold Re at h; exact h
theorem re_gl_inv {H : Hp} {n : String} {v : V} (h : Re K H (.gl n) v) : v = .ref (cA K n) := by unfold Re at h; exact h
theorem re_xv_inv {H : Hp} {a : Addr} {d : Option Addr} {C : String} {ns : List Str} {xs : List Vl} {v : V} (h : Re K H (.xv a d C ns xs) v) : v = .ref a ∧ ((d = none ∧ ns = [] ∧ Rl K H xs []) ∨ ∃ dd gs, d = some dd ∧ H dd = some (.xd gs) ∧ gs.map (·.1) = ns ∧ Rl K H xs (gs.map (·.2))) := by unfold Re at h; exact h
theorem re_tup_own {H : Hp} {xs : List Vl} {v : V} (h : Re K H (.tup xs) v) : ∃ p vs, v = .ref p ∧ StT K H p vs ∧ Rl K H xs vs := by unfold Re at h; exact h
/-- a list at an address, tracked -/
def lstA (A : Ah) (p : Addr) (P : List Vl → Prop) : Prop := match A p with
  | some (.lst xs) => P xs
  | _ => False
theorem lstA_of {A : Ah} {p : Addr} {P : List Vl → Prop} (h : lstA A p P) : ∃ xs, A p = some (.lst xs) ∧ P xs := by
  unfold lstA at h
  split at h
  · exact ⟨_, by assumption, h⟩
  · exact h.elim
def seqA (A : Ah) (p : Addr) (P : List Vl → Prop) : Prop := lstA A p P
/-- a list, told of or one that nobody changes -/
def seqV (A : Ah) (x : Vl) (P : List Vl → Prop) : Prop := match x with
  | .lst xs => P xs
  | .ref p => lstA A p P
  | _ => False
theorem seqV_of {A : Ah} {H : Hp} {x : Vl} {v : V} {P : List Vl → Prop} (sa : SA K A H) (r : Re K H x v) (h : seqV A x P) : ∃ p xs vs, v = .ref p ∧ Rd H p (.lst vs) ∧ Rl K H xs vs ∧ P xs := by
  cases x with
  | lst xs =>
    obtain ⟨p, o, vs, e, st, rl⟩ := re_lst_inv r
    exact ⟨p, xs, vs, e, .inr ⟨o, st⟩, rl, h⟩
  | ref p =>
    have h : lstA A p P := h
    obtain ⟨xs, he, hp⟩ := lstA_of h
    obtain ⟨vs, hv, rl⟩ := sa _ _ he
    exact ⟨p, xs, vs, re_ref_inv r, .inl hv, rl, hp⟩
  | _ => exact h.elim
theorem strOk_append {s t : Str} (h : PyData.strOk s = true) (g : PyData.strOk t = true) : PyData.strOk (s ++ t) = true := by
  unfold PyData.strOk at *
  have e : (s ++ t).cps = s.cps ++ t.cps := rfl
  rw [e, Array.all_append, h, g]; rfl
/-! a new list -/
theorem ql_tup {A : Ah} {H : Hp} {Qa : QE} {Q : VK} {xs : List Vl} {vs : List V} (q : QL K H Qa Q) (sa : SA K A H) (rl : Rl K H xs vs) (h : Qa (.tup xs) A) : QT H vs Q :=
  fun p _ hp => q _ _ _ _ (re_new hp rl) (sa.newU hp) (.new hp) h
/-- a list written -/
theorem ql_wr {A : Ah} {H : Hp} {p : Addr} {us : List V} {xs : List Vl} {vs : List V} (sa : SA K A H) (hu : H p = some (.lst us)) (rl : Rl K H xs vs) : SA K (put A p (.lst xs)) (upd H p (.lst vs)) ∧ Keep H (upd H p (.lst vs)) :=
  have k : Keep H (upd H p (.lst vs)) := .write (by rw [hu]; trivial)
  ⟨sa.write (by rw [hu]; trivial) ⟨vs, upd_same, rl.keep k⟩, k⟩
/-! ### + - * % // ** -/
/-- lists side by side, each told of or locked -/
theorem op_catR : OpR X (binaryOp .Add) (fun x y H Q => ∃ l b xs zs, (x = .ref l ∧ Rd H l (.lst xs)) ∧ (y = .ref b ∧ Rd H b (.lst zs)) ∧ xs.length + zs.length ≤ sizeLine ∧ ∀ p, H p = none → Q (.ref p) (upd H p (.lst (xs ++ zs)))) := by
  rintro pins s σ H _ _ v u Q I rx ry ⟨l, b, xs, zs, ⟨rfl, hl⟩, ⟨rfl, hb⟩, hz, q⟩
  obtain ⟨_, us, n, r1, e1⟩ := hl.ok I.hok
  obtain ⟨_, ws, m, r2, e2⟩ := hb.ok I.hok
  have sz := r1.length.symm; have sz2 := r2.length.symm
  cases rx; cases ry
  refine PySem.P.add_list e1 e2 ?_ (by simp; omega)
  rw [show us.toArray ++ ws.toArray = (us ++ ws).toArray from by simp]
  exact ⟨.ref _, _, I.lnew (t' := s.toks) (r1.append r2) (by simpa using hz), rfl, q _ I.fresh⟩
def fAdd (m : Md) : F2 := fun x y A Q => match x, y with
  | .int i, .int j => Q (.int (i + j)) A
  | .str s, .str t => s.length + t.length ≤ sizeLine ∧ Q (.str (s ++ t)) A
  | .tup xs, .tup ys => xs.length + ys.length ≤ sizeLine ∧ Q (.tup (xs ++ ys)) A
  | x, y => seqV A x fun xs => seqV A y fun ys => xs.length + ys.length ≤ sizeLine ∧ newL m (xs ++ ys) A Q
theorem o_add (m : Md) : O2 X (binaryOp .Add) (fAdd m) := by
  intro pins s σ H v u vv uu Q I rv ru ⟨x, y, A, Qa, r1, r2, sa, q, w⟩
  have lists : (seqV A x fun xs => seqV A y fun ys => xs.length + ys.length ≤ sizeLine ∧ newL m (xs ++ ys) A Qa) → wpAny (model X.prog X.w) X.A (binaryOp .Add vv uu) (EP X pins σ Q) X.xe s := by
    intro w
    obtain ⟨p, xs, vs, e1, g1, l1, w⟩ := seqV_of sa r1 w
    obtain ⟨p2, ys, us, e2, g2, l2, w⟩ := seqV_of sa r2 w
    exact gh (op_catR pins s σ H _ _ _ _ _ I rv ru ⟨p, p2, vs, us, ⟨e1, g1⟩, ⟨e2, g2⟩, by rw [← l1.length, ← l2.length]; exact w.1, ql_new q sa (l1.append l2) w.2⟩)
  cases x with
  | int i =>
    cases y with
    | int j =>
      cases re_int_inv r1; cases re_int_inv r2
      exact op_add pins s σ H _ _ _ _ Q I rv ru ⟨i, j, rfl, rfl, q _ _ _ _ (re_int _) sa .refl w⟩
    | _ => exact w.elim
  | str i =>
    cases y with
    | str j =>
      obtain ⟨rfl, g1⟩ := re_str_inv r1
      obtain ⟨rfl, g2⟩ := re_str_inv r2
      exact op_add_str pins s σ H _ _ _ _ Q I rv ru ⟨i, j, rfl, rfl, w.1, q _ _ _ _ (re_str ⟨by rw [Str.length_append]; exact w.1, strOk_append g1.2 g2.2⟩ _) sa .refl w.2⟩
    | _ => exact w.elim
  | tup xs =>
    cases y with
    | tup ys =>
      obtain ⟨p, vs, rfl, s1, l1⟩ := re_tup_inv r1
      obtain ⟨p2, us, rfl, s2, l2⟩ := re_tup_inv r2
      refine op_catS pins s σ H _ _ _ _ Q I rv ru ⟨p, p2, vs, us, rfl, rfl, s1, s2, by rw [← l1.length, ← l2.length]; exact w.1, fun e => ?_, fun _ e => ?_, fun _ _ => ql_tup q sa (l1.append l2) w.2⟩
      · subst e
        have := l1.length
        have e2 : xs = [] := by cases xs with | nil => rfl | cons _ _ => simp at this
        subst e2
        exact q _ _ _ _ r2 sa .refl w.2
      · subst e
        have := l2.length
        have e2 : ys = [] := by cases ys with | nil => rfl | cons _ _ => simp at this
        subst e2
        exact q _ _ _ _ r1 sa .refl (by have := w.2; rwa [List.append_nil] at this)
    | _ => exact w.elim
  | ref p => exact lists (by cases y <;> exact w)
  | lst p => exact lists (by cases y <;> exact w)
  | _ => cases y <;> exact w.elim
/-- two ints -/
def fI (C : Int → Int → Prop) (g : Int → Int → Vl) : F2 := fun x y A Q => match x, y with
  | .int i, .int j => C i j ∧ Q (g i j) A
  | _, _ => False
theorem o_I {fn : Value → Value → Sem Value} {C : Int → Int → Prop} {g : Int → Int → Vl} {gv : Int → Int → V} (h : OpR X fn (rI C gv)) (r : ∀ i j H, Re X.K H (g i j) (gv i j)) : O2 X fn (fI C g) := by
  intro pins s σ H v u vv uu Q I rv ru ⟨x, y, A, Qa, r1, r2, sa, q, w⟩
  cases x with
  | int i =>
    cases y with
    | int j =>
      cases re_int_inv r1; cases re_int_inv r2
      exact h pins s σ H _ _ _ _ Q I rv ru ⟨i, j, rfl, rfl, w.1, q _ _ _ _ (r i j _) sa .refl w.2⟩
    | _ => exact w.elim
  | _ => exact w.elim
theorem o_I0 {fn : Value → Value → Sem Value} {g : Int → Int → Vl} {gv : Int → Int → V} (h : OpR X fn (rI0 gv)) (r : ∀ i j H, Re X.K H (g i j) (gv i j)) : O2 X fn (fI (fun _ _ => True) g) := by
  intro pins s σ H v u vv uu Q I rv ru ⟨x, y, A, Qa, r1, r2, sa, q, w⟩
  cases x with
  | int i =>
    cases y with
    | int j =>
      cases re_int_inv r1; cases re_int_inv r2
      exact h pins s σ H _ _ _ _ Q I rv ru ⟨i, j, rfl, rfl, q _ _ _ _ (r i j _) sa .refl w.2⟩
    | _ => exact w.elim
  | _ => exact w.elim
def fSub : F2 := fI (fun _ _ => True) fun i j => .int (i - j)
theorem o_sub : O2 X (binaryOp .Sub) fSub := o_I0 op_sub fun _ _ H => re_int H
def fMod : F2 := fI (fun _ j => 0 < j) fun i j => .int (i % j)
theorem o_mod : O2 X (binaryOp .Mod) fMod := o_I op_mod fun _ _ H => re_int H
def fDiv : F2 := fI CDiv fun i j => .int (i / j)
theorem o_div : O2 X (binaryOp .FloorDiv) fDiv := o_I op_fdiv fun _ _ H => re_int H
def fPow : F2 := fI CPow fun i j => .int (i ^ j.toNat)
theorem o_pow : O2 X (binaryOp .Pow) fPow := o_I op_pow fun _ _ H => re_int H
def fMul (m : Md) : F2 := fun x y A Q => match x, y with
  | .int i, .int j => CMul i j ∧ Q (.int (i * j)) A
  | .ref p, .int k => lstA A p fun xs => (0 ≤ k ∧ k < 2 ^ 63 ∧ xs.length * k.toNat ≤ sizeLine) ∧ newL m (List.replicate k.toNat xs).flatten A Q
  | _, _ => False
theorem Rl.rep {H : Hp} {xs : List Vl} {vs : List V} (h : Rl K H xs vs) : ∀ k : Nat, Rl K H (List.replicate k xs).flatten (List.replicate k vs).flatten
  | 0 => by simp; exact .nil
  | k + 1 => by simpa [List.replicate_succ] using h.append (h.rep k)
/-! ### comparisons of ints and texts -/
def fLt : F2 := fun x y A Q => match x, y with
  | .int i, .int j => Q (.bl (decide (i < j))) A
  | .str s, .str t => Q (.bl (decide (s.cps.toList < t.cps.toList))) A
  | _, _ => False
def fLe : F2 := fun x y A Q => match x, y with
  | .int i, .int j => Q (.bl (decide (i ≤ j))) A
  | .str s, .str t => Q (.bl (!decide (t.cps.toList < s.cps.toList))) A
  | _, _ => False
def fGt : F2 := fun x y A Q => match x, y with
  | .int i, .int j => Q (.bl (decide (j < i))) A
  | .str s, .str t => Q (.bl (decide (t.cps.toList < s.cps.toList))) A
  | _, _ => False
def fGe : F2 := fun x y A Q => match x, y with
  | .int i, .int j => Q (.bl (decide (j ≤ i))) A
  | .str s, .str t => Q (.bl (!decide (s.cps.toList < t.cps.toList))) A
  | _, _ => False
theorem o_lt : O2 X (compareOp .Lt) fLt := by
  intro pins s σ H v u vv uu Q I rv ru ⟨x, y, A, Qa, r1, r2, sa, q, w⟩
  cases x <;> cases y <;> first
    | exact w.elim
    | (cases re_int_inv r1; cases re_int_inv r2; exact op_lt pins s σ H _ _ _ _ Q I rv ru ⟨_, _, rfl, rfl, q _ _ _ _ (re_bl _) sa .refl w⟩)
    | (obtain ⟨rfl, _⟩ := re_str_inv r1; obtain ⟨rfl, _⟩ := re_str_inv r2; exact op_lt_str pins s σ H _ _ _ _ Q I rv ru ⟨_, _, rfl, rfl, q _ _ _ _ (re_bl _) sa .refl w⟩)
theorem o_le : O2 X (compareOp .LtE) fLe := by
  intro pins s σ H v u vv uu Q I rv ru ⟨x, y, A, Qa, r1, r2, sa, q, w⟩
  cases x <;> cases y <;> first
    | exact w.elim
    | (cases re_int_inv r1; cases re_int_inv r2; exact op_le pins s σ H _ _ _ _ Q I rv ru ⟨_, _, rfl, rfl, q _ _ _ _ (re_bl _) sa .refl w⟩)
    | (obtain ⟨rfl, _⟩ := re_str_inv r1; obtain ⟨rfl, _⟩ := re_str_inv r2; exact op_le_str pins s σ H _ _ _ _ Q I rv ru ⟨_, _, rfl, rfl, q _ _ _ _ (re_bl _) sa .refl w⟩)
theorem o_gt : O2 X (compareOp .Gt) fGt := by
  intro pins s σ H v u vv uu Q I rv ru ⟨x, y, A, Qa, r1, r2, sa, q, w⟩
  cases x <;> cases y <;> first
    | exact w.elim
    | (cases re_int_inv r1; cases re_int_inv r2; exact op_gt pins s σ H _ _ _ _ Q I rv ru ⟨_, _, rfl, rfl, q _ _ _ _ (re_bl _) sa .refl w⟩)
    | (obtain ⟨rfl, _⟩ := re_str_inv r1; obtain ⟨rfl, _⟩ := re_str_inv r2; exact op_gt_str pins s σ H _ _ _ _ Q I rv ru ⟨_, _, rfl, rfl, q _ _ _ _ (re_bl _) sa .refl w⟩)
theorem o_ge : O2 X (compareOp .GtE) fGe := by
  intro pins s σ H v u vv uu Q I rv ru ⟨x, y, A, Qa, r1, r2, sa, q, w⟩
  cases x <;> cases y <;> first
    | exact w.elim
    | (cases re_int_inv r1; cases re_int_inv r2; exact op_ge pins s σ H _ _ _ _ Q I rv ru ⟨_, _, rfl, rfl, q _ _ _ _ (re_bl _) sa .refl w⟩)
    | (obtain ⟨rfl, _⟩ := re_str_inv r1; obtain ⟨rfl, _⟩ := re_str_inv r2; exact op_ge_str pins s σ H _ _ _ _ Q I rv ru ⟨_, _, rfl, rfl, q _ _ _ _ (re_bl _) sa .refl w⟩)
theorem o_mul (m : Md) : O2 X (binaryOp .Mult) (fMul m) := by
  intro pins s σ H v u vv uu Q I rv ru ⟨x, y, A, Qa, r1, r2, sa, q, w⟩
  cases x with
  | int i =>
    cases y with
    | int j =>
      cases re_int_inv r1; cases re_int_inv r2
      exact op_mul pins s σ H _ _ _ _ Q I rv ru ⟨i, j, rfl, rfl, w.1, q _ _ _ _ (re_int _) sa .refl w.2⟩
    | _ => exact w.elim
  | ref p =>
    cases y with
    | int k =>
      cases re_ref_inv r1; cases re_int_inv r2
      obtain ⟨xs, h1, ⟨k0, k1, hz⟩, w2⟩ := lstA_of w
      obtain ⟨vs, g1, l1⟩ := sa _ _ h1
      exact gh (op_rep pins s σ H _ _ _ _ _ I rv ru ⟨p, k, vs, rfl, rfl, g1, by omega, k1, by rw [← l1.length]; exact hz, ql_new q sa (l1.rep _) w2⟩)
    | _ => exact w.elim
  | _ => cases y <;> exact w.elim
/-! ### is None -/
def isNon : Vl → Bool
  | .non => true
  | _ => false
def fIsN (neg : Bool) : F2 := fun x y A Q => match y with
  | .non => Q (.bl (neg != isNon x)) A
  | _ => False
theorem is_non {H : Hp} {x : Vl} {v : V} (r : Re K H x v) : decide (v = V.non) = isNon x := by
  cases x <;> first
    | (cases re_non_inv r; rfl)
    | (cases re_bl_inv r; rfl)
    | (cases re_int_inv r; rfl)
    | (cases re_gl_inv (K := K) (H := H) r; rfl)
    | (cases re_ref_inv (K := K) (H := H) r; rfl)
    | (cases re_ty_inv r; rfl)
    | (obtain ⟨rfl, _⟩ := re_str_inv r; rfl)
    | (obtain ⟨p, vs, rfl, _⟩ := re_tup_inv r; rfl)
    | (obtain ⟨p, o, vs, rfl, _⟩ := re_lst_inv r; rfl)
    | (obtain ⟨p, vs, rfl, _⟩ := re_wtp_inv r; rfl)
    | (obtain ⟨p, o, vs, rfl, _⟩ := re_dct_inv r; rfl)
    | (obtain ⟨rfl, _⟩ := re_xv_inv r; rfl)
theorem o_is : O2 X (compareOp .Is) (fIsN false) := by
  intro pins s σ H v u vv uu Q I rv ru ⟨x, y, A, Qa, r1, r2, sa, q, w⟩
  cases y with
  | non =>
    cases re_non_inv r2
    refine op_isN pins s σ H _ _ _ _ Q I rv ru ⟨rfl, q _ _ _ _ (re_bl _) sa .refl ?_⟩
    rw [is_non r1]
    simpa [fIsN] using w
  | _ => exact w.elim
theorem o_isnot : O2 X (compareOp .IsNot) (fIsN true) := by
  intro pins s σ H v u vv uu Q I rv ru ⟨x, y, A, Qa, r1, r2, sa, q, w⟩
  cases y with
  | non =>
    cases re_non_inv r2
    refine op_notN pins s σ H _ _ _ _ Q I rv ru ⟨rfl, q _ _ _ _ (re_bl _) sa .refl ?_⟩
    rw [is_non r1]
    simpa [fIsN] using w
  | _ => exact w.elim
/-! ### unary minus -/
def fNeg : Vl → Ah → QE → Prop := fun x A Q => match x with
  | .int i => Q (.int (-i)) A
  | _ => False
theorem s_neg : Sim1 K (rU fun i => V.int (-i)) fNeg := fun {x v A H Q Qa} r sa q w => by
  cases x with
  | int i => cases re_int_inv r; exact ⟨i, rfl, q _ _ _ _ (re_int _) sa .refl w⟩
  | _ => exact w.elim
/-! ### subscripts -/
abbrev OI (X : Cx) (f : F2) : Prop := IxR X (R2of X.K f)
def fIx : F2 := fun x y A Q => match x, y with
  | .tup xs, .int i => ∃ z, atI xs i = some z ∧ Q z A
  | .str s, .int i => ∃ c, atI s.cps.toList i = some c ∧ Q (.str ⟨#[c]⟩) A
  | x, .int i => seqV A x fun xs => ∃ z, atI xs i = some z ∧ Q z A
  | _, _ => False
theorem Rl.atI {H : Hp} {xs : List Vl} {vs : List V} {i : Int} {z : Vl} (h : Rl K H xs vs) (e : L2.atI xs i = some z) : ∃ v, L2.atI vs i = some v ∧ Re K H z v := by
  unfold L2.atI at e ⊢
  rw [← h.length]
  cases hi : ixN xs.length i with
  | none => rw [hi] at e; cases e
  | some j =>
    rw [hi] at e
    exact h.get (i := j) e
theorem o_ix : OI X fIx := by
  intro va sl pins s σ H v u vv uu Q I rv ru ⟨x, y, A, Qa, r1, r2, sa, q, w⟩ hs
  have lists : ∀ i : Int, y = .int i → (seqV A x fun xs => ∃ z, L2.atI xs i = some z ∧ Qa z A) → wpAny (model X.prog X.w) X.A (subscriptTail va sl vv uu) (EP X pins σ Q) X.xe s := by
    intro i hi wl
    subst hi
    cases re_int_inv r2
    obtain ⟨p, xs, vs, e1, g1, rl, z, hz, wl⟩ := seqV_of sa r1 wl
    obtain ⟨t, ht, rt⟩ := rl.atI hz
    exact ix_list va sl pins s σ H _ _ _ _ Q I rv ru ⟨p, vs, i, t, e1, rfl, .inl g1, ht, q _ _ _ _ rt sa .refl wl⟩ hs
  cases x with
  | tup xs =>
    cases y with
    | int i =>
      cases re_int_inv r2
      obtain ⟨p, vs, rfl, st, rl⟩ := re_tup_inv r1
      obtain ⟨z, hz, w⟩ := w
      obtain ⟨t, ht, rt⟩ := rl.atI hz
      exact ix_tup va sl pins s σ H _ _ _ _ Q I rv ru ⟨p, vs, i, t, rfl, rfl, st, ht, q _ _ _ _ rt sa .refl w⟩ hs
    | _ => exact w.elim
  | ref p =>
    cases y with
    | int i => exact lists i rfl w
    | _ => exact w.elim
  | lst p =>
    cases y with
    | int i => exact lists i rfl w
    | _ => exact w.elim
  | str z =>
    cases y with
    | int i =>
      cases re_int_inv r2
      obtain ⟨rfl, g⟩ := re_str_inv r1
      obtain ⟨k, hk, w⟩ := w
      refine ix_str va sl pins s σ H _ _ _ _ Q I rv ru ⟨z, i, k, rfl, rfl, g.1, hk, q _ _ _ _ (re_str (okS_sign g ?_) _) sa .refl w⟩ hs
      unfold L2.atI at hk
      cases hi : ixN z.cps.toList.length i with
      | none => rw [hi] at hk; cases hk
      | some j => rw [hi] at hk; exact List.mem_of_getElem? hk
    | _ => exact w.elim
  | _ => cases y <;> exact w.elim
/-- xs[i] = z -/
def fSet : F3 := fun x y z A Q => match x, y with
  | .ref p, .int k => lstA A p fun xs => ∃ j, ixN xs.length k = some j ∧ Q (put A p (.lst (xs.set j z)))
  | _, _ => False
theorem s_set : Sim3 K rSetL fSet := fun {x y z o i v A H Q Qa} r1 r2 r3 sa q w => by
  cases x with
  | ref p =>
    cases y with
    | int k =>
      cases re_int_inv r2; cases re_ref_inv r1
      obtain ⟨xs, h1, j, hj, w⟩ := lstA_of w
      obtain ⟨vs, g1, l1⟩ := sa _ _ h1
      obtain ⟨s2, k2⟩ := ql_wr sa g1 (l1.set r3 j)
      exact ⟨p, vs, k, j, rfl, rfl, g1, by rw [← l1.length]; exact hj, q _ _ s2 k2 w⟩
    | _ => exact w.elim
  | _ => exact w.elim
end
end Rk

set_option Elab.async false
set_option linter.all false
set_option maxRecDepth 100000
set_option maxHeartbeats 400000
namespace Rk
open PySem PySem.Spec PyProof.Rows L2
/-! ### values as data -/
def dats (f : Vl → Option PyData) : List Vl → Option (List PyData)
  | [] => some []
  | x :: xs => match f x, dats f xs with
    | some d, some ds => some (d :: ds)
    | _, _ => none
def datR (f : List Vl → Option (List PyData)) : Option Ob → Option PyData
  | some (.lst xs) => (f xs).map .list
  | some (.dct []) => some (.dict [])
  | some (.dtt []) => some (.dict [])
  | _ => none
def dat : Nat → Ah → Vl → Option PyData
  | 0, _, _ => none
  | n + 1, A, v => match v with
    | .non => some .none
    | .bl b => some (.bool b)
    | .int i => some (.int i)
    | .str s => some (.str s)
    | .tup xs => (dats (dat n A) xs).map .tuple
    | .ref p => datR (dats (dat n A)) (A p)
    | .lst xs => (dats (dat n A) xs).map .list
    | .dct [] [] => some (.dict [])
    | _ => none
/-! what stands there as data, empty dicts too -/
mutual
inductive Dq (K : PySem.W.Frag) (H : Hp) : Nat → V → PyData → Prop
  | non {n : Nat} : Dq K H n .non .none
  | bl {n : Nat} (b : Bool) : Dq K H n (.bl b) (.bool b)
  | int {n : Nat} (i : Int) : Dq K H n (.int i) (.int i)
  | str {n : Nat} (x : Str) : PyData.strOk x = true → Dq K H n (.str x) (.str x)
  | lst {n : Nat} {a : Addr} {xs : List V} {ds : List PyData} : SqL K H a xs → Dqs K H n xs ds → Dq K H (n + 1) (.ref a) (.list ds)
  | tup {n : Nat} {a : Addr} {xs : List V} {ds : List PyData} : SqT K H a xs → Dqs K H n xs ds → Dq K H (n + 1) (.ref a) (.tuple ds)
  | dct {n : Nat} {a : Addr} : (Rd H a (.dK []) ∨ Rd H a (.dT [])) → Dq K H (n + 1) (.ref a) (.dict [])
inductive Dqs (K : PySem.W.Frag) (H : Hp) : Nat → List V → List PyData → Prop
  | nil {n : Nat} : Dqs K H n [] []
  | cons {n : Nat} {v : V} {vs : List V} {d : PyData} {ds : List PyData} : Dq K H n v d → Dqs K H n vs ds → Dqs K H n (v :: vs) (d :: ds)
end
mutual
/-- no list within -/
def noList : PyData → Bool
  | .list _ => false
  | .tuple ds => noLists ds
  | _ => true
def noLists : List PyData → Bool
  | [] => true
  | d :: ds => noList d && noLists ds
end
section
variable {K : PySem.W.Frag} {A : Ah} {H : Hp}
theorem dats_ok {n : Nat} {f : Vl → Option PyData} (hf : ∀ x d v, f x = some d → Re K H x v → Dq K H n v d) : ∀ {xs : List Vl} {ds : List PyData} {vs : List V}, dats f xs = some ds → Rl K H xs vs → Dqs K H n vs ds
  | [], _, _, e, r => by cases e; rw [r.nil_inv]; exact .nil
  | x :: xs, _, _, e, r => by
    obtain ⟨v, ws, rfl, r1, r2⟩ := r.cons_inv
    unfold dats at e
    split at e
    · rename_i d ds h1 h2
      cases e
      exact .cons (hf _ _ _ h1 r1) (dats_ok hf h2 r2)
    · cases e
theorem dat_ok (sa : SA K A H) : ∀ {n : Nat} {x : Vl} {d : PyData} {v : V}, dat n A x = some d → Re K H x v → Dq K H n v d
  | 0, _, _, _, e, _ => by cases e
  | n + 1, x, d, v, e, r => by
    cases x with
    | non => cases e; cases re_non_inv r; exact .non
    | bl b => cases e; cases re_bl_inv r; exact .bl b
    | int i => cases e; cases re_int_inv r; exact .int i
    | str s => cases e; obtain ⟨rfl, g⟩ := re_str_inv r; exact .str s g.2
    | ty n => cases e
    | gl n => cases e
    | wtp xs => cases e
    | xv _ _ _ _ _ => cases e
    | dct ks xs =>
      obtain ⟨p, o, kk, rfl, st, hk, rl⟩ := re_dct_inv r
      cases ks with
      | cons _ _ => cases e
      | nil =>
        cases xs with
        | cons _ _ => cases e
        | nil =>
          have e : some (PyData.dict []) = some d := e
          cases e
          have : kk = [] := by simpa using hk
          subst this
          exact .dct (.inl (.inr ⟨o, st⟩))
    | lst xs =>
      obtain ⟨p, o, vs, rfl, st, rl⟩ := re_lst_inv r
      have e : (dats (dat n A) xs).map .list = some d := e
      cases h : dats (dat n A) xs with
      | none => rw [h] at e; cases e
      | some ds =>
        rw [h] at e; cases e
        exact .lst (.inl (.inr ⟨o, st⟩)) (dats_ok (fun _ _ _ a b => dat_ok sa a b) h rl)
    | tup xs =>
      obtain ⟨p, vs, rfl, st, rl⟩ := re_tup_inv r
      have e : (dats (dat n A) xs).map .tuple = some d := e
      cases h : dats (dat n A) xs with
      | none => rw [h] at e; cases e
      | some ds =>
        rw [h] at e; cases e
        exact .tup st (dats_ok (fun _ _ _ a b => dat_ok sa a b) h rl)
    | ref p =>
      cases re_ref_inv r
      have e : datR (dats (dat n A)) (A p) = some d := e
      unfold datR at e
      split at e
      · rename_i xs hp
        obtain ⟨vs, hv, rl⟩ := sa _ _ hp
        cases h : dats (dat n A) xs with
        | none => rw [h] at e; cases e
        | some ds => rw [h] at e; cases e; exact .lst (.of hv) (dats_ok (fun _ _ _ a b => dat_ok sa a b) h rl)
      · rename_i hp
        cases e
        obtain ⟨kk, ho, r⟩ := sa _ _ hp
        have : kk = [] := r
        subst this
        exact .dct (.inl (.inl ho))
      · rename_i hp
        cases e
        obtain ⟨kk, ho, r⟩ := sa _ _ hp
        have : kk = [] := r
        subst this
        exact .dct (.inr (.inl ho))
      · cases e
end
mutual
theorem Dq.depth {K : PySem.W.Frag} {H : Hp} : ∀ (d : PyData) (n : Nat) (v : V), Dq K H n v d → d.depth ≤ n
  | .none, _, _, _ => by simp [PyData.depth]
  | .bool _, _, _, _ => by simp [PyData.depth]
  | .int _, _, _, _ => by simp [PyData.depth]
  | .str _, _, _, _ => by simp [PyData.depth]
  | .list ds, _, _, h => by cases h with | lst _ hp => simp only [PyData.depth]; exact Nat.succ_le_succ (Dq.depthAll ds _ _ hp)
  | .tuple ds, _, _, h => by cases h with | tup _ hp => simp only [PyData.depth]; exact Nat.succ_le_succ (Dq.depthAll ds _ _ hp)
  | .dict _, _, _, h => by cases h; simp [PyData.depth, PyData.depthKv]
theorem Dq.depthAll {K : PySem.W.Frag} {H : Hp} : ∀ (ds : List PyData) (n : Nat) (vs : List V), Dqs K H n vs ds → PyData.depthAll ds ≤ n
  | [], _, _, _ => by simp [PyData.depthAll]
  | d :: ds, n, _, h => by cases h with | cons h1 h2 => simp only [PyData.depthAll]; exact Nat.max_le.mpr ⟨Dq.depth d n _ h1, Dq.depthAll ds n _ h2⟩
end
mutual
theorem Dq.lay {K : PySem.W.Frag} {H : Hp} : ∀ (d : PyData) (n : Nat) (v : V), Dq K H n v d → d.hasDict = false → d.canLay0 = true
  | .none, _, _, _, _ => by simp [PyData.canLay0]
  | .bool _, _, _, _, _ => by simp [PyData.canLay0]
  | .int _, _, _, _, _ => by simp [PyData.canLay0]
  | .str _, _, _, h, _ => by cases h with | str _ g => simpa [PyData.canLay0] using g
  | .list ds, _, _, h, e => by cases h with | lst _ hp => simp only [PyData.canLay0]; exact Dq.layAll ds _ _ hp (by simpa [PyData.hasDict] using e)
  | .tuple ds, _, _, h, e => by cases h with | tup _ hp => simp only [PyData.canLay0]; exact Dq.layAll ds _ _ hp (by simpa [PyData.hasDict] using e)
  | .dict _, _, _, _, e => by simp [PyData.hasDict] at e
theorem Dq.layAll {K : PySem.W.Frag} {H : Hp} : ∀ (ds : List PyData) (n : Nat) (vs : List V), Dqs K H n vs ds → PyData.hasDictAll ds = false → PyData.canLayAll0 ds = true
  | [], _, _, _, _ => by simp [PyData.canLayAll0]
  | d :: ds, n, _, h, e => by
    cases h with
    | cons h1 h2 =>
      simp only [PyData.hasDictAll, Bool.or_eq_false_iff] at e
      simp only [PyData.canLayAll0, Bool.and_eq_true]
      exact ⟨Dq.lay d n _ h1 e.1, Dq.layAll ds n _ h2 e.2⟩
end
section
variable {X : Cx} {pins : List (Addr × Obj)} {σ : L2.St} {H : Hp} {s : Shared}
mutual
theorem Dq.reads (I : Inv X pins σ H s) : ∀ (d : PyData) (n : Nat) (v : V) (u : Value), Dq X.K H n v d → RelV v u → ∃ as, Reads s.heap u d as ∧ (noList d = true → sysModules ∉ as)
  | .none, _, _, _, h, r => by cases h; cases r; exact ⟨_, Reads.none, by simp⟩
  | .bool b, _, _, _, h, r => by cases h; cases r; exact ⟨_, Reads.bool b, by simp⟩
  | .int i, _, _, _, h, r => by cases h; obtain ⟨t, rfl⟩ := r; exact ⟨_, Reads.int i t, by simp⟩
  | .str x, _, _, _, h, r => by cases h; obtain ⟨t, rfl⟩ := r; exact ⟨_, Reads.str x t, by simp⟩
  | .list ds, _, _, _, h, r => by
    cases h with
    | lst hs ha =>
      cases r
      obtain ⟨its, rv, ⟨o, n, ho, hc, _, hd⟩, _⟩ := I.list hs
      obtain ⟨as, hr, hno⟩ := Dq.readsAll I ds _ _ its ha rv
      exact ⟨_, Reads.list ho hc hd hr, fun z => by unfold noList at z; cases z⟩
  | .tuple ds, _, _, _, h, r => by
    cases h with
    | tup hs ha =>
      cases r
      obtain ⟨its, rv, ⟨o, ho, hc, n, hd⟩, _⟩ := I.tuple hs
      obtain ⟨as, hr, hno⟩ := Dq.readsAll I ds _ _ its ha rv
      exact ⟨_, Reads.tuple ho hc hd hr, fun z => hno (by unfold noList at z; exact z)⟩
  | .dict _, _, _, _, h, r => by
    cases h with
    | dct hk =>
      cases r
      rcases hk with hk | hk
      · obtain ⟨_, hm, vs, kv, o, es, ep, ho, hc, hd, _, he, _⟩ := hk.ok I.hok
        cases kv
        have e0 : es.toList = [] := by
          cases hz : es.toList with
          | nil => rfl
          | cons a b => rw [hz] at he; cases he
        refine ⟨_, Reads.dict ho hc.1 hd (by rw [e0]; exact ReadsAll.nil) (by rw [e0]; exact ReadsAll.nil), fun _ => by simpa using fun z => (beq_eq_false_iff_ne.mp hm) z.symm⟩
      · obtain ⟨_, hm, xs, kv, o, es, ep, ho, hc, hd, he, _⟩ := hk.ok I.hok
        cases kv
        have e0 : es.toList = [] := he
        refine ⟨_, Reads.dict ho hc.1 hd (by rw [e0]; exact ReadsAll.nil) (by rw [e0]; exact ReadsAll.nil), fun _ => by simpa using fun z => (beq_eq_false_iff_ne.mp hm) z.symm⟩
theorem Dq.readsAll (I : Inv X pins σ H s) : ∀ (ds : List PyData) (n : Nat) (vs : List V) (us : List Value), Dqs X.K H n vs ds → Vals vs us → ∃ as, ReadsAll s.heap us ds as ∧ (noLists ds = true → sysModules ∉ as)
  | [], _, _, _, h, r => by cases h; cases r; exact ⟨_, ReadsAll.nil, by simp⟩
  | d :: ds, _, _, _, h, r => by
    cases h with
    | cons h1 h2 =>
      cases r with
      | cons r1 r2 =>
        obtain ⟨as, q1, n1⟩ := Dq.reads I d _ _ _ h1 r1
        obtain ⟨bs, q2, n2⟩ := Dq.readsAll I ds _ _ _ h2 r2
        refine ⟨_, ReadsAll.cons q1 q2, fun z => ?_⟩
        unfold noLists at z
        rw [Bool.and_eq_true] at z
        rw [List.mem_append]
        exact fun h => h.elim (n1 z.1) (n2 z.2)
end
/-! ### == and != -/
def fEq (neg : Bool) : F2 := fun x y A Q => ∃ d e, dat 12 A x = some d ∧ dat 12 A y = some e ∧ d.hasDict = false ∧ e.hasDict = false ∧ Q (.bl (neg != PyData.eqv d e)) A
theorem shaped_of {K : PySem.W.Frag} {H : Hp} {d : PyData} {v : V} (h : Dq K H 12 v d) (e : d.hasDict = false) : SeqAt.shaped d = true := by
  unfold SeqAt.shaped
  rw [Dq.lay d _ _ h e, Bool.true_and]
  have := Dq.depth d _ _ h
  exact decide_eq_true (by omega)
theorem o_eq (hu : X.A.units + 64 < cLine) : O2 X (compareOp .Eq) (fEq false) := by
  intro pins s σ H v u vv uu Q I rv ru ⟨x, y, A, Qa, r1, r2, sa, q, d, e, hd, he, nd, ne, w⟩
  have h1 := dat_ok sa hd r1
  have h2 := dat_ok sa he r2
  obtain ⟨as, k1, _⟩ := Dq.reads I d _ _ _ h1 rv
  obtain ⟨bs, k2, _⟩ := Dq.reads I e _ _ _ h2 ru
  exact SeqAt.compareEq_shaped k1 k2 (shaped_of h1 nd) (shaped_of h2 ne) hu ⟨.bl _, H, I, rfl, q _ _ _ _ (re_bl _) sa .refl (by simpa using w)⟩
theorem o_ne (hu : X.A.units + 64 < cLine) : O2 X (compareOp .NotEq) (fEq true) := by
  intro pins s σ H v u vv uu Q I rv ru ⟨x, y, A, Qa, r1, r2, sa, q, d, e, hd, he, nd, ne, w⟩
  have h1 := dat_ok sa hd r1
  have h2 := dat_ok sa he r2
  obtain ⟨as, k1, _⟩ := Dq.reads I d _ _ _ h1 rv
  obtain ⟨bs, k2, _⟩ := Dq.reads I e _ _ _ h2 ru
  exact SeqAt.compareNe_shaped k1 k2 (shaped_of h1 nd) (shaped_of h2 ne) hu ⟨.bl _, H, I, rfl, q _ _ _ _ (re_bl _) sa .refl (by simpa using w)⟩
/-! ### repr -/
def fRepr : FC := fun xs A Q => ∃ x d, xs = [x] ∧ dat 12 A x = some d ∧ (d.hasDict = false ∨ noList d = true) ∧ d.showable = true ∧ okS d.shown ∧ Q (.str d.shown) A
theorem o_repr (hg : X.A.guards = some []) (hu : X.A.units + 64 < cLine) : OC X (.builtin "repr") fRepr := by
  intro pins s σ H vs us Q I r ⟨xs, A, Qa, rl, sa, q, x, d, hx, hd, hl, hs, hz, w⟩
  subst hx
  obtain ⟨v, rfl, rx⟩ := rl.one
  obtain ⟨u, rfl, ru⟩ := vals1 r
  have h1 := dat_ok sa hd rx
  obtain ⟨as, k1, hno⟩ := Dq.reads I d _ _ _ h1 ru
  have dp := Dq.depth d _ _ h1
  have qq : ∀ (h' : Heap) (t : Tok) (tk : Nat), (∀ b o, s.heap.get? b = some o → h'.get? b = some o) → EP X pins σ Q (.str d.shown t) { s with heap := h', toks := tk } := fun h' t tk hk =>
    ⟨.str _, H, I.kept (t' := tk) hk, ⟨_, rfl⟩, q _ _ _ _ (re_str hz _) sa .refl w⟩
  cases u with
  | ref a =>
    refine repr_of_reads' k1 hs (fun z => ?_) hg (by omega) (fun _ _ h => h) (fun h' t tk hk => qq h' t tk hk) hz.1
    rcases hl with e | e
    · rw [e] at z; cases z
    · exact hno e
  | none => cases k1; exact PySem.P.repr_of_none (qq s.heap _ _ fun _ _ h => h)
  | bool b => cases k1; exact PySem.P.repr_of_bool (qq s.heap _ _ fun _ _ h => h)
  | int i t => cases k1; exact PySem.P.repr_of_int (by simpa [PyData.showable] using hs) (qq s.heap _ _ fun _ _ h => h)
  | str x t => cases k1; exact PySem.P.repr_of_str (qq s.heap _ _ fun _ _ h => h) hz.1
  | _ => cases k1
end
end Rk

set_option Elab.async false
set_option linter.all false
set_option maxRecDepth 100000
set_option maxHeartbeats 400000
namespace Rk
open PySem PySem.Spec PyProof.Rows L2
section
variable {X : Cx} {W : WX} {a b c e o tg iter : Expr} {es : List Expr} {pos : Pos} {K : PySem.W.Frag}
/-! ### built-ins by plain values -/
def lenA (A : Ah) (x : Vl) (P : Int → Prop) : Prop := match x with
  | .str s => P s.length
  | .tup xs => P xs.length
  | .lst xs => P xs.length
  | .dct ks _ => P ks.length
  | .ref p => (match A p with
    | some (.lst xs) => P xs.length
    | some (.dct kvs) => P kvs.length
    | some (.lok kvs) => P kvs.length
    | some (.dtt kvs) => P kvs.length
    | _ => False)
  | _ => False
theorem Kr.len {H : Hp} {κ : Type} {kf : κ → Vl} : ∀ {fs : List (Vl × Vl)} {gs : List (κ × V)}, Kr K H kf fs gs → fs.length = gs.length
  | [], gs, h => by rw [show gs = [] from h]; rfl
  | (_, _) :: _, _, ⟨c, v, hs, e, q, r, t⟩ => by subst e; simp [Kr.len t]
def fLen : FC := fun xs A Q => match xs with
  | [x] => lenA A x fun n => Q (.int n) A
  | _ => False
theorem fc1 {f : Vl → Ah → QE → Prop} {xs : List Vl} {A : Ah} {Q : QE} (h : (match xs with | [x] => f x A Q | _ => False)) : ∃ x, xs = [x] ∧ f x A Q := by
  split at h
  · exact ⟨_, rfl, h⟩
  · exact h.elim
theorem o_len : OC X (.builtin "len") fLen := by
  intro pins s σ H vs us Q I r ⟨xs, A, Qa, rl, sa, q, w⟩
  obtain ⟨x, rfl, w⟩ := fc1 (f := fun x A Q => lenA A x fun n => Q (.int n) A) w
  obtain ⟨v, rfl, rx⟩ := rl.one
  cases x with
  | str z =>
    obtain ⟨rfl, g⟩ := re_str_inv rx
    exact call_len pins s σ H _ us Q I r ⟨.str z, z.length, rfl, ⟨g.1, rfl⟩, q _ _ _ _ (re_int _) sa .refl w⟩
  | tup ys =>
    obtain ⟨p, ws, rfl, st, l⟩ := re_tup_inv rx
    exact call_len pins s σ H _ us Q I r ⟨.ref p, ws.length, rfl, .inr ⟨ws, st, rfl⟩, q _ _ _ _ (re_int _) sa .refl (by rw [← l.length]; exact w)⟩
  | lst ys =>
    obtain ⟨p, o, ws, rfl, st, l⟩ := re_lst_inv rx
    exact call_len pins s σ H _ us Q I r ⟨.ref p, ws.length, rfl, .inl ⟨ws, .inl (.inr ⟨o, st⟩), rfl⟩, q _ _ _ _ (re_int _) sa .refl (by rw [← l.length]; exact w)⟩
  | dct ks ys =>
    obtain ⟨p, o, kk, rfl, st, hk, l⟩ := re_dct_inv rx
    obtain ⟨u, rfl, ru⟩ := vals1 r
    cases ru
    exact d_len I (.inr ⟨o, st⟩) fun t s' I' => ⟨.int kk.length, H, I', ⟨t, rfl⟩, q _ _ _ _ (re_int _) sa .refl (by rw [← show ks.length = kk.length by rw [← hk]; simp]; exact w)⟩
  | ref p =>
    cases re_ref_inv rx
    have w : (match A p with
      | some (.lst xs) => Qa (.int xs.length) A
      | some (.dct kvs) => Qa (.int kvs.length) A
      | some (.lok kvs) => Qa (.int kvs.length) A
      | some (.dtt kvs) => Qa (.int kvs.length) A
      | _ => False) := w
    split at w
    · rename_i ys he
      obtain ⟨ws, hv, l⟩ := sa _ _ he
      exact call_len pins s σ H _ us Q I r ⟨.ref p, ws.length, rfl, .inl ⟨ws, .of hv, rfl⟩, q _ _ _ _ (re_int _) sa .refl (by rw [← l.length]; exact w)⟩
    · rename_i ys he
      obtain ⟨kk, hv, dc⟩ := sa _ _ he
      obtain ⟨u, rfl, ru⟩ := vals1 r
      cases ru
      exact d_len I (.inl hv) fun t s' I' => ⟨.int kk.length, H, I', ⟨t, rfl⟩, q _ _ _ _ (re_int _) sa .refl (by rw [← dc.len]; exact w)⟩
    · rename_i ys he
      obtain ⟨o, kk, hv, dc⟩ := sa _ _ he
      obtain ⟨u, rfl, ru⟩ := vals1 r
      cases ru
      exact d_len I (.inr ⟨o, hv⟩) fun t s' I' => ⟨.int kk.length, H, I', ⟨t, rfl⟩, q _ _ _ _ (re_int _) sa .refl (by rw [← dc.len]; exact w)⟩
    · rename_i ys he
      obtain ⟨kk, hv, dc⟩ := sa _ _ he
      exact call_len_dT pins s σ H _ us Q I r ⟨p, kk, rfl, hv, q _ _ _ _ (re_int _) sa .refl (by rw [← dc.len]; exact w)⟩
    · exact w.elim
  | _ => exact w.elim
def fAbs : FC := fun xs A Q => ∃ n, int1 xs = some n ∧ Q (.int (if n < 0 then -n else n)) A
theorem o_abs : OC X (.builtin "abs") fAbs := by
  intro pins s σ H vs us Q I r ⟨xs, A, Qa, rl, sa, q, n, e, w⟩
  rw [int1_of e] at rl
  obtain ⟨v, rfl, rx⟩ := rl.one
  cases re_int_inv rx
  exact call_abs pins s σ H _ us Q I r ⟨n, rfl, q _ _ _ _ (re_int _) sa .refl w⟩
/-- two ints -/
def fC2 (g : Int → Int → Int) : FC := fun xs A Q => ∃ m n, int2 xs = some (m, n) ∧ Q (.int (g m n)) A
def fMax : FC := fC2 fun i j => if j > i then j else i
def fMin : FC := fC2 fun i j => if j < i then j else i
theorem o_max (hc : X.calm = true) : OC X (.builtin "max") fMax := by
  intro pins s σ H vs us Q I r ⟨xs, A, Qa, rl, sa, q, m, n, e, w⟩
  rw [int2_of e] at rl
  obtain ⟨v, u, rfl, rx, ry⟩ := rl.two
  cases re_int_inv rx; cases re_int_inv ry
  exact call_max2 hc pins s σ H _ us Q I r ⟨m, n, rfl, q _ _ _ _ (re_int _) sa .refl w⟩
theorem o_min (hc : X.calm = true) : OC X (.builtin "min") fMin := by
  intro pins s σ H vs us Q I r ⟨xs, A, Qa, rl, sa, q, m, n, e, w⟩
  rw [int2_of e] at rl
  obtain ⟨v, u, rfl, rx, ry⟩ := rl.two
  cases re_int_inv rx; cases re_int_inv ry
  exact call_min2 hc pins s σ H _ us Q I r ⟨m, n, rfl, q _ _ _ _ (re_int _) sa .refl w⟩
def fDivmod : FC := fun xs A Q => ∃ m n, int2 xs = some (m, n) ∧ CDiv m n ∧ Q (.tup [.int (m / n), .int (m % n)]) A
theorem o_divmod : OC X (.builtin "divmod") fDivmod := by
  intro pins s σ H vs us Q I r ⟨xs, A, Qa, rl, sa, q, m, n, e, hc, w⟩
  rw [int2_of e] at rl
  obtain ⟨v, u, rfl, rx, ry⟩ := rl.two
  cases re_int_inv rx; cases re_int_inv ry
  exact call_divmodS pins s σ H _ us Q I r ⟨m, n, rfl, hc, ql_tup q sa (.cons (re_int _) (.cons (re_int _) .nil)) w⟩
/-- a list of bools -/
def bls (xs : List Vl) : Option (List Bool) := match xs with
  | [] => some []
  | .bl b :: r => (bls r).map (b :: ·)
  | _ => none
theorem bls_of {H : Hp} : ∀ {xs : List Vl} {bs : List Bool} {vs : List V}, bls xs = some bs → Rl K H xs vs → vs = bs.map V.bl
  | [], _, _, e, r => by cases e; rw [r.nil_inv]; rfl
  | x :: xs, bs, vs, e, r => by
    obtain ⟨v, ws, rfl, r1, r2⟩ := r.cons_inv
    cases x with
    | bl b =>
      have e : (bls xs).map (b :: ·) = some bs := e
      cases h : bls xs with
      | none => rw [h] at e; cases e
      | some cs => rw [h] at e; cases e; cases re_bl_inv r1; rw [bls_of h r2]; rfl
    | _ => cases e
def fAll : FC := fun xs A Q => match xs with
  | [x] => seqV A x fun xs => ∃ bs, bls xs = some bs ∧ Q (.bl (bs.all id)) A
  | _ => False
def fAny : FC := fun xs A Q => match xs with
  | [x] => seqV A x fun xs => ∃ bs, bls xs = some bs ∧ Q (.bl (bs.any id)) A
  | _ => False
theorem o_all (hc : X.calm = true) : OC X (.builtin "all") fAll := by
  intro pins s σ H vs us Q I r ⟨xs, A, Qa, rl, sa, q, w⟩
  obtain ⟨x, rfl, w⟩ := fc1 (f := fun x A Q => seqV A x fun xs => ∃ bs, bls xs = some bs ∧ Q (.bl (bs.all id)) A) w
  obtain ⟨v, rfl, rx⟩ := rl.one
  obtain ⟨p, ys, ws, rfl, sq, l, bs, hb, w⟩ := seqV_of sa rx w
  rw [bls_of hb l] at sq
  exact cr_all hc pins s σ H _ us Q I r ⟨p, bs, rfl, .inl sq, q _ _ _ _ (re_bl _) sa .refl w⟩
theorem o_any (hc : X.calm = true) : OC X (.builtin "any") fAny := by
  intro pins s σ H vs us Q I r ⟨xs, A, Qa, rl, sa, q, w⟩
  obtain ⟨x, rfl, w⟩ := fc1 (f := fun x A Q => seqV A x fun xs => ∃ bs, bls xs = some bs ∧ Q (.bl (bs.any id)) A) w
  obtain ⟨v, rfl, rx⟩ := rl.one
  obtain ⟨p, ys, ws, rfl, sq, l, bs, hb, w⟩ := seqV_of sa rx w
  rw [bls_of hb l] at sq
  exact cr_any hc pins s σ H _ us Q I r ⟨p, bs, rfl, .inl sq, q _ _ _ _ (re_bl _) sa .refl w⟩
/-! ### isinstance of built-in classes -/
inductive Kd | non | bl | int | str | tup | lst | dct
  deriving DecidableEq
def Kd.n : Kd → String
  | .non => "NoneType" | .bl => "bool" | .int => "int" | .str => "str" | .tup => "tuple" | .lst => "list" | .dct => "dict"
def kdOf : String → Option Kd
  | "bool" => some .bl | "int" => some .int | "str" => some .str | "tuple" => some .tup | "list" => some .lst | "dict" => some .dct | _ => none
def Kd.sub : Kd → Kd → Bool
  | .bl, .int => true
  | a, b => decide (a = b)
theorem kit_kd : ∀ (x y : Kd), y ≠ .non → kitB x.n y.n = some (x.sub y) := by
  intro x y h
  cases x <;> cases y <;> first | exact absurd rfl h | decide +kernel
theorem kdOf_n {n : String} {y : Kd} (h : kdOf n = some y) : n = y.n ∧ y ≠ .non := by
  unfold kdOf at h
  split at h <;> cases h <;> exact ⟨rfl, by decide⟩
def kdR : Option Ob → Option Kd
  | some (.lst _) => some .lst
  | some (.dct _) => some .dct
  | some (.lok _) => some .dct
  | some (.dtt _) => some .dct
  | _ => none
def kd (A : Ah) : Vl → Option Kd
  | .non => some .non | .bl _ => some .bl | .int _ => some .int | .str _ => some .str | .tup _ => some .tup
  | .ref p => kdR (A p)
  | .lst _ => some .lst | .dct _ _ => some .dct
  | _ => none
theorem kd_ok {A : Ah} {H : Hp} {x : Vl} {v : V} {y : Kd} (sa : SA K A H) (r : Re K H x v) (h : kd A x = some y) : TyX K H v (.type y.n) := by
  cases x with
  | non => cases h; cases re_non_inv r; exact .base .non
  | bl b => cases h; cases re_bl_inv r; exact .base (.bl b)
  | int b => cases h; cases re_int_inv r; exact .base (.int b)
  | str b => cases h; obtain ⟨rfl, _⟩ := re_str_inv r; exact .base (.str b)
  | ty n => cases h
  | gl n => cases h
  | wtp xs => cases h
  | xv _ _ _ _ _ => cases h
  | lst xs =>
    cases h
    obtain ⟨p, o, vs, rfl, st, _⟩ := re_lst_inv r
    exact .base (.frz st)
  | dct ks xs =>
    cases h
    obtain ⟨p, o, kk, rfl, st, _⟩ := re_dct_inv r
    exact .fDict st
  | tup xs =>
    cases h
    obtain ⟨p, vs, rfl, st, _⟩ := re_tup_inv r
    rcases st with (st | ⟨o, st⟩) | ⟨o, its, n, hk, hc, _⟩
    · exact .base (.tup st)
    · exact .fTuple st
    · exact .kTuple hk hc
  | ref p =>
    cases re_ref_inv r
    have h : kdR (A p) = some y := h
    unfold kdR at h
    split at h <;> cases h
    · rename_i he
      obtain ⟨vs, hv, _⟩ := sa _ _ he
      exact .base (.lst hv)
    · rename_i he
      obtain ⟨kk, ho, dc⟩ := sa _ _ he
      exact .base (.dK ho)
    · rename_i he
      obtain ⟨o, kk, ho, dc⟩ := sa _ _ he
      exact .fDict ho
    · rename_i he
      obtain ⟨kk, ho, dc⟩ := sa _ _ he
      exact .base (.dT ho)
def subAny (y : Kd) : List Vl → Option Bool
  | [] => some false
  | .ty n :: r => match kdOf n, subAny y r with
    | some z, some b => some (y.sub z || b)
    | _, _ => none
  | _ => none
def fIsi : FC := fun xs A Q => ∃ x y, kd A x = some y ∧ ((∃ n z, xs = [x, .ty n] ∧ kdOf n = some z ∧ Q (.bl (y.sub z)) A) ∨ ∃ cs k, xs = [x, .tup cs] ∧ subAny y cs = some k ∧ Q (.bl k) A)
theorem subAny_ok {H : Hp} {y : Kd} : ∀ {cs : List Vl} {vs : List V} {us : List Value} {k : Bool}, subAny y cs = some k → Rl K H cs vs → Vals vs us → PySem.W.kitAny K (.type y.n) us = some k
  | [], _, _, _, e, r, q => by cases e; have := r.nil_inv; subst this; cases q; rfl
  | x :: cs, _, _, _, e, r, q => by
    obtain ⟨v, ws, rfl, r1, r2⟩ := r.cons_inv
    cases q with
    | cons q1 q2 =>
      cases x with
      | ty n =>
        unfold subAny at e
        split at e
        · rename_i z b hz hb
          cases e
          cases re_ty_inv r1
          cases q1
          obtain ⟨rfl, hn⟩ := kdOf_n hz
          refine kitAny_cons (kit_ty (kit_kd y z hn)) (fun h => ?_) (fun h => by rw [h]; rfl)
          rw [subAny_ok hb r2 q2, h]; rfl
        · cases e
      | _ => cases e
theorem o_isi : OC X (.builtin "isinstance") fIsi := by
  intro pins s σ H vs us Q I r ⟨xs, A, Qa, rl, sa, q, x, y, hk, w⟩
  rcases w with ⟨n, z, rfl, hz, w⟩ | ⟨cs, k, rfl, hs, w⟩
  · obtain ⟨v, u, rfl, rx, ry⟩ := rl.two
    cases re_ty_inv ry
    obtain ⟨rfl, hn⟩ := kdOf_n hz
    exact call_isi pins s σ H _ us Q I r ⟨v, .ty z.n, .type y.n, .type z.n, y.sub z, rfl, .ty _, kd_ok sa rx hk, kit_ty (kit_kd y z hn), q _ _ _ _ (re_bl _) sa .refl w⟩
  · obtain ⟨v, u, rfl, rx, ry⟩ := rl.two
    obtain ⟨tp, ws, rfl, st, l⟩ := re_tup_inv ry
    obtain ⟨u1, u2, rfl, q1, q2⟩ := vals2 r
    cases (show u2 = Value.ref tp from q2)
    obtain ⟨P, Z, pp, hx⟩ := kit_of I q1 (kd_ok sa rx hk)
    obtain ⟨its, rv, ⟨ob, h1, h2, n, h3⟩, _⟩ := I.tuple st
    obtain ⟨oc, od, dt, sl⟩ := ob
    simp only at h2 h3
    subst h2 h3
    exact PySem.W.kia_tup Z I.kIn pp h1 (subAny_ok hs l rv) hx fun tk => ⟨.bl k, H, I.tok tk, rfl, q _ _ _ _ (re_bl _) sa .refl w⟩
/-! ### list(..), tuple(..) -/
def fList (m : Md) : FC := fun xs A Q => match xs with
  | [.tup ys] => newL m ys A Q
  | [x] => seqV A x fun ys => newL m ys A Q
  | _ => False
theorem o_list (m : Md) : OC X (.type "list") (fList m) := by
  intro pins s σ H vs us Q I r ⟨xs, A, Qa, rl, sa, q, w⟩
  unfold fList at w
  split at w
  · obtain ⟨v, rfl, rx⟩ := rl.one
    obtain ⟨p, ws, rfl, st, l⟩ := re_tup_inv rx
    exact gh (call_list_of pins s σ H _ us _ I r ⟨p, ws, rfl, .inr st, ql_new q sa l w⟩)
  · obtain ⟨v, rfl, rx⟩ := rl.one
    obtain ⟨p, ys, ws, rfl, sq, l, w⟩ := seqV_of sa rx w
    exact gh (call_list_of pins s σ H _ us _ I r ⟨_, ws, rfl, .inl (.inl sq), ql_new q sa l w⟩)
  · exact w.elim
def fTupO : FC := fun xs A Q => match xs with
  | [.tup ys] => Q (.tup ys) A
  | [x] => seqV A x fun ys => Q (.tup ys) A
  | _ => False
theorem o_tuple : OC X (.type "tuple") fTupO := by
  intro pins s σ H vs us Q I r ⟨xs, A, Qa, rl, sa, q, w⟩
  unfold fTupO at w
  split at w
  · obtain ⟨v, rfl, rx⟩ := rl.one
    obtain ⟨p, ws, rfl, st, l⟩ := re_tup_inv rx
    exact call_tuple_of pins s σ H _ us Q I r ⟨p, ws, rfl, .inr ⟨st, q _ _ _ _ rx sa .refl w⟩⟩
  · obtain ⟨v, rfl, rx⟩ := rl.one
    obtain ⟨p, ys, ws, rfl, sq, l, w⟩ := seqV_of sa rx w
    exact call_tupleS pins s σ H _ us Q I r ⟨_, ws, rfl, .inl sq, ql_tup q sa l w⟩
  · exact w.elim
/-! ### methods of built-in types: chosen by the receiver's kind -/
def kdM (A : Ah) : Vl → Option Kd
  | .str _ => some .str
  | .tup _ => some .tup
  | .lst _ => some .lst
  | .dct _ _ => some .dct
  | .ref p => kdR (A p)
  | _ => none
/-- what a method of the type does -/
structure Mt (X : Cx) (k : Kd) (name : Str) (f : Vl → List Vl → Ah → QE → Prop) : Prop where
  ex : ∃ id, PlainAttrs k.n ∧ Slot k.n name id ∧ typeOf (.builtin id) = pure (.type "method_descriptor") ∧ MtR X id (fun v vs H Q => ∃ x xs A Qa, Re X.K H x v ∧ Rl X.K H xs vs ∧ SA X.K A H ∧ QL X.K H Qa Q ∧ kdM A x = some k ∧ f x xs A Qa)
theorem dict_is {pins : List (Addr × Obj)} {σ : L2.St} {H : Hp} {s : Shared} {p : Addr} {o : HO} (I : Inv X pins σ H s) (h : Rd H p o) (d : (∃ kk, o = .dK kk) ∨ ∃ kk, o = .dT kk) : s.TypeIs (.ref p) "dict" ∧ ∀ a, Value.ref p = .ref a → ∃ ob, s.heap.get? a = some ob ∧ ob.dict = none := by
  rcases d with ⟨kk, rfl⟩ | ⟨kk, rfl⟩
  · obtain ⟨_, hm, vs, kv, o, es, ep, ho, hc, _⟩ := h.ok I.hok
    exact ⟨⟨o, ho, hc.1⟩, fun a e => by cases e; exact ⟨o, ho, hc.2.1⟩⟩
  · obtain ⟨_, hm, xs, kv, o, es, ep, ho, hc, _⟩ := h.ok I.hok
    exact ⟨⟨o, ho, hc.1⟩, fun a e => by cases e; exact ⟨o, ho, hc.2.1⟩⟩
theorem kdM_is {pins : List (Addr × Obj)} {σ : L2.St} {H : Hp} {s : Shared} {A : Ah} {x : Vl} {v : V} {u : Value} {k : Kd} (I : Inv X pins σ H s) (sa : SA X.K A H) (r : Re X.K H x v) (rv : RelV v u) (h : kdM A x = some k) :
    s.TypeIs u k.n ∧ ∀ a, u = .ref a → ∃ ob, s.heap.get? a = some ob ∧ ob.dict = none := by
  cases x with
  | str z =>
    cases h
    obtain ⟨rfl, _⟩ := re_str_inv r
    obtain ⟨t, rfl⟩ := rv
    exact ⟨typeIs_str s z t, fun _ e => nomatch e⟩
  | lst xs =>
    cases h
    obtain ⟨p, o, vs, rfl, st, _⟩ := re_lst_inv r
    exact tyV_is (x := .ref p) I rv (.inl ⟨rfl, vs, .inl (.inr ⟨o, st⟩)⟩)
  | dct ks xs =>
    cases h
    obtain ⟨p, o, kk, rfl, st, _⟩ := re_dct_inv r
    cases rv
    exact dict_is I (.inr ⟨o, st⟩) (.inl ⟨kk, rfl⟩)
  | ref p =>
    cases re_ref_inv r
    have h : kdR (A p) = some k := h
    unfold kdR at h
    split at h <;> cases h
    · rename_i he
      obtain ⟨vs, hv, _⟩ := sa _ _ he
      exact tyV_is (x := .ref p) I rv (.inl ⟨rfl, vs, .of hv⟩)
    · rename_i he
      obtain ⟨kk, ho, dc⟩ := sa _ _ he
      cases rv
      exact dict_is I (.inl ho) (.inl ⟨_, rfl⟩)
    · rename_i he
      obtain ⟨o, kk, ho, dc⟩ := sa _ _ he
      cases rv
      exact dict_is I (.inr ⟨_, ho⟩) (.inl ⟨_, rfl⟩)
    · rename_i he
      obtain ⟨kk, ho, dc⟩ := sa _ _ he
      cases rv
      exact dict_is I (.inl ho) (.inr ⟨_, rfl⟩)
  | tup xs =>
    cases h
    obtain ⟨p, vs, rfl, st, _⟩ := re_tup_own r
    cases rv
    have key : ∃ o, s.heap.get? p = some o ∧ o.cls = .type "tuple" ∧ o.dict = none := by
      rcases st.2 with ⟨us, vs, e⟩ | ⟨o, e, h1, h2⟩
      · exact ⟨_, (I.hok _ _ e).1, rfl, rfl⟩
      · exact ⟨o, I.kIn p o e, h1, h2⟩
    obtain ⟨o, e, h1, h2⟩ := key
    exact ⟨⟨o, e, h1⟩, fun a ea => by cases ea; exact ⟨o, e, h2⟩⟩
  | _ => cases h
def wMt (fs : Kd → Option (Vl → List Vl → Ah → QE → Prop)) (wo : WE) (wa : WA) : WE := fun S A Q E => wo S A (fun x A1 => ∃ k f, kdM A1 x = some k ∧ fs k = some f ∧ wa S A1 (fun xs A2 => kdM A2 x = some k ∧ f x xs A2 Q) E) E
theorem ae_mt0 {name : Str} {apos : Pos} {fs : Kd → Option (Vl → List Vl → Ah → QE → Prop)} {wo : WE} (hm : ∀ k f, fs k = some f → Mt X k name f) (ho : AE X W o wo)
    (hbase : attributeBase o name X.env (eval o X.env) = eval o X.env := by exact baseOf rfl) (hline : (apos.endLine == pos.line) = true := by rfl) : AE X W (.Call (.Attribute o name apos) [] [] pos) (wMt fs wo wNil) := by
  refine ⟨fun pins s σ H Q I ⟨S, A, Qa, Ea, ss, sa, q, qx, w⟩ => ?_⟩
  refine wpAny_Call_method0_late hbase hline (thn (ho.run pins s σ H (fun v H1 => ∃ x A1, Re X.K H1 x v ∧ SA X.K A1 H1 ∧ Keep H H1 ∧ ∃ k f, kdM A1 x = some k ∧ fs k = some f ∧ (kdM A1 x = some k ∧ f x [] A1 Qa)) I
    ⟨S, A, _, Ea, ss, sa, fun x A1 v H1 r1 sa1 k1 w1 => ⟨x, A1, r1, sa1, k1, w1⟩, qx, w⟩) fun v s1 ⟨y, H1, I1, rv, x, A1, r1, sa1, k1, k, f, hk, hf, _, w1⟩ => ?_)
  obtain ⟨id, pa, slot, ty, m⟩ := (hm k f hf).ex
  obtain ⟨h1, h2⟩ := kdM_is I1 sa1 r1 rv hk
  exact ⟨k.n, id, pa, slot, ty, h1, h2, Calls.callWith_builtin rfl (PySem.evalArgs_none (m pins s1 σ H1 y [] v [] Q I1 rv .nil ⟨x, [], A1, Qa, r1, .nil, sa1, q.keep k1, hk, w1⟩))⟩
theorem ae_mt {name : Str} {apos : Pos} {fs : Kd → Option (Vl → List Vl → Ah → QE → Prop)} {wo : WE} {wa : WA} (hm : ∀ k f, fs k = some f → Mt X k name f) (ho : AE X W o wo) (ha : AA X W (e :: es) wa)
    (hbase : attributeBase o name X.env (eval o X.env) = eval o X.env := by exact baseOf rfl)
    (hfew : ((backTo pos (starEach (e :: es) X.env)).all (fun x => !x.1) && (backToKw pos (keywordEach [] X.env)).all (fun x => x.1.isSome)
      && decide ((e :: es).length + ([] : List Keyword).length + (if ([] : List Keyword).isEmpty then 0 else 1) < 30)) = true := by exact fewOf rfl)
    (hline : (apos.endLine == pos.line) = true := by rfl) (hs : starEach (e :: es) X.env = (false, eval e X.env) :: starEach es X.env := by exact starOf rfl) (hplain : (backTo pos (starEach es X.env)).any (·.1) = false := by exact starsOf rfl) :
    AE X W (.Call (.Attribute o name apos) (e :: es) [] pos) (wMt fs wo wa) := by
  refine ⟨fun pins s σ H Q I ⟨S, A, Qa, Ea, ss, sa, q, qx, w⟩ => ?_⟩
  refine wpAny_Call_method_late hbase hfew hline rfl (thn (ho.run pins s σ H (fun v H1 => ∃ x A1, Re X.K H1 x v ∧ SA X.K A1 H1 ∧ Keep H H1 ∧ ∃ k f, kdM A1 x = some k ∧ fs k = some f ∧ wa S A1 (fun xs A2 => kdM A2 x = some k ∧ f x xs A2 Qa) Ea) I
    ⟨S, A, _, Ea, ss, sa, fun x A1 v H1 r1 sa1 k1 w1 => ⟨x, A1, r1, sa1, k1, w1⟩, qx, w⟩) fun v s1 ⟨y, H1, I1, rv, x, A1, r1, sa1, k1, k, f, hk, hf, w1⟩ => ?_)
  obtain ⟨id, pa, slot, ty, m⟩ := (hm k f hf).ex
  obtain ⟨h1, h2⟩ := kdM_is I1 sa1 r1 rv hk
  refine ⟨k.n, id, pa, slot, ty, h1, h2, ?_⟩
  have hA := ha.run pos pins s1 σ H1 (fun vs H2 => ∃ xs A2, Rl X.K H2 xs vs ∧ SA X.K A2 H2 ∧ Keep H1 H2 ∧ kdM A2 x = some k ∧ f x xs A2 Qa) I1
    ⟨S, A1, _, Ea, ss.keep k1, sa1, fun xs A2 vs H2 r2 sa2 k2 w2 => ⟨xs, A2, r2, sa2, k2, w2⟩, qx.keep k1, w1⟩
  rw [hs] at hA ⊢
  refine Calls.callWith_builtin (by show (false || (backTo pos (starEach es X.env)).any (·.1)) = false; rw [hplain] <;> rfl) (Calls.evalArgs_plain ?_)
  exact thn hA fun us s2 ⟨vs, H2, I2, r2, xs, A2, rl, sa2, k2, hk2, w2⟩ => m pins s2 σ H2 y vs v us Q I2 rv r2 ⟨x, xs, A2, Qa, r1.keep k2, rl, sa2, q.keep (k1.trans k2), hk2, w2⟩
end
end Rk

set_option Elab.async false
set_option linter.all false
set_option maxRecDepth 100000
set_option maxHeartbeats 400000
namespace Rk
open PySem PySem.Spec PyProof.Rows L2
section
variable {X : Cx} {K : PySem.W.Frag}
/-! ### methods of lists -/
abbrev FM := Vl → List Vl → Ah → QE → Prop
def fAppend : FM := fun x xs A Q => ∃ p y, x = .ref p ∧ xs = [y] ∧ lstA A p fun ys => ys.length < sizeLine ∧ Q .non (put A p (.lst (ys ++ [y])))
theorem m_append : Mt X .lst "append" fAppend := ⟨⟨_, PySem.F.plainAttrs_list, PySem.F.slot_list_append, PySem.F.type_list_append, by
  intro pins s σ H v vs vv us Q I rv rs ⟨x, xs, A, Qa, r, rl, sa, q, _, p, y, hx, hxs, w⟩
  subst hx hxs
  obtain ⟨u, rfl, ru⟩ := rl.one
  cases re_ref_inv r
  obtain ⟨ys, hp, hz, w⟩ := lstA_of w
  obtain ⟨ws, hw, l⟩ := sa _ _ hp
  obtain ⟨s2, k2⟩ := ql_wr sa hw (l.append (.cons ru .nil))
  exact mt_append pins s σ H _ _ vv us Q I rv rs ⟨p, ws, u, rfl, rfl, hw, by rw [← l.length]; exact hz, q _ _ _ _ (re_non _) s2 k2 w⟩⟩⟩
def fPop : FM := fun x xs A Q => ∃ p, x = .ref p ∧ lstA A p fun ys => (xs = [] ∧ ∃ z, ys[ys.length - 1]? = some z ∧ Q z (put A p (.lst ys.dropLast))) ∨
  ∃ i k z, xs = [.int i] ∧ rngOk i i ∧ seqIndex? i ys.length = some k ∧ ys[k]? = some z ∧ Q z (put A p (.lst (ys.eraseIdx k)))
theorem m_pop : Mt X .lst "pop" fPop := ⟨⟨_, PySem.F.plainAttrs_list, PySem.F.slot_list_pop, PySem.F.type_list_pop, by
  intro pins s σ H v vs vv us Q I rv rs ⟨x, xs, A, Qa, r, rl, sa, q, _, p, hx, w⟩
  subst hx
  cases re_ref_inv r
  obtain ⟨ys, hp, w⟩ := lstA_of w
  obtain ⟨ws, hw, l⟩ := sa _ _ hp
  rcases w with ⟨rfl, z, hz, w⟩ | ⟨i, k, z, rfl, ho, hi, hz, w⟩
  · have := rl.nil_inv; subst this
    obtain ⟨u, hu, ru⟩ := l.get hz
    obtain ⟨s2, k2⟩ := ql_wr sa hw l.dropLast
    exact mt_pop pins s σ H _ _ vv us Q I rv rs ⟨p, ws, u, rfl, rfl, hw, by rw [← l.length]; exact hu, q _ _ _ _ (ru.keep k2) s2 k2 w⟩
  · obtain ⟨t, rfl, rt⟩ := rl.one
    cases re_int_inv rt
    obtain ⟨u, hu, ru⟩ := l.get hz
    obtain ⟨s2, k2⟩ := ql_wr sa hw (l.erase k)
    have h1 := ho.1
    have h2 := ho.2.1
    exact mt_popAt pins s σ H _ _ vv us Q I rv rs ⟨p, ws, i, k, u, rfl, rfl, hw, by omega, by omega, by rw [← l.length]; exact hi, hu, q _ _ _ _ (ru.keep k2) s2 k2 w⟩⟩⟩
def fExtend : FM := fun x xs A Q => ∃ p p2, x = .ref p ∧ xs = [.ref p2] ∧ lstA A p fun ys => lstA A p2 fun zs => ys.length + zs.length ≤ sizeLine ∧ Q .non (put A p (.lst (ys ++ zs)))
theorem m_extend : Mt X .lst "extend" fExtend := ⟨⟨_, PySem.F.plainAttrs_list, PySem.F.slot_list_extend, PySem.F.type_list_extend, by
  intro pins s σ H v vs vv us Q I rv rs ⟨x, xs, A, Qa, r, rl, sa, q, _, p, p2, hx, hxs, w⟩
  subst hx hxs
  obtain ⟨u, rfl, ru⟩ := rl.one
  cases re_ref_inv ru
  cases re_ref_inv r
  obtain ⟨ys, hp, w⟩ := lstA_of w
  obtain ⟨zs, hp2, hz, w⟩ := lstA_of w
  obtain ⟨ws, hw, l⟩ := sa _ _ hp
  obtain ⟨ws2, hw2, l2⟩ := sa _ _ hp2
  obtain ⟨s2, k2⟩ := ql_wr sa hw (l.append l2)
  exact mt_extend pins s σ H _ _ vv us Q I rv rs ⟨p, p2, ws, ws2, rfl, rfl, hw, hw2, by rw [← l.length, ← l2.length]; exact hz, q _ _ _ _ (re_non _) s2 k2 w⟩⟩⟩
def fReverse : FM := fun x xs A Q => ∃ p, x = .ref p ∧ xs = [] ∧ lstA A p fun ys => Q .non (put A p (.lst ys.reverse))
theorem m_reverse : Mt X .lst "reverse" fReverse := ⟨⟨_, PySem.F.plainAttrs_list, PySem.F.slot_list_reverse, PySem.F.type_list_reverse, by
  intro pins s σ H v vs vv us Q I rv rs ⟨x, xs, A, Qa, r, rl, sa, q, _, p, hx, hxs, w⟩
  subst hx hxs
  have := rl.nil_inv; subst this
  cases re_ref_inv r
  obtain ⟨ys, hp, w⟩ := lstA_of w
  obtain ⟨ws, hw, l⟩ := sa _ _ hp
  obtain ⟨s2, k2⟩ := ql_wr sa hw l.reverse
  exact mt_reverse pins s σ H _ _ vv us Q I rv rs ⟨p, ws, rfl, rfl, hw, q _ _ _ _ (re_non _) s2 k2 w⟩⟩⟩
def fClear : FM := fun x xs A Q => ∃ p, x = .ref p ∧ xs = [] ∧ lstA A p fun ys => Q .non (put A p (.lst []))
theorem m_clear : Mt X .lst "clear" fClear := ⟨⟨_, PySem.F.plainAttrs_list, PySem.F.slot_list_clear, PySem.F.type_list_clear, by
  intro pins s σ H v vs vv us Q I rv rs ⟨x, xs, A, Qa, r, rl, sa, q, _, p, hx, hxs, w⟩
  subst hx hxs
  have := rl.nil_inv; subst this
  cases re_ref_inv r
  obtain ⟨ys, hp, w⟩ := lstA_of w
  obtain ⟨ws, hw, l⟩ := sa _ _ hp
  obtain ⟨s2, k2⟩ := ql_wr (xs := []) (vs := []) sa hw .nil
  exact mt_clear pins s σ H _ _ vv us Q I rv rs ⟨p, ws, rfl, rfl, hw, q _ _ _ _ (re_non _) s2 k2 w⟩⟩⟩
/-! ### methods of texts -/
def strL : List Vl → Option (List Str)
  | [] => some []
  | .str s :: r => (strL r).map (s :: ·)
  | _ => none
theorem strL_of {H : Hp} : ∀ {xs : List Vl} {ss : List Str} {vs : List V}, strL xs = some ss → Rl K H xs vs → vs = ss.map V.str
  | [], _, _, e, r => by cases e; rw [r.nil_inv]; rfl
  | x :: xs, ss, vs, e, r => by
    obtain ⟨v, ws, rfl, r1, r2⟩ := r.cons_inv
    cases x with
    | str b =>
      have e : (strL xs).map (b :: ·) = some ss := e
      cases h : strL xs with
      | none => rw [h] at e; cases e
      | some cs => rw [h] at e; cases e; obtain ⟨rfl, _⟩ := re_str_inv r1; rw [strL_of h r2]; rfl
    | _ => cases e
def joinOk (a : Str) (ys : List Str) : Prop := (ys.map (·.length)).sum + ys.length * a.length ≤ 16777216 ∧ okS (Txt.join a ys)
def fJoin : FM := fun x xs A Q => ∃ a, x = .str a ∧ ((∃ z, xs = [z] ∧ seqV A z fun ys => ∃ ss, strL ys = some ss ∧ joinOk a ss ∧ Q (.str (Txt.join a ss)) A) ∨ ∃ ys ss, xs = [.tup ys] ∧ strL ys = some ss ∧ joinOk a ss ∧ Q (.str (Txt.join a ss)) A)
theorem m_join : Mt X .str "join" fJoin := ⟨⟨_, PySem.F.plainAttrs_str, PySem.F.slot_str_join, PySem.F.type_str_join, by
  intro pins s σ H v vs vv us Q I rv rs ⟨x, xs, A, Qa, r, rl, sa, q, _, a, hx, w⟩
  subst hx
  obtain ⟨rfl, _⟩ := re_str_inv r
  rcases w with ⟨p, rfl, w⟩ | ⟨ys, ss, rfl, hs, hj, w⟩
  · obtain ⟨u, rfl, ru⟩ := rl.one
    obtain ⟨p, ys, ws, rfl, sq, l, ss, hs, hj, w⟩ := seqV_of sa ru w
    rw [strL_of hs l] at sq
    exact mt_join pins s σ H _ _ vv us Q I rv rs ⟨a, p, ss, rfl, rfl, .inl (.inl sq), hj.1, q _ _ _ _ (re_str hj.2 _) sa .refl w⟩
  · obtain ⟨u, rfl, ru⟩ := rl.one
    obtain ⟨p, ws, rfl, st, l⟩ := re_tup_inv ru
    rw [strL_of hs l] at st
    exact mt_join pins s σ H _ _ vv us Q I rv rs ⟨a, p, ss, rfl, rfl, .inr st, hj.1, q _ _ _ _ (re_str hj.2 _) sa .refl w⟩⟩⟩
def fUpper : FM := fun x xs A Q => ∃ a, x = .str a ∧ xs = [] ∧ a.length ≤ 5592405 ∧ okS (Txt.upper a) ∧ Q (.str (Txt.upper a)) A
theorem m_upper : Mt X .str "upper" fUpper := ⟨⟨_, PySem.F.plainAttrs_str, PySem.F.slot_str_upper, PySem.F.type_str_upper, by
  intro pins s σ H v vs vv us Q I rv rs ⟨x, xs, A, Qa, r, rl, sa, q, _, a, hx, hxs, hz, ho, w⟩
  subst hx hxs
  have := rl.nil_inv; subst this
  obtain ⟨rfl, _⟩ := re_str_inv r
  exact mt_upper pins s σ H _ _ vv us Q I rv rs ⟨a, rfl, rfl, hz, q _ _ _ _ (re_str ho _) sa .refl w⟩⟩⟩
/-! ### which method by the receiver's kind -/
def only (k : Kd) (f : FM) : Kd → Option FM := fun j => if j = k then some f else none
theorem only_mt {name : Str} {k : Kd} {f : FM} (h : Mt X k name f) : ∀ j g, only k f j = some g → Mt X j name g := fun j g e => by
  unfold only at e
  split at e
  · rename_i hj; cases e; subst hj; exact h
  · cases e
/-! ### in, not in, over texts -/
def fIn (neg : Bool) : F2 := fun x y A Q => match x, y with
  | .str s, .str t => Q (.bl (neg != !(Builtin.Str.occurrences t s 0 t.length 1).isEmpty)) A
  | _, _ => False
theorem o_in : O2 X (compareOp .In) (fIn false) := by
  intro pins s σ H v u vv uu Q I rv ru ⟨x, y, A, Qa, r1, r2, sa, q, w⟩
  cases x <;> cases y <;> first
    | exact w.elim
    | (obtain ⟨rfl, _⟩ := re_str_inv r1; obtain ⟨rfl, _⟩ := re_str_inv r2; exact op_in_str pins s σ H _ _ _ _ Q I rv ru ⟨_, _, rfl, rfl, q _ _ _ _ (re_bl _) sa .refl (by simpa [fIn] using w)⟩)
theorem o_notin : O2 X (compareOp .NotIn) (fIn true) := by
  intro pins s σ H v u vv uu Q I rv ru ⟨x, y, A, Qa, r1, r2, sa, q, w⟩
  cases x <;> cases y <;> first
    | exact w.elim
    | (obtain ⟨rfl, _⟩ := re_str_inv r1; obtain ⟨rfl, _⟩ := re_str_inv r2; exact op_notIn_str pins s σ H _ _ _ _ Q I rv ru ⟨_, _, rfl, rfl, q _ _ _ _ (re_bl _) sa .refl (by simpa [fIn] using w)⟩)
/-- {} -/
def wDct0 : Md → WE
  | .M => fun _ A Q _ => ∀ p, A p = none → Q (.ref p) (put A p (.dct []))
  | .F => fun _ A Q _ => Q (.dct [] []) A
theorem ae_dct0 (m : Md) {W : WX} {pos : Pos} : AE X W (.Dict [] [] pos) (wDct0 m) := pe_imp (pe_gh pe_dnewK) fun σ H Q ⟨S, A, Qa, Ea, ss, sa, q, qx, w⟩ => fun p hp => by
  cases m with
  | M => exact .inl (q _ _ _ _ (re_ref _) (sa.new (o := .dct []) hp ⟨[], upd_same, rfl⟩) (.new hp) (w p (sa.fresh hp)))
  | F =>
    refine .inr ⟨p, _, upd_same, trivial, fun od => ?_⟩
    rw [upd_upd]
    exact q _ _ _ _ (by unfold Re; exact ⟨p, od, [], rfl, upd_same, rfl, .nil⟩) (sa.newU hp) (.new hp) w
/-- {}, its keys to be tuples -/
def wDct0T : WE := fun _ A Q _ => ∀ p, A p = none → Q (.ref p) (put A p (.dtt []))
theorem ae_dct0T {W : WX} {pos : Pos} : AE X W (.Dict [] [] pos) wDct0T := pe_imp pe_dnewT fun σ H Q ⟨S, A, Qa, Ea, ss, sa, q, qx, w⟩ => fun p hp =>
  q _ _ _ _ (re_ref _) (sa.new (o := .dtt []) hp ⟨[], upd_same, rfl⟩) (.new hp) (w p (sa.fresh hp))
/-! ### short forms for printed derivations -/
theorem av {W : WX} {pos : Pos} (i : Nat) {x : Str} (hN : X.N[i]? = some x := by rfl) (hv : Vis X.env.scope x := by first | exact Or.inl rfl | exact Or.inr (Or.inl rfl) | exact Or.inr (Or.inr rfl)) (hd : (x == ("__debug__" : Str)) = false := by decide) (hcd : (x == ("__classdict__" : Str)) = false := by decide) : AE X W (.Name x pos) (wVar i) := ae_var hN hv hd hcd
theorem agn {pos : Pos} (i : Nat) {x : Str} {vs : List Nat} (hN : X.N.Nodup) (hi : X.N[i]? = some x := by rfl) (hx : Loc X.env.scope x := by first | exact Or.inl rfl | exact Or.inr rfl) (hv : i ∈ vs := by decide) (hf : X.fn x = true ∨ X.env.scope.names.lookup x = some .local := by first | exact .inl rfl | exact .inr rfl) : AG X vs (.Name x pos) (gN i) := ag_name hN hi hx hv hf
theorem bb_len : bootBuiltins "len" = some (.builtin "len") := by decide +kernel
theorem bb_abs : bootBuiltins "abs" = some (.builtin "abs") := by decide +kernel
theorem bb_max : bootBuiltins "max" = some (.builtin "max") := by decide +kernel
theorem bb_min : bootBuiltins "min" = some (.builtin "min") := by decide +kernel
theorem bb_divmod : bootBuiltins "divmod" = some (.builtin "divmod") := by decide +kernel
theorem bb_all : bootBuiltins "all" = some (.builtin "all") := by decide +kernel
theorem bb_any : bootBuiltins "any" = some (.builtin "any") := by decide +kernel
theorem bb_isinstance : bootBuiltins "isinstance" = some (.builtin "isinstance") := by decide +kernel
theorem bb_repr : bootBuiltins "repr" = some (.builtin "repr") := by decide +kernel
theorem bb_sorted : bootBuiltins "sorted" = some (.builtin "sorted") := by decide +kernel
theorem bb_sum : bootBuiltins "sum" = some (.builtin "sum") := by decide +kernel
theorem bb_list : bootBuiltins "list" = some (.type "list") := by decide +kernel
theorem bb_tuple : bootBuiltins "tuple" = some (.type "tuple") := by decide +kernel
theorem bb_int : bootBuiltins "int" = some (.type "int") := by decide +kernel
theorem bb_str : bootBuiltins "str" = some (.type "str") := by decide +kernel
theorem bb_bool : bootBuiltins "bool" = some (.type "bool") := by decide +kernel
theorem bb_dict : bootBuiltins "dict" = some (.type "dict") := by decide +kernel
theorem bb_set : bootBuiltins "set" = some (.type "set") := by decide +kernel
/-- a def of the text, defaults and all -/
structure Df (K : PySem.W.Frag) (x qual : Str) (st : Stmt) (f : Addr) (fd : FuncData) (dV : Value) : Prop where
  ex : ∃ (oc : Value) (od : Option Addr) (kV doc pm : Value) (an : Option Addr) (cdv ct : Value) (osl : Array (Option Value)),
    fd = PySem.W.fnOf x qual (defArgs st) (defBody st) (defScope st) dV kV doc pm an cdv ct ∧ K.lookup f = some ⟨oc, od, .func fd, osl⟩ ∧ PySem.W.codeIn K cdv qual = true
  kp : PySem.W.keepIn K (.ref f) = true
theorem Df.gn {P : Program} {w : World} {K : PySem.W.Frag} {mg : Str → Option Value} {base : Heap} {x qual : Str} {st : Stmt} {f : Addr} {fd : FuncData} {dV : Value} {N ps : List Str} {k : Nat} {wb : WS} (F : Df K x qual st f fd dV) (S : FnScope N ps (defScope st))
    (hb : ∀ (cdv : Value) (A : Around) (outer : List Env) (s : Shared) (H : Hp) (E : XK), PySem.W.codeIn K cdv qual = true → Bd k (bodyX P w K mg base N qual (defScope st) f cdv A outer s H E) (bodyW E) → ASs (bodyX P w K mg base N qual (defScope st) f cdv A outer s H E) (bodyW E) (defBody st) wb) :
    Gn P w K mg base (k + 1) f fd ps (wFun N.length wb) := by
  obtain ⟨oc, od, kV, doc, pm, an, cdv, ct, osl, rfl, lk, hcd⟩ := F.ex
  exact gn_of lk hcd S fun A outer s H E => hb cdv A outer s H E hcd
theorem Df.bind {K : PySem.W.Frag} {x qual : Str} {st : Stmt} {f : Addr} {fd : FuncData} {dV : Value} {ps : List Str} {n : Nat} (F : Df K x qual st f fd dV)
    (h : ∀ (kV doc pm : Value) (an : Option Addr) (cdv ct : Value) (us : List Value), us.length = n → bindArgs (PySem.W.fnOf x qual (defArgs st) (defBody st) (defScope st) dV kV doc pm an cdv ct) ⟨us, []⟩ = pure (ps.zip us)) : ∀ us : List Value, us.length = n → bindArgs fd ⟨us, []⟩ = pure (ps.zip us) := by
  obtain ⟨oc, od, kV, doc, pm, an, cdv, ct, osl, rfl, lk, hcd⟩ := F.ex
  exact h kV doc pm an cdv ct
theorem Df.bindK {K : PySem.W.Frag} {x qual : Str} {st : Stmt} {f : Addr} {fd : FuncData} {dV : Value} {ps ks : List Str} {n : Nat} {l : List Src} (F : Df K x qual st f fd dV)
    (h : ∀ (kV doc pm : Value) (an : Option Addr) (cdv ct : Value) (us ws : List Value), us.length = n → ws.length = ks.length → bindArgs (PySem.W.fnOf x qual (defArgs st) (defBody st) (defScope st) dV kV doc pm an cdv ct) ⟨us, ks.zip ws⟩ = pure (ps.zip (l.map (Src.mu (us ++ ws))))) :
    ∀ (s : Shared) (us ws : List Value), K.In s.heap → us.length = n → ws.length = ks.length → BindsTo s fd ⟨us, ks.zip ws⟩ (ps.zip (l.map (Src.mu (us ++ ws)))) := by
  obtain ⟨oc, od, kV, doc, pm, an, cdv, ct, osl, rfl, lk, hcd⟩ := F.ex
  exact fun s us ws _ hu hw => .of_eq (h kV doc pm an cdv ct us ws hu hw)
theorem Bd.u64 {W : WX} {k : Nat} (B : Bd k X W) : X.A.units + 64 < cLine := B.room.units
end
end Rk

set_option Elab.async false
set_option linter.all false
set_option maxRecDepth 100000
set_option maxHeartbeats 400000
namespace Rk
open PySem PySem.Spec PyProof.Rows L2
/-! ### the law's own call -/
def noLst (K : PySem.W.Frag) : Bool := K.all fun p => match p.2.cls with
  | .type n => n != "list"
  | _ => true
theorem mem_of_lk {a : Addr} {o : Obj} : ∀ {K : List (Addr × Obj)}, K.lookup a = some o → (a, o) ∈ K
  | [], h => by cases h
  | (b, u) :: K, h => by
    rw [List.lookup_cons] at h
    by_cases e : a = b
    · subst e
      simp at h; subst h
      exact List.mem_cons_self
    · have e2 : (a == b) = false := by simpa using e
      rw [e2] at h
      exact List.mem_cons_of_mem _ (mem_of_lk h)
theorem noLst_no {K : PySem.W.Frag} {a : Addr} {o : Obj} (h : noLst K = true) (c : o.cls = .type "list") : K.lookup a ≠ some o := fun e => by
  have m : (a, o) ∈ K := mem_of_lk e
  have := List.all_eq_true.mp h _ m
  simp only [c] at this
  simp at this
theorem rl_ints {K : PySem.W.Frag} {H : Hp} : ∀ ns : List Int, Rl K H (ns.map Vl.int) (ns.map V.int)
  | [] => .nil
  | n :: ns => .cons (re_int _) (rl_ints ns)
theorem gn_law {P : Program} {w : World} {K : PySem.W.Frag} {mg mb : Str → Option Value} {k : Nat} {fa a : Addr} {fd : FuncData} {x : Str} {wf : WF} {s₁ : Shared} {vs : List Value} {ns : List Int}
    (inK : K.In s₁.heap) (hns : s₁.heap.Ns mainGlobals mg) (hb : s₁.heap.Ns builtinsNs mb) (hbb : ∀ y : Str, y ≠ "__name__" → mb y = bootBuiltins y) (hlim : s₁.heap.NoLimit) (hg : s₁.gens = #[])
    (ha : s₁.heap.get? a = some { cls := .type "list", data := .seq vs.toArray }) (hi : IntsAre vs ns) (hl : ns.length ≤ sizeLine) (hr : Room k callerA) (nl : noLst K = true)
    (F : ∀ base : Heap, K.In base → base.Ns mainGlobals mg → Gn P w K mg base k fa fd [x] wf) (hbind : ∀ (s : Shared) (u : Value), BindsTo s fd ⟨[u], []⟩ [(x, u)])
    (hw : ∀ (A : Ah) (Q : QE) (E : EX), (∀ b, A b = none) → (∀ A', Q (.bl true) A') → wf [.lst (ns.map .int)] A Q E) :
    codeAny (model P w) callerA (.call (.ref fa) ⟨[.ref a], []⟩) (fun r s' => r = .ok (.ret (.bool true)) ∧ OldK s₁.heap s'.heap ∧ s'.os = s₁.os ∧ AllBare s'.gens) s₁ := by
  have rv := vals_ints hi
  have hka : K.lookup a = none := by
    cases e : K.lookup a with
    | none => rfl
    | some o =>
      have z := inK a o e
      rw [ha] at z; cases z
      exact absurd e (noLst_no nl rfl)
  obtain ⟨H, hH⟩ : ∃ H : Hp, H = fun b => if b = a then some (.frz { cls := .type "list", data := .seq vs.toArray } (.lst (ns.map V.int))) else none := ⟨_, rfl⟩
  have Ha : H a = some (.frz { cls := .type "list", data := .seq vs.toArray } (.lst (ns.map V.int))) := by rw [hH]; exact if_pos rfl
  have Hn : ∀ b, b ≠ a → H b = none := fun b h => by rw [hH]; exact if_neg h
  have hok : HOk P w H s₁.heap := fun b u e => by
    by_cases hba : b = a
    · subst hba
      rw [Ha] at e; cases e
      exact ⟨ha, by rw [List.length_map]; exact hl, vs, _, rv, ha⟩
    · rw [Hn b hba] at e; cases e
  have ground : ∀ {b : Addr} {o : Obj}, s₁.heap.get? b = some o → b ≠ a → (hidT s₁.heap H).get? b = some o := fun e h => hidT_get e (Hn _ h)
  have nsK : ∀ {b : Addr} {m : Str → Option Value}, s₁.heap.Ns b m → (hidT s₁.heap H).Ns b m := fun {b m} ⟨o, es, ep, e, d, r⟩ => ⟨o, es, ep, ground e (fun z => by
    subst z
    rw [ha] at e; cases e
    cases (show Data.seq vs.toArray _ = Data.dict es ep from d)), d, r⟩
  have inB : K.In (hidT s₁.heap H) := fun b o e => ground (inK b o e) fun z => by subst z; rw [hka] at e; cases e
  have md : Mod K mg (hidT s₁.heap H) := ⟨inB, nsK hns, ⟨mb, nsK hb, hbb⟩, let ⟨mc, h1, h2⟩ := hlim; ⟨mc, nsK h1, h2⟩⟩
  have e0 : Env0 P w K mg (hidT s₁.heap H) callerA [] s₁ H := ⟨rfl, md, fun b o e => of_hidT e, Nat.le_of_eq (hidT_size _ _), trivial, fun b hb => absurd (show b ∈ ([] : List Addr) from hb) (by simp), hok, .of_eq hg⟩
  have sa : SA K (fun _ => none) H := fun b o e => by cases e
  have k0 : Re K H (.lst (ns.map Vl.int)) (.ref a) := by unfold Re; exact ⟨a, _, _, rfl, Ha, rl_ints ns⟩
  have prom : LF K 1 wf [.ref a] H (fun v _ => v = .bl true) (fun _ _ _ => False) :=
    ⟨[.lst (ns.map Vl.int)], _, fun y _ => y = .bl true, fun _ _ => False, .cons k0 .nil, rfl, sa, fun y A' v H' r _ _ e => by subst e; exact re_bl_inv r, fun _ _ _ _ _ _ _ _ z => z, hw _ _ _ (fun _ => rfl) fun _ => rfl⟩
  refine codeAny_mono ((F _ inB (nsK hns)).run callerA [] s₁ H ⟨[.ref a], []⟩ [.ref a] [.ref a] _ _ hr rfl e0 (hbind s₁ (.ref a)) (.cons rfl .nil) prom) fun r s' h => ?_
  cases r with
  | error e =>
    obtain ⟨_, _, _, _, _, _, _, _, _, _, _, _, hf⟩ := h
    exact hf.elim
  | ok fl =>
    cases fl with
    | next => exact False.elim h
    | brk => exact False.elim h
    | cont => exact False.elim h
    | ret u =>
      obtain ⟨v, H', os, bare, un, hok', r', q⟩ := h
      have q' : v = .bl true := q
      subst q'
      obtain rfl : u = Value.bool true := r'
      refine ⟨rfl, OldK.of_keep fun b o e => ?_, os, bare⟩
      by_cases hba : b = a
      · subst hba
        obtain ⟨e2, _⟩ := hok' b _ (un.frzs b _ _ Ha)
        rw [ha] at e; cases e
        exact e2
      · exact un.keep b o e (Hn b hba) (by intro z; exact absurd (show b ∈ ([] : List Addr) from z) (by simp)) (by simp)
theorem gn_walk {l : PySem.W.OpenLaw} {n k : Nat} {q : Program} {loose : List Str} {XP : (Str → Option Value) → Heap → Prop} {YP : World → Heap → Prop} {d : DefRec} {K : Params → PySem.W.Frag} {x : Str} {wf : WF}
    (hn : l.most = some n) (hn2 : n ≤ sizeLine) (hdf : d.params.defaults = []) (hr : Room k callerA) (hY : ∀ (w : World) (h : Heap), YP w h → (K w.params).In h) (nl : ∀ w : World, noLst (K w.params) = true)
    (F : ∀ (w : World) (mg : Str → Option Value) (fa : Addr) (h : Heap), (K w.params).In h → h.Ns mainGlobals mg → mg d.name = some (.ref fa) →
      ∃ fd : FuncData, (∀ (s : Shared) (u : Value), BindsTo s fd ⟨[u], []⟩ [(x, u)]) ∧ ∀ base : Heap, (K w.params).In base → base.Ns mainGlobals mg → Gn l.prog w (K w.params) mg base k fa fd [x] wf)
    (hw : ∀ (ns : List Int) (A : Ah) (Q : QE) (E : EX), ns.length ≤ n → (∀ b, A b = none) → (∀ A', Q (.bl true) A') → wf [.lst (ns.map .int)] A Q E) :
    PySem.W.WalkO q loose XP YP l.row.toRowW d [] (fun f vs => PySem.call f vs) := by
  refine Att.attach_call hn hdf fun w s₀ s₁ mg mb fa o pm cd doc a vs ns G Y ho hd hcd hmg hobj hints hlen hg => ?_
  have inK := hY w _ Y
  obtain ⟨fd, hb, hF⟩ := F w mg fa _ inK G.T.g hmg
  exact gn_law inK G.T.g G.T.b G.T.builtins G.T.nolimit hg hobj hints (Nat.le_trans hlen hn2) hr (nl w) hF hb fun A Q E h1 h2 => hw ns A Q E hlen h1 h2
end Rk

set_option Elab.async false
set_option linter.all false
set_option maxRecDepth 100000
set_option maxHeartbeats 3200000
namespace Rk
open PySem PySem.Spec PyProof.Rows L2
/-! ### set(x) of a list or tuple of keys; its size -/
/-- keys met, each once, in the order of the first meeting -/
def memK (l : List Key) (j : Key) : Bool := l.any fun k => decide (k = j)
theorem memK_iff {l : List Key} {j : Key} : memK l j = true ↔ j ∈ l := by
  unfold memK; rw [List.any_eq_true]
  exact ⟨fun ⟨x, h, e⟩ => of_decide_eq_true e ▸ h, fun h => ⟨j, h, decide_eq_true rfl⟩⟩
theorem memK_app {l : List Key} {k j : Key} : memK (l ++ [k]) j = (memK l j || decide (j = k)) := by
  unfold memK; rw [List.any_append]
  congr 1
  simp [eq_comm]
def ddN (acc : List Key) : List Key → List Key
  | [] => acc
  | k :: r => ddN (if memK acc k = true then acc else acc ++ [k]) r
theorem ddN_nodup {acc r : List Key} (h : (acc ++ r).Nodup) : ddN acc r = acc ++ r := by
  induction r generalizing acc with
  | nil => simp [ddN]
  | cons k r ih =>
    have hk : ¬ memK acc k = true := fun hk => (List.nodup_append.mp h).2.2 k (memK_iff.mp hk) k (List.mem_cons_self ..) rfl
    rw [ddN, if_neg hk, ih (by simpa using h)]
    simp
section
variable {P : Program} {w : World} {A : Around} {E : Value → Shared → Prop} {s : Shared}
theorem sof_congr {h : Heap} {a : Addr} {S S' : Key → Bool} {n n' : Nat} (x : h.SetOf (mixKind P w) a S n) (e : ∀ j, S j = S' j) (f : n = n') : h.SetOf (mixKind P w) a S' n' := by
  have := funext e
  subst this f; exact x
def KeyAt (k : Key) (v : Value) : Prop := RelV (kV k) v
theorem loop_keys {I : Addr} {fp wr : List Addr} {G : Array GenState → Array GenState → Prop} {n : Nat} {Pv : Nat → Value → Prop} {St : Nat → Shared → Prop} {R : Result → Shared → Prop} {S : Addr} {xs : List Key}
    (W : WalksS P w A.in1 I fp wr G n Pv St) (off : S ∉ fp) (hn : n = xs.length) (hv : ∀ i v, Pv i v → ∃ k, xs[i]? = some k ∧ KeyAt k v) :
    ∀ (r : List Key) (i : Nat) (ys : List Key) (t : Shared), xs.drop i = r → i ≤ n → St i t → t.heap.SetOf (mixKind P w) S (memK ys) ys.length → ys.length + r.length < 4000 →
      (∀ t', Moved (S :: wr) G t t' → t'.heap.SetOf (mixKind P w) S (memK (ddN ys r)) (ddN ys r).length → R (.ok (.ret .none)) t') →
      codeAny (model P w) A (.builtin "set.update.loop" ⟨[.ref S, .ref I], []⟩) R t := by
  have offw : S ∉ wr := fun z => off (W.sub _ z)
  have up : ∀ b ∈ wr, b ∈ S :: wr := fun b z => List.mem_cons_of_mem _ z
  intro r
  induction r with
  | nil =>
    intro i ys t hr hi st so _ hR
    have : xs.length ≤ i := List.drop_eq_nil_iff.mp hr
    obtain rfl : i = n := by omega
    refine codeAny_builtin PyProof.Rows.F.entry_set_update_loop ?_
    rw [Around.under_plainId PyProof.Rows.F.plain_set_update_loop _]
    show wpAny _ A.in1 (pyNext (.ref I) >>= _) _ _ t
    refine wpAny_bind (W.done t _ _ st fun t' m => ?_)
    show wpAny _ A.in1 (ret Value.none) _ _ t'
    exact wpAny_pure (hR t' (m.mono up) (setOf_at so fun o e => m.heap S o offw e))
  | cons k r ih =>
    intro i ys t hr hi st so hb hR
    have hlt : i < xs.length := by
      rcases Nat.lt_or_ge i xs.length with h | h
      · exact h
      · rw [List.drop_of_length_le h] at hr; cases hr
    rw [List.drop_eq_getElem_cons hlt] at hr
    injection hr with hk hr
    refine codeAny_builtin PyProof.Rows.F.entry_set_update_loop ?_
    rw [Around.under_plainId PyProof.Rows.F.plain_set_update_loop _]
    show wpAny _ A.in1 (pyNext (.ref I) >>= _) _ _ t
    refine wpAny_bind (W.item i t _ _ (hn ▸ hlt) st fun v t1 hP st1 m => ?_)
    obtain ⟨k', hk', rv⟩ := hv i v hP
    rw [List.getElem?_eq_getElem hlt, hk] at hk'
    cases hk'
    show wpAny _ A.in1 (holding [v] (setAdd S v) >>= _) _ _ t1
    refine wpAny_bind (wpAny_holding ?_)
    unfold setAdd
    refine wpAny_holding (wpAny_bind ((mixKind P w).pyHash (k := k) (kV_is rv) ?_))
    simp only [List.length_cons] at hb
    refine wpAny_setAddHashed_of (knd := mixKind P w) (s := { t1 with toks := t1.toks + 1 }) (kV_is rv) (key_scan rv) (setOf_at so fun o e => m.heap S o offw e) (by unfold scanBound; omega) fun h2 sb so2 => ?_
    have so3 : h2.SetOf (mixKind P w) S (memK (if memK ys k = true then ys else ys ++ [k])) (if memK ys k = true then ys else ys ++ [k]).length := by
      by_cases c : memK ys k = true
      · refine sof_congr so2 (fun j => ?_) (by rw [if_pos c, if_pos c])
        rw [if_pos c]
        by_cases e : j = k
        · subst e; simp [c]
        · simp [e]
      · refine sof_congr so2 (fun j => ?_) (by rw [if_neg c, if_neg c]; simp)
        rw [if_neg c, memK_app]
    refine wpAny_pure ⟨plainId_quiet PyProof.Rows.F.plain_set_update_loop _, ih (i + 1) _ _ hr (by omega) (W.frame _ t1 _ _ st1 (Nat.le_succ _) fun b z o e => ?_) so3 (by split <;> (try simp) <;> omega) fun t2 m2 so4 => ?_⟩
    · rw [sb.2 b fun e' : b = S => off (e' ▸ z)]; exact e
    · refine hR t2 (Moved.trans W.gtrans ((m.mono up).then_heap (Nat.le_succ _) fun b o z e => ?_) m2) so4
      rw [sb.2 b fun e' : b = S => z (e' ▸ List.mem_cons_self)]; exact e
/-- a new set, nothing in it -/
abbrev nset (led : Bool) : Obj := { cls := .type "set", dict := none, data := .set #[] 0 (.fresh 0 0 led) }
/-- what stands at x can be walked: a list or a tuple of these values -/
inductive SeqOf (h : Heap) (l : Addr) (us : Array Value) : Prop
  | lst : h.IsList l us → SeqOf h l us
  | tup : h.IsTuple l us → SeqOf h l us
theorem keys_at : ∀ {xs : List Key} {us : List Value}, Vals (xs.map kV) us → ∀ (i : Nat) (v : Value), us[i]? = some v → ∃ k, xs[i]? = some k ∧ KeyAt k v
  | [], _, h, i, v, e => by cases h; simp at e
  | x :: xs, _, h, i, v, e => by
    cases h with
    | cons r t =>
      cases i with
      | zero => simp at e; subst e; exact ⟨x, rfl, r⟩
      | succ i => simpa using keys_at t i v (by simpa using e)
theorem keys_len : ∀ {xs : List Key} {us : List Value}, Vals (xs.map kV) us → us.length = xs.length := fun h => by have := h.length; simpa using this.symm
/-- set.__init__ of the new set over what can be walked -/
theorem set_fill {led : Bool} {l : Addr} {us : Array Value} {xs : List Key} {Q : Value → Shared → Prop} (hh : A.handled = none) (hl : SeqOf s.heap l us) (hx : Vals (xs.map kV) us.toList) (few : xs.length < 3000)
    (h : ∀ (h' : Heap) (tk : Nat), h'.SetOf (mixKind P w) s.heap.objs.size (memK (ddN [] xs)) (ddN [] xs).length → (∀ b o, b < s.heap.objs.size → s.heap.get? b = some o → h'.get? b = some o) → Q .none { s with heap := h', toks := tk }) :
    wpAny (model P w) A (Builtin.«set.__init__» ⟨[.ref s.heap.objs.size, .ref l], []⟩) (fun fin t => match fin with | .done f => (wants Q E) (.ok f) t | .again _ => False) E { s with heap := s.heap.push (nset led) } := by
  have new : (s.heap.push (nset led)).get? s.heap.objs.size = some (nset led) := Heap.get?_push_size _ rfl
  have sz : us.size = xs.length := by rw [← Array.length_toList]; exact keys_len hx
  have val : ∀ (i : Nat) (v : Value), us[i]? = some v → ∃ k, xs[i]? = some k ∧ KeyAt k v := fun i v e => keys_at hx i v (by rw [Array.getElem?_toList]; exact e)
  have size1 : (s.heap.push (nset led)).objs.size = s.heap.objs.size + 1 := Heap.size_push ..
  have tail : ∀ (it : Obj) (St : Nat → Heap → Prop), l < s.heap.objs.size → St 0 ((s.heap.push (nset led)).push it) → Walks P w A.in1 (s.heap.push (nset led)).objs.size [(s.heap.push (nset led)).objs.size, l] [(s.heap.push (nset led)).objs.size] us.size (fun i v => us[i]? = some v) St →
      wpAny (model P w) A (do
          let _ ← runValue (Code.builtin "set.update.loop" { pos := [Value.ref s.heap.objs.size, .ref (s.heap.push (nset led)).objs.size] })
          pure ())
        (fun a s' => wpAny (model P w) A ((fun __r => ret Value.none) a) (fun fin t => match fin with | .done f => (wants Q E) (.ok f) t | .again _ => False) E s') E { s with heap := (s.heap.push (nset led)).push it } := by
    intro it St hlt st W
    rw [size1] at W ⊢
    refine wpAny_bind (wpAny_runValue ?_)
    refine loop_keys W.toS (S := s.heap.objs.size) (by simp only [List.mem_cons, List.not_mem_nil, or_false, not_or]; exact ⟨Nat.ne_of_lt (Nat.lt_succ_self _), Nat.ne_of_gt hlt⟩) sz val xs 0 [] _ rfl (Nat.zero_le _) st ?_ (by simp; omega) fun t m so => ?_
    · have new2 : ((s.heap.push (nset led)).push it).get? s.heap.objs.size = some (nset led) := Heap.get?_push_of_some _ new
      exact ⟨_, #[], 0, _, new2, ⟨rfl, rfl, rfl⟩, rfl, (fun e he => by simp at he), (fun k => by simp [memK]), (by decide), (by rfl), rfl⟩
    · obtain ⟨h', g', d', tk', os'⟩ := t
      obtain rfl : g' = s.gens := m.gens
      obtain rfl : d' = s.drawn := m.drawn
      obtain rfl : os' = s.os := m.os
      refine wpAny_pure ?_
      show wpAny _ _ (ret Value.none) _ _ _
      refine wpAny_pure (h h' tk' so fun b o hb e => m.heap b o ?_ (Heap.get?_push_of_some _ (Heap.get?_push_of_some _ e)))
      simp only [List.mem_cons, List.not_mem_nil, or_false, not_or]
      exact ⟨Nat.ne_of_lt hb, Nat.ne_of_lt (Nat.lt_succ_of_lt hb)⟩
  rcases hl with hl | hl
  · have hlt : l < s.heap.objs.size := by obtain ⟨_, ho, _⟩ := hl; exact Heap.lt_size ho
    obtain ⟨⟨oc, od, oa, os⟩, ho, hc, ne, hd⟩ := hl
    simp only at hc hd
    subst hc hd
    have ho1 := Heap.get?_push_of_some (nset led) ho
    have l1 : (s.heap.push (nset led)).IsList l us := ⟨_, ho1, rfl, ne, rfl⟩
    have f1 := PySem.F.sub_list_set
    have f2 := PySem.F.sub_list_frozenset
    have f3 : (Value.type "list" == Value.type "dict") = false := by decide
    unfold Builtin.«set.__init__» noKeywords Builtin.Frozenset.updateFrom
    generalize hPI : pyIter = PI
    wp_walk
    subst hPI
    exact wpAny_pyIter_list l1 (tail _ _ hlt ⟨⟨_, Heap.get?_push_size _ rfl, rfl, rfl⟩, l1.push _⟩ (Walks.list (by simp [hh]) _ l (by rw [size1]; exact Nat.ne_of_lt (Nat.lt_succ_of_lt hlt)) us))
  · have hlt : l < s.heap.objs.size := by obtain ⟨_, ho, _⟩ := hl; exact Heap.lt_size ho
    obtain ⟨⟨oc, od, oa, os⟩, ho, hc, ne, hd⟩ := hl
    simp only at hc hd
    subst hc hd
    have ho1 := Heap.get?_push_of_some (nset led) ho
    have l1 : (s.heap.push (nset led)).IsTuple l us := ⟨_, ho1, rfl, ne, rfl⟩
    have f1 := PySem.F.sub_tuple_set
    have f2 := PySem.F.sub_tuple_frozenset
    have f3 : (Value.type "tuple" == Value.type "dict") = false := by decide
    unfold Builtin.«set.__init__» noKeywords Builtin.Frozenset.updateFrom
    generalize hPI : pyIter = PI
    wp_walk
    subst hPI
    exact wpAny_pyIter_tuple l1 (tail _ _ hlt ⟨⟨_, Heap.get?_push_size _ rfl, rfl, rfl⟩, l1.push _⟩ (Walks.tuple (by simp [hh]) _ l (by rw [size1]; exact Nat.ne_of_lt (Nat.lt_succ_of_lt hlt)) us))
end
end Rk

set_option Elab.async false
set_option linter.all false
set_option maxRecDepth 100000
set_option maxHeartbeats 3200000
namespace Rk
open PySem PySem.Spec PyProof.Rows L2
section
variable {P : Program} {w : World} {A : Around} {E : Value → Shared → Prop} {s : Shared}
def Filled (P : Program) (w : World) (s : Shared) (xs : List Key) (r : Value) (t : Shared) : Prop := r = .none ∧ ∃ h' tk, t = { s with heap := h', toks := tk } ∧ h'.SetOf (mixKind P w) s.heap.objs.size (memK (ddN [] xs)) (ddN [] xs).length ∧
  (∀ b o, b < s.heap.objs.size → s.heap.get? b = some o → h'.get? b = some o)
/-- set(x) -/
theorem set_call {l : Addr} {us : Array Value} {xs : List Key} {Q : Value → Shared → Prop} (hh : A.handled = none) (hl : SeqOf s.heap l us) (hx : Vals (xs.map kV) us.toList) (few : xs.length < 3000)
    (h : ∀ (h' : Heap) (tk : Nat), h'.SetOf (mixKind P w) s.heap.objs.size (memK (ddN [] xs)) (ddN [] xs).length → (∀ b o, b < s.heap.objs.size → s.heap.get? b = some o → h'.get? b = some o) → Q (.ref s.heap.objs.size) { s with heap := h', toks := tk }) :
    wpAny (model P w) A (call (.type "set") [.ref l]) Q E s := by
  obtain ⟨c, tl, m1⟩ := PySem.F.called_set.mro
  have m2 := PySem.F.called_set.made
  have m3 := PySem.F.called_set.sub
  have m4 := PySem.F.called_set.notType
  have m5 := PySem.F.called_set.canCreate
  have m6 := PySem.F.typeCall_set_1 (.ref l)
  refine wpAny_call (codeAny_of_tree ?_)
  show wpAny _ _ (callAny (.type "set") _) _ _ _
  refine wpAny_pure ⟨Code.quiet_builtin _ (by decide +kernel), codeAny_builtin PySem.F.entry_type_call ?_⟩
  rw [Around.under_plain (weight_type_call_type "set" [.ref l] []) rfl]
  repeat (any_goals (first | assumption | wp_step))

  refine codeAny_mono (code_set_new_1 (.ref l) (E := E) (Q₁ := fun ob t => ∃ led : Bool, ob = .ref s.heap.objs.size ∧ t = { s with heap := s.heap.push (nset led) }) fun led => ⟨led, rfl, rfl⟩) fun r t hr => ?_
  cases r with
  | error e => exact hr
  | ok f =>
  cases f with
  | ret ob =>
    obtain ⟨led, e1, e2⟩ := (hr : ∃ led : Bool, ob = .ref s.heap.objs.size ∧ t = { s with heap := s.heap.push (nset led) })
    subst e1 e2
    have ty : Shared.TypeIs { s with heap := s.heap.push (nset led) } (.ref s.heap.objs.size) "set" := ⟨_, Heap.get?_push_size _ rfl, rfl⟩
    have i1 := PySem.F.called_set.init.lookup
    have i2 := PySem.F.called_set.init.bind (.ref s.heap.objs.size)
    repeat (any_goals (first | assumption | wp_step))

    refine codeAny_mono (codeAny_call_builtin (R := wants (Filled P w s xs) E) PySem.F.called_set.init.plain PySem.F.entry_set_init (check_set_init_1 ty ?_)) fun r t hr => ?_
    · refine wpAny_mono (set_fill (E := E) (Q := Filled P w s xs) (by simp [hh]) hl hx few fun h' tk so k => ⟨rfl, h', tk, rfl, so, k⟩) (fun fin t hf => ?_) fun _ _ z => z
      cases fin with
      | done f => exact hf
      | again c => exact (hf : False).elim
    · cases r with
      | error e => exact hr
      | ok f =>
      cases f with
      | ret r =>
        obtain ⟨e1, h', tk, e2, so, k⟩ := hr
        subst e1 e2
        repeat (any_goals (first | assumption | wp_step))
        exact h _ _ so k
      | _ => exact hr.elim
  | _ => exact hr.elim
end
section
variable {X : Cx}
/-- the keys among plain values -/
def keyOf? : Vl → Option Key
  | .int i => some (.inl i)
  | .str s => some (.inr s)
  | _ => none
def keys? : List Vl → Option (List Key)
  | [] => some []
  | x :: xs => match keyOf? x, keys? xs with
    | some k, some ks => some (k :: ks)
    | _, _ => none
theorem keys_of {K : PySem.W.Frag} {H : Hp} : ∀ {xs : List Vl} {ks : List Key} {vs : List V}, keys? xs = some ks → Rl K H xs vs → vs = ks.map kV
  | [], _, _, e, r => by cases e; rw [r.nil_inv]; rfl
  | x :: xs, ks, vs, e, r => by
    obtain ⟨v, ws, rfl, r1, r2⟩ := r.cons_inv
    unfold keys? at e
    cases h1 : keyOf? x with
    | none => rw [h1] at e; cases e
    | some k =>
      cases h2 : keys? xs with
      | none => rw [h1, h2] at e; cases e
      | some ks' =>
        rw [h1, h2] at e; cases e
        rw [keys_of h2 r2]
        cases x with
        | int i => cases h1; cases re_int_inv r1; rfl
        | str i => cases h1; obtain ⟨rfl, _⟩ := re_str_inv r1; rfl
        | _ => cases h1
/-- len(set(x)) -/
def wLenSet (w : WE) : WE := fun S A Q E => w S A (fun x A1 => ∃ ks, ks.length < 3000 ∧ ((seqV A1 x fun ys => keys? ys = some ks) ∨ ∃ ys, x = .tup ys ∧ keys? ys = some ks) ∧ Q (.int (ddN [] ks).length) A1) E
def rSetK (K : PySem.W.Frag) (P : Program) (w : World) : List V → Hp → VK → Prop := fun xs H Q => ∃ (l : Addr) (ks : List Key), xs = [.ref l] ∧ (SqL K H l (ks.map kV) ∨ SqT K H l (ks.map kV)) ∧ ks.length < 3000 ∧
  ∀ p, H p = none → Q (.ref p) (upd H p (SetK P w p (memK (ddN [] ks)) (ddN [] ks).length))
theorem cr_setK (hc : X.calm = true) : CallR X (.type "set") (rSetK X.K X.prog X.w) := by
  intro pins s σ H xs us Q I r ⟨l, ks, hx, hl, few, q⟩
  subst hx
  obtain ⟨u, rfl, rv⟩ := vals1 r
  cases rv
  have key : ∃ its : List Value, Vals (ks.map kV) its ∧ SeqOf s.heap l its.toArray := by
    rcases hl with hl | hl
    · obtain ⟨its, r, pl, _⟩ := I.list hl; exact ⟨its, r, .lst pl.isList⟩
    · obtain ⟨its, r, pl, _⟩ := I.tuple hl; exact ⟨its, r, .tup pl⟩
  obtain ⟨its, rv, sq⟩ := key
  refine set_call (I.ok.hd hc) sq rv few fun h' tk so k => ?_
  exact ⟨.ref _, _, I.laid (t' := tk) (fun b u e => k b u (Heap.lt_size e) e) (Nat.le_refl _) (setK_new so), rfl, q _ (I.hok.fresh (Nat.le_refl _))⟩
def rLenK (P : Program) (w : World) : List V → Hp → VK → Prop := fun xs H Q => ∃ a S n, xs = [.ref a] ∧ H a = some (SetK P w a S n) ∧ Q (.int (n : Nat)) H
theorem cr_lenK : CallR X (.builtin "len") (rLenK X.prog X.w) := by
  intro pins s σ H xs us Q I r ⟨a, S, n, hx, ha, q⟩
  subst hx
  obtain ⟨u, rfl, rv⟩ := vals1 r
  cases rv
  obtain ⟨o, es, ep, t, ho, hex, hd, _, _, hb, hf, hn⟩ := setK_get I ha
  subst hn
  exact call_len_set ho hex hd hf (by unfold scanBound at hb; omega) ⟨.int es.size, H, I.tok _, ⟨_, rfl⟩, q⟩
variable {W : WX} {a : Expr} {w : WE} {p p2 q pos : Pos}
theorem ae_lenSet (hc : X.calm = true) (hg : Gl X "len") (hm : X.mg "len" = none) (hg2 : Gl X "set") (hm2 : X.mg "set" = none) (ha : AE X W a w)
    (hs : starEach [a] X.env = (false, eval a X.env) :: starEach [] X.env := by exact starOf rfl) : AE X W (.Call (.Name "len" p) [.Call (.Name "set" p2) [a] [] q] [] pos) (wLenSet w) := by
  refine pe_imp (pe_callB (id := "len") cr_lenK hg hm PySem.boot_len (pa_cons (pe_callTy (T := "set") (cr_setK hc) hg2 hm2 PyProof.Rows.boot_set (pa_cons ha pa_nil hs) (by decide) (by decide) hs rfl) pa_nil rfl) (by decide) (by decide) rfl rfl) ?_
  rintro σ H Q ⟨S, A, Qa, Ea, ss, sa, qa, qx, w⟩
  refine ⟨S, A, _, Ea, ss, sa, ?_, qx, w⟩
  intro x A1 v H1 r1 sa1 k1 ⟨ks, few, hk, w1⟩
  have key : ∃ l, v = .ref l ∧ (SqL X.K H1 l (ks.map kV) ∨ SqT X.K H1 l (ks.map kV)) := by
    rcases hk with hk | ⟨ys, rfl, hk⟩
    · obtain ⟨p, xs, vs, e, sq, rl, hk⟩ := seqV_of sa1 r1 hk
      rw [keys_of hk rl] at sq
      exact ⟨p, e, .inl (.inl sq)⟩
    · obtain ⟨p, vs, rfl, st, rl⟩ := re_tup_inv r1
      rw [keys_of hk rl] at st
      exact ⟨p, rfl, .inr st⟩
  obtain ⟨l, rfl, hl⟩ := key
  refine ⟨l, ks, rfl, hl, few, fun p hp => ?_⟩
  refine ⟨p, _, _, rfl, upd_same, ?_⟩
  exact qa _ _ _ _ (re_int _) (sa1.newU hp) (k1.trans (.new hp)) w1
end
end Rk

set_option Elab.async false
set_option linter.all false
set_option maxRecDepth 100000
set_option maxHeartbeats 3200000
namespace Rk
open PySem PySem.Spec PyProof.Rows L2
section
variable {P : Program} {w : World} {A : Around} {E : Value → Shared → Prop} {s : Shared}
theorem entry_seteq : entryFor table "set.__eq__" = some Builtin.«frozenset.__eq__» :=
  entryFor_alias (id' := "frozenset.__eq__") (by kernel_rfl) rfl (by decide +kernel) (by kernel_rfl)
theorem sub_set_fz : isSubtype (.type "set") (.type "frozenset") = pure false := by rw [isSubtype_type]; kernel_rfl
/-- every key of the one among the other's -/
def Subk (S T : Key → Bool) : Prop := ∀ j, S j = true → T j = true
theorem quiet_key {k : Key} {x : Value} {Q : Bool → Shared → Prop} (hk : (mixKind P w).is k x = true) (h : Q true s) : wpAny (model P w) A (Builtin.Frozenset.quietEq x) Q E s := by
  have : ∃ r, RelV (kV k) r ∧ r = x := ⟨x, by
    have hk : keyIs k x = true := hk
    rcases keyIs_shape hk with ⟨i, t, e1, e2⟩ | ⟨i, t, e1, e2⟩
    · subst e1 e2; exact ⟨_, rfl⟩
    · subst e1 e2; exact ⟨_, rfl⟩, rfl⟩
  obtain ⟨_, r, rfl⟩ := this
  unfold Builtin.Frozenset.quietEq
  cases k with
  | inl i => obtain ⟨t, rfl⟩ := r; exact wpAny_pure h
  | inr i => obtain ⟨t, rfl⟩ := r; exact wpAny_pure h
theorem unseen {a b : Addr} {o o' : Obj} {es fs : Array (Int × Value)} {ep fp : Nat} {t v : SetTable} {Q : List (Int × Value) → Shared → Prop} (h1 : s.heap.get? a = some o) (h2 : o.data = .set es ep t) (h3 : t.fits es.size = true) (h4 : ElemsOf (mixKind P w) es.toList)
    (k1 : s.heap.get? b = some o') (k2 : o'.data = .set fs fp v) (k3 : v.fits fs.size = true) (k4 : ElemsOf (mixKind P w) fs.toList) (h : Q es.toList s) : wpAny (model P w) A (Builtin.Frozenset.walkUnseen a b) Q E s := by
  unfold Builtin.Frozenset.walkUnseen
  refine wpAny_bind (wpAny_setEntries_of h1 h2 h3 ?_)
  refine wpAny_bind (wpAny_setEntries_of k1 k2 k3 ?_)
  refine wpAny_bind (wpAny_forIn_list _ (fun rest q t => t = s ∧ q = (none, ()) ∧ ∀ e ∈ rest, ∃ k, (mixKind P w).is k e.2 = true) _ ?_ ?_ _ _ ⟨rfl, rfl, fun e he => ?_⟩)
  · rintro ⟨hx, x⟩ rest q t ⟨rfl, rfl, hk⟩
    obtain ⟨k, hk1⟩ := hk _ (List.mem_cons_self ..)
    refine wpAny_bind (quiet_key hk1 ?_)
    exact wpAny_pure ⟨rfl, rfl, fun e he => hk e (List.mem_cons_of_mem _ he)⟩
  · rintro q t ⟨rfl, rfl, _⟩
    exact wpAny_pure h
  · rcases List.mem_append.mp he with he | he
    · exact ElemsOf.keys h4 e he
    · exact ElemsOf.keys k4 e he
theorem subset_of {id : String} {a b : Addr} {S T : Key → Bool} {n m : Nat} {Q : Bool → Shared → Prop} (ha : s.heap.SetOf (mixKind P w) a S n) (hb : s.heap.SetOf (mixKind P w) b T m) (hle : n ≤ m) (h : ∀ r, (r = true ↔ Subk S T) → Q r s) :
    wpAny (model P w) A (Builtin.Frozenset.subsetOf id a b) Q E s := by
  obtain ⟨o, es, ep, t, ho1, _, hd1, el1, me1, few1, fit1, len1⟩ := ha
  have hb' := hb
  obtain ⟨o2, fs, fp, v, ho2, _, hd2, el2, me2, few2, fit2, len2⟩ := hb
  unfold Builtin.Frozenset.subsetOf Builtin.Frozenset.sizeOf
  refine wpAny_bind (wpAny_bind (wpAny_setEntries_of ho1 hd1 fit1 (wpAny_pure ?_)))
  refine wpAny_bind (wpAny_bind (wpAny_setEntries_of ho2 hd2 fit2 (wpAny_pure ?_)))
  rw [if_neg (by omega)]
  refine wpAny_bind (wpAny_setEpoch_of ho1 hd1 fit1 ?_)
  refine wpAny_bind (unseen ho1 hd1 fit1 el1 ho2 hd2 fit2 el2 ?_)
  refine wpAny_bind (wpAny_mono (wpAny_forIn_list _ (fun rest q t => t = s ∧ q = (none, ()) ∧ (∀ e ∈ rest, e ∈ es.toList) ∧ ∀ e ∈ es.toList, e ∈ rest ∨ ∃ k, (mixKind P w).is k e.2 = true ∧ T k = true)
    (fun q t => t = s ∧ ((q.1 = none ∧ Subk S T) ∨ (q.1 = some false ∧ ¬ Subk S T))) ?_ ?_ _ _ ⟨rfl, rfl, fun _ h => h, fun _ h => .inl h⟩) ?_ fun _ _ z => z)
  · rintro ⟨hx, x⟩ rest q t ⟨rfl, rfl, hin, hall⟩
    obtain ⟨⟨k, hk, hh⟩, sc⟩ := el1 _ (hin _ (List.mem_cons_self ..))
    simp only at hk hh sc
    subst hh
    refine wpAny_bind (wpAny_holding (wpAny_setFind_of hk sc hb' fun r hr => ?_))
    cases hT : T k with
    | false =>
      rw [hT] at hr
      rw [if_pos (by cases r <;> simp_all)]
      refine wpAny_pure ⟨rfl, .inr ⟨rfl, fun sub => ?_⟩⟩
      have := sub k ((me1 k).mpr ⟨_, hin _ (List.mem_cons_self ..), hk⟩)
      rw [hT] at this; cases this
    | true =>
      rw [hT] at hr
      rw [if_neg (by cases r <;> simp_all)]
      unfold Builtin.Frozenset.unchanged
      refine wpAny_bind (wpAny_bind (wpAny_setEpoch_of ho1 hd1 fit1 ?_))
      rw [if_neg (by simp)]
      refine wpAny_pure (wpAny_pure ⟨rfl, rfl, fun e he => hin e (List.mem_cons_of_mem _ he), fun e he => ?_⟩)
      rcases hall e he with h | h
      · rcases List.mem_cons.mp h with rfl | h
        · exact .inr ⟨k, hk, hT⟩
        · exact .inl h
      · exact .inr h
  · rintro q t ⟨rfl, rfl, _, hall⟩
    refine ⟨rfl, .inl ⟨rfl, fun j hj => ?_⟩⟩
    obtain ⟨e, he, hk⟩ := (me1 j).mp hj
    rcases hall e he with h | ⟨k, hk', hT⟩
    · cases h
    · rw [(mixKind P w).inj _ _ _ hk hk']; exact hT
  · rintro ⟨q, u⟩ t ⟨rfl, h' | h'⟩
    · obtain ⟨e, sub⟩ := h'
      simp only at e; subst e
      exact wpAny_pure (h true (by simp [sub]))
    · obtain ⟨e, sub⟩ := h'
      simp only at e; subst e
      exact wpAny_pure (h false (by simp [sub]))
end
end Rk

set_option Elab.async false
set_option linter.all false
set_option maxRecDepth 100000
set_option maxHeartbeats 3200000
namespace Rk
open PySem PySem.Spec PyProof.Rows L2
section
variable {P : Program} {w : World} {A : Around} {E : Value → Shared → Prop} {s : Shared}
theorem eq_body {a b : Addr} {S T : Key → Bool} {n m : Nat} {Q : Fin → Shared → Prop} (ha : s.heap.SetOf (mixKind P w) a S n) (hb : s.heap.SetOf (mixKind P w) b T m) (h : ∀ r, (r = true ↔ n = m ∧ Subk S T) → Q (.done (.ret (.bool r))) s) : wpAny (model P w) A (Builtin.«frozenset.__eq__» ⟨[.ref a, .ref b], []⟩) Q E s := by
  have sub := fun (e : n = m) (id : String) (Q : Bool → Shared → Prop) (hq : ∀ r, (r = true ↔ Subk S T) → Q r s) => subset_of (A := A) (E := E) (id := id) (Q := Q) ha hb (by omega) hq
  obtain ⟨⟨c1, d1, u1, l1⟩, es, ep, t, ho1, ⟨h1, h2, h3⟩, h4, el1, me1, few1, fit1, len1⟩ := id ha
  obtain ⟨⟨c2, d2, u2, l2⟩, fs, fp, v, ho2, ⟨k1, k2, k3⟩, k4, el2, me2, few2, fit2, len2⟩ := id hb
  simp only at h1 h2 h3 h4 k1 k2 k3 k4
  subst h1 h2 h3 h4 k1 k2 k3 k4
  have f1 := sub_set_self
  have f2 := sub_set_fz
  have g1 : (t.place.size != es.size || decide (t.fill > t.mask)) = false := by
    simp only [SetTable.fits, Bool.and_eq_true, beq_iff_eq, decide_eq_true_eq] at fit1
    simp [fit1.1, Nat.not_lt.mpr fit1.2]
  have g2 : (v.place.size != fs.size || decide (v.fill > v.mask)) = false := by
    simp only [SetTable.fits, Bool.and_eq_true, beq_iff_eq, decide_eq_true_eq] at fit2
    simp [fit2.1, Nat.not_lt.mpr fit2.2]
  by_cases c : n = m
  · have g3 : (es.size != fs.size) = false := by simp [len1, len2, c]
    have sub := sub c
    unfold Builtin.«frozenset.__eq__»
    wp_walk using sub
    rw [if_neg (by rw [g1]; exact Bool.false_ne_true)]
    wp_walk using sub
    rw [if_neg (by rw [g2]; exact Bool.false_ne_true)]
    wp_walk using sub
    exact fun r hr => wpAny_pure (h r (hr.trans ⟨fun z => ⟨c, z⟩, fun z => z.2⟩))
  · have g3 : (es.size != fs.size) = true := by simp [len1, len2, c]
    unfold Builtin.«frozenset.__eq__»
    wp_walk
    rw [if_neg (by rw [g1]; exact Bool.false_ne_true)]
    wp_walk
    rw [if_neg (by rw [g2]; exact Bool.false_ne_true)]
    wp_walk
    exact h false ⟨fun z => (Bool.false_ne_true z).elim, fun z => (c z.1).elim⟩
end
end Rk

set_option Elab.async false
set_option linter.all false
set_option maxRecDepth 100000
set_option maxHeartbeats 400000
namespace Rk
open PySem PySem.Spec PyProof.Rows L2
section
variable {X : Cx}
def rEqK (P : Program) (w : World) : R2 := fun x y H Q => ∃ a b S T n m, x = .ref a ∧ y = .ref b ∧ H a = some (SetK P w a S n) ∧ H b = some (SetK P w b T m) ∧ ∀ r, (r = true ↔ n = m ∧ Subk S T) → Q (.bl r) H
theorem op_eqK (hu : X.A.units < cLine) : OpR X (compareOp .Eq) (rEqK X.prog X.w) := by
  intro pins s σ H x y v u Q I rx ry ⟨a, b, S, T, n, m, ex, ey, ha, hb, q⟩
  subst ex ey
  cases rx; cases ry
  have h1 := setK_get I ha
  have h2 := setK_get I hb
  have hop : ∀ x y, compareOp .Eq x y = richCompare .Eq x y := fun _ _ => rfl
  rw [hop]
  refine wpAny_richCompare_same_room (T := "set") (id := "set.__eq__") h1.typeIs h2.typeIs PySem.F.slot_set_eq ?_ hu
  refine wpAny_call_entry (T := "set") PySem.F.slot_set_eq h1.typeIs entry_seteq ?_ (PySem.F.args_set_eq_2 _ _)
  refine eq_body h1 h2 fun r hr => ?_
  refine ⟨.bool r, rfl, ?_, .bl r, H, I, rfl, q r hr⟩
  intro z
  cases z
/-- an expression that only reads: a plain value -/
abbrev RE := Sl → Option Vl
def LR (K : PySem.W.Frag) (g : RE) : TE := fun σ H Q => ∃ S x, SS K H S σ ∧ g S = some x ∧ ∀ v, Re K H x v → Q v H
def AR (X : Cx) (e : Expr) (g : RE) : Prop := PE X e (LR X.K g)
def rV (i : Nat) : RE := fun S => match S[i]? with | some (some x) => some x | _ => none
def rIx (i : Nat) (k : Int) : RE := fun S => match S[i]? with | some (some (.tup xs)) => atI xs k | _ => none
end
end Rk

set_option Elab.async false
set_option linter.all false
set_option maxRecDepth 100000
set_option maxHeartbeats 400000
namespace Rk
open PySem PySem.Spec PyProof.Rows L2
section
variable {P : Program} {w : World} {A : Around} {E : Value → Shared → Prop} {s : Shared}
theorem unledK {a : Addr} {S : Key → Bool} {n : Nat} {Q : Unit → Shared → Prop} (so : s.heap.SetOf (mixKind P w) a S n) (h : ∀ h', h'.SetOf (mixKind P w) a S n → (∀ b, b ≠ a → h'.get? b = s.heap.get? b) → Q () { s with heap := h' }) : wpAny (model P w) A (setUnled a) Q E s := by
  obtain ⟨o, es, ep, t, ho, hex, hd, el, me, few, fit, len⟩ := so
  have fit' : ({ t with led := false } : SetTable).fits es.size = true := by cases t; exact fit
  unfold setUnled
  refine wpAny_bind (wpAny_setState_of ho hd fit ?_)
  refine wpAny_storeSet_of ho hd ?_ (fits_of_scanBound few)
  obtain ⟨_, so2⟩ := SetOf_store (knd := mixKind P w) ho hex hd el me few fit'
  rw [len] at so2
  exact h _ so2 (Heap.SameBut.update s.heap a (Obj.putSet es { t with led := false })).2
end
section
variable {X : Cx} {e e1 e2 : Expr} {g g1 g2 : RE} {pos p2 : Pos}
theorem ar_var {i : Nat} {x : Str} (hN : X.N[i]? = some x) (hv : Vis X.env.scope x) (hd : (x == ("__debug__" : Str)) = false := by decide) (hcd : (x == ("__classdict__" : Str)) = false := by decide) : AR X (.Name x pos) (rV i) :=
  pe_imp (pe_var hN hv hd hcd) fun σ H Q ⟨S, y, ss, e, q⟩ => by
    unfold rV at e
    split at e
    · rename_i z he
      cases e
      obtain ⟨v, hv, r⟩ := ss.get _ _ he
      exact ⟨v, hv, q v r⟩
    · cases e
def tSet2 (K : PySem.W.Frag) (P : Program) (w : World) (g1 g2 : RE) : TE := fun σ H Q => ∃ S k1 k2, SS K H S σ ∧ (g1 S).bind keyOf? = some k1 ∧ (g2 S).bind keyOf? = some k2 ∧ ∀ p, H p = none → Q (.ref p) (upd H p (SetK P w p (memK (ddN [] [k1, k2])) (ddN [] [k1, k2]).length))
theorem key_re {K : PySem.W.Frag} {H : Hp} {x : Vl} {k : Key} {v : V} (h : keyOf? x = some k) (r : Re K H x v) : v = kV k := by
  have := keys_of (xs := [x]) (ks := [k]) (vs := [v]) (by simp [keys?, h]) (.cons r .nil)
  simpa using this
theorem fill_keys {pins : List (Addr × Obj)} {σ : L2.St} {H : Hp} {p : Addr} {un : Bool} {Q : VK} : ∀ (ks : List Key) (us : List Value) (ys : List Key) (s : Shared), Vals (ks.map kV) us → Inv X pins σ (upd H p (SetK X.prog X.w p (memK ys) ys.length)) s → ys.length + ks.length < 3000 →
    Q (.ref p) (upd H p (SetK X.prog X.w p (memK (ddN ys ks)) (ddN ys ks).length)) → PySem.W.KdsFill (model X.prog X.w) X.A X.xe un p (EP X pins σ Q) us s
  | [], _, ys, s, r, I, _, q => by
    cases r
    cases un with
    | false => exact PySem.W.kds_fill_nil rfl ⟨.ref p, _, I, rfl, q⟩
    | true =>
      refine PySem.W.kds_fill_unled rfl (unledK (setK_get I upd_same) fun h' so sb => ?_)
      have J := I.write (x := p) (e := p) (o := SetK X.prog X.w p (memK ys) ys.length) (t' := s.toks) (h' := h') (by rw [upd_same]; trivial) (.inl rfl) (fun b u z e => (sb b z).trans e) (by have ⟨o, _, _, _, ho, _⟩ := so; exact ⟨o, ho⟩) (setK_new so)
      rw [upd_upd] at J
      exact ⟨.ref p, _, J, rfl, q⟩
  | k :: ks, _, ys, s, r, I, few, q => by
    cases r with
    | cons rv rt =>
      refine PySem.W.kds_fill_cons ?_
      unfold setAdd
      refine wpAny_holding (wpAny_bind ((mixKind X.prog X.w).pyHash (k := k) (kV_is rv) ?_))
      simp only [List.length_cons] at few
      refine wpAny_setAddHashed_of (knd := mixKind X.prog X.w) (s := { s with toks := s.toks + 1 }) (kV_is rv) (key_scan rv) (setK_get (S := memK ys) (n := ys.length) (I.tok _) upd_same) (by unfold scanBound; omega) fun h' sb so => ?_
      have so2 : h'.SetOf (mixKind X.prog X.w) p (memK (if memK ys k = true then ys else ys ++ [k])) (if memK ys k = true then ys else ys ++ [k]).length := by
        by_cases c : memK ys k = true
        · refine sof_congr so (fun j => ?_) (by rw [if_pos c, if_pos c])
          rw [if_pos c]
          by_cases e : j = k
          · subst e; simp [c]
          · simp [e]
        · refine sof_congr so (fun j => ?_) (by rw [if_neg c, if_neg c]; simp)
          rw [if_neg c, memK_app]
      have J := I.write (x := p) (e := p) (o := SetK X.prog X.w p (memK (if memK ys k = true then ys else ys ++ [k])) (if memK ys k = true then ys else ys ++ [k]).length) (t' := s.toks + 1) (h' := h') (by rw [upd_same]; trivial) (.inl rfl) (fun b u z e => (sb.2 b z).trans e) (by have ⟨o, _, _, _, ho, _⟩ := so; exact ⟨o, ho⟩) (setK_new so2)
      rw [upd_upd] at J
      exact fill_keys ks _ _ _ rt J (by split <;> (try simp) <;> omega) q
theorem pe_set2 (hcd : PySem.W.kdsCode X.K X.env.code = true) (h1 : AR X e1 g1) (h2 : AR X e2 g2) (hp : [e1, e2].all PySem.W.kdsPlain = true) : PE X (.Set [e1, e2] 0 pos) (tSet2 X.K X.prog X.w g1 g2) := by
  refine ⟨fun pins s σ H Q I ⟨S, k1, k2, ss, b1, b2, q⟩ => ?_⟩
  obtain ⟨x1, a1, b1⟩ := Option.bind_eq_some_iff.mp b1
  obtain ⟨x2, a2, b2⟩ := Option.bind_eq_some_iff.mp b2
  rw [arm_eval_Set]
  refine wpAny_bind (wpAny_standAt ?_)
  refine wpAny_bind (PySem.W.kds_main I.kIn hcd fun b => ?_)
  rw [PySem.W.kds_star [e1, e2] hp, List.map_map]
  refine PySem.W.kds_core (ts := (evalEach [e1, e2] X.env).map fun t => do let v ← t; standAt pos; pure v) (road0 _) ?_ ?_ ?_ fun led => ?_
  · exact List.findIdx?_eq_none_iff.mpr fun x hx => by
      obtain ⟨t, _, rfl⟩ := List.mem_map.mp hx
      rfl
  · rw [List.length_map, PySem.W.kds_len]; show 2 ≤ 30; decide
  · rw [List.map_map]; rfl
  have new : (s.heap.push (nset led)).SetOf (mixKind X.prog X.w) s.heap.objs.size (memK []) 0 :=
    ⟨_, #[], 0, _, Heap.get?_push_size _ rfl, ⟨rfl, rfl, rfl⟩, rfl, (fun e he => by simp at he), (fun k => by simp [memK]), (by decide), (by rfl), rfl⟩
  have hn : H s.heap.objs.size = none := I.hok.fresh (Nat.le_refl _)
  have I1 := I.laid (t' := s.toks) (h' := s.heap.push (nset led)) (fun b u e => Heap.get?_push_of_some _ e) (Nat.le_refl _) (setK_new new)
  generalize hpp : s.heap.objs.size = p at *
  refine PySem.W.kds_all pos [e1, e2] _ _ ?_
  have kp : Keep H (upd H p (SetK X.prog X.w p (memK []) 0)) := .new hn
  refine thn (h1.run pins _ σ _ (fun v H' => H' = upd H p (SetK X.prog X.w p (memK []) 0) ∧ v = kV k1) I1 ⟨S, x1, ss.keep kp, a1, fun v r => ⟨rfl, key_re b1 r⟩⟩) fun u1 s1 ⟨v1, H1, I2, r1, eH, ev⟩ => ?_
  subst eH ev
  refine thn (h2.run pins _ σ _ (fun v H' => H' = upd H p (SetK X.prog X.w p (memK []) 0) ∧ v = kV k2) I2 ⟨S, x2, ss.keep kp, a2, fun v r => ⟨rfl, key_re b2 r⟩⟩) fun u2 s2 ⟨v2, H2, I3, r2, eH, ev⟩ => ?_
  subst eH ev
  exact fill_keys [k1, k2] [u1, u2] [] s2 (.cons r1 (.cons r2 .nil)) I3 (by simp) (q p hn)
theorem ar_ix {i : Nat} {x : Str} {k : Int} {e : Expr} (hN : X.N[i]? = some x) (hv : Vis X.env.scope x) (he : PE X e (tC (.int k))) (hp : PlainIx e) (hd : (x == ("__debug__" : Str)) = false := by decide) (hcd : (x == ("__classdict__" : Str)) = false := by decide) :
    AR X (.Subscript (.Name x p2) e pos) (rIx i k) :=
  pe_imp (pe_ix ix_tup (pe_var hN hv hd hcd) he hp) fun σ H Q ⟨S, y, ss, e, q⟩ => by
    unfold rIx at e
    split at e
    · rename_i xs he
      obtain ⟨v, hv, r⟩ := ss.get _ _ he
      obtain ⟨p, vs, rfl, st, rl⟩ := re_tup_inv r
      obtain ⟨t, ht, rt⟩ := rl.atI e
      exact ⟨_, hv, p, vs, k, t, rfl, rfl, st, ht, q t rt⟩
    · cases e
def setEq (k1 k2 k3 k4 : Key) : Bool := decide ((ddN [] [k1, k2]).length = (ddN [] [k3, k4]).length) && (ddN [] [k1, k2]).all fun j => memK (ddN [] [k3, k4]) j
def wSetEq (g1 g2 g3 g4 : RE) : WT := fun S A Q _ => ∃ k1 k2 k3 k4, (g1 S).bind keyOf? = some k1 ∧ (g2 S).bind keyOf? = some k2 ∧ (g3 S).bind keyOf? = some k3 ∧ (g4 S).bind keyOf? = some k4 ∧ Q (setEq k1 k2 k3 k4) A
theorem at_setEq {W : WX} {e3 e4 : Expr} {g3 g4 : RE} {pos3 pos4 : Pos} (hu : X.A.units < cLine) (hcd : PySem.W.kdsCode X.K X.env.code = true) (h1 : AR X e1 g1) (h2 : AR X e2 g2) (h3 : AR X e3 g3) (h4 : AR X e4 g4) (hp : [e1, e2].all PySem.W.kdsPlain = true) (hq : [e3, e4].all PySem.W.kdsPlain = true)
    (hm : behindInMarks .Eq (.Set [e3, e4] 0 pos4) = false := by rfl) : AT X W (.Compare (.Set [e1, e2] 0 pos3) [.Eq] [.Set [e3, e4] 0 pos4] pos) (wSetEq g1 g2 g3 g4) := by
  refine pt_imp (pt_cmpR (op_eqK hu) (pe_set2 hcd h1 h2 hp) (pe_set2 hcd h3 h4 hq) hm) ?_
  rintro σ H Q ⟨S, A, Qa, Ea, ss, sa, qa, qx, k1, k2, k3, k4, b1, b2, b3, b4, w⟩
  refine ⟨S, k1, k2, ss, b1, b2, fun p hp => ?_⟩
  have kp : Keep H (upd H p (SetK X.prog X.w p (memK (ddN [] [k1, k2])) (ddN [] [k1, k2]).length)) := .new hp
  refine ⟨S, k3, k4, ss.keep kp, b3, b4, fun q hq => ?_⟩
  have ne : p ≠ q := fun e => by rw [← e, upd_same] at hq; cases hq
  refine ⟨p, q, _, _, _, _, rfl, rfl, (upd_ne ne).trans upd_same, upd_same, fun r hr => ⟨r, rfl, ?_⟩⟩
  have er : r = setEq k1 k2 k3 k4 := by
    have : (setEq k1 k2 k3 k4 = true) ↔ (ddN [] [k1, k2]).length = (ddN [] [k3, k4]).length ∧ Subk (memK (ddN [] [k1, k2])) (memK (ddN [] [k3, k4])) := by
      unfold setEq Subk
      rw [Bool.and_eq_true, decide_eq_true_eq, List.all_eq_true]
      exact and_congr Iff.rfl ⟨fun h j hj => h j (memK_iff.mp hj), fun h j hj => h j (memK_iff.mpr hj)⟩
    exact Bool.eq_iff_iff.mpr (hr.trans this.symm)
  rw [er]
  exact qa _ _ _ ((sa.newU hp).newU hq) (kp.trans (.new hq)) w
end
end Rk

set_option Elab.async false
set_option linter.all false
set_option maxRecDepth 100000
set_option maxHeartbeats 400000
namespace Rk
open PySem PySem.Spec PyProof.Rows L2
section
variable {X : Cx} {K : PySem.W.Frag}
/-! ### slices -/
def cutL {α : Type} (xs : List α) (lo hi : Option Int) : List α := (xs.drop (HT.sIx xs.length 0 lo)).take (HT.sIx xs.length xs.length hi - HT.sIx xs.length 0 lo)
theorem cutL_V (xs : List V) (lo hi : Option Int) : cutV xs lo hi = cutL xs lo hi := rfl
theorem Rl.cut {H : Hp} {xs : List Vl} {vs : List V} (lo hi : Option Int) (h : Rl K H xs vs) : Rl K H (cutL xs lo hi) (cutL vs lo hi) := by
  unfold cutL
  rw [h.length]
  exact (h.drop _).take _
theorem cutL_whole {α : Type} {xs : List α} {lo hi : Option Int} (h : HT.sIx xs.length 0 lo = 0 ∧ HT.sIx xs.length xs.length hi = xs.length) : cutL xs lo hi = xs := by
  unfold cutL; rw [h.1, h.2]; simp
def fSl (m : Md) : FS := fun x lo hi A Q => match x with
  | .tup xs => Q (.tup (cutL xs lo hi)) A
  | .str s => Q (.str (cutS s lo hi)) A
  | x => seqV A x fun xs => newL m (cutL xs lo hi) A Q
theorem okS_cut {s : Str} (h : okS s) (lo hi : Option Int) : okS (cutS s lo hi) := by
  refine ⟨Nat.le_trans (cutS_length s lo hi) h.1, ?_⟩
  have h2 := h.2
  simp only [PyData.strOk, Array.all_eq_true_iff_forall_mem, decide_eq_true_eq, cutS] at h2 ⊢
  intro c hc
  refine h2 c ?_
  rw [← Array.mem_toList_iff] at hc ⊢
  exact List.mem_of_mem_drop (List.mem_of_mem_take hc)
theorem s_sl (m : Md) : SimS K (fun x lo hi H Q => (rSlL K x lo hi H Q ∨ rSlN K x lo hi H Q) ∨ L2.rSlS x lo hi H Q) (fSl m) := by
  intro x lo hi v A H Q Qa r sa q w
  have lists : (seqV A x fun xs => newL m (cutL xs lo hi) A Qa) → (rSlL K v lo hi H (Gq Q) ∨ rSlN K v lo hi H (Gq Q)) ∨ L2.rSlS v lo hi H (Gq Q) := by
    intro wl
    obtain ⟨p, xs, vs, e, sq, rl, wl⟩ := seqV_of sa r wl
    exact .inl (.inl ⟨p, vs, e, .inl sq, ql_new q sa (rl.cut lo hi) wl⟩)
  replace q := q.gq
  cases x with
  | tup xs =>
    obtain ⟨p, vs, rfl, st, rl⟩ := re_tup_inv r
    refine .inl (.inr ⟨p, vs, rfl, st, fun h => ?_, ?_⟩)
    · refine q _ _ _ _ ?_ sa .refl w
      rw [cutL_whole (by rw [rl.length]; exact h)]
      exact r
    · exact ql_tup q sa (rl.cut lo hi) w
  | str s =>
    obtain ⟨rfl, g⟩ := re_str_inv r
    exact .inr ⟨s, rfl, g.1, q _ _ _ _ (re_str (okS_cut g lo hi) _) sa .refl w⟩
  | ref p => exact lists w
  | lst p => exact lists w
  | _ => exact w.elim
theorem o_sl : SlR X (fun x lo hi H Q => (rSlL X.K x lo hi H Q ∨ rSlN X.K x lo hi H Q) ∨ L2.rSlS x lo hi H Q) := (sl_list.or sl_tupS).or sl_str
/-! ### in, not in -/
def flatL : Vl → Bool
  | .non => true | .bl _ => true | .int _ => true | .str _ => true | _ => false
/-- == of flat values -/
def eqL : Vl → Vl → Bool
  | .non, .non => true
  | .bl a, .bl b => a == b
  | .bl a, .int b => (if a then 1 else 0) == b
  | .int a, .bl b => a == (if b then 1 else 0)
  | .int a, .int b => a == b
  | .str a, .str b => a == b
  | _, _ => false
theorem flat_of {H : Hp} {x : Vl} {v : V} (r : Re K H x v) (f : flatL x = true) : flatV v = true := by
  cases x with
  | non => cases re_non_inv r; rfl
  | bl b => cases re_bl_inv r; rfl
  | int b => cases re_int_inv r; rfl
  | str b => obtain ⟨rfl, _⟩ := re_str_inv r; rfl
  | _ => cases f
theorem flats_of {H : Hp} : ∀ {xs : List Vl} {vs : List V}, Rl K H xs vs → xs.all flatL = true → vs.all flatV = true
  | [], _, r, _ => by rw [r.nil_inv]; rfl
  | x :: xs, _, r, f => by
    obtain ⟨v, ws, rfl, r1, r2⟩ := r.cons_inv
    rw [List.all_cons, Bool.and_eq_true] at f ⊢
    exact ⟨flat_of r1 f.1, flats_of r2 f.2⟩
theorem eqL_of {H : Hp} {x y : Vl} {v u : V} (r : Re K H x v) (s : Re K H y u) (f : flatL x = true) (g : flatL y = true) : eqV v u = eqL x y := by
  cases x with
  | non => cases re_non_inv r; cases y <;> first | (cases re_non_inv s; rfl) | (cases re_bl_inv s; rfl) | (cases re_int_inv s; rfl) | (obtain ⟨rfl, _⟩ := re_str_inv s; rfl) | cases g
  | bl b => cases re_bl_inv r; cases y <;> first | (cases re_non_inv s; rfl) | (cases re_bl_inv s; rfl) | (cases re_int_inv s; rfl) | (obtain ⟨rfl, _⟩ := re_str_inv s; rfl) | cases g
  | int b => cases re_int_inv r; cases y <;> first | (cases re_non_inv s; rfl) | (cases re_bl_inv s; rfl) | (cases re_int_inv s; rfl) | (obtain ⟨rfl, _⟩ := re_str_inv s; rfl) | cases g
  | str b => obtain ⟨rfl, _⟩ := re_str_inv r; cases y <;> first | (cases re_non_inv s; rfl) | (cases re_bl_inv s; rfl) | (cases re_int_inv s; rfl) | (obtain ⟨rfl, _⟩ := re_str_inv s; rfl) | cases g
  | _ => cases f
def inL (x : Vl) (xs : List Vl) : Bool := xs.any fun y => eqL y x
theorem inL_of {H : Hp} {x : Vl} {v : V} (r : Re K H x v) (f : flatL x = true) : ∀ {xs : List Vl} {vs : List V}, Rl K H xs vs → xs.all flatL = true → inV v vs = inL x xs
  | [], _, s, _ => by rw [s.nil_inv]; rfl
  | y :: xs, _, s, g => by
    obtain ⟨u, ws, rfl, r1, r2⟩ := s.cons_inv
    rw [List.all_cons, Bool.and_eq_true] at g
    have := inL_of r f r2 g.2
    unfold inV inL at this ⊢
    rw [List.any_cons, List.any_cons, this, eqL_of r1 r g.1 f]
def fInA (neg : Bool) : F2 := fun x y A Q => match y with
  | .str t => (match x with
    | .str s => Q (.bl (neg != !(Builtin.Str.occurrences t s 0 t.length 1).isEmpty)) A
    | _ => False)
  | .tup xs => flatL x = true ∧ xs.all flatL = true ∧ Q (.bl (neg != inL x xs)) A
  | y => seqV A y fun xs => flatL x = true ∧ xs.all flatL = true ∧ Q (.bl (neg != inL x xs)) A
theorem in_go {neg : Bool} {fn : Value → Value → Sem Value} (hs : O2 X fn (fIn neg)) (hq : OpR X fn (rIn X.K neg)) : O2 X fn (fInA neg) := by
  intro pins s σ H v u vv uu Q I rv ru ⟨x, y, A, Qa, r1, r2, sa, q, w⟩
  have key : ∀ (p : Addr) (xs : List Vl) (vs : List V), u = .ref p → (SqL X.K H p vs ∨ SqT X.K H p vs) → Rl X.K H xs vs → flatL x = true → xs.all flatL = true → Qa (.bl (neg != inL x xs)) A → wpAny (model X.prog X.w) X.A (fn vv uu) (EP X pins σ Q) X.xe s := by
    intro p xs vs e sq rl f g w
    refine hq pins s σ H _ _ _ _ Q I rv ru ⟨p, vs, e, sq, flat_of r1 f, flats_of rl g, ?_⟩
    rw [inL_of r1 f rl g]
    exact q _ _ _ _ (re_bl _) sa .refl (by cases neg <;> simpa using w)
  have lists : (seqV A y fun xs => flatL x = true ∧ xs.all flatL = true ∧ Qa (.bl (neg != inL x xs)) A) → wpAny (model X.prog X.w) X.A (fn vv uu) (EP X pins σ Q) X.xe s := by
    intro wl
    obtain ⟨p, xs, vs, e, sq, rl, f, g, wl⟩ := seqV_of sa r2 wl
    exact key p xs vs e (.inl (.inl sq)) rl f g wl
  cases y with
  | str t =>
    cases x with
    | str a => exact hs pins s σ H _ _ _ _ Q I rv ru ⟨_, _, A, Qa, r1, r2, sa, q, w⟩
    | _ => exact w.elim
  | tup xs =>
    obtain ⟨p, vs, e, st, rl⟩ := re_tup_inv r2
    exact key p xs vs e (.inr st) rl w.1 w.2.1 w.2.2
  | ref p => exact lists w
  | lst p => exact lists w
  | _ => exact w.elim
theorem o_inA : O2 X (compareOp .In) (fInA false) := in_go o_in op_in_seq
theorem o_notinA : O2 X (compareOp .NotIn) (fInA true) := in_go o_notin op_notIn_seq
/-! ### int(x) -/
def fInt : FC := fun xs A Q => match xs with
  | [.int i] => Q (.int i) A
  | [.bl b] => Q (.int (if b then 1 else 0)) A
  | _ => False
theorem o_int : OC X (.type "int") fInt := by
  intro pins s σ H vs us Q I r ⟨xs, A, Qa, rl, sa, q, w⟩
  unfold fInt at w
  split at w
  · obtain ⟨v, rfl, rx⟩ := rl.one
    cases re_int_inv rx
    exact call_int1 pins s σ H _ us Q I r (.inl ⟨_, rfl, q _ _ _ _ (re_int _) sa .refl w⟩)
  · obtain ⟨v, rfl, rx⟩ := rl.one
    cases re_bl_inv rx
    exact call_int1 pins s σ H _ us Q I r (.inr ⟨_, rfl, q _ _ _ _ (re_int _) sa .refl w⟩)
  · exact w.elim
/-! ### t.index(x) of a tuple of texts -/
def fTIndex : FM := fun x xs A Q => ∃ ys z ss j, x = .tup ys ∧ xs = [.str z] ∧ strL ys = some ss ∧ ss[j]? = some z ∧ (∀ m, m < j → ss[m]? ≠ some z) ∧ Q (.int (j : Nat)) A
theorem m_tindex : Mt X .tup "index" fTIndex := ⟨⟨_, PySem.F.plainAttrs_tuple, PySem.F.slot_tuple_index, PySem.F.type_tuple_index, by
  intro pins s σ H v vs vv us Q I rv rs ⟨x, xs, A, Qa, r, rl, sa, q, _, ys, z, ss, j, hx, hxs, hs, hj, hno, w⟩
  subst hx hxs
  obtain ⟨p, ws, rfl, st, l⟩ := re_tup_inv r
  obtain ⟨u, rfl, ru⟩ := rl.one
  obtain ⟨rfl, _⟩ := re_str_inv ru
  rw [strL_of hs l] at st
  exact mt_tup_index pins s σ H _ _ vv us Q I rv rs ⟨p, ss, z, j, rfl, rfl, st, hj, hno, q _ _ _ _ (re_int _) sa .refl w⟩⟩⟩
/-! ### what is never reached -/
def wNo : WS := fun _ _ _ => False
theorem as_no {W : WX} {st : Stmt} : AS X W st wNo := ⟨fun _ _ _ _ _ _ ⟨_, _, _, _, _, _, w⟩ => w.elim⟩
end
end Rk

set_option Elab.async false
set_option linter.all false
set_option maxRecDepth 100000
set_option maxHeartbeats 400000
namespace Rk
open PySem PySem.Spec PyProof.Rows L2
section
variable {X : Cx} {K : PySem.W.Frag}
/-! ### dicts whose keys are ints and texts -/
def keyIsV (a : Vl) (k : Key) : Bool := decide (keyOf? a = some k)
theorem keyIsV_kVl {c k : Key} : keyIsV (kVl c) k = decide (c = k) := by
  unfold keyIsV
  cases c <;> simp [keyOf?, kVl]
def lookL : List (Vl × Vl) → Key → Option Vl
  | [], _ => none
  | (a, x) :: r, k => if keyIsV a k = true then some x else lookL r k
def putL (kvs : List (Vl × Vl)) (k : Key) (x : Vl) : List (Vl × Vl) :=
  if (kvs.any fun kv => keyIsV kv.1 k) = true then kvs.map (fun kv => if keyIsV kv.1 k = true then (kv.1, x) else kv) else kvs ++ [(kVl k, x)]
def mergeL (kvs : List (Vl × Vl)) : List (Key × Vl) → List (Vl × Vl)
  | [] => kvs
  | (k, x) :: r => mergeL (putL kvs k x) r
theorem Kr.look {H : Hp} {k : Key} : ∀ {kvs : List (Vl × Vl)} {kk : List (Key × V)}, Kr K H kVl kvs kk → (∀ x, lookL kvs k = some x → ∃ v, valV kk k = some v ∧ Re K H x v) ∧ (lookL kvs k = none → valV kk k = none)
  | [], kk, h => by rw [show kk = [] from h]; exact ⟨fun x e => (nomatch e), fun _ => rfl⟩
  | (a, x) :: r, _, ⟨c, v, hs, e, ea, rx, t⟩ => by
    subst e ea
    have ih := Kr.look (k := k) t
    unfold lookL
    rw [keyIsV_kVl]
    by_cases h : c = k
    · subst h
      rw [valV_pos (p := (c, v)) rfl]
      simp only [decide_true, if_true]
      exact ⟨fun y e => by cases e; exact ⟨v, rfl, rx⟩, fun e => (nomatch e)⟩
    · rw [valV_neg (p := (c, v)) h]
      simp only [h, decide_false, Bool.false_eq_true, if_false]
      exact ih
theorem Kr.anyK {H : Hp} {k : Key} : ∀ {kvs : List (Vl × Vl)} {kk : List (Key × V)}, Kr K H kVl kvs kk → (kvs.any fun kv => keyIsV kv.1 k) = kk.any fun kv => decide (kv.1 = k)
  | [], kk, h => by rw [show kk = [] from h]; rfl
  | (a, x) :: r, _, ⟨c, v, hs, e, ea, rx, t⟩ => by
    subst e ea
    rw [List.any_cons, List.any_cons, Kr.anyK t, keyIsV_kVl]
theorem Kr.app {H : Hp} {k : Key} {x : Vl} {v : V} (rx : Re K H x v) : ∀ {kvs : List (Vl × Vl)} {kk : List (Key × V)}, Kr K H kVl kvs kk → Kr K H kVl (kvs ++ [(kVl k, x)]) (kk ++ [(k, v)])
  | [], kk, h => by rw [show kk = [] from h]; exact ⟨k, v, [], rfl, rfl, rx, rfl⟩
  | (a, y) :: r, _, ⟨c, u, hs, e, ea, ry, t⟩ => by subst e; exact ⟨c, u, _, rfl, ea, ry, Kr.app rx t⟩
theorem Kr.repl {H : Hp} {k : Key} {x : Vl} {v : V} (rx : Re K H x v) : ∀ {kvs : List (Vl × Vl)} {kk : List (Key × V)}, Kr K H kVl kvs kk → Kr K H kVl (kvs.map (fun kv => if keyIsV kv.1 k = true then (kv.1, x) else kv)) (kk.map (fun kv => if kv.1 = k then (kv.1, v) else kv))
  | [], kk, h => by rw [show kk = [] from h]; rfl
  | (a, y) :: r, _, ⟨c, u, hs, e, ea, ry, t⟩ => by
    subst e ea
    rw [List.map_cons, List.map_cons]
    simp only [keyIsV_kVl, decide_eq_true_eq]
    by_cases h : c = k
    · rw [if_pos h, if_pos h]; exact ⟨c, v, _, rfl, rfl, rx, Kr.repl rx t⟩
    · rw [if_neg h, if_neg h]; exact ⟨c, u, _, rfl, rfl, ry, Kr.repl rx t⟩
theorem Kr.put {H : Hp} {k : Key} {x : Vl} {v : V} {kvs : List (Vl × Vl)} {kk : List (Key × V)} (rx : Re K H x v) (h : Kr K H kVl kvs kk) : Kr K H kVl (putL kvs k x) (putK kk k v) := by
  unfold putL putK
  rw [h.anyK]
  split
  · exact Kr.repl rx h
  · exact Kr.app rx h
theorem Kr.length {H : Hp} : ∀ {kvs : List (Vl × Vl)} {kk : List (Key × V)}, Kr K H kVl kvs kk → kvs.length = kk.length
  | [], kk, h => by rw [show kk = [] from h]; rfl
  | (a, y) :: r, _, ⟨c, u, hs, e, ea, ry, t⟩ => by subst e; simp [Kr.length t]
/-- pairs as they are written -/
abbrev WP := Sl → Ah → (List (Vl × Vl) → Ah → Prop) → EX → Prop
def wPnil : WP := fun _ A Q _ => Q [] A
def wPcons (a b : WE) (r : WP) : WP := fun S A Q E => a S A (fun x A1 => b S A1 (fun y A2 => r S A2 (fun ps A3 => Q ((x, y) :: ps) A3) E) E) E
def pkeys : List (Vl × Vl) → Option (List (Key × Vl))
  | [] => some []
  | (a, x) :: r => match keyOf? a, pkeys r with
    | some k, some ks => some ((k, x) :: ks)
    | _, _ => none
def Rp (K : PySem.W.Frag) (H : Hp) : List (Vl × Vl) → List (V × V) → Prop
  | [], ps => ps = []
  | (a, x) :: r, ps => ∃ v u qs, ps = (v, u) :: qs ∧ Re K H a v ∧ Re K H x u ∧ Rp K H r qs
theorem pkeys_ok {H : Hp} : ∀ {kvs : List (Vl × Vl)} {ks : List (Key × Vl)} {ps : List (V × V)}, pkeys kvs = some ks → Rp K H kvs ps → ∃ kk : List (Key × V), ps = kk.map (fun kv => (kV kv.1, kv.2)) ∧ kk.length = ks.length ∧ (∀ kvs0 kk0, Kr K H kVl kvs0 kk0 → Kr K H kVl (mergeL kvs0 ks) (mergeK kk0 kk))
  | [], _, ps, e, r => by cases e; rw [show ps = [] from r]; exact ⟨[], rfl, rfl, fun _ _ h => h⟩
  | (a, x) :: kvs, _, _, e, ⟨v, u, qs, ep, ra, rx, rt⟩ => by
    subst ep
    unfold pkeys at e
    cases h1 : keyOf? a with
    | none => rw [h1] at e; cases e
    | some k =>
      cases h2 : pkeys kvs with
      | none => rw [h1, h2] at e; cases e
      | some ks' =>
        rw [h1, h2] at e; cases e
        obtain ⟨kk, e1, e2, e3⟩ := pkeys_ok h2 rt
        refine ⟨(k, u) :: kk, by rw [List.map_cons, e1, key_re h1 ra], by simp [e2], fun kvs0 kk0 h => ?_⟩
        exact e3 _ _ (h.put rx)
def keysL (kvs : List (Vl × Vl)) : List Key := kvs.filterMap fun kv => keyOf? kv.1
/-- a new dict -/
def newD (m : Md) (kvs : List (Vl × Vl)) (A : Ah) (Q : QE) : Prop := match m with
  | .F => Q (.dct (keysL kvs) (kvs.map (·.2))) A
  | .M => ∀ p, A p = none → Q (.ref p) (put A p (.dct kvs))
theorem keysL_of {H : Hp} : ∀ {kvs : List (Vl × Vl)} {kk : List (Key × V)}, Kr K H kVl kvs kk → kk.map (·.1) = keysL kvs ∧ Rl K H (kvs.map (·.2)) (kk.map (·.2))
  | [], kk, h => by rw [show kk = [] from h]; exact ⟨rfl, .nil⟩
  | (a, x) :: r, _, ⟨c, v, hs, e, ea, rx, t⟩ => by
    subst e ea
    obtain ⟨h1, h2⟩ := keysL_of t
    refine ⟨?_, .cons rx h2⟩
    have : keyOf? (kVl c) = some c := by cases c <;> rfl
    simp only [keysL, List.filterMap_cons, this, List.map_cons] at h1 ⊢
    rw [h1]
def tp (K : PySem.W.Frag) (W : WX) : List (WE × WE) → List (TE × TE)
  | [] => []
  | (a, b) :: r => (tLockE (LE K W a), tLockE (LE K W b)) :: tp K W r
def wPs : List (WE × WE) → WP
  | [] => wPnil
  | (a, b) :: r => wPcons a b (wPs r)
theorem Rp.keep {H H' : Hp} (k : Keep H H') : ∀ {kvs : List (Vl × Vl)} {ps : List (V × V)}, Rp K H kvs ps → Rp K H' kvs ps
  | [], _, h => h
  | (_, _) :: _, _, ⟨v, u, qs, e, ra, rx, t⟩ => ⟨v, u, qs, e, ra.keep k, rx.keep k, Rp.keep k t⟩
/-- {k: v, ..} -/
def wDisp (m : Md) (ws : List (WE × WE)) : WE := fun S A Q E => wPs ws S A (fun kvs A2 => ∃ ks, pkeys kvs = some ks ∧ ks.length ≤ 15 ∧ newD m (mergeL [] ks) A2 Q) E
theorem Keep.set {H H1 : Hp} {d : Addr} {u : HO} (k : Keep H H1) (n : Mut (H d)) : Keep H (upd H1 d u) := by
  have ne : ∀ {b : Addr} {x : HO}, H b = some x → ¬ Mut (some x) → b ≠ d := fun {b x} h m z => by subst z; rw [h] at n; exact m n
  exact .mk' (fun b xs h => by rw [upd_ne (ne h fun z => z)]; exact k.tup b xs h) (fun b o w h => by rw [upd_ne (ne h fun z => z)]; exact k.frz b o w h) fun b gs h => by rw [upd_ne (ne h fun z => z)]; exact k.xd b gs h
theorem pairs_go {W : WX} {p : Addr} : ∀ {ws : List (WE × WE)} {σ : L2.St} {H : Hp} {S : Sl} {A : Ah} {Q : List (V × V) → Hp → Prop} {Qa : List (Vl × Vl) → Ah → Prop} {Ea : EX}, SS K H S σ → SA K A H → QX K H Ea (fun c d H' => W c d σ H') → A p = none → H p = some (.dK []) →
    (∀ kvs A' ps H', Rp K H' kvs ps → SA K A' H' → Keep H H' → A' p = none → H' p = some (.dK []) → Qa kvs A' → Q ps H') → wPs ws S A Qa Ea → tPairs (tp K W ws) σ H Q
  | [], σ, H, S, A, Q, Qa, Ea, ss, sa, qx, n, hp, q, w => q [] A [] H rfl sa .refl n hp w
  | (a, b) :: r, σ, H, S, A, Q, Qa, Ea, ss, sa, qx, n, hp, q, w => by
    have mu : Mut (H p) := by rw [hp]; trivial
    refine ⟨p, _, hp, trivial, fun od => ?_⟩
    have kl : Keep H (upd H p (dbl od (.dK []))) := .write mu
    refine ⟨S, A, _, Ea, ss.keep kl, sa.aside n kl.w, ?_, qx.keep kl, w⟩
    intro x A1 v H1 r1 sa1 k1 w1
    have d1 : H1 p = some (dbl od (.dK [])) := k1.frz p _ _ upd_same
    have n1 := sa1.locked d1
    refine ⟨d1, p, _, upd_same, trivial, fun od2 => ?_⟩
    rw [upd_upd]
    have kx1 : Kw H1 (upd H1 p (dbl od2 (.dK []))) := .unl d1
    have ky1 : Keep H (upd H1 p (dbl od2 (.dK []))) := k1.unlock mu
    refine ⟨S, A1, _, Ea, ss.keep ky1, sa1.aside n1 kx1, ?_, qx.keep ky1, w1⟩
    intro y A2 u H2 r2 sa2 k2 w2
    have d2 : H2 p = some (dbl od2 (.dK [])) := k2.frz p _ _ upd_same
    have n2 := sa2.locked d2
    have kw2 : Kw H2 (upd H2 p (.dK [])) := .unl d2
    have kx2 : Keep H (upd H2 p (.dK [])) := (ky1.trans k2).set mu
    refine ⟨d2, pairs_go (ws := r) (ss.keep kx2) (sa2.aside n2 kw2) (qx.keep kx2) n2 upd_same ?_ w2⟩
    intro kvs A3 ps H3 rp sa3 k3 n3 hp3 w3
    exact q ((x, y) :: kvs) A3 ((v, u) :: ps) H3 ⟨v, u, ps, rfl, (((r1.kw kx1).keep k2).kw kw2).keep k3, (r2.kw kw2).keep k3, rp⟩ sa3 (kx2.trans k3) n3 hp3 w3
theorem ae_disp (m : Md) {W : WX} {pos : Pos} {keys : List (Option Expr)} {values : List Expr} {ws : List (WE × WE)} (h : PPs X pos keys values (tp X.K W ws)) (hall : keys.all (·.isSome) = true) (hl : keys.length = values.length) (h0 : keys ≠ []) (h15 : keys.length ≤ 15) :
    AE X W (.Dict keys values pos) (wDisp m ws) := pe_imp (pe_gh (pe_disp h hall hl h0 h15)) fun σ H Q ⟨S, A, Qa, Ea, ss, sa, q, qx, w⟩ => by
  intro p hp
  have k0 : Keep H (upd H p (.dK [])) := .new hp
  refine pairs_go (ss.keep k0) (sa.newU hp) (qx.keep k0) (sa.fresh hp) upd_same ?_ w
  intro kvs A2 ps H2 rp sa2 k2 n2 hp2 ⟨ks, hk, h15, w2⟩
  obtain ⟨kk, e1, e2, e3⟩ := pkeys_ok hk rp
  refine ⟨hp2, kk, e1, by omega, ?_⟩
  have mu : Mut (H2 p) := by rw [hp2]; trivial
  have kd := e3 [] [] rfl
  have kf := k0.trans k2
  cases m with
  | M =>
    have kw : Keep H2 (upd H2 p (.dK (mergeK [] kk))) := .write mu
    refine .inl (q _ _ _ _ (re_ref _) ?_ (kf.trans kw) (w2 p n2))
    intro b o e
    by_cases hb : b = p
    · subst hb; rw [put_same] at e; cases e; exact ⟨_, upd_same, Kr.keep kw kd⟩
    · rw [put_ne hb] at e; exact (sa2 b o e).move kw (upd_ne hb)
  | F =>
    refine .inr ⟨p, _, upd_same, trivial, fun od => ?_⟩
    rw [upd_upd]
    have kw : Keep H2 (upd H2 p (.frz od (.dK (mergeK [] kk)))) := .write mu
    obtain ⟨g1, g2⟩ := keysL_of kd
    exact q _ _ _ _ (by unfold Re; exact ⟨p, od, _, rfl, upd_same, g1, g2.keep kw⟩) (sa2.aside n2 kw.w) (kf.trans kw) w2
theorem ps_none {W : WX} {pos : Pos} : PPs X pos [] [] (tp X.K W []) := pps_nil
theorem ps_some {W : WX} {pos : Pos} {k v : Expr} {ks : List (Option Expr)} {vs : List Expr} {a b : WE} {r : List (WE × WE)} (hk : AE X W k a) (hv : AE X W v b) (hr : PPs X pos ks vs (tp X.K W r)) : PPs X pos (some k :: ks) (v :: vs) (tp X.K W ((a, b) :: r)) := pps_cons (pe_lock2 hk) (pe_lock2 hv) hr
/-! d.get(k), d.get(k, x) -/
/-- a dict whose keys are ints and texts -/
def dctV (A : Ah) (x : Vl) (P : List (Vl × Vl) → Prop) : Prop := match x with
  | .dct ks xs => P ((ks.map kVl).zip xs)
  | .ref p => (match A p with
    | some (.dct kvs) => P kvs
    | some (.lok kvs) => P kvs
    | _ => False)
  | _ => False
theorem Kr.of_zip {H : Hp} : ∀ {ks : List Key} {xs : List Vl} {kk : List (Key × V)}, kk.map (·.1) = ks → Rl K H xs (kk.map (·.2)) → Kr K H kVl ((ks.map kVl).zip xs) kk
  | _, xs, [], e, r => by subst e; simp [Kr]
  | _, [], (c, v) :: kk, e, r => by have := r.length; simp at this
  | _, x :: xs, (c, v) :: kk, e, r => by
    subst e
    obtain ⟨v', ws, e2, r1, r2⟩ := r.cons_inv
    simp at e2
    obtain ⟨rfl, rfl⟩ := e2
    exact ⟨c, v, kk, rfl, rfl, r1, Kr.of_zip rfl r2⟩
theorem dctV_of {A : Ah} {H : Hp} {x : Vl} {v : V} {P : List (Vl × Vl) → Prop} (sa : SA K A H) (r : Re K H x v) (h : dctV A x P) : ∃ p kvs kk, v = .ref p ∧ Rd H p (.dK kk) ∧ Kr K H kVl kvs kk ∧ P kvs := by
  cases x with
  | dct ks xs =>
    obtain ⟨p, o, kk, e, st, hk, rl⟩ := re_dct_inv r
    exact ⟨p, _, kk, e, .inr ⟨o, st⟩, Kr.of_zip hk rl, h⟩
  | ref p =>
    have h : (match A p with
      | some (.dct kvs) => P kvs
      | some (.lok kvs) => P kvs
      | _ => False) := h
    split at h
    · rename_i kvs he
      obtain ⟨kk, ho, r2⟩ := sa _ _ he
      exact ⟨p, kvs, kk, re_ref_inv r, .inl ho, r2, h⟩
    · rename_i kvs he
      obtain ⟨o, kk, ho, r2⟩ := sa _ _ he
      exact ⟨p, kvs, kk, re_ref_inv r, .inr ⟨o, ho⟩, r2, h⟩
    · exact h.elim
  | _ => exact h.elim
theorem dget_of {H : Hp} {p : Addr} {kvs : List (Vl × Vl)} {kk : List (Key × V)} {k : Key} (hr : Rd H p (.dK kk)) (r : Kr K H kVl kvs kk) : ∃ o, DGet H p (kV k) o ∧ (∀ x, lookL kvs k = some x → ∃ v, o = some v ∧ Re K H x v) ∧ (lookL kvs k = none → o = none) :=
  ⟨valV kk k, .inl ⟨kk, k, hr, rfl, rfl⟩, (r.look).1, (r.look).2⟩
def fDGetN : FM := fun x xs A Q => dctV A x fun kvs => (∃ k kk, xs = [k] ∧ keyOf? k = some kk ∧ Q ((lookL kvs kk).getD .non) A) ∨ ∃ k kk d, xs = [k, d] ∧ keyOf? k = some kk ∧ Q ((lookL kvs kk).getD d) A
theorem m_dget (hu : X.A.units + 1 < cLine) : Mt X .dct "get" fDGetN := ⟨⟨_, PySem.F.plainAttrs_dict, PySem.F.slot_dict_get, PySem.F.type_dict_get, by
  intro pins s σ H v vs vv us Q I rv rs ⟨x, xs, A, Qa, r, rl, sa, q, _, w⟩
  obtain ⟨p, kvs, kk0, rfl, hr, kr, w⟩ := dctV_of sa r w
  cases rv
  rcases w with ⟨k, kk, rfl, hkk, w⟩ | ⟨k, kk, d, rfl, hkk, w⟩
  · obtain ⟨u, rfl, ru⟩ := rl.one
    obtain ⟨u', rfl, ru'⟩ := vals1 rs
    rw [key_re hkk ru] at ru'
    obtain ⟨o, hg, h1, h2⟩ := dget_of (k := kk) hr kr
    refine d_get1 hu I hg ru' fun w' s' I' rw' => ⟨_, H, I', rw', ?_⟩
    cases hl : lookL kvs kk with
    | none => rw [hl] at w; rw [h2 hl]; exact q _ _ _ _ (re_non _) sa .refl w
    | some x => rw [hl] at w; obtain ⟨v, e, rx⟩ := h1 x hl; rw [e]; exact q _ _ _ _ rx sa .refl w
  · obtain ⟨u, u2, rfl, ru, rd⟩ := rl.two
    obtain ⟨w1, w2, rfl, rw1, rw2⟩ := vals2 rs
    rw [key_re hkk ru] at rw1
    obtain ⟨o, hg, h1, h2⟩ := dget_of (k := kk) hr kr
    refine d_get2 hu I hg rw1 rw2 fun w' s' I' rw' => ⟨_, H, I', rw', ?_⟩
    cases hl : lookL kvs kk with
    | none => rw [hl] at w; rw [h2 hl]; exact q _ _ _ _ rd sa .refl w
    | some x => rw [hl] at w; obtain ⟨v, e, rx⟩ := h1 x hl; rw [e]; exact q _ _ _ _ rx sa .refl w⟩⟩
theorem Bd.u1 {W : WX} {k : Nat} (B : Bd k X W) : X.A.units + 1 < cLine := by have := B.u64; omega
theorem Bd.u0 {W : WX} {k : Nat} (B : Bd k X W) : X.A.units < cLine := by have := B.u64; omega
end
end Rk

set_option Elab.async false
set_option linter.all false
set_option maxRecDepth 100000
set_option maxHeartbeats 400000
namespace Rk
open PySem PySem.Spec PyProof.Rows L2
section
variable {X : Cx}
/-! short forms for printed derivations -/
theorem ar_v {pos : Pos} (i : Nat) {x : Str} (hN : X.N[i]? = some x := by rfl) (hv : Vis X.env.scope x := by first | exact Or.inl rfl | exact Or.inr (Or.inl rfl) | exact Or.inr (Or.inr rfl)) (hd : (x == ("__debug__" : Str)) = false := by decide) (hcd : (x == ("__classdict__" : Str)) = false := by decide) : AR X (.Name x pos) (rV i) := ar_var hN hv hd hcd
theorem ar_i {pos p2 : Pos} (i : Nat) {x : Str} {k : Int} {e : Expr} (he : PE X e (tC (.int k))) (hp : PlainIx e := by exact ixOf rfl) (hN : X.N[i]? = some x := by rfl) (hv : Vis X.env.scope x := by first | exact Or.inl rfl | exact Or.inr (Or.inl rfl) | exact Or.inr (Or.inr rfl)) (hd : (x == ("__debug__" : Str)) = false := by decide) (hcd : (x == ("__classdict__" : Str)) = false := by decide) : AR X (.Subscript (.Name x p2) e pos) (rIx i k) := ar_ix hN hv he hp hd hcd
theorem pe_neg {k : Int} {j : Nat} {p1 p2 : Pos} : PE X (.UnaryOp .USub (.Constant (.int k) j p1) p2) (tC (.int (-k))) := pe_imp (pe_un un_neg pe_int) fun _ _ _ h => ⟨k, rfl, h⟩
end
end Rk

set_option Elab.async false
set_option linter.all false
set_option maxRecDepth 100000
set_option maxHeartbeats 400000
namespace Rk
open PySem PySem.Spec PyProof.Rows L2
/-! ### loops and comprehensions by what holds between the turns -/
theorem forL_ind {ok : Ah → Prop} {g : WG} {w : WS} {D : Es} {xs : List Vl} {S : Sl} {A : Ah} (I : Nat → Sl → Ah → Prop) (h0 : I 0 S A) (hok : ∀ i S A, I i S A → ok A)
    (step : ∀ (i : Nat) (x : Vl) (S : Sl) (A : Ah) (N : Sl → Ah → Prop), xs[i]? = some x → I i S A → (∀ S' A', I (i + 1) S' A' → N S' A') → g x S A fun S1 A1 => w { D with nx := N, ct := N, bk := D.nx } S1 A1)
    (hend : ∀ S A, I xs.length S A → D.nx S A) : forL ok g w D xs S A := by
  have : ∀ (r : List Vl) (i : Nat) (S : Sl) (A : Ah), xs.drop i = r → i ≤ xs.length → I i S A → forL ok g w D r S A := by
    intro r
    induction r with
    | nil =>
      intro i S A e hi h
      have : i = xs.length := by
        have := congrArg List.length e
        simp at this; omega
      subst this
      exact ⟨hok _ _ _ h, hend _ _ h⟩
    | cons x r ih =>
      intro i S A e hi h
      have hlt : i < xs.length := by
        have := congrArg List.length e
        simp at this; omega
      rw [List.drop_eq_getElem_cons hlt] at e
      injection e with e1 e2
      refine ⟨hok _ _ _ h, ?_⟩
      exact step i x S A _ (by rw [← e1]; simp [hlt]) h fun S' A' h' => ih (i + 1) S' A' e2 hlt h'
  exact this xs 0 S A rfl (Nat.zero_le _) h0
theorem lcP_ind {ok : Ah → Prop} {g : WG} {t : WT} {w : WE} {S : Sl} {Q : List Vl → Ah → Prop} {xs : List Vl} {A : Ah} (I : Nat → List Vl → Ah → Prop) (h0 : I 0 [] A) (hok : ∀ i acc A, I i acc A → ok A)
    (step : ∀ (i : Nat) (x : Vl) (acc : List Vl) (A : Ah) (K1 : Vl → Ah → Prop) (K2 : Ah → Prop), xs[i]? = some x → I i acc A →
      (∀ y A3, acc.length < sizeLine → I (i + 1) (acc ++ [y]) A3 → K1 y A3) → (∀ A2, I (i + 1) acc A2 → K2 A2) →
      g x S A fun S1 A1 => t S1 A1 (fun b A2 => if b = true then w S1 A2 K1 noE else K2 A2) noE)
    (hend : ∀ acc A, I xs.length acc A → Q acc A) : lcP ok g t w S Q xs [] A := by
  have : ∀ (r : List Vl) (i : Nat) (acc : List Vl) (A : Ah), xs.drop i = r → i ≤ xs.length → I i acc A → lcP ok g t w S Q r acc A := by
    intro r
    induction r with
    | nil =>
      intro i acc A e hi h
      have : i = xs.length := by
        have := congrArg List.length e
        simp at this; omega
      subst this
      exact ⟨hok _ _ _ h, hend _ _ h⟩
    | cons x r ih =>
      intro i acc A e hi h
      have hlt : i < xs.length := by
        have := congrArg List.length e
        simp at this; omega
      rw [List.drop_eq_getElem_cons hlt] at e
      injection e with e1 e2
      refine ⟨hok _ _ _ h, ?_⟩
      exact step i x acc A (fun y A3 => acc.length < sizeLine ∧ lcP ok g t w S Q r (acc ++ [y]) A3) (fun A2 => lcP ok g t w S Q r acc A2) (by rw [← e1]; simp [hlt]) h (fun y A3 h2 h3 => ⟨h2, ih (i + 1) (acc ++ [y]) _ e2 hlt h3⟩) fun A2 h2 => ih (i + 1) acc A2 e2 hlt h2
  exact this xs 0 [] A rfl (Nat.zero_le _) h0
theorem put_put {A : Ah} {p : Addr} {o u : Ob} : put (put A p o) p u = put A p u := by
  funext b; unfold put; split <;> rfl
theorem ne_of_nn {A : Ah} {a p : Addr} {o : Ob} (h : A a = some o) (hp : A p = none) : a ≠ p := by
  rintro rfl; rw [h] at hp; cases hp
theorem Sub.new {A : Ah} {p : Addr} {o : Ob} (h : A p = none) : Sub A (put A p o) := fun a u e => by rw [put_ne (ne_of_nn e h)]; exact e
theorem Sub.put {A B : Ah} {p : Addr} {o : Ob} (h : Sub A B) : Sub (put A p o) (put B p o) := fun a u e => by
  by_cases ha : a = p
  · subst ha; rw [put_same] at e ⊢; exact e
  · rw [put_ne ha] at e ⊢; exact h a u e
theorem Sub.put_new {A B : Ah} {p : Addr} {o : Ob} (h : Sub A B) (hp : B p = none) : Sub A (Rk.put B p o) := h.trans (.new hp)
/-- [f x for x in xs]: nothing changes meanwhile -/
theorem lcP_map {ok : Ah → Prop} {g : WG} {w : WE} {S : Sl} {A : Ah} {Q : List Vl → Ah → Prop} {xs : List Vl} (f : Vl → Vl) (hz : xs.length < sizeLine) (hok : ok A)
    (hw : ∀ x ∈ xs, ∀ (K1 : QE), K1 (f x) A → g x S A fun S1 A1 => w S1 A1 K1 noE)
    (hq : Q (xs.map f) A) : lcP ok g wYes w S Q xs [] A := by
  have step : ∀ (r : List Vl) (acc : List Vl), (∀ x ∈ r, x ∈ xs) → acc.length + r.length ≤ xs.length → Q (acc ++ r.map f) A → lcP ok g wYes w S Q r acc A := by
    intro r
    induction r with
    | nil => intro acc _ _ h; exact ⟨hok, by simpa using h⟩
    | cons x r ih =>
      intro acc hr hl h
      refine ⟨hok, ?_⟩
      show g x S A fun S1 A1 => w S1 A1 _ noE
      simp at hl
      exact hw x (hr x List.mem_cons_self) _ ⟨by show acc.length < sizeLine; omega, ih _ (fun y hy => hr y (List.mem_cons_of_mem _ hy)) (by simp; omega) (by simpa using h)⟩
  exact step xs [] (fun _ h => h) (by simp) hq
/-- [f x for x in xs if p x] -/
theorem lcP_filter {ok : Ah → Prop} {g : WG} {t : WT} {w : WE} {S : Sl} {A : Ah} {Q : List Vl → Ah → Prop} {xs : List Vl} (p : Vl → Bool) (f : Vl → Vl) (hz : xs.length < sizeLine) (hok : ok A)
    (hw : ∀ x ∈ xs, ∀ (K1 : QE) (K2 : Ah → Prop), (p x = true → K1 (f x) A) → (p x = false → K2 A) → g x S A fun S1 A1 => t S1 A1 (fun b A2 => if b = true then w S1 A2 K1 noE else K2 A2) noE)
    (hq : Q ((xs.filter p).map f) A) : lcP ok g t w S Q xs [] A := by
  have step : ∀ (r : List Vl) (acc : List Vl), (∀ x ∈ r, x ∈ xs) → acc.length + r.length ≤ xs.length → Q (acc ++ (r.filter p).map f) A → lcP ok g t w S Q r acc A := by
    intro r
    induction r with
    | nil => intro acc _ _ h; exact ⟨hok, by simpa using h⟩
    | cons x r ih =>
      intro acc hr hl h
      refine ⟨hok, ?_⟩
      simp at hl
      refine hw x (hr x List.mem_cons_self) _ _ (fun e => ?_) fun e => ?_
      · exact ⟨by omega, ih _ (fun y hy => hr y (List.mem_cons_of_mem _ hy)) (by simp; omega) (by simpa [e] using h)⟩
      · exact ih _ (fun y hy => hr y (List.mem_cons_of_mem _ hy)) (by omega) (by simpa [e] using h)
  exact step xs [] (fun _ h => h) (by simp) hq
end Rk

set_option Elab.async false
set_option linter.all false
set_option maxRecDepth 100000
set_option maxHeartbeats 400000
namespace Rk
open PySem PySem.Spec PyProof.Rows L2
/-! ### the transformers, run from the head -/
def onB (z : Vl) (P R : Prop) : Prop := match z with
  | .bl true => P
  | .bl false => R
  | _ => False
@[simp ↓] theorem e_onB {b : Bool} {P R : Prop} : onB (.bl b) P R = if b = true then P else R := by cases b <;> rfl
section
variable {S : Sl} {A : Ah} {Q : QE} {E : EX} {D : Es} {QB : Bool → Ah → Prop} {QA : List Vl → Ah → Prop} {QW : Wk → Ah → Prop} {QO : Option Int → Ah → Prop} {N : Sl → Ah → Prop}
variable {w wa wb wc wo : WE} {t u : WT} {s1 s2 : WS} {f g : F2} {i j n : Nat} {x y z : Vl} {b : Bool} {xs ys zs : List Vl} {ks : List Key} {P : Bool → Prop} {m : Md} {R : List Vl → Prop}
@[simp ↓] theorem e_wVar : wVar i S A Q E = match S[i]? with | some (some x) => Q x A | _ => False := id rfl
@[simp ↓] theorem e_wC : wC x S A Q E = Q x A := id rfl
@[simp ↓] theorem e_wBin : wBin f wa wb S A Q E = wa S A (fun x A1 => wb S A1 (fun y A2 => f x y A2 Q) E) E := id rfl
@[simp ↓] theorem e_wUn {h : Vl → Ah → QE → Prop} : wUn h wa S A Q E = wa S A (fun x A1 => h x A1 Q) E := id rfl
@[simp ↓] theorem e_wB : wB w S A QB E = w S A (fun x A1 => match x with | .bl k => QB k A1 | _ => False) E := id rfl
@[simp ↓] theorem e_wTru : wTru w S A QB E = w S A (fun x A1 => truA x A1 fun k => QB k A1) E := id rfl
@[simp ↓] theorem e_wNot : wNot t S A QB E = t S A (fun k A1 => QB (!k) A1) E := id rfl
@[simp ↓] theorem e_wAnd : wAnd t u S A QB E = t S A (fun k A1 => if k = true then u S A1 QB E else QB false A1) E := id rfl
@[simp ↓] theorem e_wOr : wOr t u S A QB E = t S A (fun k A1 => if k = true then QB true A1 else u S A1 QB E) E := id rfl
@[simp ↓] theorem e_wNotV : wNotV w S A Q E = w S A (fun x A1 => match x with | .bl k => Q (.bl (!k)) A1 | _ => False) E := id rfl
@[simp ↓] theorem e_wAndV : wAndV wa wb S A Q E = wa S A (fun x A1 => onB x (wb S A1 Q E) (Q (.bl false) A1)) E := id rfl
@[simp ↓] theorem e_wOrV : wOrV wa wb S A Q E = wa S A (fun x A1 => onB x (Q (.bl true) A1) (wb S A1 Q E)) E := by
  show wa S A _ E = _
  congr 1; funext x A1; cases x <;> first | rfl | (rename_i b; cases b <;> rfl)
@[simp ↓] theorem e_wIf : wIf t wa wb S A Q E = t S A (fun k A1 => if k = true then wa S A1 Q E else wb S A1 Q E) E := id rfl
@[simp ↓] theorem e_wChain : wChain f g wa wb wc S A Q E = wa S A (fun x A1 => wb S A1 (fun y A2 => f x y A2 fun z A3 => onB z (wc S A3 (fun t A4 => g y t A4 Q) E) (Q (.bl false) A3)) E) E := id rfl
@[simp ↓] theorem e_wNil : wNil S A QA E = QA [] A := id rfl
@[simp ↓] theorem e_wCons {r : WA} : wCons w r S A QA E = w S A (fun x A1 => r S A1 (fun xs A2 => QA (x :: xs) A2) E) E := id rfl
@[simp ↓] theorem e_wTup {r : WA} : wTup r S A Q E = r S A (fun xs A1 => xs.length ≤ sizeLine ∧ Q (.tup xs) A1) E := id rfl
@[simp ↓] theorem e_wLst {r : WA} : wLst m r S A Q E = r S A (fun xs A1 => xs.length ≤ sizeLine ∧ newL m xs A1 Q) E := id rfl
@[simp ↓] theorem e_newF : newL .F xs A Q = Q (.lst xs) A := id rfl
@[simp ↓] theorem e_newM : newL .M xs A Q = ∀ p, A p = none → Q (.ref p) (put A p (.lst xs)) := id rfl
@[simp ↓] theorem e_newDF {kvs : List (Vl × Vl)} : newD .F kvs A Q = Q (.dct (keysL kvs) (kvs.map (·.2))) A := id rfl
@[simp ↓] theorem e_newDM {kvs : List (Vl × Vl)} : newD .M kvs A Q = ∀ p, A p = none → Q (.ref p) (put A p (.dct kvs)) := id rfl
@[simp ↓] theorem e_seqL : seqV A (.lst xs) R = R xs := id rfl
@[simp ↓] theorem e_seqR {p : Addr} : seqV A (.ref p) R = lstA A p R := id rfl
@[simp ↓] theorem e_wCB {h : FC} {r : WA} : wCB h r S A Q E = r S A (fun xs A1 => h xs A1 Q) E := id rfl
@[simp ↓] theorem e_wCall {h : WF} {r : WA} : wCall n h r S A Q E = r S A (fun xs A1 => xs.length = n ∧ h xs A1 Q E) E := id rfl
@[simp ↓] theorem e_wCallK {h : WF} {m : Nat} {r k : WA} : wCallK n m h r k S A Q E = r S A (fun xs A1 => xs.length = n ∧ k S A1 (fun ys A2 => ys.length = m ∧ h (xs ++ ys) A2 Q E) E) E := id rfl
@[simp ↓] theorem e_wSel {h : WF} {l : List Src} : wSel l h xs A Q E = h (l.map (Src.pl xs)) A Q E := id rfl
@[simp ↓] theorem e_wNoP : wNoP S A QO E = QO none A := id rfl
@[simp ↓] theorem e_wPt : wPt w S A QO E = w S A (fun x A1 => match x with | .int i => QO (some i) A1 | _ => False) E := id rfl
@[simp ↓] theorem e_wSl {h : FS} {wl wh : WO} : wSl h w wl wh S A Q E = w S A (fun x A1 => wl S A1 (fun i A2 => wh S A2 (fun j A3 => h x i j A3 Q) E) E) E := id rfl
@[simp ↓] theorem e_wMt {fs : Kd → Option FM} {r : WA} : wMt fs wo r S A Q E = wo S A (fun x A1 => ∃ k f, kdM A1 x = some k ∧ fs k = some f ∧ r S A1 (fun xs A2 => kdM A2 x = some k ∧ f x xs A2 Q) E) E := id rfl
@[simp ↓] theorem e_wDct0 : wDct0 .M S A Q E = ∀ p, A p = none → Q (.ref p) (put A p (.dct [])) := id rfl
@[simp ↓] theorem e_wDct0F : wDct0 .F S A Q E = Q (.dct [] []) A := id rfl
@[simp ↓] theorem e_wDct0T : wDct0T S A Q E = ∀ p, A p = none → Q (.ref p) (put A p (.dtt [])) := id rfl
@[simp ↓] theorem e_wiSeq : wiSeq w S A QW E = w S A (fun x A1 => itV x A1 QW) E := id rfl
@[simp ↓] theorem e_wiR1 {r : WA} : wiR1 r S A QW E = r S A (fun xs A1 => ∃ n, int1 xs = some n ∧ rngOk 0 n ∧ QW ⟨rngL 0 n.toNat, fun _ => True, fun _ _ _ _ _ => trivial⟩ A1) E := id rfl
@[simp ↓] theorem e_wiR2 {r : WA} : wiR2 r S A QW E = r S A (fun xs A1 => ∃ m n, int2 xs = some (m, n) ∧ rngOk m n ∧ QW ⟨rngL m (n - m).toNat, fun _ => True, fun _ _ _ _ _ => trivial⟩ A1) E := id rfl
@[simp ↓] theorem e_wLc {wi : WI} {gg : WG} {vs : List Nat} : wLc m wi gg t w vs S A Q E = wi S A (fun k A1 => lcP k.ok gg t w (wipeA S vs) (fun ys A2 => newL m ys A2 Q) k.its [] A1) E := id rfl
@[simp ↓] theorem e_wSeq : wSeq s1 s2 D S A = s1 { D with nx := s2 D } S A := id rfl
@[simp ↓] theorem e_wEx : wEx w D S A = w S A (fun _ A1 => D.nx S A1) (fun x A1 => D.ex x S A1) := id rfl
@[simp ↓] theorem e_wRet : wRet w D S A = w S A D.rt (fun x A1 => D.ex x S A1) := id rfl
@[simp ↓] theorem e_wIfS : wIfS t s1 s2 D S A = t S A (fun k A1 => if k = true then s1 D S A1 else s2 D S A1) (fun x A1 => D.ex x S A1) := id rfl
@[simp ↓] theorem e_wAsg {gg : WG} : wAsg w gg D S A = w S A (fun x A1 => gg x S A1 D.nx) (fun x A1 => D.ex x S A1) := id rfl
@[simp ↓] theorem e_wPar {r : WA} : wPar i j r D S A = r S A (fun xs A1 => ∃ x y, xs = [x, y] ∧ D.nx ((S.set i (some x)).set j (some y)) A1) (fun x A1 => D.ex x S A1) := id rfl
@[simp ↓] theorem e_wFor {wi : WI} {gg : WG} : wFor wi gg s1 D S A = wi S A (fun k A1 => forL k.ok gg s1 D k.its S A1) (fun x A1 => D.ex x S A1) := id rfl
@[simp] theorem e_gN : gN i x S A N = N (S.set i (some x)) A := id rfl
@[simp ↓] theorem e_gT {gg : WGs} : gT n gg (.tup xs) S A N = (xs.length = n ∧ gg xs S A N) := id rfl
@[simp ↓] theorem e_gTw {gg : WGs} : gT n gg (.wtp xs) S A N = (xs.length = n ∧ gg xs S A N) := id rfl
@[simp ↓] theorem e_wiEn {r : WA} : wiEn r S A QW E = r S A (fun xs A1 => ∃ x, xs = [x] ∧ enV x A1 QW) E := id rfl
@[simp ↓] theorem e_enL : enV (.lst xs) A QW = QW ⟨enL 0 xs, fun _ => True, fun _ _ _ _ _ => trivial⟩ A := id rfl
@[simp ↓] theorem e_gNl : gNl xs S A N = (xs = [] ∧ N S A) := id rfl
@[simp ↓] theorem e_gCn {gg : WG} {r : WGs} : gCn gg r (x :: xs) S A N = gg x S A fun S1 A1 => r xs S1 A1 N := id rfl
@[simp ↓] theorem e_gS {h : F3} : gS h wa wb z S A N = wa S A (fun x A1 => wb S A1 (fun y A2 => h x y z A2 fun A3 => N S A3) noE) noE := id rfl
@[simp ↓] theorem e_wYes : wYes S A QB E = QB true A := id rfl
/-! values -/
@[simp ↓] theorem e_addI {p q : Int} : fAdd m (.int p) (.int q) A Q = Q (.int (p + q)) A := id rfl
@[simp ↓] theorem e_addS {p q : Str} : fAdd m (.str p) (.str q) A Q = (p.length + q.length ≤ sizeLine ∧ Q (.str (p ++ q)) A) := id rfl
@[simp ↓] theorem e_addT : fAdd m (.tup xs) (.tup ys) A Q = (xs.length + ys.length ≤ sizeLine ∧ Q (.tup (xs ++ ys)) A) := id rfl
@[simp ↓] theorem e_addLL : fAdd m (.lst xs) (.lst ys) A Q = (xs.length + ys.length ≤ sizeLine ∧ newL m (xs ++ ys) A Q) := id rfl
@[simp ↓] theorem e_addLR {q : Addr} : fAdd m (.lst xs) (.ref q) A Q = lstA A q fun ys => xs.length + ys.length ≤ sizeLine ∧ newL m (xs ++ ys) A Q := id rfl
@[simp ↓] theorem e_addRL {q : Addr} : fAdd m (.ref q) (.lst ys) A Q = lstA A q fun xs => xs.length + ys.length ≤ sizeLine ∧ newL m (xs ++ ys) A Q := id rfl
@[simp ↓] theorem e_addRR {p q : Addr} : fAdd m (.ref p) (.ref q) A Q = lstA A p fun xs => lstA A q fun ys => xs.length + ys.length ≤ sizeLine ∧ newL m (xs ++ ys) A Q := id rfl
@[simp ↓] theorem e_fI {C : Int → Int → Prop} {h : Int → Int → Vl} {p q : Int} : fI C h (.int p) (.int q) A Q = (C p q ∧ Q (h p q) A) := id rfl
@[simp ↓] theorem e_sub {p q : Int} : fSub (.int p) (.int q) A Q = Q (.int (p - q)) A := by unfold fSub; simp [fI]
@[simp ↓] theorem e_mod {p q : Int} : fMod (.int p) (.int q) A Q = (0 < q ∧ Q (.int (p % q)) A) := id rfl
@[simp ↓] theorem e_div {p q : Int} : fDiv (.int p) (.int q) A Q = (CDiv p q ∧ Q (.int (p / q)) A) := id rfl
@[simp ↓] theorem e_pow {p q : Int} : fPow (.int p) (.int q) A Q = (CPow p q ∧ Q (.int (p ^ q.toNat)) A) := id rfl
@[simp ↓] theorem e_mulI {p q : Int} : fMul m (.int p) (.int q) A Q = (CMul p q ∧ Q (.int (p * q)) A) := id rfl
@[simp ↓] theorem e_mulR {p : Addr} {k : Int} : fMul m (.ref p) (.int k) A Q = lstA A p fun xs => (0 ≤ k ∧ k < 2 ^ 63 ∧ xs.length * k.toNat ≤ sizeLine) ∧ newL m (List.replicate k.toNat xs).flatten A Q := id rfl
@[simp ↓] theorem e_neg {p : Int} : fNeg (.int p) A Q = Q (.int (-p)) A := id rfl
@[simp ↓] theorem e_ltI {p q : Int} : fLt (.int p) (.int q) A Q = Q (.bl (decide (p < q))) A := id rfl
@[simp ↓] theorem e_leI {p q : Int} : fLe (.int p) (.int q) A Q = Q (.bl (decide (p ≤ q))) A := id rfl
@[simp ↓] theorem e_gtI {p q : Int} : fGt (.int p) (.int q) A Q = Q (.bl (decide (q < p))) A := id rfl
@[simp ↓] theorem e_geI {p q : Int} : fGe (.int p) (.int q) A Q = Q (.bl (decide (q ≤ p))) A := id rfl
@[simp ↓] theorem e_ltS {p q : Str} : fLt (.str p) (.str q) A Q = Q (.bl (decide (p.cps.toList < q.cps.toList))) A := id rfl
@[simp ↓] theorem e_leS {p q : Str} : fLe (.str p) (.str q) A Q = Q (.bl (!decide (q.cps.toList < p.cps.toList))) A := id rfl
@[simp ↓] theorem e_isN : fIsN b x .non A Q = Q (.bl (b != isNon x)) A := id rfl
@[simp ↓] theorem e_ixT {p : Int} : fIx (.tup xs) (.int p) A Q = ∃ z, atI xs p = some z ∧ Q z A := id rfl
@[simp ↓] theorem e_ixL {k : Int} : fIx (.lst xs) (.int k) A Q = ∃ z, atI xs k = some z ∧ Q z A := id rfl
@[simp ↓] theorem e_ixR {p : Addr} {k : Int} : fIx (.ref p) (.int k) A Q = lstA A p fun xs => ∃ z, atI xs k = some z ∧ Q z A := id rfl
@[simp ↓] theorem e_ixS {p : Str} {k : Int} : fIx (.str p) (.int k) A Q = ∃ c, atI p.cps.toList k = some c ∧ Q (.str ⟨#[c]⟩) A := id rfl
@[simp ↓] theorem e_set {p : Addr} {k : Int} {M : Ah → Prop} : fSet (.ref p) (.int k) z A M = lstA A p fun xs => ∃ j, ixN xs.length k = some j ∧ M (put A p (.lst (xs.set j z))) := id rfl
theorem lstA_eq {p : Addr} {R : List Vl → Prop} (h : A p = some (.lst xs)) : lstA A p R = R xs := by unfold lstA; rw [h]
@[simp ↓] theorem e_len : fLen [x] A Q = lenA A x fun n => Q (.int n) A := id rfl
@[simp ↓] theorem e_lenS {p : Str} {R : Int → Prop} : lenA A (.str p) R = R p.length := id rfl
@[simp ↓] theorem e_lenT {R : Int → Prop} : lenA A (.tup xs) R = R xs.length := id rfl
@[simp ↓] theorem e_lenL {R : Int → Prop} : lenA A (.lst xs) R = R xs.length := id rfl
@[simp ↓] theorem e_lenD {R : Int → Prop} : lenA A (.dct ks xs) R = R ks.length := id rfl
theorem lenA_eq {p : Addr} {R : Int → Prop} (h : A p = some (.lst xs)) : lenA A (.ref p) R = R xs.length := by simp only [lenA, h]
@[simp ↓] theorem e_abs {p : Int} : fAbs [.int p] A Q = Q (.int (if p < 0 then -p else p)) A := by simp [fAbs, int1]
@[simp ↓] theorem e_max {p q : Int} : fMax [.int p, .int q] A Q = Q (.int (if q > p then q else p)) A := propext ⟨fun ⟨_, _, e, h⟩ => by cases e; exact h, fun h => ⟨_, _, rfl, h⟩⟩
@[simp ↓] theorem e_min {p q : Int} : fMin [.int p, .int q] A Q = Q (.int (if q < p then q else p)) A := propext ⟨fun ⟨_, _, e, h⟩ => by cases e; exact h, fun h => ⟨_, _, rfl, h⟩⟩
@[simp ↓] theorem e_divmod {p q : Int} : fDivmod [.int p, .int q] A Q = (CDiv p q ∧ Q (.tup [.int (p / q), .int (p % q)]) A) := propext ⟨fun ⟨_, _, e, h⟩ => by cases e; exact h, fun h => ⟨_, _, rfl, h⟩⟩
@[simp ↓] theorem e_all : fAll [x] A Q = seqV A x fun xs => ∃ bs, bls xs = some bs ∧ Q (.bl (bs.all id)) A := id rfl
@[simp ↓] theorem e_any : fAny [x] A Q = seqV A x fun xs => ∃ bs, bls xs = some bs ∧ Q (.bl (bs.any id)) A := id rfl
@[simp ↓] theorem e_truB {k : Bool} : truA (.bl k) A P = P k := id rfl
@[simp ↓] theorem e_itT : itV (.tup xs) A QW = QW ⟨xs, fun _ => True, fun _ _ _ _ _ => trivial⟩ A := id rfl
@[simp ↓] theorem e_itL : itV (.lst xs) A QW = QW ⟨xs, fun _ => True, fun _ _ _ _ _ => trivial⟩ A := id rfl
@[simp ↓] theorem e_itS {p : Str} : itV (.str p) A QW = QW ⟨signs p, fun _ => True, fun _ _ _ _ _ => trivial⟩ A := id rfl
theorem itV_eq {p : Addr} (h : A p = some (.lst xs)) : itV (.ref p) A QW = QW ⟨xs, fun A => A p = some (.lst xs), up_at⟩ A := by simp only [itV, itR, h]
@[simp] theorem e_int1 {p : Int} : int1 [.int p] = some p := id rfl
@[simp] theorem e_int2 {p q : Int} : int2 [.int p, .int q] = some (p, q) := id rfl
@[simp ↓] theorem e_tupO : fTupO [.tup xs] A Q = Q (.tup xs) A := id rfl
@[simp ↓] theorem e_tupL : fTupO [.lst xs] A Q = Q (.tup xs) A := id rfl
@[simp ↓] theorem e_tupR {p : Addr} : fTupO [.ref p] A Q = lstA A p fun ys => Q (.tup ys) A := id rfl
@[simp ↓] theorem e_listT : fList m [.tup xs] A Q = newL m xs A Q := id rfl
@[simp ↓] theorem e_listL : fList m [.lst xs] A Q = newL m xs A Q := id rfl
@[simp ↓] theorem e_listR {p : Addr} : fList m [.ref p] A Q = lstA A p fun ys => newL m ys A Q := id rfl
@[simp ↓] theorem e_inS {p q : Str} : fIn b (.str p) (.str q) A Q = Q (.bl (b != !(Builtin.Str.occurrences q p 0 q.length 1).isEmpty)) A := id rfl
@[simp] theorem e_kdM_L : kdM A (.lst xs) = some .lst := id rfl
@[simp] theorem e_kdM_t : kdM A (.tup xs) = some .tup := id rfl
@[simp] theorem e_kdM_d : kdM A (.dct ks xs) = some .dct := id rfl
@[simp] theorem e_kdM_s {p : Str} : kdM A (.str p) = some .str := id rfl
theorem kdM_l {p : Addr} (h : A p = some (.lst xs)) : kdM A (.ref p) = some .lst := by show kdR (A p) = _; rw [h]; rfl
@[simp] theorem e_only {k : Kd} {h : FM} : only k h k = some h := if_pos rfl
end
/-- isinstance(x, T), x of a known kind -/
theorem e_isi {x : Vl} {n : String} {A : Ah} {Q : QE} {y z : Kd} (h : kd A x = some y) (g : kdOf n = some z) (q : Q (.bl (y.sub z)) A) : fIsi [x, .ty n] A Q := ⟨x, y, h, .inl ⟨n, z, rfl, g, q⟩⟩
theorem e_isiT {x : Vl} {cs : List Vl} {A : Ah} {Q : QE} {y : Kd} {k : Bool} (h : kd A x = some y) (g : subAny y cs = some k) (q : Q (.bl k) A) : fIsi [x, .tup cs] A Q := ⟨x, y, h, .inr ⟨cs, k, rfl, g, q⟩⟩
/-- a def's body from its entry -/
theorem wFun_eq {n : Nat} {b : WS} {xs : List Vl} {A : Ah} {Q : QE} {E : EX} : wFun n b xs A Q E = b { nx := fun _ A' => ∃ B, Sub B A' ∧ Q .non B, rt := fun v A' => ∃ B, Sub B A' ∧ Q v B, ex := fun x _ A' => ∃ B, Sub B A' ∧ E x B } (xs.map some ++ List.replicate (n - xs.length) none) A := rfl
/-! ### the later transformers, run from the head; values that are texts -/
section
variable {S : Sl} {A : Ah} {Q : QE} {E : EX} {D : Es} {QB : Bool → Ah → Prop} {w wa wb : WE} {b : Bool} {x y : Vl} {xs ys : List Vl} {lo hi : Option Int} {m : Md} {ks : List Key}
@[simp ↓] theorem e_inT : fInA b x (.tup xs) A Q = (flatL x = true ∧ xs.all flatL = true ∧ Q (.bl (b != inL x xs)) A) := id rfl
@[simp ↓] theorem e_inS2 {s t : Str} : fInA b (.str s) (.str t) A Q = Q (.bl (b != !(Builtin.Str.occurrences t s 0 t.length 1).isEmpty)) A := id rfl
@[simp ↓] theorem e_inL : fInA b x (.lst xs) A Q = (flatL x = true ∧ xs.all flatL = true ∧ Q (.bl (b != inL x xs)) A) := id rfl
@[simp ↓] theorem e_inR {p : Addr} : fInA b x (.ref p) A Q = lstA A p fun xs => flatL x = true ∧ xs.all flatL = true ∧ Q (.bl (b != inL x xs)) A := id rfl
@[simp ↓] theorem e_slT : fSl m (.tup xs) lo hi A Q = Q (.tup (cutL xs lo hi)) A := id rfl
@[simp ↓] theorem e_slS {s : Str} : fSl m (.str s) lo hi A Q = Q (.str (cutS s lo hi)) A := id rfl
@[simp ↓] theorem e_slL : fSl m (.lst xs) lo hi A Q = newL m (cutL xs lo hi) A Q := id rfl
@[simp ↓] theorem e_slR {p : Addr} : fSl m (.ref p) lo hi A Q = lstA A p fun xs => newL m (cutL xs lo hi) A Q := id rfl
@[simp ↓] theorem e_intI {i : Int} : fInt [.int i] A Q = Q (.int i) A := id rfl
@[simp ↓] theorem e_intB {k : Bool} : fInt [.bl k] A Q = Q (.int (if k then 1 else 0)) A := id rfl
@[simp ↓] theorem e_wNo : wNo D S A = False := id rfl
@[simp ↓] theorem e_wLenSet : wLenSet w S A Q E = w S A (fun x A1 => ∃ ks, ks.length < 3000 ∧ ((seqV A1 x fun ys => keys? ys = some ks) ∨ ∃ ys, x = .tup ys ∧ keys? ys = some ks) ∧ Q (.int (ddN [] ks).length) A1) E := id rfl
@[simp ↓] theorem e_wDisp {ws : List (WE × WE)} : wDisp m ws S A Q E = wPs ws S A (fun kvs A2 => ∃ ks, pkeys kvs = some ks ∧ ks.length ≤ 15 ∧ newD m (mergeL [] ks) A2 Q) E := id rfl
@[simp ↓] theorem e_wP0 {QP : List (Vl × Vl) → Ah → Prop} : wPs [] S A QP E = QP [] A := id rfl
@[simp ↓] theorem e_wP1 {r : List (WE × WE)} {QP : List (Vl × Vl) → Ah → Prop} : wPs ((wa, wb) :: r) S A QP E = wa S A (fun x A1 => wb S A1 (fun y A2 => wPs r S A2 (fun ps A3 => QP ((x, y) :: ps) A3) E) E) E := id rfl
@[simp ↓] theorem e_wSetEq {g1 g2 g3 g4 : RE} : wSetEq g1 g2 g3 g4 S A QB E = ∃ k1 k2 k3 k4, (g1 S).bind keyOf? = some k1 ∧ (g2 S).bind keyOf? = some k2 ∧ (g3 S).bind keyOf? = some k3 ∧ (g4 S).bind keyOf? = some k4 ∧ QB (setEq k1 k2 k3 k4) A := id rfl
end
/-- == of flat values -/
theorem dat_flat {n : Nat} {A : Ah} {x : Vl} (h : flatL x = true) : ∃ d, dat (n + 1) A x = some d ∧ d.hasDict = false ∧ ∀ y e, flatL y = true → dat (n + 1) A y = some e → PyData.eqv d e = eqL x y := by
  cases x with
  | non => exact ⟨.none, rfl, rfl, fun y e hy he => by cases y <;> first | (cases he; simp [PyData.eqv, eqL]) | cases hy⟩
  | bl b => exact ⟨.bool b, rfl, rfl, fun y e hy he => by cases y <;> first | (cases he; simp [PyData.eqv, eqL]) | cases hy⟩
  | int b => exact ⟨.int b, rfl, rfl, fun y e hy he => by cases y <;> first | (cases he; simp [PyData.eqv, eqL]) | cases hy⟩
  | str b => exact ⟨.str b, rfl, rfl, fun y e hy he => by cases y <;> first | (cases he; simp [PyData.eqv, eqL]) | cases hy⟩
  | _ => cases h
theorem eq_flat {k : Bool} {x y : Vl} {A : Ah} {Q : QE} (h : flatL x = true) (g : flatL y = true) (q : Q (.bl (k != eqL x y)) A) : fEq k x y A Q := by
  obtain ⟨d, h1, h2, h3⟩ := dat_flat (n := 11) (A := A) h
  obtain ⟨e, g1, g2, _⟩ := dat_flat (n := 11) (A := A) g
  exact ⟨d, e, h1, g1, h2, g2, by rw [h3 y e g g1]; exact q⟩
theorem flat_map (ps : List Str) : (ps.map Vl.str).all flatL = true := by simp [List.all_eq_true, flatL]
theorem inL_map (z : Str) (ps : List Str) : inL (.str z) (ps.map .str) = decide (z ∈ ps) := by
  unfold inL
  induction ps with
  | nil => rfl
  | cons p ps ih =>
    rw [List.map_cons, List.any_cons, ih]
    by_cases h : p = z
    · subst h; simp [eqL]
    · have h2 : ¬ z = p := fun e => h e.symm
      have : (p == z) = false := by simpa using h
      simp [eqL, this, h2]
theorem inL_non (ps : List Str) : inL .non (ps.map .str) = false := by
  unfold inL; rw [List.any_eq_false]; intro x hx
  obtain ⟨p, _, rfl⟩ := List.mem_map.mp hx
  simp [eqL]
theorem cutL_map {α β : Type} (f : α → β) (xs : List α) (lo hi : Option Int) : cutL (xs.map f) lo hi = (cutL xs lo hi).map f := by
  unfold cutL; simp [List.map_drop, List.map_take]
theorem cut_next {α : Type} {xs : List α} {i : Nat} : cutL xs (some ((i : Int) + 1)) (some ((i : Int) + 2)) = xs[i + 1]?.toList := by
  unfold cutL
  rw [show ((i : Int) + 1) = ((i + 1 : Nat) : Int) by omega, show ((i : Int) + 2) = ((i + 2 : Nat) : Int) by omega, HT.sIx_nat, HT.sIx_nat]
  by_cases h : i + 1 < xs.length
  · rw [Nat.min_eq_left (by omega), Nat.min_eq_left (by omega), show i + 2 - (i + 1) = 1 by omega, List.drop_eq_getElem_cons h, List.take_succ_cons]
    simp only [List.take_zero, List.getElem?_eq_getElem h, Option.toList]
  · rw [List.drop_eq_nil_iff.mpr (by omega), List.getElem?_eq_none (by omega)]; simp
theorem cut_prev {α : Type} {xs : List α} {i : Nat} (h : i < xs.length) : cutL xs (some (i : Int)) (some ((i : Int) + 1)) = [xs[i]] := by
  unfold cutL
  rw [show ((i : Int) + 1) = ((i + 1 : Nat) : Int) by omega, HT.sIx_nat, HT.sIx_nat, Nat.min_eq_left (by omega), Nat.min_eq_left (by omega), show i + 1 - i = 1 by omega, List.drop_eq_getElem_cons h, List.take_succ_cons, List.take_zero]
theorem cut_none {α : Type} {xs : List α} : cutL xs (some 0) (some 0) = [] := by
  unfold cutL; simp [HT.sIx]
theorem keys_strs (ps : List Str) : keys? (ps.map .str) = some (ps.map .inr) := by
  induction ps with
  | nil => rfl
  | cons p ps ih => simp [keys?, keyOf?, ih]
theorem dd_strs {ps : List Str} (h : ps.Nodup) : (ddN [] (ps.map Sum.inr)).length = ps.length := by
  rw [ddN_nodup (by
    simp only [List.nil_append]
    exact List.Pairwise.map _ (fun a b hne e => hne (Sum.inr.inj e)) h)]
  simp
theorem strL_map (ps : List Str) : strL (ps.map .str) = some ps := by
  induction ps with
  | nil => rfl
  | cons p ps ih => simp [strL, ih]
/-- a def's own ends -/
def Dx (Q : QE) (E : EX) : Es := { nx := fun _ A' => ∃ B, Sub B A' ∧ Q .non B, rt := fun v A' => ∃ B, Sub B A' ∧ Q v B, ex := fun x _ A' => ∃ B, Sub B A' ∧ E x B }
@[simp] theorem Dx_nx {Q : QE} {E : EX} : (Dx Q E).nx = fun _ A' => ∃ B, Sub B A' ∧ Q .non B := rfl
@[simp] theorem Dx_rt {Q : QE} {E : EX} : (Dx Q E).rt = fun v A' => ∃ B, Sub B A' ∧ Q v B := rfl
@[simp] theorem Dx_ex {Q : QE} {E : EX} : (Dx Q E).ex = fun x _ A' => ∃ B, Sub B A' ∧ E x B := rfl
theorem wFun_dx {n : Nat} {b : WS} {xs : List Vl} {A : Ah} {Q : QE} {E : EX} : wFun n b xs A Q E = b (Dx Q E) (xs.map some ++ List.replicate (n - xs.length) none) A := rfl
theorem Sub.give {A B : Ah} {Q : QE} {v : Vl} (s : Sub A B) (q : Q v A) : ∃ C, Sub C B ∧ Q v C := ⟨A, s, q⟩
/-! ### sums the laws' own helpers do, once -/
theorem ixN_nat {n j : Nat} (h : j < n) : ixN n (j : Int) = some j := by
  unfold ixN; rw [if_pos (by omega), if_pos (by omega)]; simp
theorem ixN_lo {n : Nat} {k : Int} (h : 0 ≤ k) (h2 : k < n) : ixN n k = some k.toNat := by
  unfold ixN; rw [if_pos h, if_pos h2]
theorem atI_nat {α : Type} {xs : List α} {j : Nat} (h : j < xs.length) : atI xs (j : Int) = some xs[j] := by
  unfold atI; rw [ixN_nat h]; simp [h]
theorem atI_lo {α : Type} {xs : List α} {k : Int} (h : 0 ≤ k) (h2 : k < xs.length) : atI xs k = some (xs[k.toNat]'(by omega)) := by
  unfold atI; rw [ixN_lo h h2]; simp
theorem atI_map {α β : Type} {f : α → β} {xs : List α} {k : Int} (h : 0 ≤ k) (h2 : k < xs.length) : ∃ z, atI (xs.map f) k = some (f z) ∧ z ∈ xs :=
  ⟨_, by rw [atI_lo h (by simpa using h2), List.getElem_map], List.getElem_mem _⟩
theorem cMul_l {i j : Int} (h : -(2 ^ 64) < i := by omega) (h2 : i < 2 ^ 64 := by omega) : CMul i j := .inl ⟨h, h2⟩
theorem cMul_r {i j : Int} (h : -(2 ^ 64) < j := by omega) (h2 : j < 2 ^ 64 := by omega) : CMul i j := .inr ⟨h, h2⟩
theorem cPow18 : CPow 10 18 := ⟨by decide, by decide, by decide⟩
theorem sz_le {n : Nat} (h : n ≤ 16777216) : n ≤ sizeLine := h
@[simp] theorem sz_lt {n : Nat} : (n ≤ sizeLine) = (n ≤ 16777216) := rfl
end Rk

set_option Elab.async false
set_option linter.all false
set_option maxRecDepth 100000
set_option maxHeartbeats 1000000
/-! Errors of own classes over any of four built-in ones, their __init__ a call of the base's and at most two fields. -/
namespace Rk
open PySem PySem.Spec PyProof.Rows L2
/-- the built-in classes that own errors stand over -/
inductive Bs | V | L | R | A
  deriving DecidableEq
def Bs.n : Bs → String
  | .V => "ValueError" | .L => "LookupError" | .R => "RuntimeError" | .A => "ArithmeticError"
def Bs.newId : Bs → String
  | .V => "ValueError.__new__" | .L => "LookupError.__new__" | .R => "RuntimeError.__new__" | .A => "ArithmeticError.__new__"
def Bs.initId : Bs → String
  | .V => "ValueError.__init__" | .L => "LookupError.__init__" | .R => "RuntimeError.__init__" | .A => "ArithmeticError.__init__"
def Bs.tl (b : Bs) : List Value := [.type b.n, .type "Exception", .type "BaseException", .type "object"]
theorem Bs.fac : ∀ b : Bs, ExcBaseFacts b.n b.newId b.initId b.tl
  | .V => PySem.F.excBase_ValueError | .L => PySem.F.excBase_LookupError | .R => PySem.F.excBase_RuntimeError | .A => PySem.F.excBase_ArithmeticError
theorem Bs.sto : ∀ b : Bs, StoreFacts b.n b.tl "object.__setattr__" "object"
  | .V => PySem.F.store_ValueError | .L => PySem.F.store_LookupError | .R => PySem.F.store_RuntimeError | .A => PySem.F.store_ArithmeticError
/-- what the written part says of such a class -/
structure Oex (K : PySem.W.Frag) (C : Addr) (b : Bs) : Prop where
  init : PySem.W.excInitIn K C b.tl b.newId = true
  over : PySem.W.excOver K C b.tl = true
  hd : PySem.W.hasDictIn K C = true
  sa : PySem.W.findIn K (.ref C) "__setattr__" = some (some (.builtin "object.__setattr__"))
  exC : PySem.W.subIn K (.ref C) (.type "BaseException") = some true
  tyC : PySem.W.typeIn K (.ref C) = some (.type "type")
  kC : PySem.W.keepIn K (.ref C) = true
theorem Oex.obj {K : PySem.W.Frag} {C : Addr} {b : Bs} (T : Oex K C b) {h : Heap} (X : K.In h) : ∃ nm N qn bs bm hdct sn sub ab col dd k0 k1 k2 k3 k5,
    h.get? C = some (excClassObj nm qn C N bs bm hdct sn sub ab col dd k0 k1 k2 k3 k5 b.newId) ∧ ∀ X : String, bm.contains (.type X) = b.tl.contains (.type X) := PySem.W.excInit_of X T.init
section
variable {prog : Program} {w : World} {A : Around} {R : Result → Shared → Prop} {hp : Heap} {g : Array GenState} {d : Drawn} {t : Nat} {os : OsState} {K : PySem.W.Frag} {name : Str} {tk : Tok} {v : Value} {x C dx t1 : Addr} {b : Bs}
/-- x.name = v on an error that has no dict yet -/
theorem sto_new (T : Oex K C b) (X : K.In hp) (hx : hp.get? x = some (PySem.W.excObj C t1 none .none)) (ha : PySem.W.findIn K (.ref C) name = some none)
    (q : ∀ h' tk' dx, (∀ c o, c ≠ x → hp.get? c = some o → h'.get? c = some o) → hp.objs.size ≤ dx → dx ≠ x → h'.get? x = some (PySem.W.excObj C t1 (some dx) .none) → h'.Ns1 dx (fun y => if y = name then some v else none) → R (.ok (.ret .none)) ⟨h', g, d, tk', os⟩) :
    codeAny (model prog w) A (.call (.builtin "object.__setattr__") ⟨[.ref x, .str name tk, v], []⟩) R ⟨hp, g, d, t, os⟩ := by
  have nx : x ≠ hp.objs.size := Nat.ne_of_lt (Heap.lt_size hx)
  refine PySem.W.osa_openX (od := none) (b.sto) X ⟨hx, rfl, rfl, trivial⟩ T.over (NoAttr.taker ha) fun _ => ?_
  obtain ⟨cd, hc, hd'⟩ := PySem.W.any_some T.hd
  have hy : (hp.push (PySem.W.dictOf [] 0)).get? x = some (PySem.W.excObj C t1 none .none) := Heap.get?_push_of_some _ hx
  refine wpAny_bind (wpAny_pure (wpAny_bind (PySem.W.instanceDict_exc hx (PySem.W.looks_clsIn X hc) hd' ?_)))
  refine PySem.HandSPX.store_in_new (Q := _) ?_ fun h' tk' hn hs => ?_
  · exact ⟨_, #[], 0, (Heap.get?_update_ne _ _ _ _ nx.symm).trans (Heap.get?_push_at rfl rfl), rfl, fun e he => absurd he (by simp), fun _ => rfl⟩
  · refine q h' tk' hp.objs.size (fun c o hc ho => ?_) (Nat.le_refl _) nx.symm ((hs.2 x nx).trans (Heap.get?_update_self _ hy rfl)) hn
    have nc : c ≠ hp.objs.size := Nat.ne_of_lt (Heap.lt_size ho)
    exact (hs.2 c nc).trans ((Heap.get?_update_ne _ _ _ _ hc).trans (Heap.get?_push_of_some _ ho))
/-- .. on one that has a dict -/
theorem sto_more {m0 : Str → Option Value} {nl : List Str} (T : Oex K C b) (X : K.In hp) (hx : hp.get? x = some (PySem.W.excObj C t1 (some dx) .none)) (hn : hp.Ns1 dx m0) (hw : Within m0 nl) (hz : nl.length ≤ 1000) (ha : PySem.W.findIn K (.ref C) name = some none)
    (q : ∀ h' tk', (∀ c o, c ≠ dx → hp.get? c = some o → h'.get? c = some o) → h'.Ns1 dx (fun y => if y = name then some v else m0 y) → R (.ok (.ret .none)) ⟨h', g, d, tk', os⟩) :
    codeAny (model prog w) A (.call (.builtin "object.__setattr__") ⟨[.ref x, .str name tk, v], []⟩) R ⟨hp, g, d, t, os⟩ := by
  obtain ⟨oD, _, _, hoD, _, _⟩ := hn.count hw
  refine PySem.W.osa_openX (od := some oD) (b.sto) X ⟨hx, rfl, rfl, hoD⟩ T.over (NoAttr.taker ha) fun _ => ?_
  obtain ⟨cd, hc, hd'⟩ := PySem.W.any_some T.hd
  refine wpAny_bind (wpAny_pure (wpAny_bind (wpAny_bind (wpAny_loadPart hx (wpAny_bind ((PySem.W.looks_clsIn X hc).here ?_))))))
  rw [hd']
  refine wpAny_pure (a := some dx) ?_
  exact PySem.OEX.store_in_old hn hw hz fun h' tk' hn' hs => q h' tk' (fun c o hb ho => (hs.2 c hb).trans ho) hn'
end
section
variable {X : Cx} {pins : List (Addr × Obj)} {σ : L2.St} {H : Hp} {s : Shared} {a C dx : Addr} {b : Bs} {f : Str} {y : V} {u : Value} {fs : List (Str × V)} {A : Around} {E : Value → Shared → Prop}
theorem fst_ok {Q : Unit → Shared → Prop} (T : Oex X.K C b) (I : Inv X pins σ H s) (e : H a = some (exo a C none)) (no : PySem.W.findIn X.K (.ref C) f = some none) (ry : RelV y u)
    (q : ∀ dx s', H dx = none → dx ≠ a → Inv X pins σ (upd (upd H dx (exd dx [(f, y)])) a (exo a C (some dx))) s' → Q () s') : wpAny (model X.prog X.w) A (setAttr (.ref a) f u) Q E s := by
  obtain ⟨t1, ho⟩ := exo_at I.hok e
  obtain ⟨hp, g, d, t, os⟩ := s
  refine PySem.W.set_plain I.kIn (ox := PySem.W.excObj C t1 none .none) (od := none) ⟨ho, rfl, rfl, trivial⟩ T.sa (sto_new T I.kIn ho no fun h' tk' dx k dn dne hx hn => ?_)
  have hnd : H dx = none := I.hok.fresh dn
  have ndx : ∀ {c : Addr} {o : Obj}, hp.get? c = some o → c ≠ dx := fun q => Nat.ne_of_lt (Nat.lt_of_lt_of_le (Heap.lt_size q) dn)
  have nda : ∀ {c : Addr}, H c = none → c ≠ a := fun n z => by rw [z, e] at n; cases n
  have keep2 : ∀ {c : Addr} {o : HO}, H c = some o → exo a C none ≠ o → upd (upd H dx (exd dx [(f, y)])) a (exo a C (some dx)) c = some o := fun hc ho => by
    rw [upd_ne (at_ne e hc ho), upd_ne (ne_of_none hc hnd)]; exact hc
  refine q dx _ hnd dne (I.un (t' := tk') ⟨fun c o q n _ _ => k c o (nda n) q, fun c o q n _ _ => ⟨o.slots, k c o (nda n) q⟩, fun c o q n _ => by rw [upd_ne (nda n), upd_ne (ndx q)]; exact n,
    fun c o q _ => ?_, fun c xs q => keep2 q exo_tup, fun c o v q => keep2 q exo_frz, fun c ps q => ⟨#[], by rw [keep2 q exo_tbl]; simp⟩⟩ fun c o q => ?_)
  · by_cases hc : c = a
    · exact ⟨_, by rw [hc]; exact hx⟩
    · exact ⟨o, k c o hc q⟩
  · by_cases hc : c = a
    · subst hc; rw [upd_same] at q; cases q; exact exo_ok hx
    · rw [upd_ne hc] at q
      by_cases hd : c = dx
      · subst hd; rw [upd_same] at q; cases q
        exact exd_ok hn (relO_put (fs := []) ry fun _ => True.intro)
      · rw [upd_ne hd] at q
        refine (I.hok c o q).stay (fun z v hz zz => k z v ?_ zz) (fun z hz => keep2 hz exo_own) fun z xs hz => keep2 hz exo_tup
        rcases hz with hz | hz
        · rw [hz]; exact hc
        · exact at_ne e hz exo_own
theorem more_ok {Q : Unit → Shared → Prop} (T : Oex X.K C b) (I : Inv X pins σ H s) (e : H a = some (exo a C (some dx))) (ed : H dx = some (exd dx fs)) (hl : fs.length ≤ 900) (no : PySem.W.findIn X.K (.ref C) f = some none) (ry : RelV y u)
    (q : ∀ s', Inv X pins σ (upd H dx (exd dx ((f, y) :: fs))) s' → Q () s') : wpAny (model X.prog X.w) A (setAttr (.ref a) f u) Q E s := by
  obtain ⟨t1, ho⟩ := exo_at I.hok e
  obtain ⟨mA, hns, rel⟩ := exd_at I.hok ed
  have hw := within_of rel
  obtain ⟨hp, g, d, t, os⟩ := s
  obtain ⟨oD, _, _, hoD, _, _⟩ := hns.count hw
  refine PySem.W.set_plain I.kIn (ox := PySem.W.excObj C t1 (some dx) .none) (od := some oD) ⟨ho, rfl, rfl, hoD⟩ T.sa (sto_more T I.kIn ho hns hw (by rw [List.length_map]; omega) no fun h' tk' k hn => ?_)
  obtain ⟨o, _, _, e', _⟩ := id hn
  exact q _ (I.write (t' := tk') (x := dx) (e := dx) (o := exd dx ((f, y) :: fs)) (by rw [ed]; exact True.intro) (.inl rfl) k ⟨o, e'⟩ (exd_ok hn (relO_put ry rel)))
/-- the base's __init__: nothing of it is told -/
theorem base_ok {us : List Value} {Q : Value → Shared → Prop} (T : Oex X.K C b) (I : Inv X pins σ H s) (e : H a = some (exo a C none)) (hl : us.length ≤ sizeLine) (q : ∀ s', Inv X pins σ H s' → Q .none s') :
    wpAny (model X.prog X.w) A (call (.builtin b.initId) (.ref a :: us)) Q E s := by
  obtain ⟨nm, N, qn, bs, bm, hdct, sn, sub, ab, col, dd, k0, k1, k2, k3, k5, hC, hT⟩ := T.obj I.kIn
  obtain ⟨t1, ho⟩ := exo_at I.hok e
  obtain ⟨hp, g, d, t, os⟩ := s
  refine wpAny_call (PySem.HandSPX.init_base b.fac hT hC ho hl fun h' t2 k hx => ?_)
  have J := I.write (t' := t) (x := a) (e := a) (o := exo a C none) (by rw [e]; exact True.intro) (.inl rfl) k ⟨_, hx⟩ (exo_ok hx)
  rw [show upd H a (exo a C none) = H by
    funext c
    by_cases hc : c = a
    · rw [hc, upd_same, e]
    · rw [upd_ne hc]] at J
  exact q _ J
end
/-! ### __init__ of such a class -/
def exGs (ns : List Str) (ys : List V) : List (Str × V) := (ns.zip ys).reverse
/-- self and the fields' values come in; the error has its dict then -/
def exSp (C : Addr) (ns : List Str) : Sp := fun vs H Q _ => ∃ (a : Addr) (us : List V), vs = .ref a :: us ∧ us.length = ns.length ∧ H a = some (exo a C none) ∧
  ∀ d H', H d = none → d ≠ a → H' a = some (exo a C (some d)) → H' d = some (exd d (exGs ns us)) → (∀ c, c ≠ a → c ≠ d → H' c = H c) → Q .non H'
def tBI (K : PySem.W.Frag) (b : Bs) (ta : TA) : TE := fun σ H Q => ta σ H fun vs H1 => ∃ (a C : Addr) (ws : List V), vs = .ref a :: ws ∧ ws.length ≤ 1000 ∧ Oex K C b ∧ H1 a = some (exo a C none) ∧ Q .non H1
def tSto (K : PySem.W.Frag) (b : Bs) (f : Str) (to te : TE) : TS := fun D σ H => te σ H fun y H1 => to σ H1 fun x H2 => ∃ a C : Addr, x = .ref a ∧ Oex K C b ∧ PySem.W.findIn K (.ref C) f = some none ∧
  ((H2 a = some (exo a C none) ∧ ∀ d, H2 d = none → d ≠ a → D.nx σ (upd (upd H2 d (exd d [(f, y)])) a (exo a C (some d)))) ∨
    ∃ (d : Addr) (fs : List (Str × V)), H2 a = some (exo a C (some d)) ∧ H2 d = some (exd d fs) ∧ fs.length ≤ 900 ∧ D.nx σ (upd H2 d (exd d ((f, y) :: fs))))
section
variable {X : Cx} {b : Bs} {o e : Expr} {es : List Expr} {to te : TE} {ta : TA} {f x : Str} {p p' p1 p2 pos : Pos}
/-- the shape of B.__init__(self, ..) once B is known -/
abbrev InitCall (X : Cx) (x : Str) (p1 p2 pos : Pos) (e : Expr) (es : List Expr) (pl : Sem Bool) : Prop :=
  eval (.Call (.Attribute (.Name x p1) "__init__" p2) (e :: es) [] pos) X.env = (do
      let ov ← eval (.Name x p1) X.env
      standAt p2.atName
      let (f, first) ← holding [ov] (getMethod ov "__init__" pl)
      callWith pos f first (backTo pos (starEach (e :: es) X.env)) (backToKw pos (keywordEach [] X.env)))
theorem typ_b : ∀ b : Bs, typeOf (.type b.n) = pure (.type "type")
  | .V => by kernel_rfl | .L => by kernel_rfl | .R => by kernel_rfl | .A => by kernel_rfl
theorem stub_b : ∀ b : Bs, Manifest.isStub b.n = false
  | .V => by decide +kernel | .L => by decide +kernel | .R => by decide +kernel | .A => by decide +kernel
theorem boot_b : ∀ b : Bs, bootBuiltins (Str.ofString b.n) = some (.type b.n)
  | .V => by decide +kernel | .L => by decide +kernel | .R => by decide +kernel | .A => by decide +kernel
theorem find_b (K : PySem.W.Frag) : ∀ b : Bs, PySem.W.findCls K (.type b.n) (.type "type") "__init__" = some (.val (.builtin b.initId))
  | .V => by kernel_rfl | .L => by kernel_rfl | .R => by kernel_rfl | .A => by kernel_rfl
theorem hand_b : ∀ b : Bs, PySem.W.handedIn (.builtin b.initId) = true
  | .V => by decide +kernel | .L => by decide +kernel | .R => by decide +kernel | .A => by decide +kernel
theorem base_call {pins : List (Addr × Obj)} {σ : L2.St} {H : Hp} {s : Shared} {Q : VK} (ha : PA X (e :: es) ta) (I : Inv X pins σ H s) (h : tBI X.K b ta σ H Q) (he : starEach (e :: es) X.env = (false, eval e X.env) :: starEach es X.env) (hpl : (backTo pos (starEach es X.env)).any (·.1) = false) :
    wpAny (model X.prog X.w) X.A (callWith pos (.builtin b.initId) [] (backTo pos (starEach (e :: es) X.env)) (backToKw pos (keywordEach [] X.env))) (EP X pins σ Q) X.xe s := by
  refine PyProof.Rows.callWith_method1 (thn (ha.run pos pins _ σ H _ I h) fun us s1 ⟨vs, H1, I1, r1, a, C, ws, ev, hl, T, ea, q⟩ => ?_) he hpl
  subst ev
  cases r1 with
  | @cons _ u0 _ ur ra rr =>
    obtain rfl : u0 = Value.ref a := ra
    exact base_ok T I1 ea (by rw [← Paired.length rr, sizeLine_eq]; omega) fun s' J => ⟨.non, H1, J, rfl, q⟩
/-- B.__init__(self, ..), B a built-in class -/
theorem pe_baseB {pl : Sem Bool} (b : Bs) (hg : Gl X (Str.ofString b.n)) (hm : X.mg (Str.ofString b.n) = none) (ha : PA X (e :: es) ta) (hnn : Str.ofString b.n ≠ "__name__") (hdb : (Str.ofString b.n == ("__debug__" : Str)) = false) (hc : InitCall X (Str.ofString b.n) p1 p2 pos e es pl)
    (he : starEach (e :: es) X.env = (false, eval e X.env) :: starEach es X.env) (hpl : (backTo pos (starEach es X.env)).any (·.1) = false) :
    PE X (.Call (.Attribute (.Name (Str.ofString b.n) p1) "__init__" p2) (e :: es) [] pos) (tBI X.K b ta) := by
  refine ⟨fun pins s σ H Q I h => PySem.W.methodCall_KW (ld_blt I hg hm (boot_b b) ?_ hnn hdb) hc⟩
  obtain ⟨m, fr⟩ := I.fr
  exact PySem.W.method_type fr I.ok.mod.kin (typ_b b) (stub_b b) (find_b _ b) (hand_b b) (base_call ha (I.tok _) h he hpl)
/-- what the written part says of a base class of one's own -/
structure OwnBase (K : PySem.W.Frag) (C : Addr) (b : Bs) : Prop where
  ga : PySem.W.specialIn K (.ref C) "__getattribute__" = some (some (.builtin "type.__getattribute__"))
  rd : PySem.W.readsIn K C (.type "type") = true
  fi : PySem.W.findCls K (.ref C) (.type "type") "__init__" = some (.val (.builtin b.initId))
/-- B.__init__(self, ..), B a class of one's own -/
theorem pe_baseO {pl : Sem Bool} {C : Addr} (b : Bs) (hg : Gl X x) (hm : X.mg x = some (.ref C)) (O : OwnBase X.K C b) (ha : PA X (e :: es) ta) (hdb : (x == ("__debug__" : Str)) = false) (hc : InitCall X x p1 p2 pos e es pl)
    (he : starEach (e :: es) X.env = (false, eval e X.env) :: starEach es X.env) (hpl : (backTo pos (starEach es X.env)).any (·.1) = false) :
    PE X (.Call (.Attribute (.Name x p1) "__init__" p2) (e :: es) [] pos) (tBI X.K b ta) := by
  refine ⟨fun pins s σ H Q I h => PySem.W.methodCall_KW (ld_glob I hg hm ?_ hdb) hc⟩
  exact PySem.W.method_cls I.kIn O.ga (PySem.W.cls_value I.kIn O.rd O.fi (hand_b b) (base_call ha (I.tok _) h he hpl))
theorem ps_sto (ho : PE X o to) (he : PE X e te) (hs : swapsWith e (some (.Attribute o f p')) pos.line X.env = pure false) : PS X (.Assign [.Attribute o f p'] e pos) (tSto X.K b f to te) := by
  refine ⟨fun pins s σ H D I h => plainObj_wpAny_Assign_Attribute (thn (he.run pins s σ H _ I h) fun v s1 ⟨y, H1, I1, r1, q1⟩ => thn (ho.run pins s1 σ H1 _ I1 q1) fun u s2 ⟨x, H2, I2, r2, a, C, ex, T, no, q⟩ => ?_) hs⟩
  subst ex
  obtain rfl : u = Value.ref a := r2
  rcases q with ⟨ea, q⟩ | ⟨d, fs, ea, ed, hl, q⟩
  · exact fst_ok T I2 ea no r1 fun d s' n ne J => ⟨σ, _, J, q d n ne⟩
  · exact more_ok T I2 ea ed hl no r1 fun s' J => ⟨σ, _, J, q⟩
end
/-- C(e, ..), made -/
def tRz (C : Addr) (ns : List Str) (ta : TA) : L2.St → Hp → XK → Prop := fun σ H Q => ta σ H fun vs H1 => vs.length = ns.length ∧ ∀ d, H1 d = none → Q (.ref C) (some d) (upd H1 d (.xd (exGs ns vs)))
/-- how a class is made: its __init__ keeps its promise -/
structure Exm (P : Program) (w : World) (K : PySem.W.Frag) (mg : Str → Option Value) (base : Heap) (k : Nat) (C : Addr) (b : Bs) (ns : List Str) : Prop where
  T : Oex K C b
  few : ns.length ≤ 100
  fn : ∃ (fI : Addr) (fd : FuncData) (ps : List Str), PySem.W.findIn K (.ref C) "__init__" = some (some (.ref fI)) ∧ PySem.W.typeIn K (.ref fI) = some (.type "function") ∧ FnOk P w K mg base CX0 k fI fd ps (exSp C ns) ∧ Binds K fd ps [] ∧ ps.length = ns.length + 1
theorem pmk_z {X : Cx} {C : Addr} {b : Bs} {ns : List Str} {k : Nat} {x : Str} {e : Expr} {es : List Expr} {ta : TA} {p pos : Pos} (M : Exm X.prog X.w X.K X.mg X.base k C b ns) (hr : Room (k + 1) X.A) (hg : Gl X x) (hm : X.mg x = some (.ref C)) (ha : PA X (e :: es) ta)
    (hdb : (x == ("__debug__" : Str)) = false) (he : starEach (e :: es) X.env = (false, eval e X.env) :: starEach es X.env) (hpl : (backTo pos (starEach es X.env)).any (·.1) = false) : PMk X (.Call (.Name x p) (e :: es) [] pos) (tRz C ns ta) := by
  intro pins s σ H Q I h
  obtain ⟨fI, fd, ps, iC, tI, F1, hb, hps⟩ := M.fn
  have T := M.T
  refine wpAny_Call_Name_kw (ld_glob I hg hm (PySem.W.callWith_K (h₀ := X.base) I.ok.mod.kin T.kC (thn (ha.run pos pins s σ H _ I h) fun us s1 ⟨vs, H1, I1, r1, hl, q1⟩ => ⟨I1.kIn, ?_⟩) he hpl) hdb)
  obtain ⟨nm, N, qn, bs, bm, hdct, sn, sub, ab, col, dd, k0, k1, k2, k3, k5, hC, hT⟩ := T.obj I1.kIn
  obtain ⟨hp, g, dr, tk, os⟩ := s1
  have few := M.few
  have lu : us.length = vs.length := r1.length.symm
  have hsz : hp.objs.size ≤ hp.objs.size + 1 := Nat.le_succ _
  have hn : H1 (hp.objs.size + 1) = none := I1.hok.fresh hsz
  have kk : ∀ c o, hp.get? c = some o → ((hp.push (PySem.W.kdv_tup us)).push (PySem.HandSPX.excO C hp.objs.size)).get? c = some o := fun c o z => Heap.get?_push_of_some _ (Heap.get?_push_of_some _ z)
  have hget : ((hp.push (PySem.W.kdv_tup us)).push (PySem.HandSPX.excO C hp.objs.size)).get? (hp.objs.size + 1) = some (PySem.HandSPX.excO C hp.objs.size) := by heap_get
  have I2 : Inv X pins σ (upd H1 (hp.objs.size + 1) (exo (hp.objs.size + 1) C none)) ⟨(hp.push (PySem.W.kdv_tup us)).push (PySem.HandSPX.excO C hp.objs.size), g, dr, tk, os⟩ := I1.laid (t' := tk) (h' := (hp.push (PySem.W.kdv_tup us)).push (PySem.HandSPX.excO C hp.objs.size)) kk hsz (exo_ok hget)
  have hus : us.length ≤ sizeLine := by rw [sizeLine_eq]; omega
  have hlen : (Value.ref (hp.objs.size + 1) :: us).length = ps.length := by rw [List.length_cons, lu, hl, hps]
  have sp : exSp C ns (V.ref (hp.objs.size + 1) :: vs) (upd H1 (hp.objs.size + 1) (exo (hp.objs.size + 1) C none))
      (fun v H2 => v = .non ∧ ∃ d, H1 d = none ∧ H2 (hp.objs.size + 1) = some (exo (hp.objs.size + 1) C (some d)) ∧ H2 d = some (exd d (exGs ns vs)) ∧ Q (.ref C) (some d) (upd (del H2 (hp.objs.size + 1)) d (.xd (exGs ns vs)))) (fun _ _ _ => False) := by
    refine ⟨_, vs, rfl, hl, upd_same, fun d H' hd hne h1 h2 h3 => ⟨rfl, d, ?_, h1, h2, ?_⟩⟩
    · rw [upd_ne hne] at hd; exact hd
    · have e2 : upd (del H' (hp.objs.size + 1)) d (.xd (exGs ns vs)) = upd H1 d (.xd (exGs ns vs)) := by
        funext c
        by_cases hcd : c = d
        · rw [hcd, upd_same, upd_same]
        · rw [upd_ne hcd, upd_ne hcd]
          by_cases hca : c = hp.objs.size + 1
          · rw [hca, del_same, hn]
          · rw [del_ne hca, h3 c hca hcd, upd_ne hca]
      rw [e2]
      refine q1 d ?_
      rw [upd_ne hne] at hd; exact hd
  refine wpAny_call (PySem.HandSPX.call_own b.fac hT hC (PySem.W.looks_findIn I1.kIn iC) (fun self => PySem.W.bind_fn I1.kIn self tI) hus
    (codeAny_mono (F1.run _ X.stack _ _ ⟨Value.ref (hp.objs.size + 1) :: us, []⟩ (Value.ref (hp.objs.size + 1) :: us) _ _ (fun _ _ _ => False) (hr.make C us []) (I2.env0.make C us []) (by simpa using hb _ (Value.ref (hp.objs.size + 1) :: us) I2.kIn (by simpa using hlen)) (show Vals (V.ref (hp.objs.size + 1) :: vs) (Value.ref (hp.objs.size + 1) :: us) from .cons rfl r1) sp) fun r s' hq => ?_))
  cases r with
  | error er => exact hq.elim
  | ok fl =>
    cases fl with
    | ret u =>
      obtain ⟨v, H2, os2, bare2, un2, hok2, rv, ev, d, hd1, ea, ed, q2⟩ := hq
      subst ev
      obtain ⟨h2, g2, d2, t2, os'⟩ := s'
      exact ⟨rv, mk_end (raises_own T.exC T.tyC) I1 hsz kk un2 hok2 os2 bare2 ea ed hd1 q2⟩
    | next => exact False.elim hq
    | brk => exact False.elim hq
    | cont => exact False.elim hq
/-- raise C(e, ..): what is raised has the fields ns -/
def wRaise (C : String) (ns : List Str) (wa : WA) : WS := fun D S A => wa S A (fun xs A1 => xs.length = ns.length ∧ D.ex ⟨C, ns.reverse, xs.reverse⟩ S A1) (fun x A1 => D.ex x S A1)
theorem exGs_fst {ns : List Str} {vs : List V} (h : vs.length = ns.length) : (exGs ns vs).map (·.1) = ns.reverse := by
  unfold exGs; rw [List.map_reverse, ← List.unzip_fst, List.unzip_zip (by omega)]
theorem exGs_snd {ns : List Str} {vs : List V} (h : vs.length = ns.length) : (exGs ns vs).map (·.2) = vs.reverse := by
  unfold exGs; rw [List.map_reverse, ← List.unzip_snd, List.unzip_zip (by omega)]
theorem as_raise {X : Cx} {W : WX} {C : String} {b : Bs} {ns : List Str} {k : Nat} {e : Expr} {es : List Expr} {wa : WA} {p pos rpos : Pos} {j : Nat} (B : Bd j X W) (M : Exm X.prog X.w X.K X.mg X.base k (cA X.K C) b ns) (hj : k + 1 ≤ j) (hcls : clsV X.K C = .ref (cA X.K C)) (hg : Gl X (Str.ofString C)) (hm : X.mg (Str.ofString C) = some (.ref (cA X.K C))) (ha : AA X W (e :: es) wa)
    (hdb : (Str.ofString C == ("__debug__" : Str)) = false := by decide) (he : starEach (e :: es) X.env = (false, eval e X.env) :: starEach es X.env := by exact starOf rfl) (hpl : (backTo pos (starEach es X.env)).any (·.1) = false := by exact starsOf rfl) :
    AS X W (.Raise (some (.Call (.Name (Str.ofString C) p) (e :: es) [] pos)) none rpos) (wRaise C ns wa) :=
  ps_imp (ps_raise B.calm B.tk (pmk_z M (B.room.mono hj) hg hm ha hdb he hpl)) fun D σ H ⟨S, A, Da, ss, sa, q, w⟩ => ⟨S, A, _, _, ss, sa, fun xs A1 vs H1 r1 sa1 k1 w1 => by
    have l1 : vs.length = ns.length := by rw [← r1.length]; exact w1.1
    refine ⟨l1, fun d hd => ?_⟩
    have k2 : Keep H1 (upd H1 d (.xd (exGs ns vs))) := .new hd
    refine q.ex _ _ _ _ _ _ _ ?_ (ss.keep (k1.trans k2)) (sa1.newU hd) (k1.trans k2) w1.2
    exact ⟨⟨hcls.symm, _, hcls⟩, .inr ⟨d, _, rfl, upd_same, exGs_fst l1, by rw [exGs_snd l1]; exact (r1.keep k2).reverse⟩⟩, q.ex.at ss, w⟩
/-! ### the two forms of __init__ -/
theorem exSp_len1 {C : Addr} {f : Str} {vs : List V} {H : Hp} {Q : VK} {E : XK} (h : exSp C [f] vs H Q E) {ps : List Str} (hp : ps.length = 2) : vs.length = ps.length := by
  obtain ⟨a, us, rfl, hl, _⟩ := h; simp at hl; simp [hl, hp]
theorem exSp_len2 {C : Addr} {f g : Str} {vs : List V} {H : Hp} {Q : VK} {E : XK} (h : exSp C [f, g] vs H Q E) {ps : List Str} (hp : ps.length = 3) : vs.length = ps.length := by
  obtain ⟨a, us, rfl, hl, _⟩ := h; simp at hl; simp [hl, hp]
abbrev t1 (K : PySem.W.Frag) (b : Bs) (s f : Str) : TS := fun D σ H => tBI K b (tCons (tVar 0) (tCons (tC (.str s)) tNil)) σ H fun _ H1 => tSto K b f (tVar 0) (tVar 1) D σ H1
theorem ex_read1 {K : PySem.W.Frag} {C : Addr} {b : Bs} {s f : Str} {vs : List V} {H : Hp} {Q : VK} {E : XK} {N : List Str} (T : Oex K C b) (n1 : PySem.W.findIn K (.ref C) f = some none) (hN : N.length = 2) (h : exSp C [f] vs H Q E) : t1 K b s f { nx := fun _ H' => Q .non H', rt := Q } (L2.start N vs) H := by
  obtain ⟨a, us, rfl, hl, ha, k⟩ := h
  match us, hl with
  | [v], _ =>
    have e : L2.start N [.ref a, v] = [some (.ref a), some v] := by unfold L2.start; simp [hN]
    rw [e]
    refine ⟨_, rfl, a, C, [.str s], rfl, by simp, T, ha, _, rfl, _, rfl, a, C, rfl, T, n1, .inl ⟨ha, fun d hd hne => ?_⟩⟩
    exact k d _ hd hne upd_same (by rw [upd_ne hne, upd_same]; rfl) fun c hc hc2 => by rw [upd_ne hc, upd_ne hc2]
abbrev t2 (K : PySem.W.Frag) (b : Bs) (s f g : Str) : TS := fun D σ H => tBI K b (tCons (tVar 0) (tCons (tC (.str s)) tNil)) σ H fun _ H1 => tSto K b f (tVar 0) (tVar 1) { D with nx := fun σ2 H2 => tSto K b g (tVar 0) (tVar 2) D σ2 H2 } σ H1
theorem ex_read2 {K : PySem.W.Frag} {C : Addr} {b : Bs} {s f g : Str} {vs : List V} {H : Hp} {Q : VK} {E : XK} {N : List Str} (T : Oex K C b) (n1 : PySem.W.findIn K (.ref C) f = some none) (n2 : PySem.W.findIn K (.ref C) g = some none) (hN : N.length = 3) (h : exSp C [f, g] vs H Q E) : t2 K b s f g { nx := fun _ H' => Q .non H', rt := Q } (L2.start N vs) H := by
  obtain ⟨a, us, rfl, hl, ha, k⟩ := h
  match us, hl with
  | [v, u], _ =>
    have e : L2.start N [.ref a, v, u] = [some (.ref a), some v, some u] := by unfold L2.start; simp [hN]
    rw [e]
    refine ⟨_, rfl, a, C, [.str s], rfl, by simp, T, ha, _, rfl, _, rfl, a, C, rfl, T, n1, .inl ⟨ha, fun d hd hne => ?_⟩⟩
    refine ⟨_, rfl, _, rfl, a, C, rfl, T, n2, .inr ⟨d, _, upd_same, by rw [upd_ne hne, upd_same], by simp, ?_⟩⟩
    exact k d _ hd hne (by rw [upd_ne (Ne.symm hne), upd_same]) (by rw [upd_same]; rfl) fun c hc hc2 => by rw [upd_ne hc2, upd_ne hc, upd_ne hc2]
/-- .. kept by their bodies -/
theorem ok_ex1 {P : Program} {w : World} {K : PySem.W.Frag} {mg : Str → Option Value} {base : Heap} {qual : Str} {st : Stmt} {fI C : Addr} {fd : FuncData} {N ps : List Str} {b : Bs} {s f : Str} (F : Fun K "__init__" qual st fI fd) (S : FnScope N ps (defScope st)) (T : Oex K C b) (n1 : PySem.W.findIn K (.ref C) f = some none) (hN : N.length = 2) (hp : ps.length = 2)
    (h : ∀ (cdv : Value) (A : Around) (outer : List Env) (s0 : Shared) (H : Hp) (E : XK), PSs (cxOf CX0 P w K mg base N qual (defScope st) fI cdv A outer s0 H E).nox (defBody st) (t1 K b s f)) : FnOk P w K mg base CX0 1 fI fd ps (exSp C [f]) :=
  F.ok S (fun _ _ _ _ q => exSp_len1 q hp) fun cdv A outer s0 H vs Q E hr q => ⟨_, h cdv A outer s0 H E, ex_read1 T n1 hN q⟩
theorem ok_ex2 {P : Program} {w : World} {K : PySem.W.Frag} {mg : Str → Option Value} {base : Heap} {qual : Str} {st : Stmt} {fI C : Addr} {fd : FuncData} {N ps : List Str} {b : Bs} {s f g : Str} (F : Fun K "__init__" qual st fI fd) (S : FnScope N ps (defScope st)) (T : Oex K C b) (n1 : PySem.W.findIn K (.ref C) f = some none) (n2 : PySem.W.findIn K (.ref C) g = some none) (hN : N.length = 3) (hp : ps.length = 3)
    (h : ∀ (cdv : Value) (A : Around) (outer : List Env) (s0 : Shared) (H : Hp) (E : XK), PSs (cxOf CX0 P w K mg base N qual (defScope st) fI cdv A outer s0 H E).nox (defBody st) (t2 K b s f g)) : FnOk P w K mg base CX0 1 fI fd ps (exSp C [f, g]) :=
  F.ok S (fun _ _ _ _ q => exSp_len2 q hp) fun cdv A outer s0 H vs Q E hr q => ⟨_, h cdv A outer s0 H E, ex_read2 T n1 n2 hN q⟩
/-- what is to be seen of an error class at once -/
def oexB (K : PySem.W.Frag) (C : Addr) (b : Bs) (ns : List Str) : Bool :=
  PySem.W.excInitIn K C b.tl b.newId && PySem.W.excOver K C b.tl && PySem.W.hasDictIn K C && decide (PySem.W.findIn K (.ref C) "__setattr__" = some (some (.builtin "object.__setattr__"))) && decide (PySem.W.subIn K (.ref C) (.type "BaseException") = some true) && decide (PySem.W.typeIn K (.ref C) = some (.type "type")) && PySem.W.keepIn K (.ref C) && ns.all fun n => decide (PySem.W.findIn K (.ref C) n = some none)
theorem oexB_ok {K : PySem.W.Frag} {C : Addr} {b : Bs} {ns : List Str} (h : oexB K C b ns = true) : Oex K C b ∧ ∀ n ∈ ns, PySem.W.findIn K (.ref C) n = some none := by
  unfold oexB at h
  simp only [Bool.and_eq_true, decide_eq_true_eq, List.all_eq_true] at h
  obtain ⟨⟨⟨⟨⟨⟨⟨h1, h2⟩, h3⟩, h4⟩, h5⟩, h6⟩, h7⟩, h8⟩ := h
  exact ⟨⟨h1, h2, h3, h4, h5, h6, h7⟩, h8⟩
def ownB (K : PySem.W.Frag) (C : Addr) (b : Bs) : Bool :=
  decide (PySem.W.specialIn K (.ref C) "__getattribute__" = some (some (.builtin "type.__getattribute__"))) && PySem.W.readsIn K C (.type "type") && (match PySem.W.findCls K (.ref C) (.type "type") "__init__" with
    | some (.val v) => v == .builtin b.initId
    | _ => false)
theorem ownB_ok {K : PySem.W.Frag} {C : Addr} {b : Bs} (h : ownB K C b = true) : OwnBase K C b := by
  unfold ownB at h
  simp only [Bool.and_eq_true, decide_eq_true_eq] at h
  obtain ⟨⟨h1, h2⟩, h3⟩ := h
  refine ⟨h1, h2, ?_⟩
  split at h3
  · rename_i v e; rw [e, beq_iff_eq.mp h3]
  · cases h3
end Rk

set_option Elab.async false
set_option linter.all false
set_option maxRecDepth 100000
set_option maxHeartbeats 1000000
/-! try with several clauses, each with or without a name; what a clause does with its error. -/
namespace Rk
open PySem PySem.Spec PyProof.Rows L2
abbrev Sui := Addr → Value → Option Addr → TS
/-- a clause's ends: its name is gone behind it -/
def offN (o : Option Nat) (D : Ends) : Ends := match o with
  | none => D
  | some i => ⟨fun σ H => D.nx (σ.set i none) H, D.rt, fun σ H => D.bk (σ.set i none) H, fun σ H => D.ct (σ.set i none) H⟩
def onN (o : Option Nat) (a : Addr) (σ : L2.St) : L2.St := match o with
  | none => σ
  | some i => σ.set i (some (.ref a))
def wHs (K : PySem.W.Frag) (Wout : WX) (D : Ends) : List (Value × Option Nat × Sui) → WX
  | [] => Wout
  | (c, o, ts) :: r => fun cls d σ H => ∃ b, PySem.W.exmOne K cls c = some b ∧ (b = true → ∀ a, H a = none → ts a cls d (offN o D) (onN o a σ) H) ∧ (b = false → wHs K Wout D r cls d σ H)
/-- a suite, whatever error came -/
def SuiOk (X : Cx) (sts : List Stmt) (ts : Sui) : Prop := ∀ (a : Addr) (oe : Obj) (cls : Value) (d : Option Addr) (pn : List (Addr × Obj)), Zc cls d oe → (∃ vs, oe.data = .fields vs) → PSs (X.suite a ((a, oe) :: pn)) sts (ts a cls d)
inductive HsOk (X : Cx) : List ExceptHandler → List (Value × Option Nat × Sui) → Prop
  | nil : HsOk X [] []
  | bare {x : Str} {c : Value} {ts : Sui} {st : Stmt} {sts : List Stmt} {np hp : Pos} {hs : List ExceptHandler} {l : List (Value × Option Nat × Sui)} (hc : Names X x c) (h : SuiOk X (st :: sts) ts) (r : HsOk X hs l) :
      HsOk X (.ExceptHandler (some (.Name x np)) none (st :: sts) hp :: hs) ((c, none, ts) :: l)
  | named {x n : Str} {i : Nat} {c : Value} {ts : Sui} {st : Stmt} {sts : List Stmt} {np hp : Pos} {hs : List ExceptHandler} {l : List (Value × Option Nat × Sui)} (hc : Names X x c) (hi : X.N[i]? = some n) (hln : X.env.kindOf n = some .local) (h : SuiOk X (st :: sts) ts) (r : HsOk X hs l) :
      HsOk X (.ExceptHandler (some (.Name x np)) (some n) (st :: sts) hp :: hs) ((c, some i, ts) :: l)
section
variable {X : Cx} {body : List Stmt} {h0 : ExceptHandler} {hds : List ExceptHandler} {l : List (Value × Option Nat × Sui)} {pos : Pos} {tb : WX → TS} {Wout : WX}
theorem ps_tries (hstk : X.stack = X.env :: X.outer) (hfrm : X.env.frame = some X.env.locals) (hN : X.N.Nodup) (tk : Takes X Wout)
    (hb : ∀ (W : WX) (pn : List (Addr × Obj)) (xe : Value → Shared → Prop), Takes (X.tr pn xe) W → PassesOwn (model X.prog X.w) X.A X.env xe → PSs (X.tr pn xe) body (tb W))
    (hh : HsOk X (h0 :: hds) l) : PS X (.Try body (h0 :: hds) [] [] pos) (fun D σ H => tb (wHs X.K Wout D l) D σ H) := by
  refine ⟨fun pins s σ H D I h => wpAny_Try_except ?_⟩
  have ok := I.ok
  have frs_eq : X.A.frames = some (X.env :: X.outer) := ok.frames.trans (congrArg some hstk)
  let late : Value → Shared → Prop := fun e s₁ => wpAny (model X.prog X.w) X.A (noteFrame e X.env) (fun _ s₂ => wpAny (model X.prog X.w) X.A (setFlight e none) (fun _ s₃ => wpAny (model X.prog X.w) X.A (handleBy e X.env (h0 :: hds)) (SP X pins D) X.xe s₃) X.xe s₂) X.xe s₁
  refine wpAny_mono ((hb (wHs X.K Wout D l) (X.pn ++ pins) late ?_ PassesOwn.looking).run [] s σ H D (I.toTry _) h) ?_ fun _ _ z => z
  · rintro u s' ⟨a, B, sI, pins', σ', H', cls, d, rfl, J', nb, up, sky, na, os, ag, w⟩
    have J : Inv X pins σ' H' sI := J'.ofTry ok
    show wpAny (model X.prog X.w) X.A (noteFrame (.ref a) X.env) _ _ _
    refine Sky.land Zc.steady frs_eq hfrm (show Sky B (X.env :: X.outer) a (Zc cls d) X.env.locals s'.heap by rw [← hstk]; exact sky) fun h3 fl3 up3 => ?_
    have J3 : Inv X pins σ' H' { s' with heap := h3 } := J.landed nb fl3.1 (up.trans up3) os ag
    obtain ⟨oe3, vs3, he3, hz3, hd3⟩ := fl3.there
    have off : a ∉ frs (X.env :: X.outer) := fun hm => by
      obtain ⟨_, o', e', hnf⟩ := fl3.2.2.1.mem hm
      rw [he3] at e'; cases e'
      exact hnf _ hd3
    have nL : a ≠ X.env.locals := fun z => off (List.mem_filterMap.mpr ⟨X.env, List.mem_cons_self, hfrm.trans (congrArg some z.symm)⟩)
    have nF : a ∉ X.fs := fun hm => by
      obtain ⟨e, he, q⟩ := List.mem_filterMap.mp hm
      exact off (List.mem_filterMap.mpr ⟨e, List.mem_cons_of_mem _ he, q⟩)
    have S3 := J3.suite he3 hd3 na nL nF
    have look : PySem.W.Looks (model X.prog X.w) h3 (typeOf (.ref a)) cls := fun A Q E s k q => wpAny_typeOf_ref (k _ _ he3) (hz3.1.symm ▸ q)
    have name : ∀ {x : Str} {c : Value} {np : Pos}, Names X x c → ∀ {Q : Value → Shared → Prop} {E : Value → Shared → Prop}, Q c { s' with heap := h3 } → wpAny (model X.prog X.w) (X.A.mark (some (.ref a))) (eval (.Name x np) X.env) Q E { s' with heap := h3 } := fun {x c np} hc {Q E} q => by
      obtain ⟨hg, hdbg, hm | ⟨hm, hv, hnn⟩⟩ := hc
      · exact ld_glob (X := X.suite a ((a, oe3) :: (X.pn ++ pins))) S3 hg hm q hdbg
      · exact ld_blt (X := X.suite a ((a, oe3) :: (X.pn ++ pins))) S3 hg hm hv q hnn hdbg
    -- one clause's suite is run
    have suite : ∀ {o : Option Nat} {ts : Sui} {st : Stmt} {sts : List Stmt} {Qf : Flow → Shared → Prop} {Ef : Value → Shared → Prop} {s5 : Shared} {oe5 : Obj} {vs5 : Array Value}, SuiOk X (st :: sts) ts → Zc cls d oe5 → oe5.data = .fields vs5 → Inv (X.suite a ((a, oe5) :: (X.pn ++ pins))) [] (onN o a σ') H' s5 → ts a cls d (offN o D) (onN o a σ') H' →
        (∀ f s6, SP (X.suite a ((a, oe5) :: (X.pn ++ pins))) [] (offN o D) f s6 → Qf f s6) → wpAny (model X.prog X.w) (X.A.mark (some (.ref a))) (execs (st :: sts) X.env) Qf Ef s5 := fun hsu hz hd S5 w q =>
      wpAny_mono ((hsu a _ cls d (X.pn ++ pins) hz ⟨_, hd⟩).run [] _ _ H' _ S5 w) (fun f s6 hsp => q f s6 hsp) fun _ _ z => False.elim z
    have go : ∀ {hs : List ExceptHandler} {l' : List (Value × Option Nat × Sui)}, HsOk X hs l' → wHs X.K Wout D l' cls d σ' H' → wpAny (model X.prog X.w) X.A (handleBy (.ref a) X.env hs) (SP X pins D) X.xe { s' with heap := h3 } := by
      intro hs l' hk
      induction hk with
      | nil =>
        intro w
        obtain ⟨k1, k2, k3, oe, vs, T, oT, ts', he, hz, hd, h1, hr⟩ := id fl3
        have fin : wpAny (model X.prog X.w) X.A (setFlight (.ref a) X.env.frame) (fun _ s4 => wpAny (model X.prog X.w) X.A (throw (.ref a) : Sem Flow) (SP X pins D) X.xe s4) X.xe { s' with heap := h3 } := by
          rw [hfrm]
          exact HandSPX.setFlight_upZ fl3 fun h4 hh4 up4 => wpAny_throw (tk _ _ ⟨a, B, sI, pins, σ', H', cls, d, rfl, J, nb, (up.trans up3).trans up4, .inr (.inr (hstk ▸ hh4)), na, os, ag, w⟩)
        refine wpAny_handleBy_nil ?_
        unfold PySem.passOn
        refine wpAny_bind (wpAny_field he hd h1 ?_)
        rw [if_neg (by simp : ¬ ((Value.ref T == Value.none) = true))]
        first | exact wpAny_bind (wpAny_pure (wpAny_bind fin)) | exact wpAny_bind fin
      | @bare x c ts st sts np hp hs2 l2 hc hsu r ih =>
        rintro ⟨b, hb1, yes, no⟩
        refine wpAny_handleBy_cons (codeAny_handlers_test (name hc ((PySem.W.exm_one (M := model X.prog X.w) J3.kIn look hb1).here ?_))) (by intro q; cases q)
        cases b with
        | false => exact ih (no rfl)
        | true =>
          refine codeAny_handlers_suite (HandSPX.lands_againZ fl3 fun h4 fl4 up4 => ?_)
          obtain ⟨oe4, vs4, he4, hz4, hd4⟩ := fl4.there
          have S4 := (J.landed nb fl4.1 ((up.trans up3).trans up4) os ag : Inv X pins σ' H' { s' with heap := h4 }).suite he4 hd4 na nL nF
          refine suite (o := none) hsu hz4 hd4 S4 (yes rfl a na) fun f s6 hsp => ?_
          cases f with
          | ret u => obtain ⟨v6, σ6, H6, S6, r6, q6⟩ := hsp; exact ⟨_, _, _, S6.unsuite ok, r6, q6⟩
          | _ => obtain ⟨σ6, H6, S6, q6⟩ := hsp; exact ⟨_, _, S6.unsuite ok, q6⟩
      | @named x n i c ts st sts np hp hs2 l2 hc hi hln hsu r ih =>
        rintro ⟨b, hb1, yes, no⟩
        refine wpAny_handleBy_cons (codeAny_handlers_test (name hc ((PySem.W.exm_one (M := model X.prog X.w) J3.kIn look hb1).here ?_))) (by intro q; cases q)
        cases b with
        | false => exact ih (no rfl)
        | true =>
          refine codeAny_handlers_suite_as (HandSPX.lands_againZ fl3 fun h4 fl4 up4 => ?_)
          obtain ⟨oe4, vs4, he4, hz4, hd4⟩ := fl4.there
          have S4 := (J.landed nb fl4.1 ((up.trans up3).trans up4) os ag : Inv X pins σ' H' { s' with heap := h4 }).suite he4 hd4 na nL nF
          refine store_ok (X := X.suite a ((a, oe4) :: (X.pn ++ pins))) (v := .ref a) S4 hN hi (.inl hln) rfl (fun s5 S5 => ?_) (.inr hln)
          refine suite (o := some i) hsu hz4 hd4 S5 (yes rfl a na) fun f s6 hsp => ?_
          cases f with
          | ret u => obtain ⟨v6, σ6, H6, S6, r6, q6⟩ := hsp; exact gone_ok (S6.unsuite ok) hN hi hln fun s7 J7 => ⟨_, _, _, J7, r6, q6⟩
          | _ => obtain ⟨σ6, H6, S6, q6⟩ := hsp; exact gone_ok (S6.unsuite ok) hN hi hln fun s7 J7 => ⟨_, _, J7, q6⟩
    exact go hh w
  · intro f s1 hsp
    cases f with
    | next => obtain ⟨σ', H', J', q⟩ := hsp; exact wpAny_execs_nil ⟨σ', H', J'.ofTry ok, q⟩
    | ret u => obtain ⟨v, σ', H', J', r, q⟩ := hsp; exact ⟨v, σ', H', J'.ofTry ok, r, q⟩
    | _ => obtain ⟨σ', H', J', q⟩ := hsp; exact ⟨σ', H', J'.ofTry ok, q⟩
end
/-! ### classes of errors, by their names -/
/-- the program's own error classes: themselves and what stands above them -/
def xAnc : String → List String
  | "RelinkTreeError" => ["RelinkTreeError", "ValueError"]
  | "InvalidName" => ["InvalidName", "RelinkTreeError", "ValueError"]
  | "InvalidWord" => ["InvalidWord", "RelinkTreeError", "ValueError"]
  | "InvalidTree" => ["InvalidTree", "RelinkTreeError", "ValueError"]
  | "InvalidRelink" => ["InvalidRelink", "RelinkTreeError", "ValueError"]
  | "InvalidItem" => ["InvalidItem", "RelinkTreeError", "ValueError"]
  | "InvalidStep" => ["InvalidStep", "RelinkTreeError", "ValueError"]
  | "InvalidEvent" => ["InvalidEvent", "RelinkTreeError", "ValueError"]
  | "InvalidChoice" => ["InvalidChoice", "RelinkTreeError", "ValueError"]
  | "InvalidScript" => ["InvalidScript", "RelinkTreeError", "ValueError"]
  | "InvalidPlan" => ["InvalidPlan", "RelinkTreeError", "ValueError"]
  | "InvalidText" => ["InvalidText", "RelinkTreeError", "ValueError"]
  | "InvalidLine" => ["InvalidLine", "RelinkTreeError", "ValueError"]
  | "InvalidCommand" => ["InvalidCommand", "RelinkTreeError", "ValueError"]
  | "UnknownHost" => ["UnknownHost", "LookupError"]
  | "EmptyChannel" => ["EmptyChannel", "LookupError"]
  | "Busy" => ["Busy", "RuntimeError"]
  | "NotLinked" => ["NotLinked", "RuntimeError"]
  | "NotALeaf" => ["NotALeaf", "RuntimeError"]
  | "NameTaken" => ["NameTaken", "RuntimeError"]
  | "NotAtRest" => ["NotAtRest", "RuntimeError"]
  | "NoNetwork" => ["NoNetwork", "RuntimeError"]
  | "TooMany" => ["TooMany", "ArithmeticError"]
  | _ => []
def xNames : List String := ["RelinkTreeError", "InvalidName", "InvalidWord", "InvalidTree", "InvalidRelink", "InvalidItem", "InvalidStep", "InvalidEvent", "InvalidChoice", "InvalidScript", "InvalidPlan", "InvalidText", "InvalidLine", "InvalidCommand", "UnknownHost", "EmptyChannel", "Busy", "NotLinked", "NotALeaf", "NameTaken", "NotAtRest", "NoNetwork", "TooMany"]
theorem xAnc_names {C : String} (h : xAnc C ≠ []) : C ∈ xNames := by
  unfold xAnc at h
  split at h <;> first | decide | exact absurd rfl h
/-- an error of class C is one of Ds -/
def isA (C : String) (Ds : List String) : Bool := Ds.any fun D => decide (D ∈ xAnc C)
/-- what the written part must say of an error class -/
def exB (K : PySem.W.Frag) (C : Addr) (fs : List Str) : Bool :=
  decide (PySem.W.findIn K (.ref C) "__getattribute__" = some (some (.builtin "BaseException.__getattribute__"))) && decide (PySem.W.findIn K (.ref C) "__getattr__" = some none) && decide (PySem.W.subIn K (.ref C) (.type "BaseException") = some true) && PySem.W.hasDictIn K C &&
  decide (PySem.W.findIn K (.ref C) "__class__" = some (some (.builtin "object.__class__"))) && decide (PySem.W.mroIn K C (.type "object") = some true) && (PySem.W.clsIn K C).isSome && fs.all fun f => decide (PySem.W.findIn K (.ref C) f = some none)
/-- .. of every one that stands in the text: Ds are asked for, fs are read -/
def chkX (K : PySem.W.Frag) (Ds : List String) (fs : List Str) : Bool :=
  decide (PySem.W.specialIn K (.builtin "object.__class__") "__get__" = some (some (.builtin "getset_descriptor.__get__"))) && decide (PySem.W.takesIn K (.builtin "object.__class__") = some true) &&
  xNames.all fun C => match clsV K C with
    | .ref c => exB K c fs && Ds.all fun D => decide (PySem.W.exmOne K (.ref c) (clsV K D) = some (isA C [D])) && decide (PySem.W.kitOne K (.ref c) (clsV K D) = some (isA C [D]))
    | _ => true
structure Xfx (K : PySem.W.Frag) (Ds : List String) (fs : List Str) : Prop where
  hn : PySem.W.specialIn K (.builtin "object.__class__") "__get__" = some (some (.builtin "getset_descriptor.__get__"))
  ht : PySem.W.takesIn K (.builtin "object.__class__") = some true
  ex : ∀ C c, xAnc C ≠ [] → clsV K C = .ref c → exB K c fs = true ∧ ∀ D ∈ Ds, PySem.W.exmOne K (.ref c) (clsV K D) = some (isA C [D]) ∧ PySem.W.kitOne K (.ref c) (clsV K D) = some (isA C [D])
theorem chkX_ok {K : PySem.W.Frag} {Ds : List String} {fs : List Str} (h : chkX K Ds fs = true) : Xfx K Ds fs := by
  unfold chkX at h
  simp only [Bool.and_eq_true, decide_eq_true_eq] at h
  obtain ⟨⟨h1, h2⟩, h3⟩ := h
  refine ⟨h1, h2, fun C c hC hc => ?_⟩
  have q := List.all_eq_true.mp h3 C (xAnc_names hC)
  rw [hc] at q
  simp only [Bool.and_eq_true, List.all_eq_true, decide_eq_true_eq] at q
  exact q
theorem exB_xfC {K : PySem.W.Frag} {C : Addr} {fs : List Str} (h : exB K C fs = true) : XfC K C := by
  unfold exB at h
  simp only [Bool.and_eq_true, decide_eq_true_eq] at h
  obtain ⟨⟨⟨⟨⟨⟨⟨h1, h2⟩, h3⟩, h4⟩, h5⟩, h6⟩, h7⟩, h8⟩ := h
  exact ⟨h1, h2, h3, h4⟩
theorem exB_no {K : PySem.W.Frag} {C : Addr} {fs : List Str} {f : Str} (h : exB K C fs = true) (hf : f ∈ fs) : PySem.W.findIn K (.ref C) f = some none := by
  unfold exB at h
  simp only [Bool.and_eq_true, decide_eq_true_eq, List.all_eq_true] at h
  exact h.2 f hf
/-! ### except suites -/
structure Bz (X : Cx) : Prop where
  gd : X.A.guards = some []
  u64 : X.A.units + 64 < cLine
  nd : X.N.Nodup
theorem Bd.suite {k : Nat} {X : Cx} {W : WX} (B : Bd k X W) (a : Addr) (pn : List (Addr × Obj)) : Bz (X.suite a pn) := ⟨B.gd, B.u64, B.nd⟩
theorem Bd.tr {k : Nat} {X : Cx} {W W' : WX} (B : Bd k X W) {pn : List (Addr × Obj)} {xe : Value → Shared → Prop} (tk : Takes (X.tr pn xe) W') (p : PassesOwn (model X.prog X.w) X.A X.env xe) : Bd k (X.tr pn xe) W' := ⟨B.room, B.gd, B.calm, B.nd, tk, p⟩
/-- a clause: the classes it takes, its name's slot, what its suite does with an error -/
structure Hnd where
  cs : List String
  slot : Option Nat
  ws : Addr → Option Addr → String → WS
def offA (o : Option Nat) (D : Es) : Es := match o with
  | none => { D with ex := fun _ _ _ => False }
  | some i => ⟨fun S A => D.nx (S.set i none) A, D.rt, fun S A => D.bk (S.set i none) A, fun S A => D.ct (S.set i none) A, fun _ _ _ => False⟩
def onA (o : Option Nat) (x : Vl) (S : Sl) : Sl := match o with
  | none => S
  | some i => S.set i (some x)
def hndL (D : Es) : List Hnd → Xv → Sl → Ah → Prop
  | [], x, S, A => D.ex x S A
  | h :: r, x, S, A => xAnc x.C ≠ [] ∧ if isA x.C h.cs = true then ∀ a d, h.ws a d x.C (offA h.slot D) (onA h.slot (.xv a d x.C x.ns x.xs) S) A else hndL D r x S A
def wTry (wb : WS) (hs : List Hnd) : WS := fun D S A => wb { D with ex := fun x S1 A1 => hndL D hs x S1 A1 } S A
def suiOf (K : PySem.W.Frag) (ws : Addr → Option Addr → String → WS) : Sui := fun a cls d D σ H => ∃ C c, cls = .ref c ∧ clsV K C = .ref c ∧ xAnc C ≠ [] ∧ LS K noW (ws a d C) D σ H
/-- a suite's derivation, whatever error came -/
def SuOk (X : Cx) (sts : List Stmt) (ws : Addr → Option Addr → String → WS) : Prop := ∀ (a : Addr) (oe : Obj) (c : Addr) (C : String) (d : Option Addr) (pn : List (Addr × Obj)), clsV X.K C = .ref c → xAnc C ≠ [] → Zc (.ref c) d oe → (∃ vs, oe.data = .fields vs) → Bz (X.suite a ((a, oe) :: pn)) → ASs (X.suite a ((a, oe) :: pn)) noW sts (ws a d C)
theorem SuOk.ok {k : Nat} {X : Cx} {W : WX} {sts : List Stmt} {ws : Addr → Option Addr → String → WS} (B : Bd k X W) (h : SuOk X sts ws) : SuiOk X sts (suiOf X.K ws) := fun a oe cls d pn hz hf =>
  ⟨fun pins s σ H D I ⟨C, c, e1, e2, e3, w⟩ => by subst e1; exact (h a oe c C d pn e2 e3 hz hf (B.suite _ _)).run pins s σ H D I w⟩
inductive HnOk (X : Cx) (Ds : List String) : List ExceptHandler → List (Value × Option Nat × Sui) → List Hnd → Prop
  | nil : HnOk X Ds [] [] []
  | bare {D : String} {ws : Addr → Option Addr → String → WS} {st : Stmt} {sts : List Stmt} {np hp : Pos} {hs : List ExceptHandler} {l : List (Value × Option Nat × Sui)} {r : List Hnd} (hd : D ∈ Ds) (hc : Names X (Str.ofString D) (clsV X.K D)) (h : SuOk X (st :: sts) ws) (t : HnOk X Ds hs l r) :
      HnOk X Ds (.ExceptHandler (some (.Name (Str.ofString D) np)) none (st :: sts) hp :: hs) ((clsV X.K D, none, suiOf X.K ws) :: l) (⟨[D], none, ws⟩ :: r)
  | named {D : String} {n : Str} {i : Nat} {ws : Addr → Option Addr → String → WS} {st : Stmt} {sts : List Stmt} {np hp : Pos} {hs : List ExceptHandler} {l : List (Value × Option Nat × Sui)} {r : List Hnd} (hd : D ∈ Ds) (hc : Names X (Str.ofString D) (clsV X.K D)) (hi : X.N[i]? = some n) (hln : X.env.kindOf n = some .local) (h : SuOk X (st :: sts) ws) (t : HnOk X Ds hs l r) :
      HnOk X Ds (.ExceptHandler (some (.Name (Str.ofString D) np)) (some n) (st :: sts) hp :: hs) ((clsV X.K D, some i, suiOf X.K ws) :: l) (⟨[D], some i, ws⟩ :: r)
theorem HnOk.ok {k : Nat} {X : Cx} {W : WX} {Ds : List String} (B : Bd k X W) : ∀ {hs : List ExceptHandler} {l : List (Value × Option Nat × Sui)} {r : List Hnd}, HnOk X Ds hs l r → HsOk X hs l
  | _, _, _, .nil => .nil
  | _, _, _, .bare _ hc h t => .bare hc (h.ok B) (t.ok B)
  | _, _, _, .named _ hc hi hln h t => .named hc hi hln (h.ok B) (t.ok B)
theorem hnd_go {X : Cx} {W : WX} {Ds : List String} {fs : List Str} (F : Xfx X.K Ds fs) {D : Ends} {Da : Es} {H0 : Hp} (q : QD X.K W H0 Da D) : ∀ {hs : List ExceptHandler} {l : List (Value × Option Nat × Sui)} {r : List Hnd}, HnOk X Ds hs l r →
    ∀ {x : Xv} {S : Sl} {A : Ah} {cls : Value} {d : Option Addr} {σ : L2.St} {H : Hp}, Xr X.K H x cls d → SS X.K H S σ → SA X.K A H → Keep H0 H → hndL Da r x S A → wHs X.K W D l cls d σ H
  | _, _, _, .nil, x, S, A, cls, d, σ, H, xr, ss, sa, k, w => q.ex _ _ _ _ _ _ _ xr ss sa k w
  | _, _, _, .bare hd hc h t, x, S, A, cls, d, σ, H, xr, ss, sa, k, w => by
    obtain ⟨nk, w⟩ := w
    obtain ⟨⟨e1, c, e2⟩, xr2⟩ := id xr
    subst e1
    obtain ⟨_, ee⟩ := F.ex _ _ nk e2
    rw [e2]
    refine ⟨_, (ee _ hd).1, fun hb a ha => ?_, fun hb => ?_⟩
    · rw [if_pos hb] at w
      refine ⟨x.C, c, rfl, e2, nk, S, A, _, ss, sa, ?_, w a d⟩
      exact ⟨fun S1 A1 σ1 H1 s1 sa1 k1 w1 => q.nx _ _ _ _ s1 sa1 (k.trans k1) w1, fun v A1 u H1 r1 sa1 k1 w1 => q.rt _ _ _ _ r1 sa1 (k.trans k1) w1, fun S1 A1 σ1 H1 s1 sa1 k1 w1 => q.bk _ _ _ _ s1 sa1 (k.trans k1) w1, fun S1 A1 σ1 H1 s1 sa1 k1 w1 => q.ct _ _ _ _ s1 sa1 (k.trans k1) w1, fun _ _ _ _ _ _ _ _ _ _ _ z => z⟩
    · rw [if_neg (by rw [hb]; exact Bool.false_ne_true)] at w
      rw [← e2]
      exact hnd_go F q t xr ss sa k w
  | _, _, _, .named hd hc hi hln h t, x, S, A, cls, d, σ, H, xr, ss, sa, k, w => by
    obtain ⟨nk, w⟩ := w
    obtain ⟨⟨e1, c, e2⟩, xr2⟩ := id xr
    subst e1
    obtain ⟨_, ee⟩ := F.ex _ _ nk e2
    rw [e2]
    refine ⟨_, (ee _ hd).1, fun hb a ha => ?_, fun hb => ?_⟩
    · rw [if_pos hb] at w
      have rx : Re X.K H (.xv a d x.C x.ns x.xs) (.ref a) := by unfold Re; exact ⟨rfl, xr2⟩
      refine ⟨x.C, c, rfl, e2, nk, _, A, _, ss.set _ rx, sa, ?_, w a d⟩
      exact ⟨fun S1 A1 σ1 H1 s1 sa1 k1 w1 => q.nx _ _ _ _ (s1.setNone _) sa1 (k.trans k1) w1, fun v A1 u H1 r1 sa1 k1 w1 => q.rt _ _ _ _ r1 sa1 (k.trans k1) w1, fun S1 A1 σ1 H1 s1 sa1 k1 w1 => q.bk _ _ _ _ (s1.setNone _) sa1 (k.trans k1) w1, fun S1 A1 σ1 H1 s1 sa1 k1 w1 => q.ct _ _ _ _ (s1.setNone _) sa1 (k.trans k1) w1, fun _ _ _ _ _ _ _ _ _ _ _ z => z⟩
    · rw [if_neg (by rw [hb]; exact Bool.false_ne_true)] at w
      rw [← e2]
      exact hnd_go F q t xr ss sa k w
theorem as_try {k : Nat} {X : Cx} {W : WX} {Ds : List String} {fs : List Str} {body : List Stmt} {h0 : ExceptHandler} {hds : List ExceptHandler} {pos : Pos} {wb : WS} {l : List (Value × Option Nat × Sui)} {hs : List Hnd} (B : Bd k X W) (F : Xfx X.K Ds fs) (hstk : X.stack = X.env :: X.outer) (hfrm : X.env.frame = some X.env.locals)
    (hb : ∀ (W' : WX) (pn : List (Addr × Obj)) (xe : Value → Shared → Prop), Bd k (X.tr pn xe) W' → ASs (X.tr pn xe) W' body wb) (hh : HnOk X Ds (h0 :: hds) l hs) : AS X W (.Try body (h0 :: hds) [] [] pos) (wTry wb hs) :=
  ps_imp (ps_tries (tb := fun W' => LS X.K W' wb) hstk hfrm B.nd B.tk (fun W' pn xe tk p => hb W' pn xe (B.tr tk p)) (hh.ok B)) fun D σ H ⟨S, A, Da, ss, sa, q, w⟩ =>
    ⟨S, A, { Da with ex := fun x S1 A1 => hndL Da hs x S1 A1 }, ss, sa, ⟨q.nx, q.rt, q.bk, q.ct, fun x S1 A1 cls d σ1 H1 xr s1 sa1 k1 w1 => hnd_go F q hh xr s1 sa1 k1 w1⟩, w⟩
/-! ### e.f, isinstance(e, ..) -/
def wXf (i : Nat) (a : Addr) (d : Option Addr) (C : String) (f : Str) : WE := fun S A Q _ => match S[i]? with
  | some (some (.xv a' d' C' ns xs)) => a' = a ∧ d' = d ∧ C' = C ∧ ∃ z, (ns.zip xs).lookup f = some z ∧ Q z A
  | _ => False
theorem look_zip {K : PySem.W.Frag} {H : Hp} {f : Str} {z : Vl} : ∀ {xs : List Vl} {gs : List (Str × V)}, Rl K H xs (gs.map (·.2)) → ((gs.map (·.1)).zip xs).lookup f = some z → ∃ v, gs.lookup f = some v ∧ Re K H z v
  | [], [], _, e => by simp at e
  | [], _ :: _, r, _ => by have := r.length; simp at this
  | _ :: _, [], r, _ => by have := r.length; simp at this
  | x :: xs, (g, v) :: gs, r, e => by
    obtain ⟨v', ws, e2, r1, r2⟩ := r.cons_inv
    simp only [List.map_cons, List.cons.injEq] at e2
    obtain ⟨rfl, rfl⟩ := e2
    simp only [List.map_cons, List.zip_cons_cons, List.lookup_cons] at e ⊢
    cases hfg : f == g with
    | true => rw [hfg] at e; cases e; exact ⟨v, rfl, r1⟩
    | false => rw [hfg] at e; exact look_zip r2 e
theorem ae_xf {X : Cx} {a c : Addr} {C : String} {oe : Obj} {d : Option Addr} {pn : List (Addr × Obj)} {Ds : List String} {fs : List Str} {f n : Str} {i : Nat} {p pos : Pos} (F : Xfx X.K Ds fs) (hC : clsV X.K C = .ref c) (nk : xAnc C ≠ []) (hz : Zc (.ref c) d oe) (hf : ∃ vs, oe.data = .fields vs) (hfs : f ∈ fs)
    (hN : X.N[i]? = some n) (hv : Vis X.env.scope n) (hd : (n == ("__debug__" : Str)) = false := by decide) (hcd : (n == ("__classdict__" : Str)) = false := by decide) :
    AE (X.suite a ((a, oe) :: pn)) noW (.Attribute (.Name n p) f pos) (wXf i a d C f) := by
  have T := (F.ex _ _ nk hC).1
  refine pe_imp (pe_xf (exB_xfC T) (exB_no T hfs) hz hf (pe_var (X := X.suite a ((a, oe) :: pn)) (i := i) hN hv hd hcd)) ?_
  rintro σ H Q ⟨S, A, Qa, Ea, ss, sa, q, qx, w⟩
  unfold wXf at w
  split at w
  · rename_i a' d' C' ns xs he
    obtain ⟨rfl, rfl, rfl, z, hl, w⟩ := w
    obtain ⟨v, hv, r⟩ := ss.get _ _ he
    obtain ⟨rfl, r2⟩ := re_xv_inv r
    rcases r2 with ⟨_, rfl, _⟩ | ⟨dd, gs, rfl, hg, rfl, rl⟩
    · exact absurd hl (by simp)
    · obtain ⟨u, hu, ru⟩ := look_zip rl hl
      exact ⟨_, hv, rfl, rfl, dd, gs, u, rfl, hg, hu, q _ _ _ _ ru sa .refl w⟩
  · exact w.elim
/-- isinstance(e, D), isinstance(e, (D1, ..)) of the clause's own error -/
def wXi (i : Nat) (a : Addr) (d : Option Addr) (C : String) (Ds : List String) : WE := fun S A Q _ => match S[i]? with
  | some (some (.xv a' d' C' _ _)) => a' = a ∧ d' = d ∧ C' = C ∧ Q (.bl (isA C Ds)) A
  | _ => False
theorem xi_at {X : Cx} {a c : Addr} {C : String} {oe : Obj} {d : Option Addr} {pn : List (Addr × Obj)} {Ds : List String} {fs : List Str} {pins : List (Addr × Obj)} {σ : L2.St} {H : Hp} {s : Shared} (F : Xfx X.K Ds fs) (hC : clsV X.K C = .ref c) (nk : xAnc C ≠ []) (hz : Zc (.ref c) d oe) (hf : ∃ vs, oe.data = .fields vs) (I : Inv (X.suite a ((a, oe) :: pn)) pins σ H s)
    {dd : Option Addr} {gs : List (Str × V)} (hd : d = none ∨ ∃ dd gs, d = some dd ∧ H dd = some (.xd gs)) : ∃ P : Heap → Prop, PySem.W.KitX X.K (.ref a) (.ref c) P ∧ P s.heap := by
  have T := (F.ex _ _ nk hC).1
  unfold exB at T
  simp only [Bool.and_eq_true, decide_eq_true_eq] at T
  obtain ⟨⟨⟨⟨⟨⟨⟨h1, h2⟩, h3⟩, h4⟩, h5⟩, h6⟩, h7⟩, h8⟩ := T
  obtain ⟨ha, _⟩ := I.pin (a, oe) (List.mem_append_left _ List.mem_cons_self)
  obtain ⟨vs, hv⟩ := hf
  rcases hd with rfl | ⟨dd, gs, rfl, hg⟩
  · refine ⟨_, PySem.W.kitx_exc (ox := oe) (od := none) h7 h1 h2 h3 h5 F.hn F.ht h6, ha, hz.1, by unfold PySem.W.notCls; rw [hv] <;> rfl, ?_⟩
    rw [hz.2]; trivial
  · have hx : ObjOk X.prog X.w H s.heap dd (.xd gs) := I.hok dd _ hg
    obtain ⟨mA, hns, hr⟩ := hx
    obtain ⟨od, ho, hl⟩ := lookIn_ns hns
    refine ⟨_, PySem.W.kitx_exc (ox := oe) (od := some od) h7 h1 h2 h3 h5 F.hn F.ht h6, ha, hz.1, by unfold PySem.W.notCls; rw [hv] <;> rfl, ?_⟩
    rw [hz.2]; exact ho
/-- .. of one class -/
theorem ae_xi1 {X : Cx} {a c : Addr} {C D : String} {oe : Obj} {d : Option Addr} {pn : List (Addr × Obj)} {Ds : List String} {fs : List Str} {n : Str} {i : Nat} {e : Expr} {p p2 pos : Pos} (F : Xfx X.K Ds fs) (hC : clsV X.K C = .ref c) (nk : xAnc C ≠ []) (hz : Zc (.ref c) d oe) (hf : ∃ vs, oe.data = .fields vs) (hD : D ∈ Ds)
    (hg : Gl X "isinstance") (hm : X.mg "isinstance" = none) {cv : V} (he : PE (X.suite a ((a, oe) :: pn)) e (tC cv)) (hcv : ∀ u, RelV cv u → u = clsV X.K D)
    (hN : X.N[i]? = some n) (hv : Vis X.env.scope n) (hs : starEach [.Name n p, e] (X.suite a ((a, oe) :: pn)).env = (false, eval (.Name n p) (X.suite a ((a, oe) :: pn)).env) :: starEach [e] (X.suite a ((a, oe) :: pn)).env) (hs2 : starEach [e] (X.suite a ((a, oe) :: pn)).env = (false, eval e (X.suite a ((a, oe) :: pn)).env) :: starEach [] (X.suite a ((a, oe) :: pn)).env) (hpl : (backTo pos (starEach [e] (X.suite a ((a, oe) :: pn)).env)).any (·.1) = false) (hdb : (n == ("__debug__" : Str)) = false := by decide) (hcd : (n == ("__classdict__" : Str)) = false := by decide) :
    AE (X.suite a ((a, oe) :: pn)) noW (.Call (.Name "isinstance" p2) [.Name n p, e] [] pos) (wXi i a d C [D]) := by
  have call : CallR (X.suite a ((a, oe) :: pn)) (.builtin "isinstance") (fun xs H Q => xs = [.ref a, cv] ∧ (d = none ∨ ∃ dd gs, d = some dd ∧ H dd = some (.xd gs)) ∧ Q (.bl (isA C [D])) H) := by
    rintro pins s σ H xs us Q I r ⟨rfl, hd, q⟩
    obtain ⟨u, w, rfl, rx, rt⟩ := vals2 r
    cases rx
    obtain rfl := hcv _ rt
    obtain ⟨P, Z, hp⟩ := xi_at (gs := []) (dd := none) F hC nk hz hf I hd
    exact PySem.W.kia_one Z I.kIn hp ((F.ex _ _ nk hC).2 D hD).2 (fun z => nomatch z) fun tk => ⟨.bl _, H, I.kept (t' := tk) fun _ _ z => z, rfl, q⟩
  refine pe_imp (pe_callB (X := X.suite a ((a, oe) :: pn)) call hg hm (by decide +kernel) (pa_cons (pe_var (X := X.suite a ((a, oe) :: pn)) (i := i) hN hv hdb hcd) (pa_cons he pa_nil hs2) hs) (by decide) (by decide) hs hpl) ?_
  rintro σ H Q ⟨S, A, Qa, Ea, ss, sa, q, qx, w⟩
  unfold wXi at w
  split at w
  · rename_i a' d' C' ns xs hS
    obtain ⟨rfl, rfl, rfl, w⟩ := w
    obtain ⟨v, hv2, r⟩ := ss.get _ _ hS
    obtain ⟨rfl, r2⟩ := re_xv_inv r
    refine ⟨_, hv2, rfl, ?_, q _ _ _ _ (re_bl _) sa .refl w⟩
    rcases r2 with ⟨h, _⟩ | ⟨dd, gs, h, hg, _⟩
    · exact .inl h
    · exact .inr ⟨dd, gs, h, hg⟩
  · exact w.elim
end Rk

set_option Elab.async false
set_option linter.all false
set_option maxRecDepth 100000
set_option maxHeartbeats 1000000
/-! Calls that leave defaults out. -/
namespace Rk
open PySem PySem.Spec PyProof.Rows L2
/-- where a parameter's value comes from: the call's i-th value (the keywords' behind), a constant -/
inductive Sr where
  | p (i : Nat)
  | c (x : Vl)
def Sr.pl (xs : List Vl) : Sr → Vl
  | .p i => xs.getD i .non
  | .c x => x
def wSr (l : List Sr) (wf : WF) : WF := fun xs => wf (l.map (Sr.pl xs))
/-- .. the j-th default, the j-th keyword's default that the call leaves out -/
inductive Sm where
  | p (i : Nat)
  | d (j : Nat)
  | m (j : Nat)
def Sm.mu (us its mv : List Value) : Sm → Value
  | .p i => us.getD i .none
  | .d j => its.getD j .none
  | .m j => mv.getD j .none
def Sm.src (its mv : List Value) (dvs mvs : List L2.V) (dx mx : List Vl) : Sm → Src
  | .p i => .p i
  | .d j => .d (its.getD j .none) (dvs.getD j .non) (dx.getD j .non)
  | .m j => .d (mv.getD j .none) (mvs.getD j .non) (mx.getD j .non)
def Sm.sr (dx mx : List Vl) : Sm → Sr
  | .p i => .p i
  | .d j => .c (dx.getD j .non)
  | .m j => .c (mx.getD j .non)
def Sm.fits (n a b : Nat) : Sm → Bool
  | .p i => decide (i < n)
  | .d j => decide (j < a)
  | .m j => decide (j < b)
/-- constants, by value: of any heap -/
def Cst (K : PySem.W.Frag) : List Vl → List L2.V → Prop
  | [], vs => vs = []
  | x :: xs, vs => ∃ v ws, vs = v :: ws ∧ (∀ H, Re K H x v) ∧ Cst K xs ws
theorem Cst.get {K : PySem.W.Frag} : ∀ {xs : List Vl} {vs : List L2.V} {j : Nat}, Cst K xs vs → ∀ H, Re K H (xs.getD j .non) (vs.getD j .non)
  | [], vs, j, h => fun H => by rw [show vs = [] from h]; simp; exact re_non H
  | x :: xs, _, 0, ⟨v, ws, e, r, t⟩ => fun H => by subst e; simpa using r H
  | x :: xs, _, j + 1, ⟨v, ws, e, r, t⟩ => fun H => by subst e; simpa using Cst.get t H
theorem Cst.len {K : PySem.W.Frag} : ∀ {xs : List Vl} {vs : List L2.V}, Cst K xs vs → xs.length = vs.length
  | [], vs, h => by rw [show vs = [] from h]; rfl
  | x :: xs, _, ⟨v, ws, e, r, t⟩ => by subst e; simp [Cst.len t]
theorem vals_getD {vs : List L2.V} {us : List Value} (r : Vals vs us) {j : Nat} (h : j < vs.length) : RelV (vs.getD j .non) (us.getD j .none) := by
  obtain ⟨u, hu, ru⟩ := r.get (i := j) (x := vs[j]) (by simp [h])
  rw [List.getD_eq_getElem?_getD, List.getD_eq_getElem?_getD, hu, List.getElem?_eq_getElem h]
  exact ru
section
variable {X : Cx} {W : WX} {k n : Nat} {f : Addr} {fd : FuncData} {ps ks : List Str} {wf : WF}
theorem runs_sm {l : List Sm} {dvs mvs : List L2.V} {dx mx : List Vl} {its mv : List Value} (B : Bd k X W) (G : Gn X.prog X.w X.K X.mg X.base k f fd ps wf) (hl : l.length = ps.length) (hf : l.all (Sm.fits (n + ks.length) dx.length mx.length) = true)
    (cd : Cst X.K dx dvs) (cm : Cst X.K mx mvs) (rd : Vals dvs its) (rm : Vals mvs mv)
    (hb : ∀ (s : Shared) (us ws : List Value), X.K.In s.heap → us.length = n → ws.length = ks.length → BindsTo s fd ⟨us, ks.zip ws⟩ (ps.zip (l.map (Sm.mu (us ++ ws) its mv)))) : Runs X W f n ks (wSr (l.map (Sm.sr dx mx)) wf) := by
  have e : ∀ xs : List Vl, (l.map (Sm.src its mv dvs mvs dx mx)).map (Src.pl xs) = (l.map (Sm.sr dx mx)).map (Sr.pl xs) := fun xs => by
    rw [List.map_map, List.map_map]; apply List.map_congr_left; intro a _; cases a <;> rfl
  have e2 : ∀ us : List Value, (l.map (Sm.src its mv dvs mvs dx mx)).map (Src.mu us) = l.map (Sm.mu us its mv) := fun us => by
    rw [List.map_map]; apply List.map_congr_left; intro a _; cases a <;> rfl
  have R := runs_sel (ks := ks) (n := n) (l := l.map (Sm.src its mv dvs mvs dx mx)) B G (by simpa using hl) (fun x hx => ?_) (fun s us ws X l1 l2 => by rw [e2]; exact hb s us ws X l1 l2)
  · intro pins σ H s Q us ws vs zs I r rz l1 l2 h
    refine R pins σ H s Q us ws vs zs I r rz l1 l2 ?_
    obtain ⟨xs, A, Qa, Ea, rl, hx, sa, q, qx, w⟩ := h
    refine ⟨xs, A, Qa, Ea, rl, hx, sa, q, qx, ?_⟩
    unfold wSel; rw [e]; exact w
  · obtain ⟨a, ha, rfl⟩ := List.mem_map.mp hx
    have := List.all_eq_true.mp hf a ha
    cases a with
    | p i => show i < n + ks.length; exact of_decide_eq_true this
    | d j => exact ⟨vals_getD rd (by rw [← cd.len]; exact of_decide_eq_true this), cd.get⟩
    | m j => exact ⟨vals_getD rm (by rw [← cm.len]; exact of_decide_eq_true this), cm.get⟩
/-- keyword-only defaults alone -/
theorem runs_kw {x qual : Str} {params : Arguments} {body : List Stmt} {scope : Scope} {kws : List (Str × L2.V)} {l : List Sm} {mx : List Vl} (ms : List (Str × L2.V)) (B : Bd k X W) (G : Gn X.prog X.w X.K X.mg X.base k f fd ps wf) (F : FunD X.K x qual params body scope [] kws f fd) (hk : kws ≠ []) (hms : ∀ q ∈ ms, q ∈ kws)
    (hl : l.length = ps.length) (hf : l.all (Sm.fits (n + ks.length) 0 mx.length) = true) (cm : Cst X.K mx (ms.map (·.2)))
    (h : ∀ (D : Addr) (doc pm : Value) (an : Option Addr) (cdv ct : Value) (us mv ws : List Value), us.length = n → mv.length = ms.length → ws.length = ks.length →
      KwChain D ((ms.map (·.1)).zip mv) (bindArgs (PySem.W.fnOf x qual params body scope .none (.ref D) doc pm an cdv ct) ⟨us, ks.zip ws⟩) (ps.zip (l.map (Sm.mu (us ++ ws) [] mv)))) : Runs X W f n ks (wSr (l.map (Sm.sr [] mx)) wf) := by
  obtain ⟨oc, od, dV, kV, doc, pm, an, cdv, ct, osl, rfl, lk, hcd, hD, hK⟩ := F.ex
  rcases hD with ⟨_, rfl⟩ | ⟨e, _⟩
  · rcases hK with e | ⟨D, rfl, hq⟩
    · exact absurd e hk
    · obtain ⟨mv, hl2, rk, hks⟩ := kwd_vals (ms := ms) fun q hm => hq q (hms q hm)
      exact runs_sm (dvs := []) (mvs := ms.map (·.2)) (its := []) B G hl hf rfl cm .nil rk fun s us ws X l1 l2 => BindsTo.of_looks fun M => KwChain.looks X hks (h D doc pm an cdv ct us mv ws l1 hl2 l2)
  · exact absurd rfl e
/-- positional defaults alone -/
theorem runs_df {x qual : Str} {params : Arguments} {body : List Stmt} {scope : Scope} {dvs : List L2.V} {l : List Sm} {dx : List Vl} (B : Bd k X W) (G : Gn X.prog X.w X.K X.mg X.base k f fd ps wf) (F : FunD X.K x qual params body scope dvs [] f fd) (hd : dvs ≠ [])
    (hl : l.length = ps.length) (hf : l.all (Sm.fits (n + ks.length) dx.length 0) = true) (cd : Cst X.K dx dvs)
    (h : ∀ (T : Addr) (kV doc pm : Value) (an : Option Addr) (cdv ct : Value) (us its ws : List Value), us.length = n → its.length = dvs.length → ws.length = ks.length →
      ∃ g, bindArgs (PySem.W.fnOf x qual params body scope (.ref T) kV doc pm an cdv ct) ⟨us, ks.zip ws⟩ = seqItems? (.ref T) >>= g ∧ g (some its.toArray) = pure (ps.zip (l.map (Sm.mu (us ++ ws) its [])))) : Runs X W f n ks (wSr (l.map (Sm.sr dx [])) wf) := by
  obtain ⟨oc, od, dV, kV, doc, pm, an, cdv, ct, osl, rfl, lk, hcd, hD, hK⟩ := F.ex
  rcases hD with ⟨e, _⟩ | ⟨_, T, o, its, m, rfl, lT, oT, rT⟩
  · exact absurd e hd
  · refine runs_sm (dvs := dvs) (mvs := []) (its := its) (mv := []) B G hl hf cd rfl rT .nil fun s us ws X l1 l2 => ?_
    obtain ⟨g, e1, e2⟩ := h T kV doc pm an cdv ct us its ws l1 rT.length.symm l2
    refine BindsTo.of_looks fun M => ?_
    rw [e1]
    exact looks_items X lT oT (.of_pure e2)
end
theorem cst_nil {K : PySem.W.Frag} : Cst K [] [] := rfl
theorem cst_cons {K : PySem.W.Frag} {x : Vl} {v : L2.V} {xs : List Vl} {vs : List L2.V} (r : ∀ H, Re K H x v) (t : Cst K xs vs) : Cst K (x :: xs) (v :: vs) := ⟨v, vs, rfl, r, t⟩
end Rk

set_option Elab.async false
set_option linter.all false
set_option maxRecDepth 100000
set_option maxHeartbeats 1000000
/-! Names of the top by their addresses; tables of defs; calls of a value; sorted texts; str, split, f-strings. -/
namespace Rk
open PySem PySem.Spec PyProof.Rows L2
theorem cA_of {K : PySem.W.Frag} {n : String} {a : Addr} (h : PySem.W.nsIn K mainGlobals (Str.ofString n) = some (some (.ref a))) : cA K n = a := by unfold cA; rw [h]
theorem clsV_of {K : PySem.W.Frag} {n : String} {a : Addr} (h : PySem.W.nsIn K mainGlobals (Str.ofString n) = some (some (.ref a))) : clsV K n = .ref a := by unfold clsV; rw [h]
theorem clsV_no {K : PySem.W.Frag} {n : String} (h : PySem.W.nsIn K mainGlobals (Str.ofString n) = some none) : clsV K n = .type n := by unfold clsV; rw [h]
theorem re_gl {K : PySem.W.Frag} {n : String} (H : Hp) : Re K H (.gl n) (.ref (cA K n)) := by unfold Re; rfl
/-- a def with keyword defaults, as it stands -/
structure Dk (K : PySem.W.Frag) (f : Addr) (fd : FuncData) (x qual : Str) (st : Stmt) : Prop where
  ex : ∃ (oc : Value) (od : Option Addr) (dV kV doc pm : Value) (an : Option Addr) (cdv ct : Value) (osl : Array (Option Value)),
    fd = PySem.W.fnOf x qual (defArgs st) (defBody st) (defScope st) dV kV doc pm an cdv ct ∧ K.lookup f = some ⟨oc, od, .func fd, osl⟩ ∧ PySem.W.codeIn K cdv qual = true
  kp : PySem.W.keepIn K (.ref f) = true
theorem Dk.gn {P : Program} {w : World} {K : PySem.W.Frag} {mg : Str → Option Value} {base : Heap} {x qual : Str} {st : Stmt} {f : Addr} {fd : FuncData} {N ps : List Str} {k : Nat} {wb : WS} (F : Dk K f fd x qual st) (S : FnScope N ps (defScope st))
    (hb : ∀ (cdv : Value) (A : Around) (outer : List Env) (s : Shared) (H : Hp) (E : XK), PySem.W.codeIn K cdv qual = true → Bd k (bodyX P w K mg base N qual (defScope st) f cdv A outer s H E) (bodyW E) → ASs (bodyX P w K mg base N qual (defScope st) f cdv A outer s H E) (bodyW E) (defBody st) wb) :
    Gn P w K mg base (k + 1) f fd ps (wFun N.length wb) := by
  obtain ⟨oc, od, dV, kV, doc, pm, an, cdv, ct, osl, rfl, lk, hcd⟩ := F.ex
  exact gn_of lk hcd S fun A outer s H E => hb cdv A outer s H E hcd
/-! ### a written dict from words to defs -/
def KTab (K : PySem.W.Frag) (w : World) (p : Addr) (tab : List (Str × String)) : Prop := ∃ es n, K.lookup p = some ⟨.type "dict", none, .dict es n, #[]⟩ ∧ PySem.W.KeysLit w.params es.toList ∧ (p == sysModules) = false ∧ ∀ z : Str, PySem.W.nsIn K p z = some ((tab.lookup z).map fun g => .ref (cA K g))
/-- entries as they stand -/
def EntK (K : PySem.W.Frag) : List DictEntry → List (Str × String) → Prop
  | [], t => t = []
  | e :: es, t => ∃ k tk g r, t = (k, g) :: r ∧ e.key = .str k tk ∧ e.val = .ref (cA K g) ∧ EntK K es r
theorem isStr_str {k z : Str} {tk : Tok} : (Value.str k tk).isStr z = (z == k) := by
  rw [PySem.W.isStr_of]
  show (k == z) = (z == k)
  by_cases h : z = k
  · subst h; rfl
  · rw [beq_eq_false_iff_ne.mpr h, beq_eq_false_iff_ne.mpr fun e => h e.symm]
theorem entK_find {K : PySem.W.Frag} {z : Str} : ∀ {es : List DictEntry} {t : List (Str × String)}, EntK K es t → (match es.find? (·.key.isStr z) with
    | some e => some (some e.val)
    | none => if es.any (·.refKey) then none else some none) = some ((t.lookup z).map fun g => Value.ref (cA K g))
  | [], t, h => by rw [show t = [] from h]; rfl
  | e :: es, _, ⟨k, tk, g, r, et, ek, ev, q⟩ => by
    subst et
    have ih := entK_find (z := z) q
    rw [List.find?_cons, List.lookup_cons, ek, isStr_str]
    cases h : z == k with
    | true => simp [ev]
    | false =>
      simp only
      have rk : e.refKey = false := by unfold DictEntry.refKey; rw [ek]
      rw [List.any_cons, rk, Bool.false_or]
      exact ih
theorem ktab_mk {K : PySem.W.Frag} {w : World} {p : Addr} {tab : List (Str × String)} {es : Array DictEntry} {n : Nat} (l : K.lookup p = some ⟨.type "dict", none, .dict es n, #[]⟩) (k : PySem.W.KeysLit w.params es.toList) (s : (p == sysModules) = false) (e : EntK K es.toList tab) : KTab K w p tab := by
  refine ⟨es, n, l, k, s, fun z => ?_⟩
  unfold PySem.W.nsIn
  rw [l]
  exact entK_find e
section
variable {X : Cx} {W : WX} {a b c e o tg iter : Expr} {es : List Expr} {pos p2 : Pos} {K : PySem.W.Frag}
/-- k in D, k not in D -/
def fTabIn (neg : Bool) (n : String) (tab : List (Str × String)) : F2 := fun x y A Q => y = .gl n ∧ ∃ z, x = .str z ∧ Q (.bl (neg != (tab.lookup z).isSome)) A
theorem o_tabIn {n : String} {tab : List (Str × String)} (ht : KTab X.K X.w (cA X.K n) tab) : O2 X (compareOp .In) (fTabIn false n tab) := by
  obtain ⟨es', nn, hl, hk, hs, hz⟩ := ht
  rintro pins s σ H v u vv uu Q I rv ru ⟨x, y, A, Qa, r1, r2, sa, q, rfl, z, rfl, w⟩
  obtain ⟨rfl, _⟩ := re_str_inv r1
  cases re_gl_inv r2
  obtain ⟨t, rfl⟩ := rv
  cases ru
  refine wpAny_in_of (strKind_is X.prog X.w z t) hs (PySem.W.mapOf_K (prog := X.prog) (w := X.w) I.kIn hl hk) ⟨.bl _, H, I.tok _, rfl, q _ _ _ _ (re_bl _) sa .refl ?_⟩
  rw [PySem.W.find_K hl (hz z)]; simpa using w
theorem o_tabNi {n : String} {tab : List (Str × String)} (ht : KTab X.K X.w (cA X.K n) tab) : O2 X (compareOp .NotIn) (fTabIn true n tab) := by
  obtain ⟨es', nn, hl, hk, hs, hz⟩ := ht
  rintro pins s σ H v u vv uu Q I rv ru ⟨x, y, A, Qa, r1, r2, sa, q, rfl, z, rfl, w⟩
  obtain ⟨rfl, _⟩ := re_str_inv r1
  cases re_gl_inv r2
  obtain ⟨t, rfl⟩ := rv
  cases ru
  refine wpAny_notIn_of (strKind_is X.prog X.w z t) hs (PySem.W.mapOf_K (prog := X.prog) (w := X.w) I.kIn hl hk) ⟨.bl _, H, I.tok _, rfl, q _ _ _ _ (re_bl _) sa .refl ?_⟩
  rw [PySem.W.find_K hl (hz z)]; simpa using w
/-- D[k] -/
def fTabIx (n : String) (tab : List (Str × String)) : F2 := fun x y A Q => x = .gl n ∧ ∃ z g, y = .str z ∧ tab.lookup z = some g ∧ Q (.gl g) A
theorem o_tabIx {n : String} {tab : List (Str × String)} (ht : KTab X.K X.w (cA X.K n) tab) : OI X (fTabIx n tab) := by
  obtain ⟨es', nn, hl, hk, hs, hz⟩ := ht
  rintro va sl pins s σ H v u vv uu Q I rv ru ⟨x, y, A, Qa, r1, r2, sa, q, rfl, z, g, rfl, hg, w⟩ hv
  obtain ⟨rfl, _⟩ := re_str_inv r2
  cases re_gl_inv r1
  refine ix_kdict va sl pins s σ H _ _ _ _ Q I rv ru ⟨_, z, .ref (cA X.K g), rfl, rfl, ⟨es', nn, _, hl, hk, by rw [hz, hg]; rfl, rfl⟩, q _ _ _ _ (re_gl _) sa .refl w⟩ hv
/-! ### the call of a value that is one of some defs -/
def GlR (X : Cx) (W : WX) (n : Nat) : List (String × WF) → Prop
  | [] => True
  | (g, wf) :: r => (Runs X W (cA X.K g) n [] wf ∧ PySem.W.keepIn X.K (.ref (cA X.K g)) = true) ∧ GlR X W n r
theorem gr_nil {n : Nat} : GlR X W n [] := trivial
theorem gr_cons {n : Nat} {g : String} {wf : WF} {r : List (String × WF)} (R : Runs X W (cA X.K g) n [] wf) (k : PySem.W.keepIn X.K (.ref (cA X.K g)) = true) (t : GlR X W n r) : GlR X W n ((g, wf) :: r) := ⟨⟨R, k⟩, t⟩
theorem GlR.get {n : Nat} {g : String} {wf : WF} : ∀ {tab : List (String × WF)}, GlR X W n tab → tab.lookup g = some wf → Runs X W (cA X.K g) n [] wf ∧ PySem.W.keepIn X.K (.ref (cA X.K g)) = true
  | [], _, e => by simp at e
  | (h, w2) :: r, ⟨q, t⟩, e => by
    rw [List.lookup_cons] at e
    cases hh : g == h with
    | true => rw [hh] at e; cases e; rw [beq_iff_eq.mp hh]; exact q
    | false => rw [hh] at e; exact GlR.get t e
def wGl (n : Nat) (tab : List (String × WF)) (wf : WE) (wa : WA) : WE := fun S A Q E => wf S A (fun x A1 => ∃ g w, x = .gl g ∧ tab.lookup g = some w ∧ wa S A1 (fun xs A2 => xs.length = n ∧ w xs A2 Q E) E) E
theorem ae_gl {f : Expr} {n : Nat} {tab : List (String × WF)} {wf : WE} {wa : WA} (G : GlR X W n tab) (hf : AE X W f wf) (ha : AA X W (e :: es) wa)
    (hc : eval (.Call f (e :: es) [] pos) X.env = (do
      let v ← eval f X.env
      callWith pos v [] (backTo pos (starEach (e :: es) X.env)) (backToKw pos (keywordEach [] X.env))) := by rfl)
    (he : starEach (e :: es) X.env = (false, eval e X.env) :: starEach es X.env := by exact starOf rfl) (hpl : (backTo pos (starEach es X.env)).any (·.1) = false := by exact starsOf rfl) : AE X W (.Call f (e :: es) [] pos) (wGl n tab wf wa) := by
  refine ⟨fun pins s σ H Q I ⟨S, A, Qa, Ea, ss, sa, q, qx, w⟩ => ?_⟩
  rw [hc]
  refine wpAny_bind (thn (hf.run pins s σ H (fun v H1 => ∃ x A1, Re X.K H1 x v ∧ SA X.K A1 H1 ∧ Keep H H1 ∧ ∃ g w, x = .gl g ∧ tab.lookup g = some w ∧ wa S A1 (fun xs A2 => xs.length = n ∧ w xs A2 Qa Ea) Ea) I
    ⟨S, A, _, Ea, ss, sa, fun x A1 v H1 r1 sa1 k1 w1 => ⟨x, A1, r1, sa1, k1, w1⟩, qx, w⟩) fun u s1 ⟨v, H1, I1, rv, x, A1, r1, sa1, k1, g, w, ex, hg, w1⟩ => ?_)
  subst ex
  cases re_gl_inv r1
  cases rv
  obtain ⟨R, kp⟩ := G.get hg
  refine PySem.W.callWith_K (h₀ := X.base) I1.ok.mod.kin kp (thn (ha.run pos pins s1 σ H1 _ I1 (la_call (Q := Q) (wf := w) ⟨S, A1, Qa, Ea, ss.keep k1, sa1, q.keep k1, qx.keep k1, w1⟩)) fun us s2 ⟨vs, H2, I2, r, q2⟩ => ⟨I2.kIn, ?_⟩) he hpl
  have hu : us.length = n := by
    obtain ⟨xs, _, _, _, rl, hl, _⟩ := q2
    rw [← r.length, ← rl.length, hl]
  exact R pins σ H2 s2 Q us [] vs [] I2 r .nil hu rfl (by simpa using q2)
/-! ### sorted texts -/
def leT (s t : Str) : Bool := !decide (t.cps.toList < s.cps.toList)
def sortT (xs : List Str) : List Str := xs.mergeSort leT
theorem leT_trans : ∀ a b c : Str, leT a b = true → leT b c = true → leT a c = true := by
  intro a b c h1 h2
  simp only [leT, Bool.not_eq_true', decide_eq_false_iff_not, List.not_lt] at *
  exact List.le_trans h1 h2
theorem leT_total : ∀ a b : Str, (leT a b || leT b a) = true := by
  intro a b
  simp only [leT, Bool.or_eq_true, Bool.not_eq_true', decide_eq_false_iff_not, List.not_lt]
  exact List.le_total _ _
theorem leT_anti {a b : Str} (h1 : leT a b = true) (h2 : leT b a = true) : a = b := by
  simp only [leT, Bool.not_eq_true', decide_eq_false_iff_not, List.not_lt] at *
  have := List.le_antisymm h1 h2
  cases a; cases b
  simp only [Str.mk.injEq] at *
  exact Array.toList_inj.mp this
theorem sort_unique : ∀ {xs ys : List Str}, xs.Perm ys → xs.Pairwise (fun a b => leT a b = true) → ys.Pairwise (fun a b => leT a b = true) → xs = ys
  | [], ys, p, _, _ => (List.nil_perm.mp p).symm
  | x :: xs, [], p, _, _ => by have := p.length_eq; simp at this
  | x :: xs, y :: ys, p, h1, h2 => by
    obtain ⟨a1, b1⟩ := List.pairwise_cons.mp h1
    obtain ⟨a2, b2⟩ := List.pairwise_cons.mp h2
    have e : x = y := by
      have m1 : x ∈ y :: ys := p.mem_iff.mp List.mem_cons_self
      have m2 : y ∈ x :: xs := p.mem_iff.mpr List.mem_cons_self
      rcases List.mem_cons.mp m1 with h | h
      · exact h
      · rcases List.mem_cons.mp m2 with g | g
        · exact g.symm
        · exact leT_anti (a1 y g) (a2 x h)
    subst e
    rw [sort_unique (List.Perm.cons_inv p) b1 b2]
theorem sortT_perm (xs : List Str) : (sortT xs).Perm xs := List.mergeSort_perm xs leT
theorem sortT_sorted (xs : List Str) : (sortT xs).Pairwise (fun a b => leT a b = true) := List.pairwise_mergeSort leT_trans leT_total xs
theorem strL_inv : ∀ {xs : List Vl} {ss : List Str}, strL xs = some ss → xs = ss.map .str
  | [], ss, e => by cases e; rfl
  | x :: xs, ss, e => by
    cases x with
    | str b =>
      have e : (strL xs).map (b :: ·) = some ss := e
      cases h : strL xs with
      | none => rw [h] at e; cases e
      | some cs => rw [h] at e; cases e; rw [strL_inv h]; rfl
    | _ => cases e
theorem rl_strs {H : Hp} : ∀ {ss : List Str}, (∀ s ∈ ss, okS s) → Rl K H (ss.map .str) (ss.map V.str)
  | [], _ => .nil
  | s :: ss, h => .cons (re_str (h s List.mem_cons_self) _) (rl_strs fun t ht => h t (List.mem_cons_of_mem _ ht))
theorem rl_oks {H : Hp} : ∀ {ss : List Str} {vs : List V}, Rl K H (ss.map .str) vs → ∀ s ∈ ss, okS s
  | [], _, _, s, hs => nomatch hs
  | t :: ss, _, r, s, hs => by
    obtain ⟨v, ws, rfl, r1, r2⟩ := r.cons_inv
    rcases List.mem_cons.mp hs with rfl | hs
    · exact (re_str_inv r1).2
    · exact rl_oks r2 s hs
theorem rising_pw : ∀ {ss : List Str} {p : Str}, risingS p ss = true → (p :: ss).Pairwise (fun a b => leT a b = true)
  | [], p, _ => by simp
  | x :: r, p, h => by
    unfold risingS at h
    rw [Bool.and_eq_true, ltCps_eq] at h
    have ih := rising_pw h.2
    refine List.pairwise_cons.mpr ⟨fun y hy => ?_, ih⟩
    have hx : leT p x = true := h.1
    rcases List.mem_cons.mp hy with rfl | hy
    · exact hx
    · exact leT_trans _ _ _ hx ((List.pairwise_cons.mp ih).1 y hy)
theorem rising_sorted {ss : List Str} (h : sortedS ss = true) : ss.Pairwise (fun a b => leT a b = true) := by
  cases ss with
  | nil => simp
  | cons x r => exact rising_pw h
theorem cr_sortedTup : CallR X (.builtin "sorted") (fun vs H Q => ∃ (a : Addr) (xs : List Str), vs = [V.ref a] ∧ SqT X.K H a (xs.map V.str) ∧ xs.length < 64 ∧ ∀ (ys : List Str) (p : Addr), ys.Perm xs → sortedS ys = true → H p = none → Q (.ref p) (upd H p (.lst (ys.map V.str)))) := by
  intro pins s σ H vs us Q I r h
  obtain ⟨a, xs, rfl, hs, h64, q⟩ := h
  obtain ⟨its, rv, ⟨o, ho, hc, n, hd⟩, _⟩ := I.tuple hs
  rw [Vals.ref1 r]
  have hl := rv.length
  rw [List.length_map] at hl
  refine Calls.call_function_entry PyProof.Rows.kind_sorted PyProof.Rows.plain_sorted PyProof.Rows.entry_sorted (PyProof.Rows.args_sorted1 _) ?_
  unfold Builtin.«sorted»
  refine wpAny_bind (m := checkCount "sorted" 1 1 _) (wpAny_pure ?_)
  refine wpAny_bind (wpAny_collect_seq a (T := "tuple") (.inr rfl) ho hc hd (fun h' hk => ?_) (by rw [List.size_toArray, ← hl, sizeLine_eq]; omega))
  have hS : StrsAre its xs := rv.strs
  have I1 : Inv X pins σ H { s with heap := h' } := I.kept (t' := s.toks) hk
  show wpAny _ _ (newList its >>= _) _ _ _
  refine wpAny_bind (wpAny_newList ?_ (by rw [← hl, sizeLine_eq]; omega))
  have hoL : (h'.push (seqObj "list" its.toArray 0)).get? h'.objs.size = some (seqObj "list" its.toArray 0) := Heap.get?_push_size _ rfl
  show wpAny _ _ _ _ _ { s with heap := h'.push (seqObj "list" its.toArray 0) }
  refine wpAny_bind (wpAny_holding (wpAny_call_entry PyProof.Rows.slot_list_sort ⟨_, hoL, rfl⟩ PyProof.Rows.entry_list_sort
    (list_sort_treeK strKind_oneLt (s := { s with heap := h'.push (seqObj "list" its.toArray 0) }) hoL hS.keysOf (fun v₁ v₂ rest e => keyKind_strs (by rw [← e]; exact hS)) (by rw [← hl]; exact h64) fun st' hp hz => ⟨_, rfl, ?_⟩)
    (PyProof.Rows.args_list_sort _)))
  obtain ⟨ys, g1, g2, g3⟩ := sorted_out_str hS hp hz
  obtain ⟨e', he'⟩ := PyProof.Rows.sortedHeap_at (vs := its) (out := (arrOf st').map (·.2)) hoL
  have hlen : (ys.map V.str).length ≤ sizeLine := by
    rw [List.length_map, g2.length_eq, sizeLine_eq]; omega
  refine wpAny_pure ⟨_, rfl, .ref h'.objs.size, upd H h'.objs.size (.lst (ys.map V.str)), I1.laid (t' := s.toks) (fun b u e => ?_) (Nat.le_refl _)
    (show ObjOk X.prog X.w _ _ _ (.lst (ys.map V.str)) from ⟨hlen, ((arrOf st').map (·.2)).toList, e', vals_of_strs g1, by rw [Array.toArray_toList]; exact he'⟩), rfl, q ys _ g2 g3 (I1.hok.fresh (Nat.le_refl _))⟩
  have hb : b < h'.objs.size := Heap.lt_size e
  rw [PyProof.Rows.sortedHeap_old (Nat.ne_of_lt hb) (by rw [size_push']; exact Nat.lt_succ_of_lt hb)]
  exact Heap.get?_push_of_some _ e
/-- the items of a list or a tuple -/
def seqW (A : Ah) (x : Vl) (R : List Vl → Prop) : Prop := match x with
  | .tup ys => R ys
  | x => seqV A x R
def fSorted (m : Md) : FC := fun xs A Q => match xs with
  | [x] => seqW A x fun ys => ∃ ss, strL ys = some ss ∧ ss.length < 64 ∧ newL m ((sortT ss).map .str) A Q
  | _ => False
theorem o_sorted (m : Md) (hc : X.calm = true) (hu : X.A.units + 64 < cLine) : OC X (.builtin "sorted") (fSorted m) := by
  intro pins s σ H vs us Q I r ⟨xs, A, Qa, rl, sa, q, w⟩
  obtain ⟨x, rfl, w⟩ := fc1 (f := fun x A Q => seqW A x fun ys => ∃ ss, strL ys = some ss ∧ ss.length < 64 ∧ newL m ((sortT ss).map .str) A Q) w
  obtain ⟨v, rfl, rx⟩ := rl.one
  have lists : (seqV A x fun ys => ∃ ss, strL ys = some ss ∧ ss.length < 64 ∧ newL m ((sortT ss).map .str) A Qa) → wpAny (model X.prog X.w) X.A (call (.builtin "sorted") us) (EP X pins σ Q) X.xe s := fun w => by
    obtain ⟨p, ys, ws, rfl, sq, l, ss, hs, few, w⟩ := seqV_of sa rx w
    rw [strL_of hs l] at sq
    rw [strL_inv hs] at l
    refine gh (cr_sortedS pins s σ H _ us _ I r ⟨p, ss, rfl, .inl sq, few, fun zs p' hp srt hn => ?_⟩)
    have e : zs = sortT ss := sort_unique (hp.trans (sortT_perm ss).symm) (rising_sorted srt) (sortT_sorted ss)
    subst e
    exact ql_new q sa (rl_strs fun t ht => rl_oks l t ((sortT_perm ss).mem_iff.mp ht)) w p' hn
  cases x with
  | tup ys =>
    obtain ⟨ss, hs, few, w⟩ := w
    obtain ⟨p, ws, rfl, st, l⟩ := re_tup_inv rx
    rw [strL_of hs l] at st
    rw [strL_inv hs] at l
    refine gh (cr_sortedTup pins s σ H _ us _ I r ⟨p, ss, rfl, st, few, fun zs p' hp srt hn => ?_⟩)
    have e : zs = sortT ss := sort_unique (hp.trans (sortT_perm ss).symm) (rising_sorted srt) (sortT_sorted ss)
    subst e
    exact ql_new q sa (rl_strs fun t ht => rl_oks l t ((sortT_perm ss).mem_iff.mp ht)) w p' hn
  | _ => exact lists w
/-! ### str(int), int(text), texts split, f-strings -/
def natL (i : Int) : Prop := i.natAbs.log2 < 1920
def fStr : FC := fun xs A Q => match xs with
  | [.int i] => natL i ∧ okS (toString i) ∧ Q (.str (toString i)) A
  | [.str s] => Q (.str s) A
  | _ => False
end
/-! ### isinstance(e, (D1, ..)) of a clause's own error -/
def tCs (cvs : List V) : TA := fun _ H Q => Q cvs H
def Xt (K : PySem.W.Frag) (Ds : List String) : List V → List String → Prop
  | [], ns => ns = []
  | v :: vs, ns => ∃ D r, ns = D :: r ∧ D ∈ Ds ∧ (∀ u, RelV v u → u = clsV K D) ∧ Xt K Ds vs r
theorem xt_nil {K : PySem.W.Frag} {Ds : List String} : Xt K Ds [] [] := rfl
theorem xt_cons {K : PySem.W.Frag} {Ds : List String} {v : V} {vs : List V} {D : String} {r : List String} (h : D ∈ Ds) (e : ∀ u, RelV v u → u = clsV K D) (t : Xt K Ds vs r) : Xt K Ds (v :: vs) (D :: r) := ⟨D, r, rfl, h, e, t⟩
theorem xt_kit {K : PySem.W.Frag} {Ds : List String} {fs : List Str} {C : String} {c : Addr} (F : Xfx K Ds fs) (nk : xAnc C ≠ []) (hC : clsV K C = .ref c) : ∀ {cvs : List V} {ns : List String} {us : List Value}, Xt K Ds cvs ns → Vals cvs us → PySem.W.kitAny K (.ref c) us = some (isA C ns)
  | [], _, _, h, r => by rw [show _ = [] from h]; cases r; rfl
  | v :: vs, _, _, ⟨D, q, e, hD, hv, t⟩, r => by
    subst e
    cases r with
    | cons r1 r2 =>
      cases hv _ r1
      have ih := xt_kit F nk hC t r2
      unfold PySem.W.kitAny
      rw [((F.ex _ _ nk hC).2 D hD).2]
      have e : isA C (D :: q) = (isA C [D] || isA C q) := by unfold isA; simp
      rw [e]
      cases h : isA C [D] with
      | true => rfl
      | false => simpa using ih
theorem ae_xiT {X : Cx} {a c : Addr} {C : String} {oe : Obj} {d : Option Addr} {pn : List (Addr × Obj)} {Ds ns : List String} {fs : List Str} {n : Str} {i kk : Nat} {es : List Expr} {cvs : List V} {p p2 tp pos : Pos} (F : Xfx X.K Ds fs) (hC : clsV X.K C = .ref c) (nk : xAnc C ≠ []) (hz : Zc (.ref c) d oe) (hf : ∃ vs, oe.data = .fields vs)
    (hg : Gl X "isinstance") (hm : X.mg "isinstance" = none) (ha : PA (X.suite a ((a, oe) :: pn)) es (tCs cvs)) (xt : Xt X.K Ds cvs ns)
    (hN : X.N[i]? = some n) (hv : Vis X.env.scope n) (hs : starEach [.Name n p, .Tuple es kk tp] (X.suite a ((a, oe) :: pn)).env = (false, eval (.Name n p) (X.suite a ((a, oe) :: pn)).env) :: starEach [.Tuple es kk tp] (X.suite a ((a, oe) :: pn)).env) (hs2 : starEach [.Tuple es kk tp] (X.suite a ((a, oe) :: pn)).env = (false, eval (.Tuple es kk tp) (X.suite a ((a, oe) :: pn)).env) :: starEach [] (X.suite a ((a, oe) :: pn)).env) (hpl : (backTo pos (starEach [.Tuple es kk tp] (X.suite a ((a, oe) :: pn)).env)).any (·.1) = false) (few : cvs.length ≤ 100 := by simp) (hdb : (n == ("__debug__" : Str)) = false := by decide) (hcd : (n == ("__classdict__" : Str)) = false := by decide) :
    AE (X.suite a ((a, oe) :: pn)) noW (.Call (.Name "isinstance" p2) [.Name n p, .Tuple es kk tp] [] pos) (wXi i a d C ns) := by
  have call : CallR (X.suite a ((a, oe) :: pn)) (.builtin "isinstance") (fun xs H Q => ∃ q us, xs = [.ref a, .ref q] ∧ H q = some (.frz (tupO us) (.tup cvs)) ∧ (d = none ∨ ∃ dd gs, d = some dd ∧ H dd = some (.xd gs)) ∧ Q (.bl (isA C ns)) H) := by
    rintro pins s σ H xs us Q I r ⟨q, ws, rfl, hq, hd, w⟩
    obtain ⟨u, u2, rfl, rx, rt⟩ := vals2 r
    cases rx; cases rt
    obtain ⟨e1, hl, its, rv, o, e2, hc, n2, e3⟩ := I.hok _ _ hq
    rw [e1] at e2; cases e2
    have hi : its = ws := by
      have : (Data.seq ws.toArray : Data) = Data.seq its.toArray n2 := e3
      injection this with h1 h2
      have := congrArg Array.toList h1
      simpa using this.symm
    subst hi
    obtain ⟨P, Z, hp⟩ := xi_at (gs := []) (dd := none) F hC nk hz hf I hd
    exact PySem.W.kia_tup Z I.kIn hp e1 (xt_kit F nk hC xt rv) (fun z => nomatch z) fun tk => ⟨.bl _, H, I.kept (t' := tk) fun _ _ z => z, rfl, w⟩
  refine pe_imp (pe_callB (X := X.suite a ((a, oe) :: pn)) call hg hm (by decide +kernel) (pa_cons (pe_var (X := X.suite a ((a, oe) :: pn)) (i := i) hN hv hdb hcd) (pa_cons (pe_tupS ha) pa_nil hs2) hs) (by decide) (by decide) hs hpl) ?_
  rintro σ H Q ⟨S, A, Qa, Ea, ss, sa, q, qx, w⟩
  unfold wXi at w
  split at w
  · rename_i a' d' C' ns' xs hS
    obtain ⟨rfl, rfl, rfl, w⟩ := w
    obtain ⟨v, hv2, r⟩ := ss.get _ _ hS
    obtain ⟨rfl, r2⟩ := re_xv_inv r
    refine ⟨_, hv2, by show cvs.length ≤ 16777216; omega, fun q' us hq' => ⟨q', us, rfl, upd_same, ?_, ?_⟩⟩
    · rcases r2 with ⟨h, _⟩ | ⟨dd, gs, h, hg, _⟩
      · exact .inl h
      · exact .inr ⟨dd, gs, h, by rw [upd_ne (ne_of_none hg hq')]; exact hg⟩
    · exact q _ _ _ _ (re_bl _) (sa.newU hq') (.new hq') w
  · exact w.elim

/-! ### three names at once -/
theorem Rl.three {K : PySem.W.Frag} {H : Hp} {x y z : Vl} {vs : List V} (h : Rl K H [x, y, z] vs) : ∃ v u t, vs = [v, u, t] ∧ Re K H x v ∧ Re K H y u ∧ Re K H z t := by
  obtain ⟨v, ws, rfl, r, h2⟩ := h.cons_inv
  obtain ⟨u, t, rfl, q, q'⟩ := h2.two
  exact ⟨v, u, t, rfl, r, q, q'⟩
def wPar3 (i j l : Nat) (wa : WA) : WS := fun D S A => wa S A (fun xs A1 => ∃ x y z, xs = [x, y, z] ∧ D.nx (((S.set i (some x)).set j (some y)).set l (some z)) A1) (fun x A1 => D.ex x S A1)
theorem as_par3 {X : Cx} {W : WX} {a b c : Expr} {pos : Pos} {i j l : Nat} {x y z : Str} {px py pz pt : Pos} {kt k2 pt2} {wa : WA} (ha : AA X W [a, b, c] wa) (h : ∀ {t}, PA X [a, b, c] t → PS X (.Assign [.Tuple [.Name x px, .Name y py, .Name z pz] kt pt] (.Tuple [a, b, c] k2 pt2) pos) (tPar3 i j l t)) :
    AS X W (.Assign [.Tuple [.Name x px, .Name y py, .Name z pz] kt pt] (.Tuple [a, b, c] k2 pt2) pos) (wPar3 i j l wa) := by
  refine ps_imp (h ha) fun D σ H ⟨S, A, Da, ss, sa, q, w⟩ => ?_
  refine ⟨S, A, _, _, ss, sa, fun xs A1 vs H1 r1 sa1 k1 w1 => ?_, q.ex.at ss, w⟩
  obtain ⟨x, y, z, rfl, w1⟩ := w1
  obtain ⟨v, u, t, rfl, r, r', r''⟩ := r1.three
  exact ⟨v, u, t, rfl, q.nx _ _ _ _ ((((ss.keep k1).set i r).set j r').set l r'') sa1 k1 w1⟩
@[simp ↓] theorem e_wPar3 {i j l : Nat} {r : WA} {D : Es} {S : Sl} {A : Ah} : wPar3 i j l r D S A = r S A (fun xs A1 => ∃ x y z, xs = [x, y, z] ∧ D.nx (((S.set i (some x)).set j (some y)).set l (some z)) A1) (fun x A1 => D.ex x S A1) := id rfl
end Rk

set_option Elab.async false
set_option linter.all false
set_option maxRecDepth 100000
set_option maxHeartbeats 1000000
/-! repr of anything that is data, (empty) dicts within lists too. -/
namespace Rk
open PySem PySem.Spec PyProof.Rows L2
section
variable {X : Cx} {pins : List (Addr × Obj)} {σ : L2.St} {H : Hp} {s : Shared}
/-- an empty dict, as it stands -/
theorem Dq.dict0 (I : Inv X pins σ H s) {n : Nat} {v : V} {u : Value} {ds : List (PyData × PyData)} (h : Dq X.K H n v (.dict ds)) (r : RelV v u) : ds = [] ∧ ∃ a o m, u = .ref a ∧ (a == sysModules) = false ∧ s.heap.get? a = some o ∧ o.cls = .type "dict" ∧ o.data = .dict #[] m := by
  cases h with
  | dct hk =>
    cases r
    rcases hk with hk | hk
    · obtain ⟨_, hm, vs, kv, o, es, ep, ho, hc, hd, _, he, _⟩ := hk.ok I.hok
      cases kv
      obtain ⟨l⟩ := es
      cases l with
      | nil => exact ⟨rfl, _, o, ep, rfl, hm, ho, hc.1, hd⟩
      | cons a b => cases he
    · obtain ⟨_, hm, xs, kv, o, es, ep, ho, hc, hd, he, _⟩ := hk.ok I.hok
      cases kv
      obtain ⟨l⟩ := es
      cases l with
      | nil => exact ⟨rfl, _, o, ep, rfl, hm, ho, hc.1, hd⟩
      | cons a b => cases he
theorem reads_dict0 {h : Heap} {a : Addr} {o : Obj} {m : Nat} (ho : h.get? a = some o) (hc : o.cls = .type "dict") (hd : o.data = .dict #[] m) : ∃ as, Reads h (.ref a) (.dict []) as := ⟨_, .dict ho hc hd .nil .nil⟩
mutual
theorem Dq.repK (I : Inv X pins σ H s) : ∀ (d : PyData) (n : Nat) (v : V) (u : Value), Dq X.K H n v d → RelV v u → d.showable = true → d.shown.length ≤ sizeLine →
    (∃ as, Reads s.heap u d as) ∧ ∃ bs, ReadAtMost s.heap d.depth bs ∧ ReprK X.prog X.w bs s.heap d.depth u d.shown
  | .none, _, _, _, h, r, _, _ => by cases h; cases r; exact ⟨⟨_, .none⟩, [], by simp [ReadAtMost], by rw [PyData.shown]; exact .of_is .none _ _ _⟩
  | .bool b, _, _, _, h, r, _, _ => by cases h; cases r; exact ⟨⟨_, .bool b⟩, [], by simp [ReadAtMost], by rw [PyData.shown]; exact .of_is (.bool b) _ _ _⟩
  | .int i, _, _, _, h, r, hs, _ => by cases h; obtain ⟨t, rfl⟩ := r; exact ⟨⟨_, .int i t⟩, [], by simp [ReadAtMost], by rw [PyData.shown]; exact .of_is (.int t (by simpa [PyData.showable] using hs)) _ _ _⟩
  | .str x, _, _, _, h, r, _, hz => by cases h; obtain ⟨t, rfl⟩ := r; rw [PyData.shown] at hz; exact ⟨⟨_, .str x t⟩, [], by simp [ReadAtMost], by rw [PyData.shown]; exact .of_is (.str x t hz) _ _ _⟩
  | .list ds, _, _, _, h, r, hs, hz => by
    cases h with
    | lst hq ha =>
      cases r
      obtain ⟨its, rv, ⟨o, n, ho, hc, ht, hd⟩, _⟩ := I.list hq
      rw [PyData.shown] at hz
      obtain ⟨⟨as, hr⟩, bs, hb, hk⟩ := Dq.repAllK I ds _ _ its ha rv (by simpa [PyData.showable] using hs) fun t ht => Nat.le_trans (listText_mem_le ht) hz
      have rr : Reads s.heap _ (.list ds) _ := .list ho hc hd hr
      have dd : (PyData.list ds).depth = PyData.depthAll ds + 1 := by rw [PyData.depth]
      have na := not_mem_of_deeper rr (by omega) hb
      refine ⟨⟨_, rr⟩, _, ReadAtMost.cons rr (by omega) hb, ?_⟩
      rw [dd, PyData.shown]
      cases its with
      | nil =>
        cases hr
        rw [PyData.shownAll, listText_nil]
        exact .listEmpty ho hc hd
      | cons x l => exact .list ho hc hd na (by simpa using hk.length_eq) fun i y e => hk.item i y (by simpa using e)
  | .tuple ds, _, _, _, h, r, hs, hz => by
    cases h with
    | tup hq ha =>
      cases r
      obtain ⟨its, rv, ⟨o, ho, hc, n, hd⟩, _⟩ := I.tuple hq
      rw [PyData.shown] at hz
      obtain ⟨⟨as, hr⟩, bs, hb, hk⟩ := Dq.repAllK I ds _ _ its ha rv (by simpa [PyData.showable] using hs) fun t ht => Nat.le_trans (tupleText_mem_le ht) hz
      have rr : Reads s.heap _ (.tuple ds) _ := .tuple ho hc hd hr
      have dd : (PyData.tuple ds).depth = PyData.depthAll ds + 1 := by rw [PyData.depth]
      have na := not_mem_of_deeper rr (by omega) hb
      refine ⟨⟨_, rr⟩, _, ReadAtMost.cons rr (by omega) hb, ?_⟩
      rw [dd, PyData.shown]
      exact .tuple ho hc hd na hk
  | .dict ds, _, v, u, h, r, _, _ => by
    obtain ⟨rfl, a, o, m, rfl, hm, ho, hc, hd⟩ := Dq.dict0 I h r
    have rr : Reads s.heap (.ref a) (.dict []) _ := .dict ho hc hd .nil .nil
    refine ⟨⟨_, rr⟩, [a], ?_, ?_⟩
    · intro b hb
      rw [List.mem_singleton.mp hb]
      exact ⟨_, _, rr, Nat.le_refl _⟩
    · simp only [PyData.depth, PyData.shown, PyData.shownKv_eq]
      exact ReprK.dict (as := []) ho hc hd hm (by simp) (ReprEntriesK.of_two _ _ _ .nil .nil)
theorem Dq.repAllK (I : Inv X pins σ H s) : ∀ (ds : List PyData) (n : Nat) (vs : List V) (us : List Value), Dqs X.K H n vs ds → Vals vs us → PyData.showableAll ds = true → (∀ t ∈ PyData.shownAll ds, t.length ≤ sizeLine) →
    (∃ as, ReadsAll s.heap us ds as) ∧ ∃ bs, ReadAtMost s.heap (PyData.depthAll ds) bs ∧ ReprAllK X.prog X.w bs s.heap (PyData.depthAll ds) us (PyData.shownAll ds)
  | [], _, _, _, h, r, _, _ => by cases h; cases r; exact ⟨⟨_, .nil⟩, [], by simp [ReadAtMost], by rw [PyData.shownAll]; exact .nil⟩
  | d :: ds, _, _, _, h, r, hs, hz => by
    cases h with
    | cons h1 h2 =>
      cases r with
      | cons r1 r2 =>
        rw [PyData.showableAll, Bool.and_eq_true] at hs
        rw [PyData.shownAll] at hz
        obtain ⟨⟨as, q1⟩, b1, m1, k1⟩ := Dq.repK I d _ _ _ h1 r1 hs.1 (hz _ List.mem_cons_self)
        obtain ⟨⟨cs, q2⟩, b2, m2, k2⟩ := Dq.repAllK I ds _ _ _ h2 r2 hs.2 fun t ht => hz t (List.mem_cons_of_mem _ ht)
        have le1 : d.depth ≤ PyData.depthAll (d :: ds) := by rw [PyData.depthAll]; exact Nat.le_max_left _ _
        have le2 : PyData.depthAll ds ≤ PyData.depthAll (d :: ds) := by rw [PyData.depthAll]; exact Nat.le_max_right _ _
        refine ⟨⟨_, .cons q1 q2⟩, b1 ++ b2, (m1.mono le1).append (m2.mono le2), ?_⟩
        rw [PyData.shownAll]
        exact .cons ((k1.more fun b hb => List.mem_append_left _ hb).level_le le1) (k2.more_le (fun b hb => List.mem_append_right _ hb) le2)
end
theorem Dq.shows (I : Inv X pins σ H s) (d : PyData) {n : Nat} {v : V} {a : Addr} (h : Dq X.K H n v d) (r : RelV v (.ref a)) (hs : d.showable = true) (hz : d.shown.length ≤ sizeLine) : ∃ T idr, ShowsBy X.prog X.w s.heap a d T idr := by
  cases d with
  | list ds =>
    cases h with
    | lst hq ha =>
      cases r
      obtain ⟨its, rv, ⟨o, n, ho, hc, ht, hd⟩, _⟩ := I.list hq
      rw [PyData.shown] at hz
      obtain ⟨⟨as, hr⟩, bs, hb, hk⟩ := Dq.repAllK I ds _ _ its ha rv (by simpa [PyData.showable] using hs) fun t ht => Nat.le_trans (listText_mem_le ht) hz
      have rr : Reads s.heap _ (.list ds) _ := .list ho hc hd hr
      have dd : (PyData.list ds).depth = PyData.depthAll ds + 1 := by rw [PyData.depth]
      have na := not_mem_of_deeper rr (by omega) hb
      refine ⟨"list", _, F.slot_list_repr.toG, F.slot_list_str, F.slot_list_format, fun s' k => ⟨o, k _ _ ho, hc⟩, fun A E s' Q hg hu hk0 hQ => ?_⟩
      rw [dd] at hu
      rw [PyData.shown] at hQ
      cases its with
      | nil =>
        cases hr
        rw [PyData.shownAll, listText_nil] at hQ
        exact call_list_repr_empty ⟨o, hk0 _ _ ho, hc⟩ (hk0 _ _ ho) hd (hQ s'.heap _ _ fun _ _ e => e)
      | cons x l => exact call_list_reprK ho hc hd na (by simpa using hk.length_eq) (fun i y e => hk.item i y (by simpa using e)) hg (fun b _ => Clear.nil b) hu hk0 hQ hz
  | tuple ds =>
    cases h with
    | tup hq ha =>
      cases r
      obtain ⟨its, rv, ⟨o, ho, hc, n, hd⟩, _⟩ := I.tuple hq
      rw [PyData.shown] at hz
      obtain ⟨⟨as, hr⟩, bs, hb, hk⟩ := Dq.repAllK I ds _ _ its ha rv (by simpa [PyData.showable] using hs) fun t ht => Nat.le_trans (tupleText_mem_le ht) hz
      have rr : Reads s.heap _ (.tuple ds) _ := .tuple ho hc hd hr
      have dd : (PyData.tuple ds).depth = PyData.depthAll ds + 1 := by rw [PyData.depth]
      have na := not_mem_of_deeper rr (by omega) hb
      refine ⟨"tuple", _, F.slot_tuple_repr, F.slot_tuple_str, F.slot_tuple_format, fun s' k => ⟨o, k _ _ ho, hc⟩, fun A E s' Q hg hu hk0 hQ => ?_⟩
      rw [dd] at hu
      rw [PyData.shown] at hQ
      exact call_tuple_reprK ho hc hd na hk hg (fun b _ => Clear.nil b) hu hk0 hQ hz
  | dict ds =>
    obtain ⟨rfl, a, o, m, e, hm, ho, hc, hd⟩ := Dq.dict0 I h r
    cases e
    rw [PyData.shown, PyData.shownKv_eq] at hz
    refine ⟨"dict", _, F.slot_dict_repr, F.slot_dict_str, F.slot_dict_format, fun s' k => ⟨o, k _ _ ho, hc⟩, fun A E s' Q hg hu hk0 hQ => ?_⟩
    rw [PyData.depth] at hu
    rw [PyData.shown, PyData.shownKv_eq] at hQ
    exact call_dict_reprK (as := []) ho hc hd hm (by simp) (ReprEntriesK.of_two _ _ _ .nil .nil) hg (fun b _ => Clear.nil b) hu hk0 hQ hz
  | none => cases h; cases r
  | bool b => cases h; cases r
  | int i => cases h; obtain ⟨t, e⟩ := r; cases e
  | str x => cases h; obtain ⟨t, e⟩ := r; cases e
def fReprD : FC := fun xs A Q => ∃ x d, xs = [x] ∧ dat 12 A x = some d ∧ d.showable = true ∧ okS d.shown ∧ Q (.str d.shown) A
theorem o_reprD (hg : X.A.guards = some []) (hu : X.A.units + 64 < cLine) : OC X (.builtin "repr") fReprD := by
  intro pins s σ H vs us Q I r ⟨xs, A, Qa, rl, sa, q, x, d, hx, hd, hs, hz, w⟩
  subst hx
  obtain ⟨v, rfl, rx⟩ := rl.one
  obtain ⟨u, rfl, ru⟩ := vals1 r
  have h1 := dat_ok sa hd rx
  have dp := Dq.depth d _ _ h1
  have qq : ∀ (h' : Heap) (t : Tok) (tk : Nat), (∀ b o, s.heap.get? b = some o → h'.get? b = some o) → EP X pins σ Q (.str d.shown t) { s with heap := h', toks := tk } := fun h' t tk hk =>
    ⟨.str _, H, I.kept (t' := tk) hk, ⟨_, rfl⟩, q _ _ _ _ (re_str hz _) sa .refl w⟩
  cases u with
  | ref a =>
    obtain ⟨T, idr, S⟩ := Dq.shows I d h1 ru hs hz.1
    refine call_repr_slot (by omega) (S.typeIs s fun _ _ h => h) S.slotRepr (S.call _ _ s _ hg (by show X.A.units + 1 + d.depth < cLine; omega) (fun _ _ h => h) fun h' u tk hk => ⟨_, _, rfl, qq h' u tk hk⟩)
  | none => obtain ⟨as, k1, _⟩ := Dq.reads I d _ _ _ h1 ru; cases k1; exact PySem.P.repr_of_none (qq s.heap _ _ fun _ _ h => h)
  | bool b => obtain ⟨as, k1, _⟩ := Dq.reads I d _ _ _ h1 ru; cases k1; exact PySem.P.repr_of_bool (qq s.heap _ _ fun _ _ h => h)
  | int i t => obtain ⟨as, k1, _⟩ := Dq.reads I d _ _ _ h1 ru; cases k1; exact PySem.P.repr_of_int (by simpa [PyData.showable] using hs) (qq s.heap _ _ fun _ _ h => h)
  | str x t => obtain ⟨as, k1, _⟩ := Dq.reads I d _ _ _ h1 ru; cases k1; exact PySem.P.repr_of_str (qq s.heap _ _ fun _ _ h => h) hz.1
  | _ => obtain ⟨as, k1, _⟩ := Dq.reads I d _ _ _ h1 ru; cases k1
end
/-! ### a written dict, by computing -/
def entOf (e : DictEntry) : Option (Str × Int × Value) := match e.key with
  | .str x _ => some (x, e.hash, e.val)
  | _ => none
def tabK (K : PySem.W.Frag) (p : Addr) : Option (List (Option (Str × Int × Value))) := match K.lookup p with
  | some ⟨.type c, none, .dict es _, sl⟩ => (match decide (c = "dict") && (sl.isEmpty && !(p == sysModules)) with
    | true => some (es.toList.map entOf)
    | false => none)
  | _ => none
def tabW (P : Params) (K : PySem.W.Frag) (tab : List (Str × String)) : List (Option (Str × Int × Value)) := tab.map fun x => some (x.1, PyData.keyHash P x.1, .ref (cA K x.2))
theorem tab_lit {P : Params} {K : PySem.W.Frag} : ∀ {l : List DictEntry} {tab : List (Str × String)}, l.map entOf = tabW P K tab → PySem.W.KeysLit P l ∧ EntK K l tab
  | [], [], _ => ⟨trivial, rfl⟩
  | [], x :: r, h => by cases h
  | e :: r, [], h => by cases h
  | e :: r, (k, g) :: ks, h => by
    have h1 : entOf e :: r.map entOf = some (k, PyData.keyHash P k, .ref (cA K g)) :: tabW P K ks := h
    injection h1 with h2 h3
    obtain ⟨i1, i2⟩ := tab_lit h3
    unfold entOf at h2
    split at h2
    · rename_i x t q
      have h4 := Option.some.inj h2
      obtain ⟨h5, h6⟩ := Prod.mk.inj h4
      obtain ⟨h7, h8⟩ := Prod.mk.inj h6
      subst h5
      exact ⟨⟨⟨_, t, q, h7⟩, i1⟩, _, t, g, ks, rfl, q, h8, i2⟩
    · cases h2
theorem ktab_by {K : PySem.W.Frag} {w : World} {p : Addr} {tab : List (Str × String)} (h : tabK K p = some (tabW w.params K tab)) : KTab K w p tab := by
  unfold tabK at h
  cases q : K.lookup p with
  | none => rw [q] at h; cases h
  | some o =>
    obtain ⟨oc, od, dt, osl⟩ := o
    rw [q] at h
    cases oc with
    | type c =>
      cases od with
      | some _ => cases h
      | none =>
        cases dt with
        | dict es n =>
          have h1 : (match decide (c = "dict") && (osl.isEmpty && !(p == sysModules)) with
            | true => some (es.toList.map entOf)
            | false => none) = some (tabW w.params K tab) := h
          cases z : decide (c = "dict") && (osl.isEmpty && !(p == sysModules)) with
          | false => rw [z] at h1; cases h1
          | true =>
            rw [z] at h1
            simp only [Bool.and_eq_true, decide_eq_true_eq] at z
            obtain ⟨rfl, z2, z3⟩ := z
            obtain ⟨a, b⟩ := tab_lit (Option.some.inj h1)
            have : osl = #[] := by simpa using z2
            subst this
            exact ktab_mk q a (by simpa using z3) b
        | _ => cases h
    | _ => cases h
end Rk

set_option Elab.async false
set_option linter.all false
set_option maxRecDepth 100000
set_option maxHeartbeats 1000000
/-! enumerate over tuples. -/
namespace Rk
open PySem PySem.Spec PyProof.Rows L2
theorem meets_enum1 {v : Value} {o : Obj} {P : Heap → Prop} (B : Begins v o P) :
    Meets (Builtin.«enumerate.__new__» ⟨[.type "enumerate", v], []⟩) (fun _ R s => P s.heap ∧
      R (.ok (.ret (.ref (s.heap.push o).objs.size))) { s with heap := (s.heap.push o).push { cls := .type "enumerate", data := .fields #[.none, .bool false, .ref s.heap.objs.size, rawInt 0, .none, .none] } }) :=
  .of_wp fun prog w A R s h => by
    obtain ⟨hp, g, d, tk, os⟩ := s
    obtain ⟨h1, h⟩ := h
    have hsub := sub_enumerate
    have q1 : ∀ {A' : Around} {E : Value → Shared → Prop} {Q : Value → Shared → Prop}, Q (.ref hp.objs.size) ⟨hp.push o, g, d, tk, os⟩ → wpAny (model prog w) A' (pyIter v) Q E ⟨hp, g, d, tk, os⟩ :=
      fun q => B.iter prog w _ _ ⟨hp, g, d, tk, os⟩ _ h1 q
    wp_walk using q1
    refine wpAny_stack_any fun st => wpAny_pure ?_
    split
    · rename_i c _ _ _ _ _
      cases (c == Value.type "enumerate") <;> (wp_walk using q1; exact ⟨_, rfl, h⟩)
    · wp_walk using q1
      exact ⟨_, rfl, h⟩
theorem enum1 {prog : Program} {w : World} {A : Around} {E : Value → Shared → Prop} {s : Shared} {v : Value} {o : Obj} {P : Heap → Prop} {Q : Value → Shared → Prop} (B : Begins v o P) (h1 : P s.heap)
    (h : ∀ h', IsEnum h' (s.heap.objs.size + 1) s.heap.objs.size 0 .none → h'.get? s.heap.objs.size = some o → h'.objs.size = s.heap.objs.size + 2 →
      (∀ b o, s.heap.get? b = some o → h'.get? b = some o) → Q (.ref (s.heap.objs.size + 1)) { s with heap := h' }) :
    wpAny (model prog w) A (call (.type "enumerate") [v]) Q E s := by
  refine callType_new F.called_enumerate (by decide) (F.typeCall_enumerate_1 _) (F.newCall_enumerate_1 _) (fun obj => F.args_object_init_2 obj _) F.entry_enumerate_new (meets_enum1 B) ⟨h1, ?_⟩
  have hz : (s.heap.push o).objs.size = s.heap.objs.size + 1 := Heap.size_push ..
  show _ ∧ _
  rw [hz]
  have he : IsEnum ((s.heap.push o).push { cls := .type "enumerate", data := .fields #[.none, .bool false, .ref s.heap.objs.size, rawInt 0, .none, .none] }) (s.heap.objs.size + 1) s.heap.objs.size 0 .none := by
    have := Heap.get?_push_size (s.heap.push o) (o := { cls := .type "enumerate", data := .fields #[.none, .bool false, .ref s.heap.objs.size, rawInt 0, .none, .none] }) rfl
    rw [hz] at this
    exact this
  exact ⟨⟨_, he, rfl⟩, h _ he (Heap.get?_push_of_some _ (Heap.get?_push_size _ B.free)) (by rw [Heap.size_push, hz]) fun b o x => Heap.get?_push_of_some _ (Heap.get?_push_of_some _ x)⟩
theorem enum_endT {prog : Program} {w : World} {A : Around} {E : Value → Shared → Prop} {s : Shared} {e it t : Addr} {i : Nat} {items : Array Value} {j : Int} {old : Value} {Q : Option Value → Shared → Prop} (hh : A.handled = none)
    (he : IsEnum s.heap e it j old) (hit : s.heap.IsTupleIter it t i) (ht : s.heap.IsTuple t items) (hx : items[i]? = none) (hQ : ∀ h', Heap.ExtBut it s.heap h' → Q none { s with heap := h' }) : wpAny (model prog w) A (pyNext (.ref e)) Q E s := by
  have hT : s.TypeIs (.ref e) "enumerate" := ⟨_, he, rfl⟩
  unfold pyNext
  refine wpAny_bind (wpAny_attempt (wpAny_callSpecial?_slot (name := Str.ofString "__next__") hT F.slot_enumerate_next (wpAny_call_entry F.slot_enumerate_next hT F.entry_enumerate_next ?_ (F.args_enumerate_next_1 _))))
  show wpAny _ _ (field (.ref e) 2 >>= _) _ _ _
  refine wpAny_bind (wpAny_field he rfl (x := .ref it) rfl (wpAny_bind (wpAny_nextOf_tuple_end hh hit ht hx fun h' x he' ⟨o, ho, hc⟩ => ?_)))
  exact wpAny_bind (wpAny_isInstance (T := "StopIteration") (b := true) ⟨o, ho, hc⟩ isSubtype_stop (wpAny_pure (hQ _ he')))
/-- the tuple at a, each item in a new pair -/
def IteT (K : PySem.W.Frag) (a : Addr) : It :=
  ⟨fun i H => ∃ (xs : List V) (x : V), SqT K H a xs ∧ xs[i]? = some x, fun i H v H' => ∃ T x, v = .ref T ∧ H T = none ∧ H' = upd H T (.tup [.int (i : Nat), x]) ∧ ∀ xs, SqT K H a xs → xs[i]? = some x, fun i H => ∃ xs : List V, SqT K H a xs ∧ xs.length ≤ i⟩
theorem turn_enumT {P : Program} {w : World} {K : PySem.W.Frag} {elts : List Expr} {kk : Nat} {tpos : Pos} (a e it : Addr) (hne : e ≠ it) (hai : a ≠ it) (hea : e ≠ a) :
    Turn P w K (.Tuple elts kk tpos) (IteT K a) [e, it] e (fun i h => (∃ old, IsEnum h e it ((i : Nat) : Int) old) ∧ h.IsTupleIter it a i) where
  mem := by simp
  obj := fun i h st b hb => by
    obtain ⟨⟨old, he⟩, ⟨o, ho, hc, hd⟩⟩ := st
    have e' : b = e ∨ b = it := by simpa using hb
    rcases e' with z | z
    · rw [z]; exact ⟨_, he, fun v q => nomatch q⟩
    · rw [z]; exact ⟨o, ho, fun v q => by rw [hd] at q; cases q⟩
  keep := fun i h h' st k => let ⟨⟨old, he⟩, hi⟩ := st; ⟨⟨old, k e (by simp) _ he⟩, hi.at fun o q => k it (by simp) o q⟩
  item := by
    intro X hP hw hK hc i pins s σ H E I hf st hg
    subst hP hw hK
    obtain ⟨⟨old, he⟩, hit⟩ := st
    obtain ⟨xs, x, hq, hx⟩ := hg
    obtain ⟨its, rv, p, hz⟩ := I.tuple hq
    obtain ⟨u, hu, ru⟩ := rv.get hx
    have hel : e < s.heap.objs.size := Heap.lt_size he
    have hil : it < s.heap.objs.size := by obtain ⟨_, q, _⟩ := hit; exact Heap.lt_size q
    have hT0 : s.heap.IsTuple a its.toArray := p
    have hlt : i < its.toArray.size := by
      have := (List.getElem?_eq_some_iff.mp hu).1
      simpa using this
    refine wpAny_pyNext_enum_itemD (Draws.tuple (prog := X.prog) (w := X.w) (A := X.A.in1) (I.ok.hd hc) it a hai its.toArray) he ⟨hit, hT0⟩ hlt hne (by simp [hne, hea]) fun y h' tk hy ho hst hT hsz hk => ?_
    obtain ⟨hit', _⟩ := hst
    have ey : y = u := by
      have : its[i]? = some y := by simpa using hy
      rw [hu] at this; cases this; rfl
    subst ey
    refine ⟨_, rfl, wpAny_letOwnedTupleGo_enum (s := { s with heap := h', toks := tk + 1 }) ho fun h'' he' sb => ?_⟩
    have hT2 : h''.get? s.heap.objs.size = some { cls := .type "tuple", data := .seq #[.int i tk, y] } := (sb.2 _ (Nat.ne_of_gt hel)).trans hT
    have new : ObjOk X.prog X.w (upd H s.heap.objs.size (.tup [.int (i : Nat), x])) h'' s.heap.objs.size (.tup [.int (i : Nat), x]) :=
      ⟨by show 2 ≤ sizeLine; decide, [.int i tk, y], .cons ⟨_, rfl⟩ (.cons ru .nil), ⟨_, hT2, rfl, _, rfl⟩⟩
    have I1 : Inv X pins σ (upd H s.heap.objs.size (.tup [.int (i : Nat), x])) { s with heap := h'', toks := tk + 1 } :=
      I.turnedNew (ch := [e, it]) (fun b ob hb q => (sb.2 b (fun z => hb (by simp [z]))).trans (hk b ob (fun z => hb (by simp [z])) (fun z => hb (by simp [z])) q)) hf (Nat.le_refl _) new
    refine ⟨.ref s.heap.objs.size, _, I1, rfl, ⟨_, x, rfl, I.hok.fresh (Nat.le_refl _), rfl, fun ys hy => by rw [I.tuple_inj hy hq]; exact hx⟩, ⟨⟨y, ?_⟩, hit'.at fun o q => (sb.2 it (Ne.symm hne)).trans q⟩, fun b hb => ?_⟩
    · have e1 : ((i + 1 : Nat) : Int) = (i : Int) + 1 := by omega
      rw [e1]; exact he'
    · have hb' : b < s.heap.objs.size := by
        have e' : b = e ∨ b = it := by simpa using hb
        rcases e' with z | z
        · rw [z]; exact hel
        · rw [z]; exact hil
      rw [upd_ne (Nat.ne_of_lt hb')]
      exact (hf b hb).1
  done := by
    intro X hP hw hK hc i pins s σ H E I hf st hg
    subst hP hw hK
    obtain ⟨⟨old, he⟩, hit⟩ := st
    obtain ⟨xs, hq, hx⟩ := hg
    obtain ⟨its, rv, p, hz⟩ := I.tuple hq
    obtain ⟨f0, f1, f2, f3, f4, f5⟩ := hf it (by simp)
    have hl := rv.length
    exact enum_endT (I.ok.hd hc) he hit (show s.heap.IsTuple a its.toArray from p) (by simp; omega) fun h' eb => ⟨rfl, I.turned (t' := s.toks) (fun b o hb q => eb b o hb q) f0 f1 f3 f4 f5⟩
  self := fun A i s Q E st h => let ⟨⟨_, he⟩, _⟩ := st; wpAny_pyIter_enum he h
/-- a list or a tuple, numbered -/
def iEnumA (K : PySem.W.Frag) (ta : TA) : TI := fun σ H R => ta σ H fun vs H1 => ∃ a, vs = [.ref a] ∧ ((∃ xs, SqL K H1 a xs ∧ R (Ite K a) H1) ∨ ∃ xs, SqT K H1 a xs ∧ R (IteT K a) H1)
theorem pi_enumA {X : Cx} {e : Expr} {ta : TA} {p pos tpos : Pos} {elts : List Expr} {kk : Nat} (hg : Gl X "enumerate") (hm : X.mg "enumerate" = none) (ha : PA X [e] ta) (hs : starEach [e] X.env = [(false, eval e X.env)] := by rfl) :
    PI X (.Tuple elts kk tpos) (.Call (.Name "enumerate" p) [e] [] pos) (iEnumA X.K ta) := by
  refine ⟨fun pins s σ H R I h => ?_⟩
  refine Call_ (ld_blt I hg hm boot_enumerate (PyProof.Rows.callWith_type1 (thn (ha.run pos pins s σ H _ I h) fun us s1 ⟨vs, H1, I1, r1, q1⟩ => ?_) hs rfl))
  obtain ⟨a, ex, hq⟩ := q1
  subst ex
  cases r1 with
  | cons r rr =>
    cases rr
    cases r
    have fr : ∀ b ∈ [s1.heap.objs.size + 1, s1.heap.objs.size], FpOk X pins H1 b := fun b hb => by
      have e' : b = s1.heap.objs.size + 1 ∨ b = s1.heap.objs.size := by simpa using hb
      have hle : s1.heap.objs.size ≤ b := by omega
      exact I1.fpOk hle (I1.hok.fresh hle)
    rcases hq with ⟨xs, hq, q⟩ | ⟨xs, hq, q⟩
    · obtain ⟨its, rv, p', hz⟩ := I1.list hq
      refine call_enumerate_list p'.isList fun h' he hit hsz hk => wpAny_pyIter_enum he ?_
      have I2 : Inv X pins σ H1 { s1 with heap := h' } := I1.kept (t' := s1.toks) hk
      exact ⟨s1.heap.objs.size + 1, [s1.heap.objs.size + 1, s1.heap.objs.size], _, _, H1, rfl, I2, turn_enum a (s1.heap.objs.size + 1) s1.heap.objs.size, ⟨⟨.none, he⟩, hit, Nat.succ_ne_self _⟩, fr, q⟩
    · obtain ⟨its, rv, p', hz⟩ := I1.tuple hq
      have al : a < s1.heap.objs.size := by obtain ⟨o, ho, _⟩ := p'; exact Heap.lt_size ho
      refine enum1 (begins_tuple a its.toArray) (show s1.heap.IsTuple a its.toArray from p') fun h' he hit hsz hk => wpAny_pyIter_enum he ?_
      have I2 : Inv X pins σ H1 { s1 with heap := h' } := I1.kept (t' := s1.toks) hk
      exact ⟨s1.heap.objs.size + 1, [s1.heap.objs.size + 1, s1.heap.objs.size], _, _, H1, rfl, I2, turn_enumT a (s1.heap.objs.size + 1) s1.heap.objs.size (Nat.succ_ne_self _) (Nat.ne_of_lt al) (Ne.symm (Nat.ne_of_lt (Nat.lt_succ_of_lt al))), ⟨⟨.none, he⟩, ⟨_, hit, rfl, rfl⟩⟩, fr, q⟩
section
variable {K : PySem.W.Frag} {X : Cx} {W : WX} {e : Expr}
theorem sim_enT {p : Addr} {xs : List Vl} {ok : Ah → Prop} {up : ∀ (A : Ah) (p : Addr) (o : Ob), A p = none → ok A → ok (put A p o)} {H0 : Hp} (g : ∀ (A : Ah) (H : Hp), SA K A H → Keep H0 H → ok A → ∃ vs, SqT K H p vs ∧ Rl K H xs vs) : SimIt K ⟨enL 0 xs, ok, up⟩ (IteT K p) H0 := fun i A H sa k hk => by
  obtain ⟨vs, hv, rl⟩ := g A H sa k hk
  refine ⟨fun hi => ⟨vs, hv, by rw [← rl.length, ← enL_len (xs := xs) (i := 0)]; exact hi⟩, fun y hy => ?_⟩
  rw [enL_get] at hy
  cases hx : xs[i]? with
  | none => rw [hx] at hy; cases hy
  | some x =>
    rw [hx] at hy; cases hy
    obtain ⟨v, ev, rv⟩ := rl.get hx
    refine ⟨⟨vs, v, hv, ev⟩, fun u H' ⟨T, x', e1, e2, e3, e4⟩ => ?_⟩
    subst e1 e3
    have := e4 vs hv
    rw [ev] at this; cases this
    have kn : Keep H (upd H T (.tup [.int (i : Nat), v])) := .new e2
    refine ⟨kn, sa.newU e2, ?_⟩
    unfold Re
    exact ⟨T, _, rfl, .inl (.inl upd_same), .cons (by unfold Re; simp) (.cons (rv.keep kn) .nil)⟩
def enVA (x : Vl) (A : Ah) (Q : Wk → Ah → Prop) : Prop := match x with
  | .lst xs => Q ⟨enL 0 xs, fun _ => True, fun _ _ _ _ _ => trivial⟩ A
  | .tup xs => Q ⟨enL 0 xs, fun _ => True, fun _ _ _ _ _ => trivial⟩ A
  | .ref p => enR (A p) p fun k => Q k A
  | _ => False
def wiEnA (wa : WA) : WI := fun S A Q E => wa S A (fun xs A1 => ∃ x, xs = [x] ∧ enVA x A1 Q) E
theorem ai_enumA {elts : List Expr} {kk : Nat} {tpos p : Pos} {wa : WA} (hg : Gl X "enumerate") (hm : X.mg "enumerate" = none) (ha : AA X W [e] wa) (hs : starEach [e] X.env = [(false, eval e X.env)] := by exact star1 rfl) : AI X W (.Tuple elts kk tpos) (.Call (.Name "enumerate" p) [e] [] pos) (wiEnA wa) :=
  pi_imp (pi_enumA hg hm ha hs) fun σ H R ⟨S, A, Qa, Ea, ss, sa, q, qx, w⟩ => ⟨S, A, _, Ea, ss, sa, fun xs A1 vs H1 r1 sa1 k1 ⟨x, ex, w1⟩ => by
    subst ex
    obtain ⟨v, rfl, rx⟩ := r1.one
    cases x with
    | lst ys =>
      unfold Re at rx
      obtain ⟨p, o, ws, rfl, st, rl⟩ := rx
      exact ⟨p, rfl, .inl ⟨ws, .inl (.inr ⟨o, st⟩), q _ _ _ _ (sim_en fun A H sa k _ => ⟨ws, .inl (.inr ⟨o, k.frz _ _ _ st⟩), rl.keep k⟩) sa1 k1 w1⟩⟩
    | tup ys =>
      obtain ⟨p, ws, e1, e2, e3⟩ := re_tup_inv rx
      subst e1
      exact ⟨p, rfl, .inr ⟨ws, e2, q _ _ _ _ (sim_enT fun A H sa k _ => ⟨ws, sqT_keep k.w e2, e3.keep k⟩) sa1 k1 w1⟩⟩
    | ref p =>
      unfold Re at rx; subst rx
      have w1 : enR (A1 p) p fun k => Qa k A1 := w1
      unfold enR at w1
      split at w1
      · rename_i ys he
        obtain ⟨ws, hv, rl⟩ := sa1 _ _ he
        exact ⟨p, rfl, .inl ⟨ws, .of hv, q _ _ _ _ (sim_en fun A H sa k ok => by obtain ⟨us, hu, r⟩ := sa _ _ ok; exact ⟨us, .of hu, r⟩) sa1 k1 w1⟩⟩
      · exact w1.elim
    | _ => exact w1.elim, qx, w⟩
variable {S : Sl} {A : Ah} {E : EX} {QW : Wk → Ah → Prop} {r : WA} {xs : List Vl}
@[simp ↓] theorem e_wiEnA : wiEnA r S A QW E = r S A (fun xs A1 => ∃ x, xs = [x] ∧ enVA x A1 QW) E := id rfl
@[simp] theorem e_enVA_lst : enVA (.lst xs) A QW = QW ⟨enL 0 xs, fun _ => True, fun _ _ _ _ _ => trivial⟩ A := id rfl
@[simp] theorem e_enVA_tup : enVA (.tup xs) A QW = QW ⟨enL 0 xs, fun _ => True, fun _ _ _ _ _ => trivial⟩ A := id rfl
@[simp] theorem e_enVA_ref {p : Addr} : enVA (.ref p) A QW = enR (A p) p fun k => QW k A := id rfl
end
end Rk

set_option Elab.async false
set_option linter.all false
set_option maxRecDepth 100000
set_option maxHeartbeats 400000
/-! slices turned about, written texts, splits, tables of texts -/
namespace HT
open PySem PySem.Spec PyProof.Rows
section
variable {prog : Program} {w : World} {A : Around} {E : Value → Shared → Prop} {s : Shared}
theorem sliceApplied_rev {sl : Addr} {vl vu vs : Value} {n : Nat} {Q : Int × Int × Nat → Shared → Prop} (hs : s.heap.IsSliceOf sl vl vu vs) (pl : IsPart vl none) (pu : IsPart vu none) (ps : IsPart vs (some (-1)))
    (h : Q ((n : Int) - 1, -1, n) s) : wpAny (model prog w) A (Builtin.Slice.sliceApplied (.ref sl) (pure (n : Int))) Q E s := by
  obtain ⟨os, hos, hcs, hds⟩ := id hs
  unfold Builtin.Slice.sliceApplied Builtin.Slice.sliceFields
  refine wpAny_bind (wpAny_bind (wpAny_field hos hds (x := vl) rfl (wpAny_bind (wpAny_field hos hds (x := vu) rfl (wpAny_bind (wpAny_field hos hds (x := vs) rfl (wpAny_pure ?_)))))))
  refine wpAny_bind (slicePart_ ps ?_)
  show wpAny _ _ (if ((-1 : Int) == 0) = true then _ else _) _ _ s
  rw [if_neg (by decide)]
  refine wpAny_bind (slicePart_ pl (wpAny_bind (slicePart_ pu (wpAny_bind (wpAny_pure ?_)))))
  have e : Builtin.Slice.sliceAdjust none none (-1) (n : Int) = ((n : Int) - 1, -1) := rfl
  show wpAny _ _ (match Builtin.Slice.sliceAdjust none none (-1) (n : Int) with | (lo, hi) => pure (lo, (-1 : Int), Builtin.Slice.slicePlaces lo hi (-1))) _ _ s
  rw [e]
  show wpAny _ _ (pure ((n : Int) - 1, (-1 : Int), Builtin.Slice.slicePlaces ((n : Int) - 1) (-1) (-1))) _ _ s
  have e2 : Builtin.Slice.slicePlaces ((n : Int) - 1) (-1) (-1) = n := by
    unfold Builtin.Slice.slicePlaces
    have h1 : ¬ ((-1 : Int) > 0) := by omega
    simp only [h1, if_false]
    rw [show (-(-1) : Int) = 1 by decide, Int.ediv_one]
    split <;> omega
  rw [e2]
  exact wpAny_pure h
theorem fm_congr {α β : Type} {f g : α → Option β} : ∀ {l : List α}, (∀ x ∈ l, f x = g x) → l.filterMap f = l.filterMap g
  | [], _ => rfl
  | x :: l, h => by rw [List.filterMap_cons, List.filterMap_cons, h x List.mem_cons_self, fm_congr fun y hy => h y (List.mem_cons_of_mem _ hy)]
theorem pick_rev (xs : Array Value) : ((List.range xs.size).filterMap fun (m : Nat) => xs[(((xs.size : Int) - 1) + (m : Int) * (-1)).toNat]?).toArray = xs.toList.reverse.toArray := by
  have e := PySem.W.krv_pick xs
  unfold slicePick at e
  rw [PySem.W.krv_bounds] at e
  have e : ((sliceRange ((xs.size : Int) - 1) (-1) (-1)).filterMap (xs[·]?)).toArray = _ := e
  rw [PySem.W.krv_sliceRange, List.filterMap_map] at e
  rw [← e]
  congr 1
  refine fm_congr fun m hm => ?_
  have := List.mem_range.mp hm
  show xs[(((xs.size : Int) - 1) + (m : Int) * (-1)).toNat]? = xs[xs.size - 1 - m]?
  congr 1
  omega
theorem getItem_tuple_rev {t sl : Addr} {items : Array Value} {vl vu vs : Value} {Q : Value → Shared → Prop} (ht : IsTup s.heap t items) (hs : s.heap.IsSliceOf sl vl vu vs) (pl : IsPart vl none) (pu : IsPart vu none) (ps : IsPart vs (some (-1)))
    (h : Q (.ref s.heap.objs.size) { s with heap := s.heap.push { cls := .type "tuple", data := .seq items.toList.reverse.toArray } })
    (hsz : items.size ≤ sizeLine) : wpAny (model prog w) A (getItem (.ref t) (.ref sl)) Q E s := by
  have htake : sizeOk (.seq items.toList.reverse.toArray) := by
    show items.toList.reverse.toArray.size ≤ sizeLine
    rw [List.size_toArray, List.length_reverse, Array.length_toList]
    exact hsz
  obtain ⟨os, hos, hcs, hds⟩ := id hs
  have hTs : s.TypeIs (.ref sl) "slice" := ⟨os, hos, hcs⟩
  unfold getItem
  try with_reducible refine wpAny_holding ?_
  first | refine wpAny_bind (wpAny_pure ?_) | skip
  refine wpAny_bind (wpAny_sequenceKey ht.typeIs (by decide) ?_)
  refine wpAny_bind (wpAny_callSpecial?_slot (name := Str.ofString "__getitem__") ht.typeIs PyProof.Rows.slot_tuple_getitem
    (wpAny_call_entry PyProof.Rows.slot_tuple_getitem ht.typeIs entry_tuple_getitem ?_ (args_tuple_getitem _ _)))
  show wpAny _ _ (Builtin.Tuple.tupleItemsOf (.ref t) >>= _) _ _ s
  refine wpAny_bind (tupleItemsOf_ ht ?_)
  refine wpAny_bind (wpAny_typeOf hTs ?_)
  rw [if_pos (by decide)]
  refine wpAny_bind (sliceApplied_rev hs pl pu ps ?_)
  have hno : ¬ ((((items.size : Int) - 1) == 0 && (-1 : Int) == 1 && items.size == items.size) = true) := by
    intro q
    rw [Bool.and_eq_true, Bool.and_eq_true] at q
    exact absurd q.1.2 (by decide)
  show wpAny _ _ (if (((items.size : Int) - 1) == 0 && (-1 : Int) == 1 && items.size == items.size) = true then _ else _) _ _ s
  rw [if_neg hno, pick_rev]
  first
    | exact wpAny_bind (m := Builtin.Tuple.tupleExact _) (wpAny_newObj_type (wpAny_pure ⟨_, rfl, wpAny_pure h⟩) htake)
    | exact wpAny_bind (m := Builtin.Tuple.tupleExact _) (wpAny_newObj_type (wpAny_bind (wpAny_pure (wpAny_pure ⟨_, rfl, wpAny_pure h⟩))) htake)
    | exact wpAny_bind (wpAny_bind (m := Builtin.Tuple.tupleExact _) (wpAny_newObj_type (wpAny_pure (wpAny_pure ⟨_, rfl, wpAny_pure h⟩)) htake))
    | exact wpAny_bind (wpAny_bind (m := Builtin.Tuple.tupleExact _) (wpAny_newObj_type (wpAny_pure ⟨_, rfl, wpAny_pure h⟩) htake))
end
end HT
namespace Rk
open PySem PySem.Spec PyProof.Rows L2
section
variable {X : Cx} {W : WX} {K : PySem.W.Frag} {e : Expr} {pos : Pos}
/-! ### a def that is never called -/
def wNoF : WF := fun _ _ _ _ => False
theorem gn_no {P : Program} {w : World} {K : PySem.W.Frag} {mg : Str → Option Value} {base : Heap} {k : Nat} {f : Addr} {fd : FuncData} {ps : List Str} : Gn P w K mg base k f fd ps wNoF :=
  ⟨fun _ _ _ _ _ _ _ _ _ _ _ _ _ _ h => by obtain ⟨_, _, _, _, _, _, _, _, _, hf⟩ := h; exact hf.elim⟩
/-! ### x[::-1] -/
def tRevA (K : PySem.W.Frag) (te : TE) : TE := fun σ H Q => te σ H fun x H1 => ∃ a xs, x = .ref a ∧ ((SqL K H1 a xs ∧ ∀ p, H1 p = none → Q (.ref p) (upd H1 p (.lst xs.reverse))) ∨ (SqT K H1 a xs ∧ QT H1 xs.reverse Q))
theorem pe_revA {te : TE} {k : Nat} {p1 p2 p3 pos : Pos} (he : PE X e te) : PE X (.Subscript e (.Slice none none (some (.UnaryOp .USub (.Constant (.int 1) k p1) p2)) p3) pos) (tRevA X.K te) := by
  refine ⟨fun pins s σ H Q I h => ?_⟩
  refine Subscript_ (thn (he.run pins s σ H _ I h) fun v s1 ⟨x, H1, I1, r1, q1⟩ => ?_)
  obtain ⟨a, xs, ex, q⟩ := q1
  subst ex
  cases r1
  have hst : PO X (some (.UnaryOp .USub (.Constant (.int 1) k p1) p2)) (tPart (tUn (rU fun i => .int (-i)) (tC (.int 1)))) := po_some (pe_un un_neg pe_int)
  refine wpAny_Slice (thn (po_none.run pins s1 σ H1 (fun o H2 => o = none ∧ H2 = H1) I1 ⟨rfl, rfl⟩) fun vl s2 ⟨l, H2, I2, pl, el, e2⟩ => ?_)
  subst el e2
  refine thn (po_none.run pins s2 σ H2 (fun o H3 => o = none ∧ H3 = H2) I2 ⟨rfl, rfl⟩) fun vu s3 ⟨u, H3, I3, pu, eu, e3⟩ => ?_
  subst eu e3
  refine thn (hst.run pins s3 σ H3 (fun o H4 => o = some (-1) ∧ H4 = H3) I3 ⟨1, rfl, -1, rfl, rfl, rfl⟩) fun vs s4 ⟨o, H4, I4, ps, eo, e4⟩ => ?_
  subst eo e4
  have I5 : Inv X pins σ H4 { s4 with heap := s4.heap.push { cls := .type "slice", data := .fields #[vl, vu, vs] } } := I4.kept (t' := s4.toks) fun b ob q => Heap.get?_push_of_some _ q
  show wpAny (model X.prog X.w) X.A (subscriptTail e (.Slice none none (some (.UnaryOp .USub (.Constant (.int 1) k p1) p2)) p3) (.ref a) (.ref s4.heap.objs.size)) (EP X pins σ Q) X.xe { s4 with heap := s4.heap.push { cls := .type "slice", data := .fields #[vl, vu, vs] } }
  rcases q with ⟨hx, q⟩ | ⟨hx, q⟩
  · obtain ⟨its, r, ht, hz⟩ := I5.list hx
    have hlen := r.length
    refine tail_any (ops := [.ref a, .ref s4.heap.objs.size]) ht.isList.typeIs (PySem.slot_list_getitem.lookup) ?_ (by with_unfolding_all rfl)
    refine wpAny_getItem_list_slice ht.isList (Heap.IsSliceOf.new _ vl vu vs) pl pu ps (by decide) ?_ (by rw [List.size_toArray]; omega)
    rw [PySem.W.krv_pick]
    refine ⟨.ref _, _, I5.laid (t' := s4.toks) (o := .lst xs.reverse) (fun b ob q => Heap.get?_push_of_some _ q) (Nat.le_refl _) ?_, rfl, q _ (I5.hok.fresh (Nat.le_refl _))⟩
    exact ⟨by rw [List.length_reverse]; exact hz, _, 0, r.reverse, Heap.get?_push_size _ rfl⟩
  · obtain ⟨its, r, ht, hz⟩ := I5.tuple hx
    have hlen := r.length
    refine tail_any (ops := [.ref a, .ref s4.heap.objs.size]) ht.typeIs (PyProof.Rows.slot_tuple_getitem.lookup) ?_ (by with_unfolding_all rfl)
    refine HT.getItem_tuple_rev ht (Heap.IsSliceOf.new _ vl vu vs) pl pu ps ?_ (by rw [List.size_toArray, ← hlen]; exact hz)
    have := qt_go I5 r.reverse (by rw [List.length_reverse]; exact hz) q
    unfold tupO at this
    exact this
def revV (m : Md) (x : Vl) (A : Ah) (Q : QE) : Prop := match x with
  | .tup xs => Q (.tup xs.reverse) A
  | x => seqV A x fun xs => newL m xs.reverse A Q
def wRev (m : Md) (w : WE) : WE := fun S A Q E => w S A (fun x A1 => revV m x A1 Q) E
theorem ae_rev (m : Md) {w : WE} {k : Nat} {p1 p2 p3 pos : Pos} (h : AE X W e w) : AE X W (.Subscript e (.Slice none none (some (.UnaryOp .USub (.Constant (.int 1) k p1) p2)) p3) pos) (wRev m w) :=
  pe_imp (pe_gh (pe_revA h)) fun σ H Q ⟨S, A, Qa, Ea, ss, sa, q, qx, w⟩ => ⟨S, A, _, Ea, ss, sa, fun x A1 v H1 r1 sa1 k1 w1 => by
    have lists : (seqV A1 x fun xs => newL m xs.reverse A1 Qa) → ∃ a xs, v = .ref a ∧ ((SqL X.K H1 a xs ∧ ∀ p, H1 p = none → Gq Q (.ref p) (upd H1 p (.lst xs.reverse))) ∨ (SqT X.K H1 a xs ∧ QT H1 xs.reverse (Gq Q))) := by
      intro wl
      obtain ⟨p, xs, vs, e, sq, rl, wl⟩ := seqV_of sa1 r1 wl
      exact ⟨p, vs, e, .inl ⟨.inl sq, ql_new (q.keep k1) sa1 rl.reverse wl⟩⟩
    cases x with
    | tup xs =>
      obtain ⟨p, vs, rfl, st, rl⟩ := re_tup_inv r1
      exact ⟨p, vs, rfl, .inr ⟨st, ql_tup (q.keep k1).gq sa1 rl.reverse w1⟩⟩
    | ref p => exact lists w1
    | lst p => exact lists w1
    | _ => exact w1.elim, qx, w⟩
section
variable {S : Sl} {A : Ah} {Q : QE} {E : EX} {w : WE} {m : Md} {xs : List Vl}
@[simp ↓] theorem e_wRev : wRev m w S A Q E = w S A (fun x A1 => revV m x A1 Q) E := id rfl
@[simp ↓] theorem e_revT : revV m (.tup xs) A Q = Q (.tup xs.reverse) A := id rfl
@[simp ↓] theorem e_revL : revV m (.lst xs) A Q = newL m xs.reverse A Q := id rfl
@[simp ↓] theorem e_revR {p : Addr} : revV m (.ref p) A Q = lstA A p fun xs => newL m xs.reverse A Q := id rfl
end
end

/-! ### tables of texts: X = ("a", "b") at the top -/
def strsV : List Value → Option (List Str)
  | [] => some []
  | .str s _ :: r => (strsV r).map (s :: ·)
  | _ => none
def tupK (K : PySem.W.Frag) (p : Addr) : Option (List Str) := match K.lookup p with
  | some ⟨.type c, none, .seq its _, _⟩ => (match decide (c = "tuple") && decide (its.size ≤ 16777216) with
    | true => strsV its.toList
    | false => none)
  | _ => none
theorem strsV_ok {K : PySem.W.Frag} {H : Hp} : ∀ {us : List Value} {ss : List Str}, strsV us = some ss → ss.all okB = true → Vals (ss.map V.str) us ∧ Rl K H (ss.map .str) (ss.map V.str)
  | [], _, e, _ => by cases e; exact ⟨.nil, .nil⟩
  | u :: us, ss, e, g => by
    cases u with
    | str z t =>
      have e : (strsV us).map (z :: ·) = some ss := e
      cases h : strsV us with
      | none => rw [h] at e; cases e
      | some r =>
        rw [h] at e; cases e
        rw [List.all_cons, Bool.and_eq_true] at g
        obtain ⟨i1, i2⟩ := strsV_ok (K := K) (H := H) h g.2
        exact ⟨.cons ⟨_, rfl⟩ i1, .cons (re_str (okS_of g.1) _) i2⟩
    | _ => cases e
theorem ktup_re {K : PySem.W.Frag} {p : Addr} {ss : List Str} (h : tupK K p = some ss) (g : ss.all okB = true) (H : Hp) : Re K H (.tup (ss.map .str)) (.ref p) := by
  unfold tupK at h
  split at h
  · rename_i c its n sl hl
    split at h
    · rename_i hb
      rw [Bool.and_eq_true, decide_eq_true_eq, decide_eq_true_eq] at hb
      obtain ⟨rfl, hz⟩ := hb
      obtain ⟨i1, i2⟩ := strsV_ok (K := K) (H := H) h g
      exact re_tup ⟨.inr ⟨_, its, n, hl, rfl, rfl, hz, i1⟩, .inr ⟨_, hl, rfl, rfl⟩⟩ i2
    · cases h
  · cases h
/-! ### str(x), int(x) -/
section
variable {X : Cx} {W : WX} {K : PySem.W.Frag} {e : Expr} {pos : Pos}
theorem re_strI {H : Hp} {i : Int} (h : okS (toString i)) : Re K H (.str (toString i)) (.str (toString i)) := re_str h _
theorem o_str : OC X (.type "str") fStr := by
  intro pins s σ H vs us Q I r ⟨xs, A, Qa, rl, sa, q, w⟩
  unfold fStr at w
  split at w
  · obtain ⟨v, rfl, rx⟩ := rl.one
    cases re_int_inv rx
    exact call_str_int pins s σ H _ us Q I r ⟨_, rfl, w.1, q _ _ _ _ (re_str w.2.1 _) sa .refl w.2.2⟩
  · obtain ⟨v, rfl, rx⟩ := rl.one
    obtain ⟨rfl, g⟩ := re_str_inv rx
    exact SkE.call_str_str pins s σ H _ us Q I r ⟨_, rfl, q _ _ _ _ (re_str g _) sa .refl w⟩
  · exact w.elim
def fIntT : FC := fun xs A Q => match xs with
  | [.int i] => Q (.int i) A
  | [.bl b] => Q (.int (if b then 1 else 0)) A
  | [.str a] => ∃ n, PySem.intText? a = some n ∧ a.length ≤ 640 ∧ Q (.int n) A
  | _ => False
theorem o_intT : OC X (.type "int") fIntT := by
  intro pins s σ H vs us Q I r ⟨xs, A, Qa, rl, sa, q, w⟩
  unfold fIntT at w
  split at w
  · exact o_int pins s σ H vs us Q I r ⟨_, A, Qa, rl, sa, q, w⟩
  · exact o_int pins s σ H vs us Q I r ⟨_, A, Qa, rl, sa, q, w⟩
  · obtain ⟨v, rfl, rx⟩ := rl.one
    obtain ⟨rfl, g⟩ := re_str_inv rx
    obtain ⟨n, hn, hl, w⟩ := w
    exact call_int_str pins s σ H _ us Q I r ⟨_, n, rfl, hn, hl, q _ _ _ _ (re_int _) sa .refl w⟩
  · exact w.elim
/-! ### s.split(t) -/
def fSplit (m : Md) : FM := fun x xs A Q => ∃ a b, x = .str a ∧ xs = [.str b] ∧ (b.length == 0) = false ∧ a.length + 2 ≤ sizeLine ∧ (∀ t ∈ Txt.split a b, okS t) ∧ newL m ((Txt.split a b).map .str) A Q
theorem m_split (m : Md) : Mt X .str "split" (fSplit m) := ⟨⟨_, PySem.F.plainAttrs_str, PySem.F.slot_str_split, PySem.F.type_str_split, by
  intro pins s σ H v vs vv us Q I rv rs ⟨x, xs, A, Qa, r, rl, sa, q, _, a, b, hx, hxs, hb, hz, hok, w⟩
  subst hx hxs
  obtain ⟨rfl, _⟩ := re_str_inv r
  obtain ⟨u, rfl, ru⟩ := rl.one
  obtain ⟨rfl, _⟩ := re_str_inv ru
  exact gh (mt_split pins s σ H _ _ vv us _ I rv rs ⟨a, b, rfl, rfl, hb, hz, fun p hp => ql_new q sa (rl_strs hok) w p hp⟩)⟩⟩
/-! ### f'..' -/
/-- {x}: a text or an int -/
def wFmt (w : WE) : WE := fun S A Q E => w S A (fun x A1 => match x with
  | .str s => Q (.str s) A1
  | .int i => natL i ∧ okS (toString i) ∧ Q (.str (toString i)) A1
  | _ => False) E
theorem ae_fmt {w : WE} (h : AE X W e w) : AE X W (.FormattedValue e (-1) none pos) (wFmt w) :=
  pe_imp (pe_fmt h) fun σ H Q ⟨S, A, Qa, Ea, ss, sa, q, qx, w⟩ => ⟨S, A, _, Ea, ss, sa, fun x A1 v H1 r1 sa1 k1 w1 => by
    cases x with
    | str s =>
      obtain ⟨rfl, g⟩ := re_str_inv r1
      exact .inl ⟨s, rfl, g.1, q _ _ _ _ (re_str g _) sa1 k1 w1⟩
    | int i =>
      cases re_int_inv r1
      exact .inr ⟨i, rfl, w1.1, q _ _ _ _ (re_str w1.2.1 _) sa1 k1 w1.2.2⟩
    | _ => exact w1.elim, qx, w⟩
def wJs : List WE → Str → Sl → Ah → (Str → Ah → Prop) → EX → Prop
  | [], acc, _, A, Q, _ => Q acc A
  | w :: ws, acc, S, A, Q, E => w S A (fun x A1 => match x with
    | .str y => (acc ++ y).length ≤ sizeLine ∧ wJs ws (acc ++ y) S A1 Q E
    | _ => False) E
inductive AJ (X : Cx) (W : WX) : List Expr → List WE → Prop where
  | nil : AJ X W [] []
  | cons {e : Expr} {w : WE} {es : List Expr} {ws : List WE} (h : AE X W e w) (r : AJ X W es ws) : AJ X W (e :: es) (w :: ws)
theorem AJ.pj {es : List Expr} {ws : List WE} (h : AJ X W es ws) : PJ X es (ws.map (LE X.K W)) := by
  induction h with
  | nil => exact .nil
  | cons h r ih => exact .cons h ih
theorem js_go {ws : List WE} : ∀ {acc : Str} {S : Sl} {σ : L2.St} {A : Ah} {H : Hp} {Qa : Str → Ah → Prop} {Q : Str → Hp → Prop} {Ea : EX}, SS K H S σ → SA K A H → PyData.strOk acc = true → QX K H Ea (fun c d H' => W c d σ H') →
    (∀ z A' H', PyData.strOk z = true → SA K A' H' → Keep H H' → Qa z A' → Q z H') → wJs ws acc S A Qa Ea → tJs (ws.map (LE K W)) acc σ H Q := by
  induction ws with
  | nil => intro acc S σ A H Qa Q Ea ss sa g qx q w; exact q _ _ _ g sa .refl w
  | cons w ws ih =>
    intro acc S σ A H Qa Q Ea ss sa g qx q h
    refine ⟨S, A, _, Ea, ss, sa, fun x A1 v H1 r1 sa1 k1 w1 => ?_, qx, h⟩
    cases x with
    | str y =>
      obtain ⟨rfl, gy⟩ := re_str_inv r1
      exact ⟨y, rfl, w1.1, ih (ss.keep k1) sa1 (strOk_append g gy.2) (qx.keep k1) (fun z A' H' gz sa' k' wz => q z A' H' gz sa' (k1.trans k') wz) w1.2⟩
    | _ => exact w1.elim
def wJoin (ws : List WE) : WE := fun S A Q E => wJs ws Str.empty S A (fun z A1 => z.length ≤ sizeLine ∧ Q (.str z) A1) E
theorem ae_joined {v1 v2 : Expr} {rest : List Expr} {ws : List WE} (h : AJ X W (v1 :: v2 :: rest) ws) : AE X W (.JoinedStr (v1 :: v2 :: rest) pos) (wJoin ws) :=
  pe_imp (pe_joined h.pj) fun σ H Q ⟨S, A, Qa, Ea, ss, sa, q, qx, w⟩ => js_go ss sa (by decide +kernel) qx (fun z A' H' gz sa' k' wz => q _ _ _ _ (re_str ⟨wz.1, gz⟩ _) sa' k' wz.2) w
theorem ae_joined1 {w : WE} (h : AE X W e w) : AE X W (.JoinedStr [e] pos) w := pe_joined1 h
section
variable {S : Sl} {A : Ah} {Q : QE} {E : EX} {w : WE} {ws : List WE} {QJ : Str → Ah → Prop} {acc : Str}
@[simp ↓] theorem e_wFmt : wFmt w S A Q E = w S A (fun x A1 => match x with | .str s => Q (.str s) A1 | .int i => natL i ∧ okS (toString i) ∧ Q (.str (toString i)) A1 | _ => False) E := id rfl
@[simp ↓] theorem e_intTI {i : Int} : fIntT [.int i] A Q = Q (.int i) A := id rfl
@[simp ↓] theorem e_intTB {k : Bool} : fIntT [.bl k] A Q = Q (.int (if k then 1 else 0)) A := id rfl
@[simp ↓] theorem e_intTS {a : Str} : fIntT [.str a] A Q = ∃ n, PySem.intText? a = some n ∧ a.length ≤ 640 ∧ Q (.int n) A := id rfl
@[simp ↓] theorem e_wJoin : wJoin ws S A Q E = wJs ws Str.empty S A (fun z A1 => z.length ≤ sizeLine ∧ Q (.str z) A1) E := id rfl
@[simp ↓] theorem e_wJ0 : wJs [] acc S A QJ E = QJ acc A := id rfl
@[simp ↓] theorem e_wJ1 : wJs (w :: ws) acc S A QJ E = w S A (fun x A1 => match x with | .str y => (acc ++ y).length ≤ sizeLine ∧ wJs ws (acc ++ y) S A1 QJ E | _ => False) E := id rfl
end
end
end Rk

set_option Elab.async false
set_option linter.all false
set_option maxRecDepth 100000
set_option maxHeartbeats 400000
/-! == of values with (empty) dicts within -/
namespace PySem.SeqAt
open PyProof.Rows MeetsSeq
open AutoSeq1 (wpAny_loadPart')
section
variable {prog : Program} {w : World} {A : Around} {E : Value → Shared → Prop} {s : Shared}
theorem dict_declines {a : Addr} {v : Value} {T : String} (ha : s.TypeIs (.ref a) "dict") (hv : s.TypeIs v T) (hs : isSubtype (.type T) (.type "dict") = pure false) {Q : Value → Shared → Prop} (h : Q .notImplemented s) {id : String} (hid : Slot "dict" id "dict.__eq__") :
    wpAny (model prog w) A (call (.builtin "dict.__eq__") [.ref a, v]) Q E s := by
  refine wpAny_call_entry PySem.F.slot_dict_eq ha PySem.F.entry_dict_eq ?_ (PySem.F.args_dict_eq_2 _ _)
  show wpAny _ _ (Builtin.Dict.dictSlotArgs "__eq__" ⟨[.ref a, v], []⟩ >>= _) _ _ s
  refine wpAny_bind ?_
  unfold Builtin.Dict.dictSlotArgs
  refine wpAny_bind (wpAny_notOrdered_dict ha ?_)
  show wpAny _ _ (pure (Value.ref a, v)) _ _ s
  refine wpAny_pure ?_
  refine wpAny_bind (wpAny_isInstance hv hs ?_)
  simp only [Bool.not_false, if_true]
  exact wpAny_bind (wpAny_rule (wpAny_pure ⟨_, rfl, h⟩))
end
theorem str_declines_obj (b : Str) (u : Tok) (l : Addr) (es : Array DictEntry) (ep : Nat) (dd : Option Addr) (sl : Array (Option Value)) :
    Meets (Builtin.«str.__eq__» ⟨[.str b u, .ref l], []⟩) (fun _ R s => s.heap.get? l = some { cls := .type "dict", dict := dd, data := .dict es ep, slots := sl } ∧ R (.ok (.ret .notImplemented)) s) :=
  .of_wp fun prog w A R s h => by
    obtain ⟨hp, g, d, tk, os⟩ := s; obtain ⟨hl, h⟩ := h
    have f1 := F.sub_dict_str
    wp_walk using wpAny_loadPart' hl
    exact ⟨_, rfl, h⟩
theorem int_declines_obj (b : Int) (u : Tok) (l : Addr) (es : Array DictEntry) (ep : Nat) (dd : Option Addr) (sl : Array (Option Value)) :
    Meets (Builtin.«int.__eq__» ⟨[.int b u, .ref l], []⟩) (fun _ R s => s.heap.get? l = some { cls := .type "dict", dict := dd, data := .dict es ep, slots := sl } ∧ R (.ok (.ret .notImplemented)) s) :=
  .of_wp fun prog w A R s h => by
    obtain ⟨hp, g, d, tk, os⟩ := s; obtain ⟨hl, h⟩ := h
    have f1 := F.sub_dict_int
    wp_walk using wpAny_loadPart' hl
    exact ⟨_, rfl, h⟩
theorem bool_declines_obj (b : Bool) (l : Addr) (es : Array DictEntry) (ep : Nat) (dd : Option Addr) (sl : Array (Option Value)) :
    Meets (Builtin.«int.__eq__» ⟨[.bool b, .ref l], []⟩) (fun _ R s => s.heap.get? l = some { cls := .type "dict", dict := dd, data := .dict es ep, slots := sl } ∧ R (.ok (.ret .notImplemented)) s) :=
  .of_wp fun prog w A R s h => by
    obtain ⟨hp, g, d, tk, os⟩ := s; obtain ⟨hl, h⟩ := h
    have f1 := F.sub_dict_int
    wp_walk using wpAny_loadPart' hl
    exact ⟨_, rfl, h⟩
theorem list_declines_dict (l : Addr) (items : Array Value) (n : Nat) (dd : Option Addr) (sl : Array (Option Value)) (b : Addr) (es : Array DictEntry) (ep : Nat) (dd2 : Option Addr) (sl2 : Array (Option Value)) :
    Meets (Builtin.«list.__eq__» ⟨[.ref l, .ref b], []⟩) (fun _ R s => s.heap.get? l = some { cls := .type "list", dict := dd, data := .seq items n, slots := sl } ∧ s.heap.get? b = some { cls := .type "dict", dict := dd2, data := .dict es ep, slots := sl2 } ∧ R (.ok (.ret .notImplemented)) s) :=
  .of_wp fun prog w A R s h => by
    obtain ⟨hp, g, d, tk, os⟩ := s; obtain ⟨hl, hb, h⟩ := h
    have f1 := F.sub_dict_list
    wp_walk using wpAny_loadPart' hl, wpAny_loadPart' hb
    exact ⟨_, rfl, h⟩
theorem tuple_declines_dict (l : Addr) (items : Array Value) (n : Nat) (dd : Option Addr) (sl : Array (Option Value)) (b : Addr) (es : Array DictEntry) (ep : Nat) (dd2 : Option Addr) (sl2 : Array (Option Value)) :
    Meets (Builtin.«tuple.__eq__» ⟨[.ref l, .ref b], []⟩) (fun _ R s => s.heap.get? l = some { cls := .type "tuple", dict := dd, data := .seq items n, slots := sl } ∧ s.heap.get? b = some { cls := .type "dict", dict := dd2, data := .dict es ep, slots := sl2 } ∧ R (.ok (.ret .notImplemented)) s) :=
  .of_wp fun prog w A R s h => by
    obtain ⟨hp, g, d, tk, os⟩ := s; obtain ⟨hl, hb, h⟩ := h
    have f1 := F.sub_dict_tuple
    wp_walk using wpAny_loadPart' hl, wpAny_loadPart' hb
    exact ⟨_, rfl, h⟩
section
variable {A : Around} {s : Shared}
/-- a dict as it stands -/
def IsDic (h : Heap) (a : Addr) (es : Array DictEntry) : Prop := ∃ dd ep sl, h.get? a = some { cls := .type "dict", dict := dd, data := .dict es ep, slots := sl }
theorem IsDic.typeIs {a : Addr} {es : Array DictEntry} (h : IsDic s.heap a es) : s.TypeIs (.ref a) "dict" := let ⟨_, _, _, e⟩ := h; ⟨_, e, rfl⟩
theorem RcAt.dict_none {a : Addr} {es : Array DictEntry} (h : IsDic s.heap a es) (hu : A.units < cLine) : RcAt A s (.ref a) .none false := fun prog w E Q q =>
  rc_eq_decline_or (k := false) h.typeIs rfl (by decide) F.sub_NoneType_dict F.slot_dict_eq F.slot_NoneType_eq_refl
    (fun _ hq => dict_declines (v := .none) (T := "NoneType") h.typeIs rfl F.sub_NoneType_dict hq F.slot_dict_eq)
    (fun _ hq => call_gives F.slot_NoneType_eq_refl rfl F.entry_NoneType_eq (F.args_NoneType_eq_2 _ _) (NoneType___eq___none_ref_0 a) hq)
    (fun _ hq => wpAny_of_eq (rfl : isSame (.ref a) .none = pure false) hq) (.inr hu) q
theorem RcAt.none_dict {a : Addr} {es : Array DictEntry} (h : IsDic s.heap a es) (hu : A.units < cLine) : RcAt A s .none (.ref a) false := fun prog w E Q q =>
  rc_eq_decline_or (k := false) rfl h.typeIs (by decide) F.sub_dict_NoneType F.slot_NoneType_eq F.slot_dict_eq_refl
    (fun _ hq => call_gives F.slot_NoneType_eq rfl F.entry_NoneType_eq (F.args_NoneType_eq_2 _ _) (NoneType___eq___none_ref_0 a) hq)
    (fun _ hq => dict_declines (v := .none) (T := "NoneType") h.typeIs rfl F.sub_NoneType_dict hq F.slot_dict_eq)
    (fun _ hq => wpAny_of_eq (rfl : isSame .none (.ref a) = pure false) hq) (.inr hu) q
theorem RcAt.dict_bool {a : Addr} {es : Array DictEntry} (b : Bool) (h : IsDic s.heap a es) (hu : A.units < cLine) : RcAt A s (.ref a) (.bool b) false := fun prog w E Q q => by
  obtain ⟨dd, ep, sl, e⟩ := id h
  exact rc_eq_decline_or (k := false) h.typeIs rfl (by decide) F.sub_bool_dict F.slot_dict_eq F.slot_bool_eq_refl
    (fun _ hq => dict_declines (v := .bool b) (T := "bool") h.typeIs rfl F.sub_bool_dict hq F.slot_dict_eq)
    (fun _ hq => call_meets F.slot_bool_eq_refl rfl F.entry_int_eq (F.args_int_eq_2 _ _) (bool_declines_obj b a es ep dd sl) ⟨e, hq⟩)
    (fun _ hq => wpAny_of_eq (rfl : isSame (.ref a) (.bool b) = pure false) hq) (.inr hu) q
theorem RcAt.bool_dict {a : Addr} {es : Array DictEntry} (b : Bool) (h : IsDic s.heap a es) (hu : A.units < cLine) : RcAt A s (.bool b) (.ref a) false := fun prog w E Q q => by
  obtain ⟨dd, ep, sl, e⟩ := id h
  exact rc_eq_decline_or (k := false) rfl h.typeIs (by decide) F.sub_dict_bool F.slot_bool_eq F.slot_dict_eq_refl
    (fun _ hq => call_meets F.slot_bool_eq rfl F.entry_int_eq (F.args_int_eq_2 _ _) (bool_declines_obj b a es ep dd sl) ⟨e, hq⟩)
    (fun _ hq => dict_declines (v := .bool b) (T := "bool") h.typeIs rfl F.sub_bool_dict hq F.slot_dict_eq)
    (fun _ hq => wpAny_of_eq (rfl : isSame (.bool b) (.ref a) = pure false) hq) (.inr hu) q
theorem RcAt.dict_int {a : Addr} {es : Array DictEntry} (b : Int) (u : Tok) (h : IsDic s.heap a es) (hu : A.units < cLine) : RcAt A s (.ref a) (.int b u) false := fun prog w E Q q => by
  obtain ⟨dd, ep, sl, e⟩ := id h
  exact rc_eq_decline_or (k := false) h.typeIs (typeIs_int s b u) (by decide) F.sub_int_dict F.slot_dict_eq F.slot_int_eq_refl
    (fun _ hq => dict_declines h.typeIs (typeIs_int s b u) F.sub_int_dict hq F.slot_dict_eq)
    (fun _ hq => call_meets F.slot_int_eq_refl (typeIs_int s b u) F.entry_int_eq (F.args_int_eq_2 _ _) (int_declines_obj b u a es ep dd sl) ⟨e, hq⟩)
    (fun _ hq => wpAny_of_eq (rfl : isSame (.ref a) (.int b u) = pure false) hq) (.inr hu) q
theorem RcAt.int_dict {a : Addr} {es : Array DictEntry} (b : Int) (u : Tok) (h : IsDic s.heap a es) (hu : A.units < cLine) : RcAt A s (.int b u) (.ref a) false := fun prog w E Q q => by
  obtain ⟨dd, ep, sl, e⟩ := id h
  exact rc_eq_decline_or (k := false) (typeIs_int s b u) h.typeIs (by decide) F.sub_dict_int F.slot_int_eq F.slot_dict_eq_refl
    (fun _ hq => call_meets F.slot_int_eq (typeIs_int s b u) F.entry_int_eq (F.args_int_eq_2 _ _) (int_declines_obj b u a es ep dd sl) ⟨e, hq⟩)
    (fun _ hq => dict_declines h.typeIs (typeIs_int s b u) F.sub_int_dict hq F.slot_dict_eq)
    (fun _ hq => wpAny_of_eq (rfl : isSame (.int b u) (.ref a) = pure false) hq) (.inr hu) q
theorem RcAt.dict_str {a : Addr} {es : Array DictEntry} (b : Str) (u : Tok) (h : IsDic s.heap a es) (hu : A.units < cLine) : RcAt A s (.ref a) (.str b u) false := fun prog w E Q q => by
  obtain ⟨dd, ep, sl, e⟩ := id h
  exact rc_eq_decline_or (k := false) h.typeIs (typeIs_str s b u) (by decide) F.sub_str_dict F.slot_dict_eq F.slot_str_eq_refl
    (fun _ hq => dict_declines h.typeIs (typeIs_str s b u) F.sub_str_dict hq F.slot_dict_eq)
    (fun _ hq => call_meets F.slot_str_eq_refl (typeIs_str s b u) F.entry_str_eq (F.args_str_eq_2 _ _) (str_declines_obj b u a es ep dd sl) ⟨e, hq⟩)
    (fun _ hq => wpAny_of_eq (rfl : isSame (.ref a) (.str b u) = pure false) hq) (.inr hu) q
theorem RcAt.str_dict {a : Addr} {es : Array DictEntry} (b : Str) (u : Tok) (h : IsDic s.heap a es) (hu : A.units < cLine) : RcAt A s (.str b u) (.ref a) false := fun prog w E Q q => by
  obtain ⟨dd, ep, sl, e⟩ := id h
  exact rc_eq_decline_or (k := false) (typeIs_str s b u) h.typeIs (by decide) F.sub_dict_str F.slot_str_eq F.slot_dict_eq_refl
    (fun _ hq => call_meets F.slot_str_eq (typeIs_str s b u) F.entry_str_eq (F.args_str_eq_2 _ _) (str_declines_obj b u a es ep dd sl) ⟨e, hq⟩)
    (fun _ hq => dict_declines h.typeIs (typeIs_str s b u) F.sub_str_dict hq F.slot_dict_eq)
    (fun _ hq => wpAny_of_eq (rfl : isSame (.str b u) (.ref a) = pure false) hq) (.inr hu) q
theorem ne_dict_list {l b : Addr} {items : Array Value} {es : Array DictEntry} (hl : s.heap.IsList l items) (hb : IsDic s.heap b es) : l ≠ b := fun e => by
  subst e
  obtain ⟨o, ho, hc, _⟩ := hl
  obtain ⟨_, _, _, ho2⟩ := hb
  rw [ho] at ho2
  cases ho2
  simp at hc
theorem ne_dict_tuple {l b : Addr} {items : Array Value} {es : Array DictEntry} (hl : s.heap.IsTuple l items) (hb : IsDic s.heap b es) : l ≠ b := fun e => by
  subst e
  obtain ⟨o, ho, hc, _⟩ := hl
  obtain ⟨_, _, _, ho2⟩ := hb
  rw [ho] at ho2
  cases ho2
  simp at hc
theorem RcAt.list_dict {l b : Addr} {items : Array Value} {es : Array DictEntry} (hl : s.heap.IsList l items) (hb : IsDic s.heap b es) (hu : A.units < cLine) : RcAt A s (.ref l) (.ref b) false := fun prog w E Q h => by
  have hne := ne_dict_list hl hb
  obtain ⟨⟨cls, dd, data, sl⟩, ho, hc, n, hd⟩ := id hl
  obtain ⟨dd2, ep, sl2, ho2⟩ := id hb
  simp only at hc hd
  subst hc hd
  exact (rc_eq_decline_or (k := false) ⟨_, ho, rfl⟩ hb.typeIs (by decide) F.sub_dict_list F.slot_list_eq F.slot_dict_eq_refl
    (fun _ hq => call_meets F.slot_list_eq ⟨_, ho, rfl⟩ F.entry_list_eq (F.args_list_eq_2 _ _) (list_declines_dict l items n dd sl b es ep dd2 sl2) ⟨ho, ho2, hq⟩)
    (fun _ hq => dict_declines hb.typeIs (show s.TypeIs (.ref l) "list" from ⟨_, ho, rfl⟩) F.sub_list_dict hq F.slot_dict_eq)
    (fun _ hq => wpAny_isSame_ref_other hne ho ho2 (by simp) hq) (.inr hu) h)
theorem RcAt.dict_list {l b : Addr} {items : Array Value} {es : Array DictEntry} (hl : s.heap.IsList l items) (hb : IsDic s.heap b es) (hu : A.units < cLine) : RcAt A s (.ref b) (.ref l) false := fun prog w E Q h => by
  have hne := ne_dict_list hl hb
  obtain ⟨⟨cls, dd, data, sl⟩, ho, hc, n, hd⟩ := id hl
  obtain ⟨dd2, ep, sl2, ho2⟩ := id hb
  simp only at hc hd
  subst hc hd
  exact (rc_eq_decline_or (k := false) hb.typeIs ⟨_, ho, rfl⟩ (by decide) F.sub_list_dict F.slot_dict_eq F.slot_list_eq_refl
    (fun _ hq => dict_declines hb.typeIs (show s.TypeIs (.ref l) "list" from ⟨_, ho, rfl⟩) F.sub_list_dict hq F.slot_dict_eq)
    (fun _ hq => call_meets F.slot_list_eq_refl ⟨_, ho, rfl⟩ F.entry_list_eq (F.args_list_eq_2 _ _) (list_declines_dict l items n dd sl b es ep dd2 sl2) ⟨ho, ho2, hq⟩)
    (fun _ hq => wpAny_isSame_ref_other hne.symm ho2 ho (by simp) hq) (.inr hu) h)
theorem RcAt.tuple_dict {l b : Addr} {items : Array Value} {es : Array DictEntry} (hl : s.heap.IsTuple l items) (hb : IsDic s.heap b es) (hu : A.units < cLine) : RcAt A s (.ref l) (.ref b) false := fun prog w E Q h => by
  have hne := ne_dict_tuple hl hb
  obtain ⟨⟨cls, dd, data, sl⟩, ho, hc, n, hd⟩ := id hl
  obtain ⟨dd2, ep, sl2, ho2⟩ := id hb
  simp only at hc hd
  subst hc hd
  exact (rc_eq_decline_or (k := false) ⟨_, ho, rfl⟩ hb.typeIs (by decide) F.sub_dict_tuple F.slot_tuple_eq F.slot_dict_eq_refl
    (fun _ hq => call_meets F.slot_tuple_eq ⟨_, ho, rfl⟩ F.entry_tuple_eq (F.args_tuple_eq_2 _ _) (tuple_declines_dict l items n dd sl b es ep dd2 sl2) ⟨ho, ho2, hq⟩)
    (fun _ hq => dict_declines hb.typeIs (show s.TypeIs (.ref l) "tuple" from ⟨_, ho, rfl⟩) F.sub_tuple_dict hq F.slot_dict_eq)
    (fun _ hq => wpAny_isSame_ref_other' hne ho ho2 (by simp) hq) (.inr hu) h)
theorem RcAt.dict_tuple {l b : Addr} {items : Array Value} {es : Array DictEntry} (hl : s.heap.IsTuple l items) (hb : IsDic s.heap b es) (hu : A.units < cLine) : RcAt A s (.ref b) (.ref l) false := fun prog w E Q h => by
  have hne := ne_dict_tuple hl hb
  obtain ⟨⟨cls, dd, data, sl⟩, ho, hc, n, hd⟩ := id hl
  obtain ⟨dd2, ep, sl2, ho2⟩ := id hb
  simp only at hc hd
  subst hc hd
  exact (rc_eq_decline_or (k := false) hb.typeIs ⟨_, ho, rfl⟩ (by decide) F.sub_tuple_dict F.slot_dict_eq F.slot_tuple_eq_refl
    (fun _ hq => dict_declines hb.typeIs (show s.TypeIs (.ref l) "tuple" from ⟨_, ho, rfl⟩) F.sub_tuple_dict hq F.slot_dict_eq)
    (fun _ hq => call_meets F.slot_tuple_eq_refl ⟨_, ho, rfl⟩ F.entry_tuple_eq (F.args_tuple_eq_2 _ _) (tuple_declines_dict l items n dd sl b es ep dd2 sl2) ⟨ho, ho2, hq⟩)
    (fun _ hq => wpAny_isSame_ref_other hne.symm ho2 ho (by simp) hq) (.inr hu) h)
def flatW : Value → Bool
  | .none => true | .bool _ => true | .int _ _ => true | .str _ _ => true | _ => false
/-- as one item among others -/
theorem EqAt.of_flat {a : Addr} {v : Value} {k : Bool} (hv : v.onHeap = false) (h : RcAt A s (.ref a) v k) (ne : (Value.ref a == v) = false) : EqAt A s (.ref a) v k := fun prog w E Q q => by
  unfold eqBool
  refine wpAny_holding ?_
  refine wpAny_ite_split (fun hab => by rw [ne] at hab; cases hab) (fun _ => ?_)
  exact wpAny_bind (h prog w E _ (wpAny_truthy_bool q))
theorem EqAt.of_flat' {a : Addr} {v : Value} {k : Bool} (hv : flatW v = true) (h : RcAt A s v (.ref a) k) (ne : (v == Value.ref a) = false) : EqAt A s v (.ref a) k := fun prog w E Q q => by
  unfold eqBool
  refine wpAny_holding ?_
  refine wpAny_ite_split (fun hab => by rw [ne] at hab; cases hab) (fun _ => ?_)
  cases v with
  | float => cases hv
  | none => exact wpAny_bind (h prog w E _ (wpAny_truthy_bool q))
  | bool => exact wpAny_bind (h prog w E _ (wpAny_truthy_bool q))
  | int => exact wpAny_bind (h prog w E _ (wpAny_truthy_bool q))
  | str => exact wpAny_bind (h prog w E _ (wpAny_truthy_bool q))
  | _ => cases hv
end
end PySem.SeqAt

set_option Elab.async false
set_option linter.all false
set_option maxRecDepth 100000
set_option maxHeartbeats 400000
namespace Rk
open PySem PySem.Spec PyProof.Rows L2
mutual
/-- ==, an empty dict among the values too -/
def deqv : PyData → PyData → Bool
  | .list xs, .list ys => deqs xs ys
  | .tuple xs, .tuple ys => deqs xs ys
  | .dict _, .dict _ => true
  | x, y => PyData.eqv x y
def deqs : List PyData → List PyData → Bool
  | [], [] => true
  | x :: xs, y :: ys => deqv x y && deqs xs ys
  | _, _ => false
end
mutual
/-- its dicts are empty -/
def eD : PyData → Bool
  | .list xs => eDs xs
  | .tuple xs => eDs xs
  | .dict kvs => kvs.isEmpty
  | .str x => PyData.strOk x
  | _ => true
def eDs : List PyData → Bool
  | [] => true
  | x :: xs => eD x && eDs xs
end
mutual
theorem deqv_refl : ∀ d : PyData, deqv d d = true
  | .none => rfl
  | .bool b => by simp [deqv, PyData.eqv]
  | .int i => by simp [deqv, PyData.eqv]
  | .str x => by simp [deqv, PyData.eqv]
  | .list xs => by rw [deqv]; exact deqs_refl xs
  | .tuple xs => by rw [deqv]; exact deqs_refl xs
  | .dict _ => by rw [deqv]
theorem deqs_refl : ∀ ds : List PyData, deqs ds ds = true
  | [] => rfl
  | x :: xs => by rw [deqs, deqv_refl x, deqs_refl xs]; rfl
end
def prs (xs ys : List PyData) (j : Nat) : Bool := deqv (xs.getD j .none) (ys.getD j .none)
theorem deqs_prs : ∀ xs ys : List PyData, deqs xs ys = ((List.range (min xs.length ys.length)).all (prs xs ys) && xs.length == ys.length)
  | [], [] => rfl
  | [], _ :: _ => by simp [deqs]
  | _ :: _, [] => by simp [deqs]
  | x :: xs, y :: ys => by
    have ih := deqs_prs xs ys
    rw [deqs, ih]
    rw [show min (x :: xs).length (y :: ys).length = min xs.length ys.length + 1 by simp only [List.length_cons]; omega]
    rw [show ((x :: xs).length == (y :: ys).length) = (xs.length == ys.length) by simp]
    rw [List.range_succ_eq_map, List.all_cons, List.all_map, Bool.and_assoc]
    rfl
theorem deqs_len {xs ys : List PyData} (h : xs.length = ys.length) : deqs xs ys = (List.range xs.length).all (prs xs ys) := by
  rw [deqs_prs, ← h, Nat.min_self]; simp
theorem deqs_ne {xs ys : List PyData} (h : xs.length ≠ ys.length) : deqs xs ys = false := by
  rw [deqs_prs]; simp [h]
mutual
/-- what a value reads as: its dicts are empty -/
inductive Rd0 (h : Heap) : Value → PyData → Prop
  | none : Rd0 h .none .none
  | bool (b : Bool) : Rd0 h (.bool b) (.bool b)
  | int (i : Int) (t : Tok) : Rd0 h (.int i t) (.int i)
  | str (x : Str) (t : Tok) : Rd0 h (.str x t) (.str x)
  | list {a : Addr} {vs : Array Value} {ds : List PyData} : h.IsList a vs → Rd0s h vs.toList ds → Rd0 h (.ref a) (.list ds)
  | tuple {a : Addr} {vs : Array Value} {ds : List PyData} : h.IsTuple a vs → Rd0s h vs.toList ds → Rd0 h (.ref a) (.tuple ds)
  | dict {a : Addr} : SeqAt.IsDic h a #[] → (a == sysModules) = false → Rd0 h (.ref a) (.dict [])
inductive Rd0s (h : Heap) : List Value → List PyData → Prop
  | nil : Rd0s h [] []
  | cons {v : Value} {vs : List Value} {d : PyData} {ds : List PyData} : Rd0 h v d → Rd0s h vs ds → Rd0s h (v :: vs) (d :: ds)
end
theorem Rd0s.len {h : Heap} : ∀ {vs : List Value} {ds : List PyData}, Rd0s h vs ds → vs.length = ds.length
  | _, [], r => by cases r; rfl
  | _, _ :: _, r => by
    cases r with
    | cons _ t => simp [t.len]
theorem list_once {h : Heap} {a : Addr} {vs ws : Array Value} (x : h.IsList a vs) (y : h.IsList a ws) : vs = ws := by
  obtain ⟨o, ho, hc, _, hd⟩ := x
  obtain ⟨o2, ho2, hc2, _, hd2⟩ := y
  cases ho.symm.trans ho2
  cases hd.symm.trans hd2
  rfl
theorem tuple_once {h : Heap} {a : Addr} {vs ws : Array Value} (x : h.IsTuple a vs) (y : h.IsTuple a ws) : vs = ws := by
  obtain ⟨o, ho, hc, _, hd⟩ := x
  obtain ⟨o2, ho2, hc2, _, hd2⟩ := y
  cases ho.symm.trans ho2
  cases hd.symm.trans hd2
  rfl
theorem not_both {h : Heap} {a : Addr} {vs ws : Array Value} (x : h.IsList a vs) (y : h.IsTuple a ws) : False := by
  obtain ⟨o, ho, hc, _⟩ := x
  obtain ⟨o2, ho2, hc2, _⟩ := y
  cases ho.symm.trans ho2
  exact absurd (hc.symm.trans hc2) (by simp)
theorem not_bothD {h : Heap} {a : Addr} {vs : Array Value} {es : Array DictEntry} (x : h.IsList a vs) (y : SeqAt.IsDic h a es) : False := by
  obtain ⟨o, ho, hc, _⟩ := x
  obtain ⟨_, _, _, ho2⟩ := y
  cases ho.symm.trans ho2
  exact absurd hc (by simp)
theorem not_bothE {h : Heap} {a : Addr} {vs : Array Value} {es : Array DictEntry} (x : h.IsTuple a vs) (y : SeqAt.IsDic h a es) : False := by
  obtain ⟨o, ho, hc, _⟩ := x
  obtain ⟨_, _, _, ho2⟩ := y
  cases ho.symm.trans ho2
  exact absurd hc (by simp)
mutual
theorem rd_one {h : Heap} : ∀ {d e : PyData} {v : Value}, Rd0 h v d → Rd0 h v e → d = e
  | .none, _, _, r, q => by cases r; cases q; rfl
  | .bool _, _, _, r, q => by cases r; cases q; rfl
  | .int _, _, _, r, q => by cases r; cases q; rfl
  | .str _, _, _, r, q => by cases r; cases q; rfl
  | .list xs, e, _, r, q => by
    cases r with
    | list h1 h2 =>
      cases q with
      | list k1 k2 => cases list_once h1 k1; rw [rd_all h2 k2]
      | tuple k1 _ => exact (not_both h1 k1).elim
      | dict k1 _ => exact (not_bothD h1 k1).elim
  | .tuple xs, e, _, r, q => by
    cases r with
    | tuple h1 h2 =>
      cases q with
      | tuple k1 k2 => cases tuple_once h1 k1; rw [rd_all h2 k2]
      | list k1 _ => exact (not_both k1 h1).elim
      | dict k1 _ => exact (not_bothE h1 k1).elim
  | .dict kvs, e, v, r, q => by
    cases r with
    | dict h1 h2 =>
      cases q with
      | list k1 _ => exact (not_bothD k1 h1).elim
      | tuple k1 _ => exact (not_bothE k1 h1).elim
      | dict k1 _ => rfl
theorem rd_all {h : Heap} : ∀ {xs ys : List PyData} {vs : List Value}, Rd0s h vs xs → Rd0s h vs ys → xs = ys
  | [], _, _, r, q => by cases r; cases q; rfl
  | x :: xs, _, _, r, q => by
    cases r with
    | cons h1 h2 =>
      cases q with
      | cons k1 k2 => rw [rd_one h1 k1, rd_all h2 k2]
end
theorem room2 {u a b : Nat} (h : u + min (a + 1) (b + 1) < cLine) : u < cLine ∧ u + 1 + min a b < cLine := by omega
theorem roomH {u a b c d : Nat} (h : u + min (max a b) (max c d) < cLine) : u + min a c < cLine ∧ u + min b d < cLine := by omega
section
open SeqAt
variable {s : Shared} {A : Around}
theorem eqat_dict {a b : Addr} (ha : IsDic s.heap a #[]) (hb : IsDic s.heap b #[]) (ma : (a == sysModules) = false) (mb : (b == sysModules) = false) (hu : A.units < cLine) : RcAt A s (.ref a) (.ref b) true := fun prog w E Q q => by
  refine wpAny_richCompare_same_room (op := .Eq) ha.typeIs hb.typeIs PySem.F.slot_dict_eq (wpAny_call_entry PySem.F.slot_dict_eq ha.typeIs PySem.F.entry_dict_eq ?_ (PySem.F.args_dict_eq_2 _ _)) hu
  have ta := ha.typeIs (s := s)
  have tb := hb.typeIs (s := s)
  obtain ⟨dd, ep, sl, e⟩ := ha
  obtain ⟨dd2, ep2, sl2, e2⟩ := hb
  refine wpAny_bind (m := Builtin.Dict.dictSlotArgs "__eq__" ⟨[.ref a, .ref b], []⟩) ?_
  unfold Builtin.Dict.dictSlotArgs
  refine wpAny_bind (wpAny_notOrdered_dict ta (wpAny_pure ?_))
  refine wpAny_bind (wpAny_isInstance (T := "dict") tb PySem.F.sub_dict_dict ?_)
  simp only [Bool.not_true, Bool.false_eq_true, if_false]
  refine wpAny_bind (wpAny_pure (wpAny_bind (wpAny_pure (wpAny_bind ?_))))
  unfold Builtin.Dict.samePairs Builtin.Dict.showsAll
  rw [if_neg (by rw [ma]; exact Bool.false_ne_true), if_neg (by rw [mb]; exact Bool.false_ne_true)]
  refine wpAny_bind (wpAny_pure (wpAny_bind (wpAny_pure (wpAny_bind (wpAny_dictEntries e rfl ?_)))))
  dsimp only
  refine wpAny_bind (wpAny_dictEntries e2 rfl ?_)
  rw [if_neg (by simp)]
  refine wpAny_bind (wpAny_dictEpoch e rfl ?_)
  refine wpAny_bind ?_
  rw [Std.Legacy.Range.forIn_eq_forIn_range']
  simp only [Std.Legacy.Range.size, Nat.sub_zero, Nat.add_sub_cancel, Nat.div_one, Array.size_empty, List.range'_zero, List.forIn_nil]
  refine wpAny_pure (wpAny_pure (wpAny_pure ⟨_, rfl, fun x => (nomatch x), ?_⟩))
  simpa using q
theorem EqAt.heap {a b : Addr} {k : Bool} (h : RcAt A s (.ref a) (.ref b) k) (same : a = b → k = true) : EqAt A s (.ref a) (.ref b) k := by
  by_cases e : a = b
  · subst e; rw [same rfl]; exact EqAt.same _
  · exact EqAt.of_refs e h
/-- the items of d against any others -/
def Its0 (s : Shared) (d : PyData) : Prop := ∀ xs, (d = .list xs ∨ d = .tuple xs) → ∀ {ys : List PyData} {A : Around} {vs ws : List Value}, Rd0s s.heap vs xs → Rd0s s.heap ws ys → A.units + min (PyData.depthAll xs) (PyData.depthAll ys) < cLine → ∀ j (h1 : j < vs.length) (h2 : j < ws.length), EqAt A s vs[j] ws[j] (prs xs ys j)
theorem rcat0 {d e : PyData} {a b : Value} (its : Its0 s d) (r : Rd0 s.heap a d) (q : Rd0 s.heap b e) (hu : A.units + min d.depth e.depth < cLine) : RcAt A s a b (deqv d e) := by
    have u0 : A.units < cLine := by omega
    cases r with
    | none =>
      cases q with
      | none => exact RcAt.none_none
      | bool y => exact RcAt.none_bool y
      | int y u => exact RcAt.none_int y u
      | str y u => exact RcAt.none_str y u
      | list k _ => exact RcAt.none_list k u0
      | tuple k _ => exact RcAt.none_tuple k u0
      | dict k _ => exact RcAt.none_dict k u0
    | bool x =>
      cases q with
      | none => exact RcAt.bool_none x
      | bool y => exact RcAt.bool_bool x y
      | int y u => exact RcAt.bool_int x y u
      | str y u => exact RcAt.bool_str x y u
      | list k _ => exact RcAt.bool_list x k u0
      | tuple k _ => exact RcAt.bool_tuple x k u0
      | dict k _ => exact RcAt.bool_dict x k u0
    | int x t =>
      cases q with
      | none => exact RcAt.int_none x t
      | bool y => exact RcAt.int_bool x t y
      | int y u => exact RcAt.int_int x t y u
      | str y u => exact RcAt.int_str x t y u
      | list k _ => exact RcAt.int_list x t k u0
      | tuple k _ => exact RcAt.int_tuple x t k u0
      | dict k _ => exact RcAt.int_dict x t k u0
    | str x t =>
      cases q with
      | none => exact RcAt.str_none x t
      | bool y => exact RcAt.str_bool x t y
      | int y u => exact RcAt.str_int x t y u
      | str y u => exact RcAt.str_str x t y u
      | list k _ => exact RcAt.str_list x t k u0
      | tuple k _ => exact RcAt.str_tuple x t k u0
      | dict k _ => exact RcAt.str_dict x t k u0
    | @list l vs xs h1 h2 =>
      cases q with
      | none => exact RcAt.list_none h1 u0
      | bool y => exact RcAt.list_bool y h1 u0
      | int y u => exact RcAt.list_int y u h1 u0
      | str y u => exact RcAt.list_str y u h1 u0
      | tuple k _ => exact RcAt.list_tuple h1 k u0
      | dict k _ => exact RcAt.list_dict h1 k u0
      | @list l2 ws ys k1 k2 =>
        have n1 := h2.len
        have n2 := k2.len
        simp only [Array.length_toList] at n1 n2
        show RcAt A s _ _ (deqs xs ys)
        by_cases sz : vs.size = ws.size
        · rw [deqs_len (by omega), ← n1]
          exact RcAt.lists h1 k1 sz u0 fun j j1 j2 => by
            have z := its xs (by first | exact .inl rfl | exact .inr rfl) (A := A.in1) h2 k2 (room2 hu).2 j (by simpa using j1) (by simpa using j2)
            rw [Array.getElem_toList, Array.getElem_toList] at z
            exact z
        · rw [deqs_ne (by omega)]
          exact RcAt.lists_lengths h1 k1 (by simpa using sz) u0
    | @tuple l vs xs h1 h2 =>
      cases q with
      | none => exact RcAt.tuple_none h1 u0
      | bool y => exact RcAt.tuple_bool y h1 u0
      | int y u => exact RcAt.tuple_int y u h1 u0
      | str y u => exact RcAt.tuple_str y u h1 u0
      | list k _ => exact RcAt.tuple_list h1 k u0
      | dict k _ => exact RcAt.tuple_dict h1 k u0
      | @tuple l2 ws ys k1 k2 =>
        have n1 := h2.len
        have n2 := k2.len
        simp only [Array.length_toList] at n1 n2
        show RcAt A s _ _ (deqs xs ys)
        rw [deqs_prs, ← n1, ← n2]
        exact RcAt.tuples h1 k1 u0 fun j j1 j2 => by
            have z := its xs (by first | exact .inl rfl | exact .inr rfl) (A := A.in1) h2 k2 (room2 hu).2 j (by simpa using j1) (by simpa using j2)
            rw [Array.getElem_toList, Array.getElem_toList] at z
            exact z
    | dict h1 h2 =>
      cases q with
      | none => exact RcAt.dict_none h1 u0
      | bool y => exact RcAt.dict_bool y h1 u0
      | int y u => exact RcAt.dict_int y u h1 u0
      | str y u => exact RcAt.dict_str y u h1 u0
      | list k _ => exact RcAt.dict_list k h1 u0
      | tuple k _ => exact RcAt.dict_tuple k h1 u0
      | dict k k2 => exact eqat_dict h1 k h2 k2 u0
theorem eqat_go {d e : PyData} {a b : Value} (its : Its0 s d) (r : Rd0 s.heap a d) (q : Rd0 s.heap b e) (hu : A.units + min d.depth e.depth < cLine) : EqAt A s a b (deqv d e) := by
    have R := rcat0 its r q hu
    have same : ∀ {c : Addr}, a = .ref c → b = .ref c → deqv d e = true := fun h1 h2 => by
      subst h1 h2; rw [rd_one r q]; exact deqv_refl e
    cases a with
    | ref l =>
      cases b with
      | ref m => exact EqAt.heap R fun z => by subst z; exact same rfl rfl
      | none => exact EqAt.of_flat rfl R rfl
      | bool y => exact EqAt.of_flat rfl R rfl
      | int y u => exact EqAt.of_flat rfl R rfl
      | str y u => exact EqAt.of_flat rfl R rfl
      | _ => cases q
    | none =>
      cases b with
      | ref m => exact EqAt.of_flat' rfl R rfl
      | none => cases r; cases q; exact EqAt.same _
      | bool y => cases r; cases q; exact EqAt.none_bool y
      | int y u => cases r; cases q; exact EqAt.none_int y u
      | str y u => cases r; cases q; exact EqAt.none_str y u
      | _ => cases q
    | bool x =>
      cases b with
      | ref m => exact EqAt.of_flat' rfl R rfl
      | none => cases r; cases q; exact EqAt.bool_none x
      | bool y => cases r; cases q; exact EqAt.bool_bool x y
      | int y u => cases r; cases q; exact EqAt.bool_int x y u
      | str y u => cases r; cases q; exact EqAt.bool_str x y u
      | _ => cases q
    | int x t =>
      cases b with
      | ref m => exact EqAt.of_flat' rfl R rfl
      | none => cases r; cases q; exact EqAt.int_none x t
      | bool y => cases r; cases q; exact EqAt.int_bool x t y
      | int y u => cases r; cases q; exact EqAt.int_int x t y u
      | str y u => cases r; cases q; exact EqAt.int_str x t y u
      | _ => cases q
    | str x t =>
      cases b with
      | ref m => exact EqAt.of_flat' rfl R rfl
      | none => cases r; cases q; exact EqAt.str_none x t
      | bool y => cases r; cases q; exact EqAt.str_bool x t y
      | int y u => cases r; cases q; exact EqAt.str_int x t y u
      | str y u => cases r; cases q; exact EqAt.str_str x t y u
      | _ => cases q
    | _ => cases r
mutual
theorem eqat0 : ∀ (d : PyData) {e : PyData} {A : Around} {a b : Value}, Rd0 s.heap a d → Rd0 s.heap b e → A.units + min d.depth e.depth < cLine → EqAt A s a b (deqv d e)
  | .none, _, _, _, _, r, q, hu => eqat_go (fun _ h => by rcases h with h | h <;> cases h) r q hu
  | .bool _, _, _, _, _, r, q, hu => eqat_go (fun _ h => by rcases h with h | h <;> cases h) r q hu
  | .int _, _, _, _, _, r, q, hu => eqat_go (fun _ h => by rcases h with h | h <;> cases h) r q hu
  | .str _, _, _, _, _, r, q, hu => eqat_go (fun _ h => by rcases h with h | h <;> cases h) r q hu
  | .dict _, _, _, _, _, r, q, hu => eqat_go (fun _ h => by rcases h with h | h <;> cases h) r q hu
  | .list xs, _, _, _, _, r, q, hu => eqat_go (fun zs h => by
      have e : zs = xs := by rcases h with h | h <;> cases h; rfl
      subst e
      intro ys A vs ws r q hu j h1 h2
      exact eqats0 zs r q hu j h1 h2) r q hu
  | .tuple xs, _, _, _, _, r, q, hu => eqat_go (fun zs h => by
      have e : zs = xs := by rcases h with h | h <;> cases h; rfl
      subst e
      intro ys A vs ws r q hu j h1 h2
      exact eqats0 zs r q hu j h1 h2) r q hu
theorem eqats0 : ∀ (xs : List PyData) {ys : List PyData} {A : Around} {vs ws : List Value}, Rd0s s.heap vs xs → Rd0s s.heap ws ys → A.units + min (PyData.depthAll xs) (PyData.depthAll ys) < cLine → ∀ j (h1 : j < vs.length) (h2 : j < ws.length), EqAt A s vs[j] ws[j] (prs xs ys j)
  | [], _, _, _, _, r, _, _, j, h1, _ => by cases r; exact absurd h1 (Nat.not_lt_zero _)
  | _ :: _, [], _, _, _, _, q, _, j, _, h2 => by cases q; exact absurd h2 (Nat.not_lt_zero _)
  | x :: xs, y :: ys, A, _, _, r, q, hu, j, h1, h2 => by
    cases r with
    | cons r rs =>
      cases q with
      | cons q qs =>
        cases j with
        | zero => exact eqat0 x r q (roomH hu).1
        | succ j => exact eqats0 xs rs qs (roomH hu).2 j (Nat.lt_of_succ_lt_succ h1) (Nat.lt_of_succ_lt_succ h2)
end
end
section
variable {X : Cx} {pins : List (Addr × Obj)} {σ : L2.St} {H : Hp} {s : Shared}
mutual
theorem Dq.rd0 (I : Inv X pins σ H s) : ∀ (d : PyData) {n : Nat} {v : V} {u : Value}, Dq X.K H n v d → RelV v u → Rd0 s.heap u d
  | .none, _, _, _, h, r => by cases h; cases r; exact .none
  | .bool b, _, _, _, h, r => by cases h; cases r; exact .bool b
  | .int i, _, _, _, h, r => by cases h; obtain ⟨t, rfl⟩ := r; exact .int i t
  | .str x, _, _, _, h, r => by cases h; obtain ⟨t, rfl⟩ := r; exact .str x t
  | .list ds, _, _, _, h, r => by
    cases h with
    | lst hs ha =>
      cases r
      obtain ⟨its, rv, il, _⟩ := I.list hs
      exact .list il.isList (by simpa using Dq.rd0s I ds ha rv)
  | .tuple ds, _, _, _, h, r => by
    cases h with
    | tup hs ha =>
      cases r
      obtain ⟨its, rv, it, _⟩ := I.tuple hs
      exact .tuple it (by simpa using Dq.rd0s I ds ha rv)
  | .dict ds, _, _, _, h, r => by
    obtain ⟨rfl, a, o, m, rfl, hm, ho, hc, hd⟩ := Dq.dict0 I h r
    obtain ⟨cls, dd, data, sl⟩ := o
    simp only at hc hd
    subst hc hd
    exact .dict ⟨dd, m, sl, ho⟩ hm
theorem Dq.rd0s (I : Inv X pins σ H s) : ∀ (ds : List PyData) {n : Nat} {vs : List V} {us : List Value}, Dqs X.K H n vs ds → Vals vs us → Rd0s s.heap us ds
  | [], _, _, _, h, r => by cases h; cases r; exact .nil
  | d :: ds, _, _, _, h, r => by
    cases h with
    | cons h1 h2 =>
      cases r with
      | cons r1 r2 => exact .cons (Dq.rd0 I d h1 r1) (Dq.rd0s I ds h2 r2)
end
end
section
variable {X : Cx} {K : PySem.W.Frag}
/-- == and != -/
def fEqD (neg : Bool) : F2 := fun x y A Q => ∃ d e, dat 12 A x = some d ∧ dat 12 A y = some e ∧ Q (.bl (neg != deqv d e)) A
theorem eqD_go {s : Shared} {d e : PyData} {v w : V} {u u' : Value} {pins : List (Addr × Obj)} {σ : L2.St} {H : Hp} (I : Inv X pins σ H s) (hu : X.A.units + 64 < cLine) (h1 : Dq X.K H 12 v d) (h2 : Dq X.K H 12 w e) (r : RelV v u) (r' : RelV w u') : SeqAt.RcAt X.A s u u' (deqv d e) := by
  have k := Dq.depth d _ _ h1
  refine rcat0 (fun xs h => ?_) (Dq.rd0 I d h1 r) (Dq.rd0 I e h2 r') (by omega)
  intro ys A vs ws r q hu j g1 g2
  exact eqats0 xs r q hu j g1 g2
theorem o_eqD (hu : X.A.units + 64 < cLine) : O2 X (compareOp .Eq) (fEqD false) := by
  intro pins s σ H v u vv uu Q I rv ru ⟨x, y, A, Qa, r1, r2, sa, q, d, e, hd, he, w⟩
  exact eqD_go I hu (dat_ok sa hd r1) (dat_ok sa he r2) rv ru _ _ _ _ ⟨.bl _, H, I, rfl, q _ _ _ _ (re_bl _) sa .refl (by simpa using w)⟩
end
end Rk

set_option Elab.async false
set_option linter.all false
set_option maxRecDepth 100000
set_option maxHeartbeats 400000
/-! != of such values -/
namespace PySem.SeqAt
open PyProof.Rows MeetsSeq
open AutoSeq1 (wpAny_loadPart')
section
variable {prog : Program} {w : World} {A : Around} {E : Value → Shared → Prop} {s : Shared}
theorem dict_ndeclines {a : Addr} {v : Value} {T : String} (ha : s.TypeIs (.ref a) "dict") (hv : s.TypeIs v T) (hs : isSubtype (.type T) (.type "dict") = pure false) {Q : Value → Shared → Prop} (h : Q .notImplemented s) {id : String} (hid : Slot "dict" id "dict.__ne__") :
    wpAny (model prog w) A (call (.builtin "dict.__ne__") [.ref a, v]) Q E s := by
  refine wpAny_call_entry PySem.F.slot_dict_ne ha PySem.F.entry_dict_ne ?_ (PySem.F.args_dict_ne_2 _ _)
  show wpAny _ _ (Builtin.Dict.dictSlotArgs "__ne__" ⟨[.ref a, v], []⟩ >>= _) _ _ s
  refine wpAny_bind ?_
  unfold Builtin.Dict.dictSlotArgs
  refine wpAny_bind (wpAny_notOrdered_dict ha ?_)
  show wpAny _ _ (pure (Value.ref a, v)) _ _ s
  refine wpAny_pure ?_
  refine wpAny_bind (wpAny_isInstance hv hs ?_)
  simp only [Bool.not_false, if_true]
  exact wpAny_bind (wpAny_rule (wpAny_pure ⟨_, rfl, h⟩))
end
theorem str_ndeclines_obj (b : Str) (u : Tok) (l : Addr) (es : Array DictEntry) (ep : Nat) (dd : Option Addr) (sl : Array (Option Value)) :
    Meets (Builtin.«str.__ne__» ⟨[.str b u, .ref l], []⟩) (fun _ R s => s.heap.get? l = some { cls := .type "dict", dict := dd, data := .dict es ep, slots := sl } ∧ R (.ok (.ret .notImplemented)) s) :=
  .of_wp fun prog w A R s h => by
    obtain ⟨hp, g, d, tk, os⟩ := s; obtain ⟨hl, h⟩ := h
    have f1 := F.sub_dict_str
    wp_walk using wpAny_loadPart' hl
    exact ⟨_, rfl, h⟩
theorem int_ndeclines_obj (b : Int) (u : Tok) (l : Addr) (es : Array DictEntry) (ep : Nat) (dd : Option Addr) (sl : Array (Option Value)) :
    Meets (Builtin.«int.__ne__» ⟨[.int b u, .ref l], []⟩) (fun _ R s => s.heap.get? l = some { cls := .type "dict", dict := dd, data := .dict es ep, slots := sl } ∧ R (.ok (.ret .notImplemented)) s) :=
  .of_wp fun prog w A R s h => by
    obtain ⟨hp, g, d, tk, os⟩ := s; obtain ⟨hl, h⟩ := h
    have f1 := F.sub_dict_int
    wp_walk using wpAny_loadPart' hl
    exact ⟨_, rfl, h⟩
theorem bool_ndeclines_obj (b : Bool) (l : Addr) (es : Array DictEntry) (ep : Nat) (dd : Option Addr) (sl : Array (Option Value)) :
    Meets (Builtin.«int.__ne__» ⟨[.bool b, .ref l], []⟩) (fun _ R s => s.heap.get? l = some { cls := .type "dict", dict := dd, data := .dict es ep, slots := sl } ∧ R (.ok (.ret .notImplemented)) s) :=
  .of_wp fun prog w A R s h => by
    obtain ⟨hp, g, d, tk, os⟩ := s; obtain ⟨hl, h⟩ := h
    have f1 := F.sub_dict_int
    wp_walk using wpAny_loadPart' hl
    exact ⟨_, rfl, h⟩
theorem list_ndeclines_dict (l : Addr) (items : Array Value) (n : Nat) (dd : Option Addr) (sl : Array (Option Value)) (b : Addr) (es : Array DictEntry) (ep : Nat) (dd2 : Option Addr) (sl2 : Array (Option Value)) :
    Meets (Builtin.«list.__ne__» ⟨[.ref l, .ref b], []⟩) (fun _ R s => s.heap.get? l = some { cls := .type "list", dict := dd, data := .seq items n, slots := sl } ∧ s.heap.get? b = some { cls := .type "dict", dict := dd2, data := .dict es ep, slots := sl2 } ∧ R (.ok (.ret .notImplemented)) s) :=
  .of_wp fun prog w A R s h => by
    obtain ⟨hp, g, d, tk, os⟩ := s; obtain ⟨hl, hb, h⟩ := h
    have f1 := F.sub_dict_list
    wp_walk using wpAny_loadPart' hl, wpAny_loadPart' hb
    exact ⟨_, rfl, h⟩
theorem tuple_ndeclines_dict (l : Addr) (items : Array Value) (n : Nat) (dd : Option Addr) (sl : Array (Option Value)) (b : Addr) (es : Array DictEntry) (ep : Nat) (dd2 : Option Addr) (sl2 : Array (Option Value)) :
    Meets (Builtin.«tuple.__ne__» ⟨[.ref l, .ref b], []⟩) (fun _ R s => s.heap.get? l = some { cls := .type "tuple", dict := dd, data := .seq items n, slots := sl } ∧ s.heap.get? b = some { cls := .type "dict", dict := dd2, data := .dict es ep, slots := sl2 } ∧ R (.ok (.ret .notImplemented)) s) :=
  .of_wp fun prog w A R s h => by
    obtain ⟨hp, g, d, tk, os⟩ := s; obtain ⟨hl, hb, h⟩ := h
    have f1 := F.sub_dict_tuple
    wp_walk using wpAny_loadPart' hl, wpAny_loadPart' hb
    exact ⟨_, rfl, h⟩
section
variable {A : Around} {s : Shared}
theorem RcNeAt.dict_none {a : Addr} {es : Array DictEntry} (h : IsDic s.heap a es) (hu : A.units < cLine) : RcNeAt A s (.ref a) .none true := fun prog w E Q q =>
  rc_ne_decline_or (k := false) h.typeIs rfl (by decide) F.sub_NoneType_dict F.slot_dict_ne F.slot_NoneType_ne_refl
    (fun _ hq => dict_ndeclines (v := .none) (T := "NoneType") h.typeIs rfl F.sub_NoneType_dict hq F.slot_dict_ne)
    (fun _ hq => call_gives F.slot_NoneType_ne_refl rfl F.entry_NoneType_ne (F.args_NoneType_ne_2 _ _) (NoneType___ne___none_ref_0 a) hq)
    (fun _ hq => wpAny_of_eq (rfl : isSame (.ref a) .none = pure false) hq) (.inr hu) q
theorem RcNeAt.none_dict {a : Addr} {es : Array DictEntry} (h : IsDic s.heap a es) (hu : A.units < cLine) : RcNeAt A s .none (.ref a) true := fun prog w E Q q =>
  rc_ne_decline_or (k := false) rfl h.typeIs (by decide) F.sub_dict_NoneType F.slot_NoneType_ne F.slot_dict_ne_refl
    (fun _ hq => call_gives F.slot_NoneType_ne rfl F.entry_NoneType_ne (F.args_NoneType_ne_2 _ _) (NoneType___ne___none_ref_0 a) hq)
    (fun _ hq => dict_ndeclines (v := .none) (T := "NoneType") h.typeIs rfl F.sub_NoneType_dict hq F.slot_dict_ne)
    (fun _ hq => wpAny_of_eq (rfl : isSame .none (.ref a) = pure false) hq) (.inr hu) q
theorem RcNeAt.dict_bool {a : Addr} {es : Array DictEntry} (b : Bool) (h : IsDic s.heap a es) (hu : A.units < cLine) : RcNeAt A s (.ref a) (.bool b) true := fun prog w E Q q => by
  obtain ⟨dd, ep, sl, e⟩ := id h
  exact rc_ne_decline_or (k := false) h.typeIs rfl (by decide) F.sub_bool_dict F.slot_dict_ne F.slot_bool_ne_refl
    (fun _ hq => dict_ndeclines (v := .bool b) (T := "bool") h.typeIs rfl F.sub_bool_dict hq F.slot_dict_ne)
    (fun _ hq => call_meets F.slot_bool_ne_refl rfl F.entry_int_ne (F.args_int_ne_2 _ _) (bool_ndeclines_obj b a es ep dd sl) ⟨e, hq⟩)
    (fun _ hq => wpAny_of_eq (rfl : isSame (.ref a) (.bool b) = pure false) hq) (.inr hu) q
theorem RcNeAt.bool_dict {a : Addr} {es : Array DictEntry} (b : Bool) (h : IsDic s.heap a es) (hu : A.units < cLine) : RcNeAt A s (.bool b) (.ref a) true := fun prog w E Q q => by
  obtain ⟨dd, ep, sl, e⟩ := id h
  exact rc_ne_decline_or (k := false) rfl h.typeIs (by decide) F.sub_dict_bool F.slot_bool_ne F.slot_dict_ne_refl
    (fun _ hq => call_meets F.slot_bool_ne rfl F.entry_int_ne (F.args_int_ne_2 _ _) (bool_ndeclines_obj b a es ep dd sl) ⟨e, hq⟩)
    (fun _ hq => dict_ndeclines (v := .bool b) (T := "bool") h.typeIs rfl F.sub_bool_dict hq F.slot_dict_ne)
    (fun _ hq => wpAny_of_eq (rfl : isSame (.bool b) (.ref a) = pure false) hq) (.inr hu) q
theorem RcNeAt.dict_int {a : Addr} {es : Array DictEntry} (b : Int) (u : Tok) (h : IsDic s.heap a es) (hu : A.units < cLine) : RcNeAt A s (.ref a) (.int b u) true := fun prog w E Q q => by
  obtain ⟨dd, ep, sl, e⟩ := id h
  exact rc_ne_decline_or (k := false) h.typeIs (typeIs_int s b u) (by decide) F.sub_int_dict F.slot_dict_ne F.slot_int_ne_refl
    (fun _ hq => dict_ndeclines h.typeIs (typeIs_int s b u) F.sub_int_dict hq F.slot_dict_ne)
    (fun _ hq => call_meets F.slot_int_ne_refl (typeIs_int s b u) F.entry_int_ne (F.args_int_ne_2 _ _) (int_ndeclines_obj b u a es ep dd sl) ⟨e, hq⟩)
    (fun _ hq => wpAny_of_eq (rfl : isSame (.ref a) (.int b u) = pure false) hq) (.inr hu) q
theorem RcNeAt.int_dict {a : Addr} {es : Array DictEntry} (b : Int) (u : Tok) (h : IsDic s.heap a es) (hu : A.units < cLine) : RcNeAt A s (.int b u) (.ref a) true := fun prog w E Q q => by
  obtain ⟨dd, ep, sl, e⟩ := id h
  exact rc_ne_decline_or (k := false) (typeIs_int s b u) h.typeIs (by decide) F.sub_dict_int F.slot_int_ne F.slot_dict_ne_refl
    (fun _ hq => call_meets F.slot_int_ne (typeIs_int s b u) F.entry_int_ne (F.args_int_ne_2 _ _) (int_ndeclines_obj b u a es ep dd sl) ⟨e, hq⟩)
    (fun _ hq => dict_ndeclines h.typeIs (typeIs_int s b u) F.sub_int_dict hq F.slot_dict_ne)
    (fun _ hq => wpAny_of_eq (rfl : isSame (.int b u) (.ref a) = pure false) hq) (.inr hu) q
theorem RcNeAt.dict_str {a : Addr} {es : Array DictEntry} (b : Str) (u : Tok) (h : IsDic s.heap a es) (hu : A.units < cLine) : RcNeAt A s (.ref a) (.str b u) true := fun prog w E Q q => by
  obtain ⟨dd, ep, sl, e⟩ := id h
  exact rc_ne_decline_or (k := false) h.typeIs (typeIs_str s b u) (by decide) F.sub_str_dict F.slot_dict_ne F.slot_str_ne_refl
    (fun _ hq => dict_ndeclines h.typeIs (typeIs_str s b u) F.sub_str_dict hq F.slot_dict_ne)
    (fun _ hq => call_meets F.slot_str_ne_refl (typeIs_str s b u) F.entry_str_ne (F.args_str_ne_2 _ _) (str_ndeclines_obj b u a es ep dd sl) ⟨e, hq⟩)
    (fun _ hq => wpAny_of_eq (rfl : isSame (.ref a) (.str b u) = pure false) hq) (.inr hu) q
theorem RcNeAt.str_dict {a : Addr} {es : Array DictEntry} (b : Str) (u : Tok) (h : IsDic s.heap a es) (hu : A.units < cLine) : RcNeAt A s (.str b u) (.ref a) true := fun prog w E Q q => by
  obtain ⟨dd, ep, sl, e⟩ := id h
  exact rc_ne_decline_or (k := false) (typeIs_str s b u) h.typeIs (by decide) F.sub_dict_str F.slot_str_ne F.slot_dict_ne_refl
    (fun _ hq => call_meets F.slot_str_ne (typeIs_str s b u) F.entry_str_ne (F.args_str_ne_2 _ _) (str_ndeclines_obj b u a es ep dd sl) ⟨e, hq⟩)
    (fun _ hq => dict_ndeclines h.typeIs (typeIs_str s b u) F.sub_str_dict hq F.slot_dict_ne)
    (fun _ hq => wpAny_of_eq (rfl : isSame (.str b u) (.ref a) = pure false) hq) (.inr hu) q
theorem RcNeAt.list_dict {l b : Addr} {items : Array Value} {es : Array DictEntry} (hl : s.heap.IsList l items) (hb : IsDic s.heap b es) (hu : A.units < cLine) : RcNeAt A s (.ref l) (.ref b) true := fun prog w E Q h => by
  have hne := ne_dict_list hl hb
  obtain ⟨⟨cls, dd, data, sl⟩, ho, hc, n, hd⟩ := id hl
  obtain ⟨dd2, ep, sl2, ho2⟩ := id hb
  simp only at hc hd
  subst hc hd
  exact (rc_ne_decline_or (k := false) ⟨_, ho, rfl⟩ hb.typeIs (by decide) F.sub_dict_list F.slot_list_ne F.slot_dict_ne_refl
    (fun _ hq => call_meets F.slot_list_ne ⟨_, ho, rfl⟩ F.entry_list_ne (F.args_list_ne_2 _ _) (list_ndeclines_dict l items n dd sl b es ep dd2 sl2) ⟨ho, ho2, hq⟩)
    (fun _ hq => dict_ndeclines hb.typeIs (show s.TypeIs (.ref l) "list" from ⟨_, ho, rfl⟩) F.sub_list_dict hq F.slot_dict_ne)
    (fun _ hq => wpAny_isSame_ref_other hne ho ho2 (by simp) hq) (.inr hu) h)
theorem RcNeAt.dict_list {l b : Addr} {items : Array Value} {es : Array DictEntry} (hl : s.heap.IsList l items) (hb : IsDic s.heap b es) (hu : A.units < cLine) : RcNeAt A s (.ref b) (.ref l) true := fun prog w E Q h => by
  have hne := ne_dict_list hl hb
  obtain ⟨⟨cls, dd, data, sl⟩, ho, hc, n, hd⟩ := id hl
  obtain ⟨dd2, ep, sl2, ho2⟩ := id hb
  simp only at hc hd
  subst hc hd
  exact (rc_ne_decline_or (k := false) hb.typeIs ⟨_, ho, rfl⟩ (by decide) F.sub_list_dict F.slot_dict_ne F.slot_list_ne_refl
    (fun _ hq => dict_ndeclines hb.typeIs (show s.TypeIs (.ref l) "list" from ⟨_, ho, rfl⟩) F.sub_list_dict hq F.slot_dict_ne)
    (fun _ hq => call_meets F.slot_list_ne_refl ⟨_, ho, rfl⟩ F.entry_list_ne (F.args_list_ne_2 _ _) (list_ndeclines_dict l items n dd sl b es ep dd2 sl2) ⟨ho, ho2, hq⟩)
    (fun _ hq => wpAny_isSame_ref_other hne.symm ho2 ho (by simp) hq) (.inr hu) h)
theorem RcNeAt.tuple_dict {l b : Addr} {items : Array Value} {es : Array DictEntry} (hl : s.heap.IsTuple l items) (hb : IsDic s.heap b es) (hu : A.units < cLine) : RcNeAt A s (.ref l) (.ref b) true := fun prog w E Q h => by
  have hne := ne_dict_tuple hl hb
  obtain ⟨⟨cls, dd, data, sl⟩, ho, hc, n, hd⟩ := id hl
  obtain ⟨dd2, ep, sl2, ho2⟩ := id hb
  simp only at hc hd
  subst hc hd
  exact (rc_ne_decline_or (k := false) ⟨_, ho, rfl⟩ hb.typeIs (by decide) F.sub_dict_tuple F.slot_tuple_ne F.slot_dict_ne_refl
    (fun _ hq => call_meets F.slot_tuple_ne ⟨_, ho, rfl⟩ F.entry_tuple_ne (F.args_tuple_ne_2 _ _) (tuple_ndeclines_dict l items n dd sl b es ep dd2 sl2) ⟨ho, ho2, hq⟩)
    (fun _ hq => dict_ndeclines hb.typeIs (show s.TypeIs (.ref l) "tuple" from ⟨_, ho, rfl⟩) F.sub_tuple_dict hq F.slot_dict_ne)
    (fun _ hq => wpAny_isSame_ref_other' hne ho ho2 (by simp) hq) (.inr hu) h)
theorem RcNeAt.dict_tuple {l b : Addr} {items : Array Value} {es : Array DictEntry} (hl : s.heap.IsTuple l items) (hb : IsDic s.heap b es) (hu : A.units < cLine) : RcNeAt A s (.ref b) (.ref l) true := fun prog w E Q h => by
  have hne := ne_dict_tuple hl hb
  obtain ⟨⟨cls, dd, data, sl⟩, ho, hc, n, hd⟩ := id hl
  obtain ⟨dd2, ep, sl2, ho2⟩ := id hb
  simp only at hc hd
  subst hc hd
  exact (rc_ne_decline_or (k := false) hb.typeIs ⟨_, ho, rfl⟩ (by decide) F.sub_tuple_dict F.slot_dict_ne F.slot_tuple_ne_refl
    (fun _ hq => dict_ndeclines hb.typeIs (show s.TypeIs (.ref l) "tuple" from ⟨_, ho, rfl⟩) F.sub_tuple_dict hq F.slot_dict_ne)
    (fun _ hq => call_meets F.slot_tuple_ne_refl ⟨_, ho, rfl⟩ F.entry_tuple_ne (F.args_tuple_ne_2 _ _) (tuple_ndeclines_dict l items n dd sl b es ep dd2 sl2) ⟨ho, ho2, hq⟩)
    (fun _ hq => wpAny_isSame_ref_other hne.symm ho2 ho (by simp) hq) (.inr hu) h)
end
end PySem.SeqAt
namespace Rk
open PySem PySem.Spec PyProof.Rows L2 SeqAt
section
variable {s : Shared} {A : Around}
theorem neat_dict {a b : Addr} (ha : IsDic s.heap a #[]) (hb : IsDic s.heap b #[]) (ma : (a == sysModules) = false) (mb : (b == sysModules) = false) (hu : A.units < cLine) : RcNeAt A s (.ref a) (.ref b) false := fun prog w E Q q => by
  refine wpAny_richCompare_same_room (op := .NotEq) ha.typeIs hb.typeIs PySem.F.slot_dict_ne (wpAny_call_entry PySem.F.slot_dict_ne ha.typeIs PySem.F.entry_dict_ne ?_ (PySem.F.args_dict_ne_2 _ _)) hu
  have ta := ha.typeIs (s := s)
  have tb := hb.typeIs (s := s)
  obtain ⟨dd, ep, sl, e⟩ := ha
  obtain ⟨dd2, ep2, sl2, e2⟩ := hb
  refine wpAny_bind (m := Builtin.Dict.dictSlotArgs "__ne__" ⟨[.ref a, .ref b], []⟩) ?_
  unfold Builtin.Dict.dictSlotArgs
  refine wpAny_bind (wpAny_notOrdered_dict ta (wpAny_pure ?_))
  refine wpAny_bind (wpAny_isInstance (T := "dict") tb PySem.F.sub_dict_dict ?_)
  simp only [Bool.not_true, Bool.false_eq_true, if_false]
  refine wpAny_bind (wpAny_pure (wpAny_bind (wpAny_pure (wpAny_bind ?_))))
  unfold Builtin.Dict.samePairs Builtin.Dict.showsAll
  rw [if_neg (by rw [ma]; exact Bool.false_ne_true), if_neg (by rw [mb]; exact Bool.false_ne_true)]
  refine wpAny_bind (wpAny_pure (wpAny_bind (wpAny_pure (wpAny_bind (wpAny_dictEntries e rfl ?_)))))
  dsimp only
  refine wpAny_bind (wpAny_dictEntries e2 rfl ?_)
  rw [if_neg (by simp)]
  refine wpAny_bind (wpAny_dictEpoch e rfl ?_)
  refine wpAny_bind ?_
  rw [Std.Legacy.Range.forIn_eq_forIn_range']
  simp only [Std.Legacy.Range.size, Nat.sub_zero, Nat.add_sub_cancel, Nat.div_one, Array.size_empty, List.range'_zero, List.forIn_nil]
  refine wpAny_pure (wpAny_pure (wpAny_pure ⟨_, rfl, fun x => (nomatch x), ?_⟩))
  simpa using q
theorem rcne0 {d e : PyData} {a b : Value} (its : Its0 s d) (r : Rd0 s.heap a d) (q : Rd0 s.heap b e) (hu : A.units + min d.depth e.depth < cLine) : RcNeAt A s a b (!deqv d e) := by
    have u0 : A.units < cLine := by omega
    cases r with
    | none =>
      cases q with
      | none => exact RcNeAt.none_none
      | bool y => exact RcNeAt.none_bool y
      | int y u => exact RcNeAt.none_int y u
      | str y u => exact RcNeAt.none_str y u
      | list k _ => exact RcNeAt.none_list k u0
      | tuple k _ => exact RcNeAt.none_tuple k u0
      | dict k _ => exact RcNeAt.none_dict k u0
    | bool x =>
      cases q with
      | none => exact RcNeAt.bool_none x
      | bool y => exact RcNeAt.bool_bool x y
      | int y u => exact RcNeAt.bool_int x y u
      | str y u => exact RcNeAt.bool_str x y u
      | list k _ => exact RcNeAt.bool_list x k u0
      | tuple k _ => exact RcNeAt.bool_tuple x k u0
      | dict k _ => exact RcNeAt.bool_dict x k u0
    | int x t =>
      cases q with
      | none => exact RcNeAt.int_none x t
      | bool y => exact RcNeAt.int_bool x t y
      | int y u => exact RcNeAt.int_int x t y u
      | str y u => exact RcNeAt.int_str x t y u
      | list k _ => exact RcNeAt.int_list x t k u0
      | tuple k _ => exact RcNeAt.int_tuple x t k u0
      | dict k _ => exact RcNeAt.int_dict x t k u0
    | str x t =>
      cases q with
      | none => exact RcNeAt.str_none x t
      | bool y => exact RcNeAt.str_bool x t y
      | int y u => exact RcNeAt.str_int x t y u
      | str y u => exact RcNeAt.str_str x t y u
      | list k _ => exact RcNeAt.str_list x t k u0
      | tuple k _ => exact RcNeAt.str_tuple x t k u0
      | dict k _ => exact RcNeAt.str_dict x t k u0
    | @list l vs xs h1 h2 =>
      cases q with
      | none => exact RcNeAt.list_none h1 u0
      | bool y => exact RcNeAt.list_bool y h1 u0
      | int y u => exact RcNeAt.list_int y u h1 u0
      | str y u => exact RcNeAt.list_str y u h1 u0
      | tuple k _ => exact RcNeAt.list_tuple h1 k u0
      | dict k _ => exact RcNeAt.list_dict h1 k u0
      | @list l2 ws ys k1 k2 =>
        have n1 := h2.len
        have n2 := k2.len
        simp only [Array.length_toList] at n1 n2
        show RcNeAt A s _ _ (!deqs xs ys)
        by_cases sz : vs.size = ws.size
        · rw [deqs_len (by omega), ← n1]
          exact RcNeAt.lists h1 k1 sz u0 fun j j1 j2 => by
            have z := its xs (.inl rfl) (A := A.in1) h2 k2 (room2 hu).2 j (by simpa using j1) (by simpa using j2)
            rw [Array.getElem_toList, Array.getElem_toList] at z
            exact z
        · rw [deqs_ne (by omega)]
          exact RcNeAt.lists_lengths h1 k1 (by simpa using sz) u0
    | @tuple l vs xs h1 h2 =>
      cases q with
      | none => exact RcNeAt.tuple_none h1 u0
      | bool y => exact RcNeAt.tuple_bool y h1 u0
      | int y u => exact RcNeAt.tuple_int y u h1 u0
      | str y u => exact RcNeAt.tuple_str y u h1 u0
      | list k _ => exact RcNeAt.tuple_list h1 k u0
      | dict k _ => exact RcNeAt.tuple_dict h1 k u0
      | @tuple l2 ws ys k1 k2 =>
        have n1 := h2.len
        have n2 := k2.len
        simp only [Array.length_toList] at n1 n2
        show RcNeAt A s _ _ (!deqs xs ys)
        rw [deqs_prs, ← n1, ← n2]
        exact RcNeAt.tuples h1 k1 u0 fun j j1 j2 => by
            have z := its xs (.inr rfl) (A := A.in1) h2 k2 (room2 hu).2 j (by simpa using j1) (by simpa using j2)
            rw [Array.getElem_toList, Array.getElem_toList] at z
            exact z
    | dict h1 h2 =>
      cases q with
      | none => exact RcNeAt.dict_none h1 u0
      | bool y => exact RcNeAt.dict_bool y h1 u0
      | int y u => exact RcNeAt.dict_int y u h1 u0
      | str y u => exact RcNeAt.dict_str y u h1 u0
      | list k _ => exact RcNeAt.dict_list k h1 u0
      | tuple k _ => exact RcNeAt.dict_tuple k h1 u0
      | dict k k2 => exact neat_dict h1 k h2 k2 u0
end
section
variable {X : Cx}
theorem o_neD (hu : X.A.units + 64 < cLine) : O2 X (compareOp .NotEq) (fEqD true) := by
  intro pins s σ H v u vv uu Q I rv ru ⟨x, y, A, Qa, r1, r2, sa, q, d, e, hd, he, w⟩
  have h1 := dat_ok sa hd r1
  have h2 := dat_ok sa he r2
  have k := Dq.depth d _ _ h1
  refine rcne0 (fun xs h => ?_) (Dq.rd0 I d h1 rv) (Dq.rd0 I e h2 ru) (by omega) _ _ _ _ ⟨.bl _, H, I, rfl, q _ _ _ _ (re_bl _) sa .refl (by simpa using w)⟩
  intro ys A vs ws r q hu j g1 g2
  exact eqats0 xs r q hu j g1 g2
end
mutual
theorem deqv_eqv : ∀ {d e : PyData}, d.hasDict = false → deqv d e = PyData.eqv d e
  | .none, _, _ => by rename_i e _; cases e <;> rfl
  | .bool _, _, _ => by rename_i e _; cases e <;> rfl
  | .int _, _, _ => by rename_i e _; cases e <;> rfl
  | .str _, _, _ => by rename_i e _; cases e <;> rfl
  | .list xs, e, h => by
    cases e with
    | list ys => rw [deqv, PyData.eqv]; exact deqs_eqv (by simpa [PyData.hasDict] using h)
    | _ => rfl
  | .tuple xs, e, h => by
    cases e with
    | tuple ys => rw [deqv, PyData.eqv]; exact deqs_eqv (by simpa [PyData.hasDict] using h)
    | _ => rfl
  | .dict _, _, h => by simp [PyData.hasDict] at h
theorem deqs_eqv : ∀ {xs ys : List PyData}, PyData.hasDictAll xs = false → deqs xs ys = PyData.eqvAll xs ys
  | [], [], _ => rfl
  | [], _ :: _, _ => rfl
  | _ :: _, [], _ => rfl
  | x :: xs, y :: ys, h => by
    simp only [PyData.hasDictAll, Bool.or_eq_false_iff] at h
    rw [deqs, PyData.eqvAll, deqv_eqv h.1, deqs_eqv h.2]
end
section
variable {k : Bool} {x y : Vl} {A : Ah} {Q : QE}
theorem eqD_of (h : fEq k x y A Q) : fEqD k x y A Q := by
  obtain ⟨d, e, h1, h2, h3, _, q⟩ := h
  exact ⟨d, e, h1, h2, by rw [deqv_eqv h3]; exact q⟩
theorem eqD_flat (h : flatL x = true) (g : flatL y = true) (q : Q (.bl (k != eqL x y)) A) : fEqD k x y A Q := eqD_of (eq_flat h g q)
/-- a thing and itself -/
theorem eqD_self {d : PyData} (h : dat 12 A x = some d) (q : Q (.bl (!k)) A) : fEqD k x x A Q := ⟨d, d, h, h, by rw [deqv_refl]; simpa using q⟩
/-- a text against anything -/
theorem eqD_str {s : Str} {d : PyData} (h : dat 12 A x = some d) (q1 : x = .str s → Q (.bl (!k)) A) (q0 : x ≠ .str s → Q (.bl k) A) : fEqD k x (.str s) A Q := by
  refine ⟨d, .str s, h, rfl, ?_⟩
  have nt : ∀ {b : Bool}, b = false → Q (.bl k) A → Q (.bl (k != b)) A := fun e q => by subst e; simpa using q
  cases x with
  | str z =>
    cases h
    by_cases e : z = s
    · subst e; rw [deqv_refl]; simpa using q1 rfl
    · exact nt (by simp [deqv, PyData.eqv, e]) (q0 fun w => e (by cases w; rfl))
  | non => cases h; exact nt rfl (q0 nofun)
  | bl b => cases h; exact nt rfl (q0 nofun)
  | int b => cases h; exact nt rfl (q0 nofun)
  | tup xs =>
    have h : (dats (dat 11 A) xs).map PyData.tuple = some d := h
    cases e : dats (dat 11 A) xs with
    | none => rw [e] at h; cases h
    | some ds => rw [e] at h; cases h; exact nt rfl (q0 nofun)
  | lst xs =>
    have h : (dats (dat 11 A) xs).map PyData.list = some d := h
    cases e : dats (dat 11 A) xs with
    | none => rw [e] at h; cases h
    | some ds => rw [e] at h; cases h; exact nt rfl (q0 nofun)
  | dct ks xs =>
    cases ks with
    | cons _ _ => cases h
    | nil =>
      cases xs with
      | cons _ _ => cases h
      | nil => cases h; exact nt rfl (q0 nofun)
  | ref p =>
    have h : datR (dats (dat 11 A)) (A p) = some d := h
    unfold datR at h
    split at h
    · rename_i xs _
      cases e : dats (dat 11 A) xs with
      | none => rw [e] at h; cases h
      | some ds => rw [e] at h; cases h; exact nt rfl (q0 nofun)
    · cases h; exact nt rfl (q0 nofun)
    · cases h; exact nt rfl (q0 nofun)
    · cases h
  | ty _ => cases h
  | gl _ => cases h
  | wtp _ => cases h
  | xv _ _ _ _ _ => cases h
end
end Rk

set_option Elab.async false
set_option linter.all false
set_option maxRecDepth 100000
set_option maxHeartbeats 400000
/-! min and max of two texts. (printed by gen_min.py) -/
namespace Rk
open PySem PySem.Spec PyProof.Rows L2
def nth2 {α : Type} (a b : α) (i : Nat) : α := if i = 0 then a else b
theorem nth2_at {a b : Str} {t u : Tok} {i : Nat} {v : Value} (h : (#[Value.str a t, .str b u] : Array Value)[i]? = some v) : ∃ tk, v = .str (nth2 a b i) tk := by
  match i, h with
  | 0, h => exact ⟨t, by simpa [nth2] using h.symm⟩
  | 1, h => exact ⟨u, by simpa [nth2] using h.symm⟩
  | n + 2, h => simp at h
theorem cmp_gt2 {prog : Program} {w : World} {A : Around} (a b : Str) (t u : Tok) :
    CmpOf prog w A .Gt (fun i v => (#[Value.str a t, .str b u] : Array Value)[i]? = some v) (fun i j => decide ((nth2 a b j).cps.toList < (nth2 a b i).cps.toList)) := fun i j vi vj s Q E hi hj h => by
  obtain ⟨ti, rfl⟩ := nth2_at hi
  obtain ⟨tj, rfl⟩ := nth2_at hj
  exact richCompare_gives (op := .Gt) (typeIs_str s _ ti) (typeIs_str s _ tj) F.slot_str_gt F.entry_str_gt (F.args_str_gt_2 _ _) (gives_str_gt _ _ ti tj) (fun x => nomatch x) h
theorem max_texts {prog : Program} {w : World} {A : Around} {E : Value → Shared → Prop} {s : Shared} {a b : Str} {t u : Tok} {Q : Value → Shared → Prop} (hh : A.handled = none)
    (h : ∀ h' tk, (∀ c o, s.heap.get? c = some o → h'.get? c = some o) → Q (if a.cps.toList < b.cps.toList then .str b u else .str a t) { s with heap := h', toks := tk }) :
    wpAny (model prog w) A (call (.builtin "max") [.str a t, .str b u]) Q E s := by
  have tup : (s.heap.push { cls := .type "tuple", data := .seq #[.str a t, .str b u] }).IsTuple s.heap.objs.size #[.str a t, .str b u] := ⟨_, Heap.get?_push_size _ rfl, rfl, 0, rfl⟩
  refine call_max_two (wpAny_pyIter_tuple tup ?_)
  have size1 : (s.heap.push { cls := .type "tuple", data := .seq #[.str a t, .str b u] }).objs.size = s.heap.objs.size + 1 := Heap.size_push ..
  refine ⟨_, [_, s.heap.objs.size], [_], _, _, _, _, rfl, Walks.tuple (A := A.in1) hh _ s.heap.objs.size (by rw [size1]; exact Nat.ne_of_lt (Nat.lt_succ_self _)) #[.str a t, .str b u],
    ⟨⟨_, Heap.get?_push_size _ rfl, rfl, rfl⟩, tup.push _⟩, fun c hc => ?_, by simp, cmp_gt2 a b t u, fun v h' tk hP hk => ?_⟩
  · show c < ((s.heap.push _).push _).objs.size
    rw [Heap.size_push, size1]
    simp only [List.mem_cons, List.not_mem_nil, or_false] at hc
    rcases hc with rfl | rfl
    · rw [size1]; exact Nat.lt_succ_self _
    · exact Nat.lt_succ_of_lt (Nat.lt_succ_self _)
  · have keep : ∀ c o, s.heap.get? c = some o → h'.get? c = some o := fun c o e => by
      refine hk c o (fun hm => ?_) (Heap.get?_push_of_some _ (Heap.get?_push_of_some _ e))
      have lt := Heap.lt_size e
      simp only [List.mem_cons, List.not_mem_nil, or_false] at hm
      rw [hm, size1] at lt
      exact Nat.lt_irrefl _ (Nat.lt_of_succ_lt lt)
    have res := h h' tk keep
    have hv : v = if a.cps.toList < b.cps.toList then Value.str b u else Value.str a t := by
      have hP' : (#[Value.str a t, .str b u] : Array Value)[argBest (fun i j => decide ((nth2 a b j).cps.toList < (nth2 a b i).cps.toList)) 1]? = some v := hP
      by_cases z : a.cps.toList < b.cps.toList
      · rw [if_pos z]
        simpa [argBest, nth2, z] using hP'.symm
      · rw [if_neg z]
        simpa [argBest, nth2, z] using hP'.symm
    rw [hv]; exact res
theorem cmp_lt2 {prog : Program} {w : World} {A : Around} (a b : Str) (t u : Tok) :
    CmpOf prog w A .Lt (fun i v => (#[Value.str a t, .str b u] : Array Value)[i]? = some v) (fun i j => decide ((nth2 a b i).cps.toList < (nth2 a b j).cps.toList)) := fun i j vi vj s Q E hi hj h => by
  obtain ⟨ti, rfl⟩ := nth2_at hi
  obtain ⟨tj, rfl⟩ := nth2_at hj
  exact richCompare_gives (op := .Lt) (typeIs_str s _ ti) (typeIs_str s _ tj) F.slot_str_lt F.entry_str_lt (F.args_str_lt_2 _ _) (gives_str_lt _ _ ti tj) (fun x => nomatch x) h
theorem min_texts {prog : Program} {w : World} {A : Around} {E : Value → Shared → Prop} {s : Shared} {a b : Str} {t u : Tok} {Q : Value → Shared → Prop} (hh : A.handled = none)
    (h : ∀ h' tk, (∀ c o, s.heap.get? c = some o → h'.get? c = some o) → Q (if b.cps.toList < a.cps.toList then .str b u else .str a t) { s with heap := h', toks := tk }) :
    wpAny (model prog w) A (call (.builtin "min") [.str a t, .str b u]) Q E s := by
  have tup : (s.heap.push { cls := .type "tuple", data := .seq #[.str a t, .str b u] }).IsTuple s.heap.objs.size #[.str a t, .str b u] := ⟨_, Heap.get?_push_size _ rfl, rfl, 0, rfl⟩
  refine call_min_two (wpAny_pyIter_tuple tup ?_)
  have size1 : (s.heap.push { cls := .type "tuple", data := .seq #[.str a t, .str b u] }).objs.size = s.heap.objs.size + 1 := Heap.size_push ..
  refine ⟨_, [_, s.heap.objs.size], [_], _, _, _, _, rfl, Walks.tuple (A := A.in1) hh _ s.heap.objs.size (by rw [size1]; exact Nat.ne_of_lt (Nat.lt_succ_self _)) #[.str a t, .str b u],
    ⟨⟨_, Heap.get?_push_size _ rfl, rfl, rfl⟩, tup.push _⟩, fun c hc => ?_, by simp, cmp_lt2 a b t u, fun v h' tk hP hk => ?_⟩
  · show c < ((s.heap.push _).push _).objs.size
    rw [Heap.size_push, size1]
    simp only [List.mem_cons, List.not_mem_nil, or_false] at hc
    rcases hc with rfl | rfl
    · rw [size1]; exact Nat.lt_succ_self _
    · exact Nat.lt_succ_of_lt (Nat.lt_succ_self _)
  · have keep : ∀ c o, s.heap.get? c = some o → h'.get? c = some o := fun c o e => by
      refine hk c o (fun hm => ?_) (Heap.get?_push_of_some _ (Heap.get?_push_of_some _ e))
      have lt := Heap.lt_size e
      simp only [List.mem_cons, List.not_mem_nil, or_false] at hm
      rw [hm, size1] at lt
      exact Nat.lt_irrefl _ (Nat.lt_of_succ_lt lt)
    have res := h h' tk keep
    have hv : v = if b.cps.toList < a.cps.toList then Value.str b u else Value.str a t := by
      have hP' : (#[Value.str a t, .str b u] : Array Value)[argBest (fun i j => decide ((nth2 a b i).cps.toList < (nth2 a b j).cps.toList)) 1]? = some v := hP
      by_cases z : b.cps.toList < a.cps.toList
      · rw [if_pos z]
        simpa [argBest, nth2, z] using hP'.symm
      · rw [if_neg z]
        simpa [argBest, nth2, z] using hP'.symm
    rw [hv]; exact res
variable {X : Cx}
/-- the lesser, the greater of two -/
def loT (a b : Str) : Str := if b.cps.toList < a.cps.toList then b else a
def hiT (a b : Str) : Str := if a.cps.toList < b.cps.toList then b else a
def fMaxV : FC := fun xs A Q => match xs with
  | [.int i, .int j] => Q (.int (if j > i then j else i)) A
  | [.str a, .str b] => Q (.str (hiT a b)) A
  | _ => False
def fMinV : FC := fun xs A Q => match xs with
  | [.int i, .int j] => Q (.int (if j < i then j else i)) A
  | [.str a, .str b] => Q (.str (loT a b)) A
  | _ => False
theorem o_maxV (hc : X.calm = true) : OC X (.builtin "max") fMaxV := by
  intro pins s σ H vs us Q I r ⟨xs, A, Qa, rl, sa, q, w⟩
  unfold fMaxV at w
  split at w
  · rename_i i j
    obtain ⟨v, u, rfl, rx, ry⟩ := rl.two
    cases re_int_inv rx; cases re_int_inv ry
    exact call_max2 hc pins s σ H _ us Q I r ⟨i, j, rfl, q _ _ _ _ (re_int _) sa .refl w⟩
  · rename_i a b
    obtain ⟨v, u, rfl, rx, ry⟩ := rl.two
    obtain ⟨rfl, ka⟩ := re_str_inv rx
    obtain ⟨rfl, kb⟩ := re_str_inv ry
    obtain ⟨v', u', rfl, ⟨t, rfl⟩, ⟨t', rfl⟩⟩ := vals2 r
    refine max_texts (I.ok.hd hc) fun h' tk k => ⟨.str (hiT a b), H, I.kept k, ?_, q _ _ _ _ (re_str ?_ _) sa .refl w⟩
    · unfold hiT
      split
      · exact ⟨_, rfl⟩
      · exact ⟨_, rfl⟩
    · unfold hiT
      split
      · exact kb
      · exact ka
  · exact w.elim
theorem o_minV (hc : X.calm = true) : OC X (.builtin "min") fMinV := by
  intro pins s σ H vs us Q I r ⟨xs, A, Qa, rl, sa, q, w⟩
  unfold fMinV at w
  split at w
  · rename_i i j
    obtain ⟨v, u, rfl, rx, ry⟩ := rl.two
    cases re_int_inv rx; cases re_int_inv ry
    exact call_min2 hc pins s σ H _ us Q I r ⟨i, j, rfl, q _ _ _ _ (re_int _) sa .refl w⟩
  · rename_i a b
    obtain ⟨v, u, rfl, rx, ry⟩ := rl.two
    obtain ⟨rfl, ka⟩ := re_str_inv rx
    obtain ⟨rfl, kb⟩ := re_str_inv ry
    obtain ⟨v', u', rfl, ⟨t, rfl⟩, ⟨t', rfl⟩⟩ := vals2 r
    refine min_texts (I.ok.hd hc) fun h' tk k => ⟨.str (loT a b), H, I.kept k, ?_, q _ _ _ _ (re_str ?_ _) sa .refl w⟩
    · unfold loT
      split
      · exact ⟨_, rfl⟩
      · exact ⟨_, rfl⟩
    · unfold loT
      split
      · exact kb
      · exact ka
  · exact w.elim
variable {A : Ah} {Q : QE}
@[simp ↓] theorem e_maxVI {p q : Int} : fMaxV [.int p, .int q] A Q = Q (.int (if q > p then q else p)) A := id rfl
@[simp ↓] theorem e_minVI {p q : Int} : fMinV [.int p, .int q] A Q = Q (.int (if q < p then q else p)) A := id rfl
@[simp ↓] theorem e_maxVS {p q : Str} : fMaxV [.str p, .str q] A Q = Q (.str (hiT p q)) A := id rfl
@[simp ↓] theorem e_minVS {p q : Str} : fMinV [.str p, .str q] A Q = Q (.str (loT p q)) A := id rfl
/-- sorted pairs -/
theorem sort2 (a b : Str) : sortT [a, b] = [loT a b, hiT a b] := by
  refine sort_unique ((sortT_perm _).trans ?_) (sortT_sorted _) ?_
  · unfold loT hiT
    by_cases h : b.cps.toList < a.cps.toList
    · have : ¬ a.cps.toList < b.cps.toList := fun g => absurd (List.lt_trans h g) (List.lt_irrefl _)
      rw [if_pos h, if_neg this]
      exact List.Perm.swap _ _ _
    · rw [if_neg h]
      by_cases g : a.cps.toList < b.cps.toList
      · rw [if_pos g]
      · rw [if_neg g]
        have : a = b := leT_anti (by simp [leT]; exact List.not_lt.mp h) (by simp [leT]; exact List.not_lt.mp g)
        rw [this]
  · unfold loT hiT
    simp only [List.pairwise_cons, List.mem_singleton, forall_eq, List.not_mem_nil, false_implies, implies_true, List.Pairwise.nil, and_true]
    have refl : ∀ z : Str, leT z z = true := fun z => by simp [leT]
    by_cases h : b.cps.toList < a.cps.toList
    · have : ¬ a.cps.toList < b.cps.toList := fun g => absurd (List.lt_trans h g) (List.lt_irrefl _)
      rw [if_pos h, if_neg this]
      simp only [leT, this, decide_false, Bool.not_false]
    · rw [if_neg h]
      by_cases g : a.cps.toList < b.cps.toList
      · rw [if_pos g]; simp only [leT, h, decide_false, Bool.not_false]
      · rw [if_neg g]; exact refl a
end Rk

set_option Elab.async false
set_option linter.all false
set_option maxRecDepth 100000
set_option maxHeartbeats 400000
/-! x in a list or tuple of flat items, x any thing by value. -/
namespace Rk
open PySem PySem.Spec PyProof.Rows L2
variable {X : Cx} {A : Ah} {Q : QE}
def datV : Value → PyData
  | .bool b => .bool b
  | .int i _ => .int i
  | .str s _ => .str s
  | _ => .none
def fdat : Vl → PyData
  | .bl b => .bool b
  | .int i => .int i
  | .str s => .str s
  | _ => .none
/-- is d == one of them -/
def inD (d : PyData) (xs : List Vl) : Bool := xs.any fun y => deqv (fdat y) d
def fInD (neg : Bool) : F2 := fun x y A Q => match y with
  | .tup xs => ∃ d, dat 12 A x = some d ∧ xs.all flatL = true ∧ Q (.bl (neg != inD d xs)) A
  | y => seqV A y fun xs => ∃ d, dat 12 A x = some d ∧ xs.all flatL = true ∧ Q (.bl (neg != inD d xs)) A
theorem flat_rd {K : PySem.W.Frag} {H : Hp} {h : Heap} {x : Vl} {v : V} {u : Value} (f : flatL x = true) (r : Re K H x v) (s : RelV v u) : Rd0 h u (datV u) ∧ datV u = fdat x := by
  cases x with
  | non => cases re_non_inv r; cases s; exact ⟨.none, rfl⟩
  | bl b => cases re_bl_inv r; cases s; exact ⟨.bool b, rfl⟩
  | int i => cases re_int_inv r; obtain ⟨t, rfl⟩ := s; exact ⟨.int i t, rfl⟩
  | str a => obtain ⟨rfl, _⟩ := re_str_inv r; obtain ⟨t, rfl⟩ := s; exact ⟨.str a t, rfl⟩
  | _ => cases f
theorem flats_rd {K : PySem.W.Frag} {H : Hp} {h : Heap} {d : PyData} : ∀ {xs : List Vl} {vs : List V} {us : List Value}, xs.all flatL = true → Rl K H xs vs → Vals vs us → (∀ u ∈ us, Rd0 h u (datV u)) ∧ us.any (fun u => deqv (datV u) d) = inD d xs
  | [], vs, us, _, r, s => by
    rw [r.nil_inv] at s; cases s
    exact ⟨fun u hu => (by cases hu), rfl⟩
  | x :: xs, vs, us, f, r, s => by
    obtain ⟨v, ws, rfl, r1, r2⟩ := r.cons_inv
    cases s with
    | cons s1 s2 =>
      rw [List.all_cons, Bool.and_eq_true] at f
      obtain ⟨a, b⟩ := flat_rd (h := h) f.1 r1 s1
      obtain ⟨c, e⟩ := flats_rd (h := h) (d := d) f.2 r2 s2
      refine ⟨fun u hu => ?_, ?_⟩
      · rcases List.mem_cons.mp hu with rfl | hu
        · exact a
        · exact c u hu
      · unfold inD at e ⊢
        rw [List.any_cons, List.any_cons, e, b]
theorem depth_flat (u : Value) : (datV u).depth ≤ 1 := by
  unfold datV
  split <;> (simp [PyData.depth])
theorem inD_go {neg : Bool} {fn : Value → Value → Sem Value} (hu : X.A.units + 64 < cLine)
    (go : ∀ {s : Shared} {E Q : Value → Shared → Prop} {p : Addr} {items : Array Value} {v : Value} (e : Value → Bool), (s.heap.IsList p items ∨ s.heap.IsTuple p items) → (∀ y, y ∈ items → SeqAt.EqAt X.A.in1 s y v (e y)) → Q (.bool (neg != items.any e)) s → wpAny (model X.prog X.w) X.A (fn v (.ref p)) Q E s) : O2 X fn (fInD neg) := by
  intro pins s σ H v u vv uu Q I rv ru ⟨x, y, A, Qa, r1, r2, sa, q, w⟩
  have key : ∀ (p : Addr) (xs : List Vl) (vs : List V), u = .ref p → (SqL X.K H p vs ∨ SqT X.K H p vs) → Rl X.K H xs vs → (∃ d, dat 12 A x = some d ∧ xs.all flatL = true ∧ Qa (.bl (neg != inD d xs)) A) → wpAny (model X.prog X.w) X.A (fn vv uu) (EP X pins σ Q) X.xe s := by
    intro p xs vs e sq rl ⟨d, hd, fl, w⟩
    subst e
    cases ru
    have dx := Dq.rd0 I d (dat_ok sa hd r1) rv
    have main : ∀ its : List Value, Vals vs its → (s.heap.IsList p its.toArray ∨ s.heap.IsTuple p its.toArray) → wpAny (model X.prog X.w) X.A (fn vv (.ref p)) (EP X pins σ Q) X.xe s := by
      intro its r pl
      obtain ⟨f1, f2⟩ := flats_rd (h := s.heap) (d := d) fl rl r
      refine go (fun u => deqv (datV u) d) pl (fun u hu' => ?_) ⟨.bl (neg != inD d xs), H, I, ?_, q _ _ _ _ (re_bl _) sa .refl w⟩
      · refine eqat0 (datV u) (f1 u (by simpa using hu')) dx ?_
        have := depth_flat u
        have e : X.A.in1.units = X.A.units + 1 := rfl
        rw [e]
        omega
      · show Value.bool _ = _
        rw [show its.toArray.any (fun u => deqv (datV u) d) = its.any (fun u => deqv (datV u) d) by simp, f2]
    rcases sq with sq | sq
    · obtain ⟨its, r, pl, hz⟩ := I.list sq
      exact main its r (.inl pl.isList)
    · obtain ⟨its, r, pl, hz⟩ := I.tuple sq
      exact main its r (.inr pl)
  have lists : (seqV A y fun xs => ∃ d, dat 12 A x = some d ∧ xs.all flatL = true ∧ Qa (.bl (neg != inD d xs)) A) → wpAny (model X.prog X.w) X.A (fn vv uu) (EP X pins σ Q) X.xe s := by
    intro wl
    obtain ⟨p, xs, vs, e, sq, rl, wl⟩ := seqV_of sa r2 wl
    exact key p xs vs e (.inl (.inl sq)) rl wl
  cases y with
  | tup xs =>
    obtain ⟨p, vs, e, st, rl⟩ := re_tup_inv r2
    exact key p xs vs e (.inr st) rl w
  | ref p => exact lists w
  | lst p => exact lists w
  | _ => exact w.elim
theorem o_inD (hu : X.A.units + 64 < cLine) : O2 X (compareOp .In) (fInD false) := inD_go hu fun e pl he h => by
  rcases pl with pl | pl
  · exact SeqAt.in_listAt e pl he (by simpa using h)
  · exact SeqAt.in_tupleAt e pl he (by simpa using h)
theorem o_notinD (hu : X.A.units + 64 < cLine) : O2 X (compareOp .NotIn) (fInD true) := inD_go hu fun e pl he h => by
  rcases pl with pl | pl
  · exact SeqAt.notIn_listAt e pl he (by simpa using h)
  · exact SeqAt.notIn_tupleAt e pl he (by simpa using h)
@[simp ↓] theorem e_inDT {x : Vl} {xs : List Vl} {b : Bool} : fInD b x (.tup xs) A Q = ∃ d, dat 12 A x = some d ∧ xs.all flatL = true ∧ Q (.bl (b != inD d xs)) A := id rfl
/-- a thing in a list of texts -/
theorem inD_strs {d : PyData} : ∀ {ps : List Str}, inD d (ps.map .str) = true ↔ ∃ s ∈ ps, deqv (.str s) d = true := by
  intro ps
  unfold inD
  rw [List.any_map, List.any_eq_true]
  rfl
end Rk

set_option Elab.async false
set_option linter.all false
set_option maxRecDepth 100000
set_option maxHeartbeats 1000000
/-! printed by gen2.py: the program's defs as transformers -/
namespace Pg
open PySem PySem.Spec PyProof.Rows L2 Rk
abbrev n_is_string_of : List Str := ["value", "characters", "longest", "character"]
def b_is_string_of_1 : WS := (wRet (wCB fAll (wCons (wLc .F (wiSeq (wVar 0)) (gN 3) wYes (wBin (fInA false) (wVar 3) (wVar 1)) [3]) wNil)))
def b_is_string_of : WS :=
    (wSeq (wIfS (wOr (wNot (wTru (wCB fIsi (wCons (wVar 0) (wCons (wC (.ty "str")) wNil))))) (wNot (wB (wChain fLe fLe (wC (.int 1)) (wCB fLen (wCons (wVar 0) wNil)) (wVar 2))))) (wRet (wC (.bl false))) (fun D S A => D.nx S A)) b_is_string_of_1)
def w_is_string_of : WF := wFun 4 b_is_string_of
abbrev n_is_host_name : List Str := ["value"]
def b_is_host_name : WS :=
    (wRet (wCall 3 w_is_string_of (wCons (wVar 0) (wCons (wC (.str "abcdefghijklmnopqrstuvwxyz")) (wCons (wC (.int 8)) wNil)))))
def w_is_host_name : WF := wFun 1 b_is_host_name
abbrev n_is_word : List Str := ["value"]
def b_is_word : WS :=
    (wRet (wCall 3 w_is_string_of (wCons (wVar 0) (wCons (wC (.str "abcdefghijklmnopqrstuvwxyz0123456789")) (wCons (wC (.int 12)) wNil)))))
def w_is_word : WF := wFun 1 b_is_word
abbrev n_is_integer : List Str := ["value"]
def b_is_integer : WS :=
    (wRet (wAndV (wCB fIsi (wCons (wVar 0) (wCons (wC (.ty "int")) wNil))) (wNotV (wCB fIsi (wCons (wVar 0) (wCons (wC (.ty "bool")) wNil))))))
def w_is_integer : WF := wFun 1 b_is_integer
abbrev n_is_relink : List Str := ["value", "path", "cut", "host"]
def b_is_relink_3 : WS := (wRet (wAndV (wBin (fEqD false) (wLenSet (wVar 1)) (wCB fLen (wCons (wVar 1) wNil))) (wAndV (wCall 1 w_is_integer (wCons (wVar 2) wNil)) (wChain fLe fLe (wC (.int 0)) (wVar 2) (wBin fSub (wCB fLen (wCons (wVar 1) wNil)) (wC (.int 2)))))))
def b_is_relink_2 : WS := (wSeq (wIfS (wOr (wNot (wTru (wCB fIsi (wCons (wVar 1) (wCons (wC (.ty "tuple")) wNil))))) (wOr (wB (wBin fLt (wCB fLen (wCons (wVar 1) wNil)) (wC (.int 3)))) (wNot (wTru (wCB fAll (wCons (wLc .F (wiSeq (wVar 1)) (gN 3) wYes (wCall 1 w_is_host_name (wCons (wVar 3) wNil)) [3]) wNil)))))) (wRet (wC (.bl false))) (fun D S A => D.nx S A)) b_is_relink_3)
def b_is_relink_1 : WS := (wSeq (wAsg (wVar 0) (gT 2 (gCn (gN 1) (gCn (gN 2) gNl)))) b_is_relink_2)
def b_is_relink : WS :=
    (wSeq (wIfS (wOr (wNot (wTru (wCB fIsi (wCons (wVar 0) (wCons (wC (.ty "tuple")) wNil))))) (wB (wBin (fEqD true) (wCB fLen (wCons (wVar 0) wNil)) (wC (.int 2))))) (wRet (wC (.bl false))) (fun D S A => D.nx S A)) b_is_relink_1)
def w_is_relink : WF := wFun 4 b_is_relink
abbrev n_require_relink : List Str := ["relink"]
def b_require_relink : WS :=
    (wIfS (wNot (wTru (wCall 1 w_is_relink (wCons (wVar 0) wNil)))) (wRaise "InvalidRelink" [("value" : Str)] (wCons (wVar 0) wNil)) (fun D S A => D.nx S A))
def w_require_relink : WF := wFun 1 b_require_relink
abbrev n_ordered_link : List Str := ["one", "other"]
def b_ordered_link : WS :=
    (wRet (wTup (wCons (wCB fMinV (wCons (wVar 0) (wCons (wVar 1) wNil))) (wCons (wCB fMaxV (wCons (wVar 0) (wCons (wVar 1) wNil))) wNil))))
def w_ordered_link : WF := wFun 2 b_ordered_link
abbrev n_added_link : List Str := ["relink", "path", "cut"]
def b_added_link_2 : WS := (wRet (wCall 2 w_ordered_link (wCons (wBin fIx (wVar 1) (wC (.int 0))) (wCons (wBin fIx (wVar 1) (wUn fNeg (wC (.int 1)))) wNil))))
def b_added_link_1 : WS := (wSeq (wAsg (wVar 0) (gT 2 (gCn (gN 1) (gCn (gN 2) gNl)))) b_added_link_2)
def b_added_link : WS :=
    (wSeq (wEx (wCall 1 w_require_relink (wCons (wVar 0) wNil))) b_added_link_1)
def w_added_link : WF := wFun 3 b_added_link
abbrev n_removed_link : List Str := ["relink", "path", "cut"]
def b_removed_link_2 : WS := (wRet (wCall 2 w_ordered_link (wCons (wBin fIx (wVar 1) (wVar 2)) (wCons (wBin fIx (wVar 1) (wBin (fAdd .F) (wVar 2) (wC (.int 1)))) wNil))))
def b_removed_link_1 : WS := (wSeq (wAsg (wVar 0) (gT 2 (gCn (gN 1) (gCn (gN 2) gNl)))) b_removed_link_2)
def b_removed_link : WS :=
    (wSeq (wEx (wCall 1 w_require_relink (wCons (wVar 0) wNil))) b_removed_link_1)
def w_removed_link : WF := wFun 3 b_removed_link
abbrev n_position : List Str := ["relink", "host", "path", "cut"]
def b_position_3 : WS := (wRet (wMt (only .tup fTIndex) (wVar 2) (wCons (wVar 1) wNil)))
def b_position_2 : WS := (wSeq (wIfS (wOr (wNot (wTru (wCall 1 w_is_host_name (wCons (wVar 1) wNil)))) (wB (wBin (fInA true) (wVar 1) (wVar 2)))) (wRaise "UnknownHost" [("host" : Str)] (wCons (wVar 1) wNil)) (fun D S A => D.nx S A)) b_position_3)
def b_position_1 : WS := (wSeq (wAsg (wVar 0) (gT 2 (gCn (gN 2) (gCn (gN 3) gNl)))) b_position_2)
def b_position : WS :=
    (wSeq (wEx (wCall 1 w_require_relink (wCons (wVar 0) wNil))) b_position_1)
def w_position : WF := wFun 4 b_position
abbrev n_is_near : List Str := ["relink", "host"]
def b_is_near : WS :=
    (wRet (wBin fLe (wCall 2 w_position (wCons (wVar 0) (wCons (wVar 1) wNil))) (wBin fIx (wVar 0) (wC (.int 1)))))
def w_is_near : WF := wFun 2 b_is_near
abbrev n_are_independent : List Str := ["one", "other", "host"]
def b_are_independent_2 : WS := (wRet (wNotV (wCB fAny (wCons (wLc .F (wiSeq (wBin fIx (wVar 0) (wC (.int 0)))) (gN 2) wYes (wBin (fInA false) (wVar 2) (wBin fIx (wVar 1) (wC (.int 0)))) [2]) wNil))))
def b_are_independent_1 : WS := (wSeq (wEx (wCall 1 w_require_relink (wCons (wVar 1) wNil))) b_are_independent_2)
def b_are_independent : WS :=
    (wSeq (wEx (wCall 1 w_require_relink (wCons (wVar 0) wNil))) b_are_independent_1)
def w_are_independent : WF := wFun 3 b_are_independent
abbrev n_is_bit : List Str := ["value"]
def b_is_bit : WS :=
    (wRet (wAndV (wCB fIsi (wCons (wVar 0) (wCons (wC (.ty "int")) wNil))) (wAndV (wNotV (wCB fIsi (wCons (wVar 0) (wCons (wC (.ty "bool")) wNil)))) (wChain fLe fLe (wC (.int 0)) (wVar 0) (wC (.int 1))))))
def w_is_bit : WF := wFun 1 b_is_bit
abbrev n_is_message_item : List Str := ["value"]
def b_is_message_item_1 : WS := (wRet (wAndV (wCall 1 w_is_host_name (wCons (wBin fIx (wVar 0) (wC (.int 1))) wNil)) (wAndV (wCall 1 w_is_word (wCons (wBin fIx (wVar 0) (wC (.int 2))) wNil)) (wCall 1 w_is_bit (wCons (wBin fIx (wVar 0) (wC (.int 3))) wNil)))))
def b_is_message_item : WS :=
    (wSeq (wIfS (wOr (wNot (wTru (wCB fIsi (wCons (wVar 0) (wCons (wC (.ty "tuple")) wNil))))) (wOr (wB (wBin (fEqD true) (wCB fLen (wCons (wVar 0) wNil)) (wC (.int 4)))) (wB (wBin (fEqD true) (wBin fIx (wVar 0) (wC (.int 0))) (wC (.str "message")))))) (wRet (wC (.bl false))) (fun D S A => D.nx S A)) b_is_message_item_1)
def w_is_message_item : WF := wFun 1 b_is_message_item
abbrev n_is_control_item : List Str := ["value"]
def b_is_control_item_1 : WS := (wRet (wAndV (wBin (fInA false) (wBin fIx (wVar 0) (wC (.int 0))) (wC (.tup ((["ask", "no", "yes", "go", "back"] : List Str).map .str)))) (wCall 1 w_is_relink (wCons (wSl (fSl .F) (wVar 0) (wPt (wC (.int 1))) wNoP) wNil))))
def b_is_control_item : WS :=
    (wSeq (wIfS (wOr (wNot (wTru (wCB fIsi (wCons (wVar 0) (wCons (wC (.ty "tuple")) wNil))))) (wOr (wB (wBin (fEqD true) (wCB fLen (wCons (wVar 0) wNil)) (wC (.int 3)))) (wNot (wTru (wCB fIsi (wCons (wBin fIx (wVar 0) (wC (.int 0))) (wCons (wC (.ty "str")) wNil))))))) (wRet (wC (.bl false))) (fun D S A => D.nx S A)) b_is_control_item_1)
def w_is_control_item : WF := wFun 1 b_is_control_item
abbrev n_is_bye : List Str := ["value"]
def b_is_bye : WS :=
    (wRet (wAndV (wCB fIsi (wCons (wVar 0) (wCons (wC (.ty "tuple")) wNil))) (wAndV (wBin (fEqD false) (wCB fLen (wCons (wVar 0) wNil)) (wC (.int 1))) (wBin (fEqD false) (wBin fIx (wVar 0) (wC (.int 0))) (wC (.str "bye"))))))
def w_is_bye : WF := wFun 1 b_is_bye
abbrev n_is_item : List Str := ["value"]
def b_is_item : WS :=
    (wRet (wOrV (wCall 1 w_is_message_item (wCons (wVar 0) wNil)) (wOrV (wCall 1 w_is_control_item (wCons (wVar 0) wNil)) (wCall 1 w_is_bye (wCons (wVar 0) wNil)))))
def w_is_item : WF := wFun 1 b_is_item
abbrev n_item_text : List Str := ["item", "kind", "writer", "word", "bit", "path", "cut", "hosts"]
def b_item_text_x1 : WS := (wRet (wJoin [(wFmt (wVar 1)), (wC (.str " ")), (wFmt (wVar 2)), (wC (.str " ")), (wFmt (wVar 3)), (wC (.str " ")), (wFmt (wVar 4))]))
def b_item_text_5 : WS := (wRet (wJoin [(wFmt (wVar 1)), (wC (.str " ")), (wFmt (wVar 7)), (wC (.str " ")), (wFmt (wVar 6))]))
def b_item_text_4 : WS := (wSeq (wAsg (wMt (only .str fJoin) (wC (.str ",")) (wCons (wVar 5) wNil)) (gN 7)) b_item_text_5)
def b_item_text_3 : WS := (wSeq (wAsg (wVar 0) (gT 3 (gCn (gN 1) (gCn (gN 5) (gCn (gN 6) gNl))))) b_item_text_4)
def b_item_text_2 : WS := (wSeq (wIfS (wTru (wCall 1 w_is_message_item (wCons (wVar 0) wNil))) (wSeq (wAsg (wVar 0) (gT 4 (gCn (gN 1) (gCn (gN 2) (gCn (gN 3) (gCn (gN 4) gNl)))))) b_item_text_x1) (fun D S A => D.nx S A)) b_item_text_3)
def b_item_text_1 : WS := (wSeq (wIfS (wTru (wCall 1 w_is_bye (wCons (wVar 0) wNil))) (wRet (wC (.str "bye"))) (fun D S A => D.nx S A)) b_item_text_2)
def b_item_text : WS :=
    (wSeq (wIfS (wNot (wTru (wCall 1 w_is_item (wCons (wVar 0) wNil)))) (wRaise "InvalidItem" [("value" : Str)] (wCons (wVar 0) wNil)) (fun D S A => D.nx S A)) b_item_text_1)
def w_item_text : WF := wFun 8 b_item_text
abbrev n_parse_number : List Str := ["word", "sign"]
def b_parse_number_1 : WS := (wRet (wIf (wAnd (wB (wBin (fEqD false) (wBin fIx (wVar 0) (wC (.int 0))) (wC (.str "0")))) (wB (wBin (fEqD true) (wVar 0) (wC (.str "0"))))) (wC .non) (wCB fIntT (wCons (wVar 0) wNil))))
def b_parse_number : WS :=
    (wSeq (wIfS (wOr (wNot (wB (wChain fLe fLe (wC (.int 1)) (wCB fLen (wCons (wVar 0) wNil)) (wC (.int 30))))) (wNot (wTru (wCB fAll (wCons (wLc .F (wiSeq (wVar 0)) (gN 1) wYes (wBin (fInA false) (wVar 1) (wC (.str "0123456789"))) [1]) wNil))))) (wRet (wC .non)) (fun D S A => D.nx S A)) b_parse_number_1)
def w_parse_number : WF := wFun 2 b_parse_number
abbrev n_item_of_words : List Str := ["words"]
def b_item_of_words_2 : WS := (wRet (wCB fTupO (wCons (wVar 0) wNil)))
def b_item_of_words_1 : WS := (wSeq (wIfS (wB (wBin (fEqD false) (wCB fLen (wCons (wVar 0) wNil)) (wC (.int 3)))) (wRet (wTup (wCons (wBin fIx (wVar 0) (wC (.int 0))) (wCons (wCB fTupO (wCons (wMt (only .str (fSplit .F)) (wBin fIx (wVar 0) (wC (.int 1))) (wCons (wC (.str ",")) wNil)) wNil)) (wCons (wCall 1 w_parse_number (wCons (wBin fIx (wVar 0) (wC (.int 2))) wNil)) wNil))))) (fun D S A => D.nx S A)) b_item_of_words_2)
def b_item_of_words : WS :=
    (wSeq (wIfS (wB (wBin (fEqD false) (wCB fLen (wCons (wVar 0) wNil)) (wC (.int 4)))) (wRet (wTup (wCons (wBin fIx (wVar 0) (wC (.int 0))) (wCons (wBin fIx (wVar 0) (wC (.int 1))) (wCons (wBin fIx (wVar 0) (wC (.int 2))) (wCons (wCall 1 w_parse_number (wCons (wBin fIx (wVar 0) (wC (.int 3))) wNil)) wNil)))))) (fun D S A => D.nx S A)) b_item_of_words_1)
def w_item_of_words : WF := wFun 1 b_item_of_words
abbrev n_parse_item : List Str := ["text", "item"]
def b_parse_item_3 : WS := (wRet (wVar 1))
def b_parse_item_2 : WS := (wSeq (wIfS (wNot (wTru (wCall 1 w_is_item (wCons (wVar 1) wNil)))) (wRaise "InvalidText" [("value" : Str)] (wCons (wVar 0) wNil)) (fun D S A => D.nx S A)) b_parse_item_3)
def b_parse_item_1 : WS := (wSeq (wAsg (wCall 1 w_item_of_words (wCons (wMt (only .str (fSplit .F)) (wVar 0) (wCons (wC (.str " ")) wNil)) wNil)) (gN 1)) b_parse_item_2)
def b_parse_item : WS :=
    (wSeq (wIfS (wNot (wTru (wCB fIsi (wCons (wVar 0) (wCons (wC (.ty "str")) wNil))))) (wRaise "InvalidText" [("value" : Str)] (wCons (wVar 0) wNil)) (fun D S A => D.nx S A)) b_parse_item_1)
def w_parse_item : WF := wFun 2 b_parse_item
abbrev n_carried_bit : List Str := ["path", "source", "bit"]
def b_carried_bit : WS :=
    (wRet (wIf (wB (wBin (fInA false) (wVar 1) (wVar 0))) (wVar 2) (wC (.int 1))))
def w_carried_bit : WF := wFun 3 b_carried_bit
abbrev n_forward_bit : List Str := ["relink", "host", "phase", "source", "goal", "bit", "index", "path", "carried", "is_toward_new_link"]
def b_forward_bit_6 : WS := (wRet (wIf (wTru (wVar 9)) (wVar 8) (wC (.int 0))))
def b_forward_bit_5 : WS := (wSeq (wIfS (wTru (wCall 2 w_is_near (wCons (wVar 0) (wCons (wVar 1) wNil)))) (wAsg (wAndV (wBin fGt (wVar 6) (wC (.int 0))) (wBin (fEqD false) (wVar 4) (wBin fIx (wVar 7) (wBin fSub (wVar 6) (wC (.int 1)))))) (gN 9)) (wAsg (wAndV (wBin fLt (wVar 6) (wBin fSub (wCB fLen (wCons (wVar 7) wNil)) (wC (.int 1)))) (wBin (fEqD false) (wVar 4) (wBin fIx (wVar 7) (wBin (fAdd .F) (wVar 6) (wC (.int 1)))))) (gN 9))) b_forward_bit_6)
def b_forward_bit_4 : WS := (wSeq (wIfS (wSetEq (rV 1) (rV 4) (rIx 7 0) (rIx 7 (-1))) (wRet (wIf (wB (wBin (fEqD false) (wVar 8) (wC (.int 1)))) (wC (.int 0)) (wC .non))) (fun D S A => D.nx S A)) b_forward_bit_5)
def b_forward_bit_3 : WS := (wSeq (wAsg (wCall 3 w_carried_bit (wCons (wVar 7) (wCons (wVar 3) (wCons (wVar 5) wNil)))) (gN 8)) b_forward_bit_4)
def b_forward_bit_2 : WS := (wSeq (wIfS (wB (wBin (fEqD true) (wVar 2) (wC (.str "turned")))) (wRet (wC (.int 0))) (fun D S A => D.nx S A)) b_forward_bit_3)
def b_forward_bit_1 : WS := (wSeq (wAsg (wBin fIx (wVar 0) (wC (.int 0))) (gN 7)) b_forward_bit_2)
def b_forward_bit : WS :=
    (wSeq (wAsg (wCall 2 w_position (wCons (wVar 0) (wCons (wVar 1) wNil))) (gN 6)) b_forward_bit_1)
def w_forward_bit : WF := wFun 10 b_forward_bit
abbrev n_forwards : List Str := ["links", "source", "bit", "relink", "host", "phase", "found", "goal", "sent"]
def b_forwards_x1 : WS := (wIfS (wB (wBin (fIsN true) (wVar 8) (wC .non))) (wEx (wMt (only .lst fAppend) (wVar 6) (wCons (wTup (wCons (wVar 7) (wCons (wVar 8) wNil))) wNil))) (fun D S A => D.nx S A))
def b_forwards_3 : WS := (wRet (wVar 6))
def b_forwards_2 : WS := (wSeq (wFor (wiSeq (wCB (fSorted .F) (wCons (wVar 0) wNil))) (gN 7) (wIfS (wB (wBin (fEqD true) (wVar 7) (wVar 1))) (wSeq (wAsg (wIf (wB (wBin (fIsN false) (wVar 3) (wC .non))) (wC (.int 0)) (wCall 6 w_forward_bit (wCons (wVar 3) (wCons (wVar 4) (wCons (wVar 5) (wCons (wVar 1) (wCons (wVar 7) (wCons (wVar 2) wNil)))))))) (gN 8)) b_forwards_x1) (fun D S A => D.nx S A))) b_forwards_3)
def b_forwards_1 : WS := (wSeq (wAsg (wLst .M wNil) (gN 6)) b_forwards_2)
def b_forwards : WS :=
    (wSeq (wIfS (wB (wBin (fIsN true) (wVar 3) (wC .non))) (wEx (wCall 2 w_position (wCons (wVar 3) (wCons (wVar 4) wNil)))) (fun D S A => D.nx S A)) b_forwards_1)
def w_forwards : WF := wFun 9 b_forwards
abbrev n_step : List Str := ["sends", "phase", "added", "removed", "outcome"]
def b_step : WS :=
    (wRet (wTup (wCons (wVar 0) (wCons (wVar 1) (wCons (wVar 2) (wCons (wVar 3) (wCons (wVar 4) wNil)))))))
def w_step : WF := wFun 5 b_step
abbrev n_cut_before : List Str := ["path", "cut", "index"]
def b_cut_before : WS :=
    (wRet (wIf (wB (wBin (fEqD false) (wVar 2) (wBin (fAdd .F) (wVar 1) (wC (.int 1))))) (wBin fIx (wVar 0) (wBin fSub (wVar 2) (wC (.int 1)))) (wC .non)))
def w_cut_before : WF := wFun 3 b_cut_before
abbrev n_ask_step : List Str := ["path", "cut", "index"]
def b_ask_step_1 : WS := (wRet (wCallK 2 2 (wSr [.p 0, .p 1, .p 2, .p 3, .c .non] w_step) (wCons (wLst .F (wCons (wTup (wCons (wBin fIx (wVar 0) (wBin fSub (wVar 2) (wC (.int 1)))) (wCons (wC (.str "yes")) wNil))) wNil)) (wCons (wC (.str "turned")) wNil)) (wCons (wBin fIx (wVar 0) (wC (.int 0))) (wCons (wCall 3 w_cut_before (wCons (wVar 0) (wCons (wVar 1) (wCons (wVar 2) wNil)))) wNil))))
def b_ask_step : WS :=
    (wSeq (wIfS (wB (wBin fLt (wVar 2) (wBin fSub (wCB fLen (wCons (wVar 0) wNil)) (wC (.int 1))))) (wRet (wCall 2 (wSr [.p 0, .p 1, .c .non, .c .non, .c .non] w_step) (wCons (wLst .F (wCons (wTup (wCons (wBin fIx (wVar 0) (wBin (fAdd .F) (wVar 2) (wC (.int 1)))) (wCons (wC (.str "ask")) wNil))) wNil)) (wCons (wC (.str "reserved")) wNil)))) (fun D S A => D.nx S A)) b_ask_step_1)
def w_ask_step : WF := wFun 3 b_ask_step
abbrev n_no_step : List Str := ["path", "cut", "index"]
def b_no_step_1 : WS := (wRet (wCall 2 (wSr [.p 0, .p 1, .c .non, .c .non, .c .non] w_step) (wCons (wLst .F (wCons (wTup (wCons (wBin fIx (wVar 0) (wBin fSub (wVar 2) (wC (.int 1)))) (wCons (wC (.str "no")) wNil))) wNil)) (wCons (wC (.str "free")) wNil))))
def b_no_step : WS :=
    (wSeq (wIfS (wB (wBin (fEqD false) (wVar 2) (wC (.int 0)))) (wRet (wCallK 2 1 (wSr [.p 0, .p 1, .c .non, .c .non, .p 2] w_step) (wCons (wLst .F wNil) (wCons (wC (.str "free")) wNil)) (wCons (wC (.str "refused")) wNil))) (fun D S A => D.nx S A)) b_no_step_1)
def w_no_step : WF := wFun 3 b_no_step
abbrev n_yes_step : List Str := ["path", "cut", "index"]
def b_yes_step_3 : WS := (wRet (wCallK 2 3 (wSr [.p 0, .p 1, .p 2, .p 3, .p 4] w_step) (wCons (wLst .F (wCons (wTup (wCons (wBin fIx (wVar 0) (wC (.int 1))) (wCons (wC (.str "go")) wNil))) wNil)) (wCons (wC (.str "free")) wNil)) (wCons (wBin fIx (wVar 0) (wUn fNeg (wC (.int 1)))) (wCons (wBin fIx (wVar 0) (wC (.int 1))) (wCons (wC (.str "done")) wNil)))))
def b_yes_step_2 : WS := (wSeq (wIfS (wB (wBin fGt (wVar 1) (wC (.int 0)))) (wRet (wCallK 2 1 (wSr [.p 0, .p 1, .p 2, .c .non, .c .non] w_step) (wCons (wLst .F (wCons (wTup (wCons (wBin fIx (wVar 0) (wC (.int 1))) (wCons (wC (.str "go")) wNil))) wNil)) (wCons (wC (.str "turned")) wNil)) (wCons (wBin fIx (wVar 0) (wUn fNeg (wC (.int 1)))) wNil))) (fun D S A => D.nx S A)) b_yes_step_3)
def b_yes_step_1 : WS := (wSeq (wIfS (wB (wBin fGt (wVar 2) (wC (.int 0)))) (wRet (wCall 2 (wSr [.p 0, .p 1, .c .non, .c .non, .c .non] w_step) (wCons (wLst .F (wCons (wTup (wCons (wBin fIx (wVar 0) (wBin fSub (wVar 2) (wC (.int 1)))) (wCons (wC (.str "yes")) wNil))) wNil)) (wCons (wC (.str "reserved")) wNil)))) (fun D S A => D.nx S A)) b_yes_step_2)
def b_yes_step : WS :=
    (wSeq (wIfS (wB (wBin fGt (wVar 2) (wVar 1))) (wRet (wCallK 2 1 (wSr [.p 0, .p 1, .c .non, .p 2, .c .non] w_step) (wCons (wLst .F (wCons (wTup (wCons (wBin fIx (wVar 0) (wBin fSub (wVar 2) (wC (.int 1)))) (wCons (wC (.str "yes")) wNil))) wNil)) (wCons (wC (.str "turned")) wNil)) (wCons (wCall 3 w_cut_before (wCons (wVar 0) (wCons (wVar 1) (wCons (wVar 2) wNil)))) wNil))) (fun D S A => D.nx S A)) b_yes_step_1)
def w_yes_step : WF := wFun 3 b_yes_step
abbrev n_go_step : List Str := ["path", "cut", "index", "goal"]
def b_go_step_2 : WS := (wRet (wCall 2 (wSr [.p 0, .p 1, .c .non, .c .non, .c .non] w_step) (wCons (wLc .F (wiSeq (wSl (fSl .F) (wVar 0) (wPt (wBin (fAdd .F) (wVar 2) (wC (.int 1)))) (wPt (wBin (fAdd .F) (wVar 2) (wC (.int 2)))))) (gN 3) wYes (wTup (wCons (wVar 3) (wCons (wC (.str "go")) wNil))) [3]) (wCons (wC (.str "free")) wNil))))
def b_go_step_1 : WS := (wSeq (wIfS (wB (wBin (fEqD false) (wVar 2) (wVar 1))) (wRet (wCallK 2 1 (wSr [.p 0, .p 1, .c .non, .p 2, .c .non] w_step) (wCons (wLst .F (wCons (wTup (wCons (wBin fIx (wVar 0) (wBin (fAdd .F) (wVar 2) (wC (.int 1)))) (wCons (wC (.str "go")) wNil))) (wCons (wTup (wCons (wBin fIx (wVar 0) (wBin fSub (wVar 2) (wC (.int 1)))) (wCons (wC (.str "back")) wNil))) wNil))) (wCons (wC (.str "free")) wNil)) (wCons (wBin fIx (wVar 0) (wBin (fAdd .F) (wVar 2) (wC (.int 1)))) wNil))) (fun D S A => D.nx S A)) b_go_step_2)
def b_go_step : WS :=
    (wSeq (wIfS (wB (wBin fLt (wVar 2) (wVar 1))) (wRet (wCall 2 (wSr [.p 0, .p 1, .c .non, .c .non, .c .non] w_step) (wCons (wLst .F (wCons (wTup (wCons (wBin fIx (wVar 0) (wBin (fAdd .F) (wVar 2) (wC (.int 1)))) (wCons (wC (.str "go")) wNil))) wNil)) (wCons (wC (.str "turned")) wNil)))) (fun D S A => D.nx S A)) b_go_step_1)
def w_go_step : WF := wFun 4 b_go_step
abbrev n_back_step : List Str := ["path", "cut", "index"]
def b_back_step_1 : WS := (wRet (wCall 2 (wSr [.p 0, .p 1, .c .non, .c .non, .c .non] w_step) (wCons (wLst .F (wCons (wTup (wCons (wBin fIx (wVar 0) (wBin fSub (wVar 2) (wC (.int 1)))) (wCons (wC (.str "back")) wNil))) wNil)) (wCons (wC (.str "free")) wNil))))
def b_back_step : WS :=
    (wSeq (wIfS (wB (wBin (fEqD false) (wVar 2) (wC (.int 0)))) (wRet (wCallK 2 1 (wSr [.p 0, .p 1, .c .non, .c .non, .p 2] w_step) (wCons (wLst .F wNil) (wCons (wC (.str "free")) wNil)) (wCons (wC (.str "done")) wNil))) (fun D S A => D.nx S A)) b_back_step_1)
def w_back_step : WF := wFun 3 b_back_step
abbrev n_is_received : List Str := ["path", "cut", "index", "kind"]
def b_is_received_2 : WS := (wRet (wBin fLt (wVar 2) (wBin fSub (wCB fLen (wCons (wVar 0) wNil)) (wC (.int 1)))))
def b_is_received_1 : WS := (wSeq (wIfS (wB (wBin (fEqD false) (wVar 3) (wC (.str "back")))) (wRet (wBin fLt (wVar 2) (wVar 1))) (fun D S A => D.nx S A)) b_is_received_2)
def b_is_received : WS :=
    (wSeq (wIfS (wB (wBin (fInA false) (wVar 3) (wTup (wCons (wC (.str "ask")) (wCons (wC (.str "go")) wNil))))) (wRet (wBin fGt (wVar 2) (wC (.int 0)))) (fun D S A => D.nx S A)) b_is_received_1)
def w_is_received : WF := wFun 4 b_is_received
def k_STEPS : List (Str × String) := [("ask", "ask_step"), ("no", "no_step"), ("yes", "yes_step"), ("go", "go_step"), ("back", "back_step")]
abbrev n_control_step : List Str := ["relink", "host", "kind", "index", "path", "cut"]
def b_control_step_3 : WS := (wRet (wGl 3 [("ask_step", w_ask_step), ("no_step", w_no_step), ("yes_step", w_yes_step), ("go_step", w_go_step), ("back_step", w_back_step)] (wBin (fTabIx "STEPS" k_STEPS) (wC (.gl "STEPS")) (wVar 2)) (wCons (wVar 4) (wCons (wVar 5) (wCons (wVar 3) wNil)))))
def b_control_step_2 : WS := (wSeq (wIfS (wOr (wNot (wTru (wCB fIsi (wCons (wVar 2) (wCons (wC (.ty "str")) wNil))))) (wOr (wB (wBin (fTabIn true "STEPS" k_STEPS) (wVar 2) (wC (.gl "STEPS")))) (wNot (wTru (wCall 4 w_is_received (wCons (wVar 4) (wCons (wVar 5) (wCons (wVar 3) (wCons (wVar 2) wNil))))))))) (wRaise "InvalidStep" [("host" : Str), ("kind" : Str)] (wCons (wVar 1) (wCons (wVar 2) wNil))) (fun D S A => D.nx S A)) b_control_step_3)
def b_control_step_1 : WS := (wSeq (wAsg (wVar 0) (gT 2 (gCn (gN 4) (gCn (gN 5) gNl)))) b_control_step_2)
def b_control_step : WS :=
    (wSeq (wAsg (wCall 2 w_position (wCons (wVar 0) (wCons (wVar 1) wNil))) (gN 3)) b_control_step_1)
def w_control_step : WF := wFun 6 b_control_step
abbrev n_is_natural : List Str := ["value"]
def b_is_natural : WS :=
    (wRet (wAndV (wCall 1 w_is_integer (wCons (wVar 0) wNil)) (wBin fGe (wVar 0) (wC (.int 0)))))
def w_is_natural : WF := wFun 1 b_is_natural
abbrev n_is_awaited : List Str := ["place", "relink", "name", "source", "goal", "index", "item", "path", "cut"]
def b_is_awaited_4 : WS := (wRet (wOrV (wBin (fEqD true) (wBin fIx (wVar 6) (wC (.int 0))) (wC (.str "go"))) (wBin fLe (wCall 2 w_position (wCons (wVar 1) (wCons (wVar 4) wNil))) (wVar 8))))
def b_is_awaited_3 : WS := (wSeq (wIfS (wB (wBin (fEqD false) (wVar 2) (wBin fIx (wVar 7) (wUn fNeg (wC (.int 1)))))) (wRet (wBin (fInA false) (wBin fIx (wVar 6) (wC (.int 0))) (wTup (wCons (wC (.str "yes")) (wCons (wC (.str "go")) wNil))))) (fun D S A => D.nx S A)) b_is_awaited_4)
def b_is_awaited_2 : WS := (wSeq (wIfS (wB (wBin (fEqD true) (wSl (fSl .F) (wVar 6) (wPt (wC (.int 1))) wNoP) (wVar 1))) (wRet (wC (.bl false))) (fun D S A => D.nx S A)) b_is_awaited_3)
def b_is_awaited_1 : WS := (wSeq (wAsg (wVar 1) (gT 2 (gCn (gN 7) (gCn (gN 8) gNl)))) b_is_awaited_2)
def b_is_awaited : WS :=
    (wSeq (wAsg (wVar 0) (gT 4 (gCn (gN 3) (gCn (gN 4) (gCn (gN 5) (gCn (gN 6) gNl)))))) b_is_awaited_1)
def w_is_awaited : WF := wFun 9 b_is_awaited
abbrev n_is_action : List Str := ["host", "value"]
def b_is_action_2 : WS := (wRet (wAndV (wBin (fEqD false) (wBin fIx (wVar 1) (wC (.int 0))) (wC (.str "ask"))) (wAndV (wCall 1 w_is_relink (wCons (wSl (fSl .F) (wVar 1) (wPt (wC (.int 1))) wNoP) wNil)) (wBin (fEqD false) (wBin fIx (wBin fIx (wVar 1) (wC (.int 1))) (wC (.int 0))) (wVar 0)))))
def b_is_action_1 : WS := (wSeq (wIfS (wB (wBin (fEqD false) (wBin fIx (wVar 1) (wC (.int 0))) (wC (.str "write")))) (wRet (wAndV (wBin (fEqD false) (wCB fLen (wCons (wVar 1) wNil)) (wC (.int 2))) (wCall 1 w_is_word (wCons (wBin fIx (wVar 1) (wC (.int 1))) wNil)))) (fun D S A => D.nx S A)) b_is_action_2)
def b_is_action : WS :=
    (wSeq (wIfS (wOr (wNot (wTru (wCB fIsi (wCons (wVar 1) (wCons (wC (.ty "tuple")) wNil))))) (wOr (wB (wBin (fEqD false) (wVar 1) (wTup wNil))) (wNot (wTru (wCB fIsi (wCons (wBin fIx (wVar 1) (wC (.int 0))) (wCons (wC (.ty "str")) wNil))))))) (wRet (wC (.bl false))) (fun D S A => D.nx S A)) b_is_action_1)
def w_is_action : WF := wFun 2 b_is_action
abbrev n_are_host_names : List Str := ["values", "value"]
def b_are_host_names : WS :=
    (wRet (wCB fAll (wCons (wLc .F (wiSeq (wVar 0)) (gN 1) wYes (wCall 1 w_is_host_name (wCons (wVar 1) wNil)) [1]) wNil)))
def w_are_host_names : WF := wFun 2 b_are_host_names
end Pg

set_option Elab.async false
set_option linter.all false
set_option maxRecDepth 100000
set_option maxHeartbeats 1000000
/-! printed by gen2.py: helpers that several laws share, as transformers -/
namespace Hl
open PySem PySem.Spec PyProof.Rows L2 Rk Pg
abbrev n_law_rng_725d : List Str := ["_law_script", "_law_k", "_law_cell"]
def b_law_rng_725d_1 : WS := (wRet (wLst .M (wCons (wCB fMax (wCons (wC (.int 0)) (wCons (wBin fSub (wCB fAbs (wCons (wVar 2) wNil)) (wBin fPow (wC (.int 10)) (wC (.int 18)))) wNil))) (wCons (wBin (fAdd .F) (wBin (fAdd .F) (wBin fMod (wCB fAbs (wCons (wVar 2) wNil)) (wC (.int 2147483587))) (wBin (fMul .F) (wC (.int 211)) (wVar 1))) (wC (.int 5))) wNil))))
def b_law_rng_725d : WS :=
    (wSeq (wAsg (wIf (wB (wBin fLt (wVar 1) (wCB fLen (wCons (wVar 0) wNil)))) (wBin fIx (wVar 0) (wVar 1)) (wBin (fAdd .F) (wBin (fMul .F) (wC (.int 7)) (wVar 1)) (wC (.int 2)))) (gN 2)) b_law_rng_725d_1)
def w_law_rng_725d : WF := wFun 3 b_law_rng_725d
abbrev n_law_draw_c477 : List Str := ["_law_rng_here", "_law_many", "_law_digit"]
def b_law_draw_c477_x1 : WS := (wRet (wVar 2))
def b_law_draw_c477_2 : WS := (wRet (wBin fMod (wBin fDiv (wBin fMod (wBin (fMul .F) (wBin fIx (wVar 0) (wC (.int 1))) (wBin fIx (wVar 0) (wC (.int 1)))) (wC (.int 2147483323))) (wC (.int 17))) (wVar 1)))
def b_law_draw_c477_1 : WS := (wSeq (wAsg (wBin fMod (wBin (fAdd .F) (wBin (fMul .F) (wBin fIx (wVar 0) (wC (.int 1))) (wC (.int 40692))) (wC (.int 12211))) (wC (.int 2147483399))) (gS fSet (wVar 0) (wC (.int 1)))) b_law_draw_c477_2)
def b_law_draw_c477 : WS :=
    (wSeq (wIfS (wB (wBin fGt (wBin fIx (wVar 0) (wC (.int 0))) (wC (.int 0)))) (wSeq (wAsg (wCB fDivmod (wCons (wBin fIx (wVar 0) (wC (.int 0))) (wCons (wVar 1) wNil))) (gT 2 (gCn (gS fSet (wVar 0) (wC (.int 0))) (gCn (gN 2) gNl)))) b_law_draw_c477_x1) (fun D S A => D.nx S A)) b_law_draw_c477_1)
def w_law_draw_c477 : WF := wFun 3 b_law_draw_c477
abbrev n_law_odd_573c : List Str := ["_law_rng_here", "_law_some"]
def b_law_odd_573c_1 : WS := (wRet (wBin fIx (wBin (fAdd .F) (wVar 1) (wLst .F (wCons (wLst .F (wCons (wC (.str "a")) wNil)) (wCons (wTup (wCons (wC (.str "a")) wNil)) (wCons (wC (.str "z-")) wNil))))) (wCall 2 w_law_draw_c477 (wCons (wVar 0) (wCons (wC (.int 19)) wNil)))))
def b_law_odd_573c : WS :=
    (wSeq (wAsg (wLst .F (wCons (wC .non) (wCons (wC (.bl true)) (wCons (wC (.bl false)) (wCons (wC (.int 0)) (wCons (wC (.int 1)) (wCons (wUn fNeg (wC (.int 7))) (wCons (wC (.str "")) (wCons (wC (.str "A")) (wCons (wC (.str "a1")) (wCons (wC (.str "a b")) (wCons (wC (.str "abcdefghi")) (wCons (wC (.str "a\n")) (wCons (wC (.str " a")) (wCons (wLst .F wNil) (wCons (wTup wNil) (wCons (wDct0 .F) wNil))))))))))))))))) (gN 1)) b_law_odd_573c_1)
def w_law_odd_573c : WF := wFun 2 b_law_odd_573c
abbrev n_law_names_e25f : List Str := ["_law_rng_here", "_law_many", "_law_letters", "_law_found", "_law_k", "_law_size", "_law_name", "_law_kind", "_law_turn", "_law_letter"]
def b_law_names_e25f_x1 : WS := (wEx (wMt (only .lst fAppend) (wVar 3) (wCons (wVar 6) wNil)))
def b_law_names_e25f_x2 : WS := (wSeq (wIfS (wB (wBin (fInA false) (wVar 6) (wVar 3))) (wAsg (wBin fIx (wLc .F (wiSeq (wVar 2)) (gN 9) (wB (wBin (fInA true) (wBin (fAdd .F) (wVar 9) (wC (.str "q"))) (wVar 3))) (wBin (fAdd .F) (wVar 9) (wC (.str "q"))) [9]) (wC (.int 0))) (gN 6)) (fun D S A => D.nx S A)) b_law_names_e25f_x1)
def b_law_names_e25f_x3 : WS := (wSeq (wIfS (wB (wBin (fEqD false) (wVar 7) (wC (.int 0)))) (wAsg (wBin fIx (wLst .F (wCons (wC (.str "host")) (wCons (wC (.str "link")) (wCons (wC (.str "events")) (wCons (wC (.str "ask")) (wCons (wC (.str "yes")) (wCons (wC (.str "bye")) (wCons (wC (.str "message")) (wCons (wC (.str "write")) wNil))))))))) (wCall 2 w_law_draw_c477 (wCons (wVar 0) (wCons (wC (.int 8)) wNil)))) (gN 6)) (wIfS (wAnd (wB (wBin fLt (wVar 7) (wC (.int 3)))) (wB (wBin (fEqD true) (wVar 3) (wLst .F wNil)))) (wAsg (wSl (fSl .F) (wBin (fAdd .F) (wBin fIx (wVar 3) (wUn fNeg (wC (.int 1)))) (wVar 6)) wNoP (wPt (wC (.int 8)))) (gN 6)) (fun D S A => D.nx S A))) b_law_names_e25f_x2)
def b_law_names_e25f_x4 : WS := (wSeq (wAsg (wCall 2 w_law_draw_c477 (wCons (wVar 0) (wCons (wC (.int 8)) wNil))) (gN 7)) b_law_names_e25f_x3)
def b_law_names_e25f_x5 : WS := (wSeq (wAsg (wMt (only .str fJoin) (wC (.str "")) (wCons (wLc .F (wiR1 (wCons (wVar 5) wNil)) (gN 8) wYes (wBin fIx (wVar 2) (wCall 2 w_law_draw_c477 (wCons (wVar 0) (wCons (wC (.int 26)) wNil)))) [8]) wNil)) (gN 6)) b_law_names_e25f_x4)
def b_law_names_e25f_3 : WS := (wRet (wVar 3))
def b_law_names_e25f_2 : WS := (wSeq (wFor (wiR1 (wCons (wVar 1) wNil)) (gN 4) (wSeq (wAsg (wBin fIx (wLst .F (wCons (wC (.int 1)) (wCons (wC (.int 1)) (wCons (wC (.int 2)) (wCons (wC (.int 8)) wNil))))) (wCall 2 w_law_draw_c477 (wCons (wVar 0) (wCons (wC (.int 4)) wNil)))) (gN 5)) b_law_names_e25f_x5)) b_law_names_e25f_3)
def b_law_names_e25f_1 : WS := (wSeq (wAsg (wLst .M wNil) (gN 3)) b_law_names_e25f_2)
def b_law_names_e25f : WS :=
    (wSeq (wAsg (wC (.str "abcdefghijklmnopqrstuvwxyz")) (gN 2)) b_law_names_e25f_1)
def w_law_names_e25f : WF := wFun 10 b_law_names_e25f
abbrev n_law_shuffled_fe8a : List Str := ["_law_rng_here", "_law_some", "_law_rest", "_law_k"]
def b_law_shuffled_fe8a_1 : WS := (wRet (wLc .F (wiR1 (wCons (wCB fLen (wCons (wVar 1) wNil)) wNil)) (gN 3) wYes (wMt (only .lst fPop) (wVar 2) (wCons (wCall 2 w_law_draw_c477 (wCons (wVar 0) (wCons (wCB fLen (wCons (wVar 2) wNil)) wNil))) wNil)) [3]))
def b_law_shuffled_fe8a : WS :=
    (wSeq (wAsg (wCB (fList .M) (wCons (wVar 1) wNil)) (gN 2)) b_law_shuffled_fe8a_1)
def w_law_shuffled_fe8a : WF := wFun 4 b_law_shuffled_fe8a
abbrev n_law_links_51d4 : List Str := ["_law_rng_here", "_law_names_here", "_law_links_here", "_law_k", "_law_near"]
def b_law_links_51d4_x1 : WS := (wEx (wMt (only .lst fAppend) (wVar 2) (wCons (wBin fIx (wLst .F (wCons (wTup (wCons (wVar 4) (wCons (wBin fIx (wVar 1) (wVar 3)) wNil))) (wCons (wTup (wCons (wBin fIx (wVar 1) (wVar 3)) (wCons (wVar 4) wNil))) wNil))) (wCall 2 w_law_draw_c477 (wCons (wVar 0) (wCons (wC (.int 2)) wNil)))) wNil)))
def b_law_links_51d4_2 : WS := (wRet (wCall 2 w_law_shuffled_fe8a (wCons (wVar 0) (wCons (wVar 2) wNil))))
def b_law_links_51d4_1 : WS := (wSeq (wFor (wiR2 (wCons (wC (.int 1)) (wCons (wCB fLen (wCons (wVar 1) wNil)) wNil))) (gN 3) (wSeq (wAsg (wBin fIx (wVar 1) (wBin fIx (wLst .F (wCons (wCall 2 w_law_draw_c477 (wCons (wVar 0) (wCons (wVar 3) wNil))) (wCons (wBin fSub (wVar 3) (wC (.int 1))) (wCons (wC (.int 0)) wNil)))) (wCall 2 w_law_draw_c477 (wCons (wVar 0) (wCons (wC (.int 3)) wNil))))) (gN 4)) b_law_links_51d4_x1)) b_law_links_51d4_2)
def b_law_links_51d4 : WS :=
    (wSeq (wAsg (wLst .M wNil) (gN 2)) b_law_links_51d4_1)
def w_law_links_51d4 : WF := wFun 5 b_law_links_51d4
abbrev n_law_neighbors_f1a3 : List Str := ["_law_links_here", "_law_here", "_law_found", "_law_first", "_law_second"]
def b_law_neighbors_f1a3_2 : WS := (wRet (wCB (fSorted .F) (wCons (wVar 2) wNil)))
def b_law_neighbors_f1a3_1 : WS := (wSeq (wFor (wiSeq (wVar 0)) (gT 2 (gCn (gN 3) (gCn (gN 4) gNl))) (wIfS (wB (wBin (fInA false) (wVar 1) (wTup (wCons (wVar 3) (wCons (wVar 4) wNil))))) (wEx (wMt (only .lst fAppend) (wVar 2) (wCons (wIf (wB (wBin (fEqD false) (wVar 1) (wVar 3))) (wVar 4) (wVar 3)) wNil))) (fun D S A => D.nx S A))) b_law_neighbors_f1a3_2)
def b_law_neighbors_f1a3 : WS :=
    (wSeq (wAsg (wLst .M wNil) (gN 2)) b_law_neighbors_f1a3_1)
def w_law_neighbors_f1a3 : WF := wFun 5 b_law_neighbors_f1a3
abbrev n_law_is_name_328b : List Str := ["_law_value", "_law_sign"]
def b_law_is_name_328b_1 : WS := (wRet (wCB fAll (wCons (wLc .F (wiSeq (wVar 0)) (gN 1) wYes (wChain fLe fLe (wC (.str "a")) (wVar 1) (wC (.str "z"))) [1]) wNil)))
def b_law_is_name_328b : WS :=
    (wSeq (wIfS (wOr (wNot (wTru (wCB fIsi (wCons (wVar 0) (wCons (wC (.ty "str")) wNil))))) (wNot (wB (wChain fLe fLe (wC (.int 1)) (wCB fLen (wCons (wVar 0) wNil)) (wC (.int 8)))))) (wRet (wC (.bl false))) (fun D S A => D.nx S A)) b_law_is_name_328b_1)
def w_law_is_name_328b : WF := wFun 2 b_law_is_name_328b
abbrev n_law_way_5f94 : List Str := ["_law_links_here", "_law_start", "_law_end", "_law_ways", "_law_way_here", "_law_near"]
def b_law_way_5f94_x1 : WS := (wEx (wMt (only .lst fExtend) (wVar 3) (wCons (wLc .M (wiSeq (wCall 2 w_law_neighbors_f1a3 (wCons (wVar 0) (wCons (wBin fIx (wVar 4) (wUn fNeg (wC (.int 1)))) wNil)))) (gN 5) (wB (wBin (fInA true) (wVar 5) (wVar 4))) (wBin (fAdd .F) (wVar 4) (wLst .F (wCons (wVar 5) wNil))) [5]) wNil)))
def b_law_way_5f94_x2 : WS := (wSeq (wIfS (wB (wBin (fEqD false) (wBin fIx (wVar 4) (wUn fNeg (wC (.int 1)))) (wVar 2))) (wRet (wCB fTupO (wCons (wVar 4) wNil))) (fun D S A => D.nx S A)) b_law_way_5f94_x1)
def b_law_way_5f94_2 : WS := (wRet (wC .non))
def b_law_way_5f94_1 : WS := (wSeq (wWh (wB (wBin (fEqD true) (wVar 3) (wLst .F wNil))) (wSeq (wAsg (wMt (only .lst fPop) (wVar 3) wNil) (gN 4)) b_law_way_5f94_x2)) b_law_way_5f94_2)
def b_law_way_5f94 : WS :=
    (wSeq (wAsg (wLst .M (wCons (wLst .F (wCons (wVar 1) wNil)) wNil)) (gN 3)) b_law_way_5f94_1)
def w_law_way_5f94 : WF := wFun 6 b_law_way_5f94
abbrev n_law_word_3b2f : List Str := ["_law_rng_here", "_law_count"]
def b_law_word_3b2f : WS :=
    (wRet (wBin fIx (wLst .F (wCons (wBin (fAdd .F) (wC (.str "w")) (wCB fStr (wCons (wVar 1) wNil))) (wCons (wBin (fAdd .F) (wC (.str "w")) (wCB fStr (wCons (wVar 1) wNil))) (wCons (wC (.str "x")) (wCons (wC (.str "0")) wNil))))) (wCall 2 w_law_draw_c477 (wCons (wVar 0) (wCons (wC (.int 4)) wNil)))))
def w_law_word_3b2f : WF := wFun 2 b_law_word_3b2f
abbrev n_law_logged_54c5 : List Str := ["_law_log", "_law_written", "_law_seen", "_law_found", "_law_message", "_law_same", "_law_k"]
def b_law_logged_54c5_x1 : WS := (wEx (wMt (only .lst fAppend) (wVar 3) (wCons (wBin fIx (wVar 5) (wBin fSub (wBin fIx (wVar 2) (wVar 4)) (wC (.int 1)))) wNil)))
def b_law_logged_54c5_x2 : WS := (wSeq (wAsg (wLc .F (wiR1 (wCons (wCB fLen (wCons (wVar 1) wNil)) wNil)) (gN 6) (wB (wBin (fEqD false) (wBin fIx (wVar 1) (wVar 6)) (wVar 4))) (wVar 6) [6]) (gN 5)) b_law_logged_54c5_x1)
def b_law_logged_54c5_2 : WS := (wRet (wVar 3))
def b_law_logged_54c5_1 : WS := (wSeq (wFor (wiSeq (wVar 0)) (gN 4) (wSeq (wAsg (wBin (fAdd .F) (wMt (only .dct fDGetN) (wVar 2) (wCons (wVar 4) (wCons (wC (.int 0)) wNil))) (wC (.int 1))) (gS fSet (wVar 2) (wVar 4))) b_law_logged_54c5_x2)) b_law_logged_54c5_2)
def b_law_logged_54c5 : WS :=
    (wSeq (wPar 2 3 (wCons (wDct0 .M) (wCons (wLst .M wNil) wNil))) b_law_logged_54c5_1)
def w_law_logged_54c5 : WF := wFun 7 b_law_logged_54c5
abbrev n_law_part_3730 : List Str := ["_law_parts", "_law_name", "_law_part_here"]
def b_law_part_3730 : WS :=
    (wRet (wBin fIx (wLc .F (wiSeq (wVar 0)) (gN 2) (wB (wBin (fInA false) (wVar 1) (wVar 2))) (wVar 2) [2]) (wC (.int 0))))
def w_law_part_3730 : WF := wFun 3 b_law_part_3730
abbrev n_law_lines_spoilt_dd36 : List Str := ["_law_rng_here", "_law_lines", "_law_menu", "_law_way", "_law_at", "_law_other", "_law_found", "_law_words", "_law_k", "_law_some"]
def b_law_lines_spoilt_dd36_x1 : WS := (wRet (wVar 6))
def b_law_lines_spoilt_dd36_x2 : WS := (wSeq (wAsg (wTup (wCons (wBin fIx (wVar 6) (wVar 5)) (wCons (wBin fIx (wVar 6) (wVar 4)) wNil))) (gT 2 (gCn (gS fSet (wVar 6) (wVar 4)) (gCn (gS fSet (wVar 6) (wVar 5)) gNl)))) b_law_lines_spoilt_dd36_x1)
def b_law_lines_spoilt_dd36_x3 : WS := (wSeq (wAsg (wCB (fList .M) (wCons (wVar 1) wNil)) (gN 6)) b_law_lines_spoilt_dd36_x2)
def b_law_lines_spoilt_dd36_10 : WS := (wRet (wBin (fAdd .F) (wBin (fAdd .F) (wSl (fSl .F) (wVar 1) wNoP (wPt (wVar 4))) (wLst .F (wCons (wMt (only .str fJoin) (wC (.str " ")) (wCons (wVar 7) wNil)) wNil))) (wSl (fSl .F) (wVar 1) (wPt (wBin (fAdd .F) (wVar 4) (wC (.int 1)))) wNoP)))
def b_law_lines_spoilt_dd36_9 : WS := (wSeq (wAsg (wBin fIx (wVar 9) (wCall 2 w_law_draw_c477 (wCons (wVar 0) (wCons (wCB fLen (wCons (wVar 9) wNil)) wNil)))) (gS fSet (wVar 7) (wVar 8))) b_law_lines_spoilt_dd36_10)
def b_law_lines_spoilt_dd36_8 : WS := (wSeq (wAsg (wLst .F (wCons (wC (.str "")) (wCons (wC (.str "0")) (wCons (wC (.str "00")) (wCons (wC (.str "-1")) (wCons (wC (.str "A")) (wCons (wC (.str "x")) (wCons (wBin (fAdd .F) (wBin fIx (wVar 7) (wVar 8)) (wC (.str "q"))) (wCons (wBin fIx (wVar 7) (wC (.int 0))) (wCons (wBin fIx (wVar 7) (wUn fNeg (wC (.int 1)))) (wCons (wC (.str "1")) (wCons (wC (.str "host")) (wCons (wC (.str "link")) wNil))))))))))))) (gN 9)) b_law_lines_spoilt_dd36_9)
def b_law_lines_spoilt_dd36_7 : WS := (wSeq (wAsg (wCall 2 w_law_draw_c477 (wCons (wVar 0) (wCons (wCB fLen (wCons (wVar 7) wNil)) wNil))) (gN 8)) b_law_lines_spoilt_dd36_8)
def b_law_lines_spoilt_dd36_6 : WS := (wSeq (wAsg (wMt (only .str (fSplit .M)) (wBin fIx (wVar 1) (wVar 4)) (wCons (wC (.str " ")) wNil)) (gN 7)) b_law_lines_spoilt_dd36_7)
def b_law_lines_spoilt_dd36_5 : WS := (wSeq (wIfS (wB (wBin (fEqD false) (wVar 3) (wC (.int 4)))) (wRet (wBin (fAdd .F) (wBin (fAdd .F) (wSl (fSl .F) (wVar 1) wNoP (wPt (wVar 4))) (wLst .F (wCons (wBin (fAdd .F) (wBin fIx (wVar 1) (wVar 4)) (wBin fIx (wLst .F (wCons (wC (.str " ")) (wCons (wC (.str " a")) (wCons (wC (.str " 0")) (wCons (wC (.str "x")) (wCons (wC (.str "1")) wNil)))))) (wCall 2 w_law_draw_c477 (wCons (wVar 0) (wCons (wC (.int 5)) wNil))))) wNil))) (wSl (fSl .F) (wVar 1) (wPt (wBin (fAdd .F) (wVar 4) (wC (.int 1)))) wNoP))) (fun D S A => D.nx S A)) b_law_lines_spoilt_dd36_6)
def b_law_lines_spoilt_dd36_4 : WS := (wSeq (wIfS (wB (wBin (fEqD false) (wVar 3) (wC (.int 3)))) (wSeq (wAsg (wCall 2 w_law_draw_c477 (wCons (wVar 0) (wCons (wCB fLen (wCons (wVar 1) wNil)) wNil))) (gN 5)) b_law_lines_spoilt_dd36_x3) (fun D S A => D.nx S A)) b_law_lines_spoilt_dd36_5)
def b_law_lines_spoilt_dd36_3 : WS := (wSeq (wIfS (wB (wBin (fEqD false) (wVar 3) (wC (.int 2)))) (wRet (wBin (fAdd .F) (wBin (fAdd .F) (wSl (fSl .F) (wVar 1) wNoP (wPt (wVar 4))) (wLst .F (wCons (wBin fIx (wVar 2) (wCall 2 w_law_draw_c477 (wCons (wVar 0) (wCons (wCB fLen (wCons (wVar 2) wNil)) wNil)))) wNil))) (wSl (fSl .F) (wVar 1) (wPt (wVar 4)) wNoP))) (fun D S A => D.nx S A)) b_law_lines_spoilt_dd36_4)
def b_law_lines_spoilt_dd36_2 : WS := (wSeq (wIfS (wB (wBin (fEqD false) (wVar 3) (wC (.int 1)))) (wRet (wBin (fAdd .F) (wBin (fAdd .F) (wSl (fSl .F) (wVar 1) wNoP (wPt (wVar 4))) (wSl (fSl .F) (wVar 1) (wPt (wVar 4)) (wPt (wBin (fAdd .F) (wVar 4) (wC (.int 1)))))) (wSl (fSl .F) (wVar 1) (wPt (wVar 4)) wNoP))) (fun D S A => D.nx S A)) b_law_lines_spoilt_dd36_3)
def b_law_lines_spoilt_dd36_1 : WS := (wSeq (wIfS (wB (wBin (fEqD false) (wVar 3) (wC (.int 0)))) (wRet (wBin (fAdd .F) (wSl (fSl .F) (wVar 1) wNoP (wPt (wVar 4))) (wSl (fSl .F) (wVar 1) (wPt (wBin (fAdd .F) (wVar 4) (wC (.int 1)))) wNoP))) (fun D S A => D.nx S A)) b_law_lines_spoilt_dd36_2)
def b_law_lines_spoilt_dd36 : WS :=
    (wSeq (wPar 3 4 (wCons (wCall 2 w_law_draw_c477 (wCons (wVar 0) (wCons (wC (.int 7)) wNil))) (wCons (wCall 2 w_law_draw_c477 (wCons (wVar 0) (wCons (wCB fLen (wCons (wVar 1) wNil)) wNil))) wNil))) b_law_lines_spoilt_dd36_1)
def w_law_lines_spoilt_dd36 : WF := wFun 10 b_law_lines_spoilt_dd36
abbrev n_law_spoilt_7713 : List Str := ["_law_rng_here", "_law_text", "_law_menu", "_law_way", "_law_at", "_law_sign"]
def b_law_spoilt_7713_x1 : WS := (wRet (wBin fIx (wLst .F (wCons (wBin (fAdd .F) (wBin (fAdd .F) (wSl (fSl .F) (wVar 1) wNoP (wPt (wVar 4))) (wVar 5)) (wSl (fSl .F) (wVar 1) (wPt (wVar 4)) wNoP)) (wCons (wBin (fAdd .F) (wSl (fSl .F) (wVar 1) wNoP (wPt (wVar 4))) (wSl (fSl .F) (wVar 1) (wPt (wBin (fAdd .F) (wVar 4) (wC (.int 1)))) wNoP)) wNil))) (wBin fSub (wVar 3) (wC (.int 2)))))
def b_law_spoilt_7713_4 : WS := (wRet (wMt (only .str fJoin) (wC (.str "\n")) (wCons (wCall 3 w_law_lines_spoilt_dd36 (wCons (wVar 0) (wCons (wMt (only .str (fSplit .F)) (wVar 1) (wCons (wC (.str "\n")) wNil)) (wCons (wVar 2) wNil)))) wNil)))
def b_law_spoilt_7713_3 : WS := (wSeq (wIfS (wB (wBin fLt (wVar 3) (wC (.int 4)))) (wSeq (wPar 4 5 (wCons (wCall 2 w_law_draw_c477 (wCons (wVar 0) (wCons (wBin (fAdd .F) (wCB fLen (wCons (wVar 1) wNil)) (wC (.int 1))) wNil))) (wCons (wBin fIx (wC (.str " \n,0129abAZ-")) (wCall 2 w_law_draw_c477 (wCons (wVar 0) (wCons (wC (.int 12)) wNil)))) wNil))) b_law_spoilt_7713_x1) (fun D S A => D.nx S A)) b_law_spoilt_7713_4)
def b_law_spoilt_7713_2 : WS := (wSeq (wIfS (wB (wBin (fEqD false) (wVar 3) (wC (.int 1)))) (wRet (wBin fIx (wLst .F (wCons (wSl (fSl .F) (wVar 1) wNoP (wPt (wUn fNeg (wC (.int 1))))) (wCons (wBin (fAdd .F) (wVar 1) (wC (.str "\n"))) (wCons (wBin (fAdd .F) (wC (.str " ")) (wVar 1)) (wCons (wBin (fAdd .F) (wC (.str "\n")) (wVar 1)) (wCons (wMt (only .str fUpper) (wVar 1) wNil) (wCons (wBin (fAdd .F) (wVar 1) (wC (.str "x"))) wNil))))))) (wCall 2 w_law_draw_c477 (wCons (wVar 0) (wCons (wC (.int 6)) wNil))))) (fun D S A => D.nx S A)) b_law_spoilt_7713_3)
def b_law_spoilt_7713_1 : WS := (wSeq (wIfS (wB (wBin (fEqD false) (wVar 3) (wC (.int 0)))) (wRet (wBin fIx (wLst .F (wCons (wC .non) (wCons (wC (.int 7)) (wCons (wC (.bl true)) (wCons (wLst .F (wCons (wVar 1) wNil)) (wCons (wTup (wCons (wVar 1) wNil)) (wCons (wDct0 .F) (wCons (wC (.str "")) (wCons (wC (.str "\n")) (wCons (wC (.str " ")) (wCons (wC (.int 0)) (wCons (wC (.bl false)) (wCons (wLst .F wNil) wNil))))))))))))) (wCall 2 w_law_draw_c477 (wCons (wVar 0) (wCons (wC (.int 12)) wNil))))) (fun D S A => D.nx S A)) b_law_spoilt_7713_2)
def b_law_spoilt_7713 : WS :=
    (wSeq (wAsg (wCall 2 w_law_draw_c477 (wCons (wVar 0) (wCons (wC (.int 7)) wNil))) (gN 3)) b_law_spoilt_7713_1)
def w_law_spoilt_7713 : WF := wFun 6 b_law_spoilt_7713
abbrev n_law_is_relink_e577 : List Str := ["_law_parts", "_law_way", "_law_at", "_law_name"]
def b_law_is_relink_e577_3 : WS := (wRet (wAndV (wCB fIsi (wCons (wVar 2) (wCons (wC (.ty "int")) wNil))) (wAndV (wNotV (wCB fIsi (wCons (wVar 2) (wCons (wC (.ty "bool")) wNil)))) (wChain fLe fLe (wC (.int 0)) (wVar 2) (wBin fSub (wCB fLen (wCons (wVar 1) wNil)) (wC (.int 2)))))))
def b_law_is_relink_e577_2 : WS := (wSeq (wIfS (wOr (wNot (wTru (wCB fAll (wCons (wLc .F (wiSeq (wVar 1)) (gN 3) wYes (wCall 1 w_law_is_name_328b (wCons (wVar 3) wNil)) [3]) wNil)))) (wB (wBin (fEqD true) (wLenSet (wVar 1)) (wCB fLen (wCons (wVar 1) wNil))))) (wRet (wC (.bl false))) (fun D S A => D.nx S A)) b_law_is_relink_e577_3)
def b_law_is_relink_e577_1 : WS := (wSeq (wAsg (wVar 0) (gT 2 (gCn (gN 1) (gCn (gN 2) gNl)))) b_law_is_relink_e577_2)
def b_law_is_relink_e577 : WS :=
    (wSeq (wIfS (wOr (wB (wBin (fEqD true) (wCB fLen (wCons (wVar 0) wNil)) (wC (.int 2)))) (wOr (wNot (wTru (wCB fIsi (wCons (wBin fIx (wVar 0) (wC (.int 0))) (wCons (wC (.ty "tuple")) wNil))))) (wB (wBin fLt (wCB fLen (wCons (wBin fIx (wVar 0) (wC (.int 0))) wNil)) (wC (.int 3)))))) (wRet (wC (.bl false))) (fun D S A => D.nx S A)) b_law_is_relink_e577_1)
def w_law_is_relink_e577 : WF := wFun 4 b_law_is_relink_e577
abbrev n_law_is_word_083e : List Str := ["_law_value", "_law_sign"]
def b_law_is_word_083e_1 : WS := (wRet (wCB fAll (wCons (wLc .F (wiSeq (wVar 0)) (gN 1) wYes (wOrV (wChain fLe fLe (wC (.str "a")) (wVar 1) (wC (.str "z"))) (wChain fLe fLe (wC (.str "0")) (wVar 1) (wC (.str "9")))) [1]) wNil)))
def b_law_is_word_083e : WS :=
    (wSeq (wIfS (wOr (wNot (wTru (wCB fIsi (wCons (wVar 0) (wCons (wC (.ty "str")) wNil))))) (wNot (wB (wChain fLe fLe (wC (.int 1)) (wCB fLen (wCons (wVar 0) wNil)) (wC (.int 12)))))) (wRet (wC (.bl false))) (fun D S A => D.nx S A)) b_law_is_word_083e_1)
def w_law_is_word_083e : WF := wFun 2 b_law_is_word_083e
abbrev n_law_is_event_d13b : List Str := ["_law_value", "_law_sizes", "_law_part"]
def b_law_is_event_d13b_4 : WS := (wRet (wAndV (wBin (fInA false) (wBin fIx (wVar 0) (wC (.int 0))) (wVar 1)) (wAndV (wBin (fEqD false) (wCB fLen (wCons (wVar 0) wNil)) (wBin fIx (wVar 1) (wBin fIx (wVar 0) (wC (.int 0))))) (wCB fAll (wCons (wLc .F (wiSeq (wSl (fSl .F) (wVar 0) (wPt (wC (.int 1))) wNoP)) (gN 2) wYes (wCall 1 w_law_is_name_328b (wCons (wVar 2) wNil)) [2]) wNil)))))
def b_law_is_event_d13b_3 : WS := (wSeq (wAsg (wDisp .F [((wC (.str "deliver")), (wC (.int 3))), ((wC (.str "add")), (wC (.int 3))), ((wC (.str "remove")), (wC (.int 2)))]) (gN 1)) b_law_is_event_d13b_4)
def b_law_is_event_d13b_2 : WS := (wSeq (wIfS (wB (wBin (fEqD false) (wBin fIx (wVar 0) (wC (.int 0))) (wC (.str "write")))) (wRet (wAndV (wBin (fEqD false) (wCB fLen (wCons (wVar 0) wNil)) (wC (.int 3))) (wAndV (wCall 1 w_law_is_name_328b (wCons (wBin fIx (wVar 0) (wC (.int 1))) wNil)) (wCall 1 w_law_is_word_083e (wCons (wBin fIx (wVar 0) (wC (.int 2))) wNil))))) (fun D S A => D.nx S A)) b_law_is_event_d13b_3)
def b_law_is_event_d13b_1 : WS := (wSeq (wIfS (wB (wBin (fEqD false) (wBin fIx (wVar 0) (wC (.int 0))) (wC (.str "ask")))) (wRet (wCall 1 w_law_is_relink_e577 (wCons (wSl (fSl .F) (wVar 0) (wPt (wC (.int 1))) wNoP) wNil))) (fun D S A => D.nx S A)) b_law_is_event_d13b_2)
def b_law_is_event_d13b : WS :=
    (wSeq (wIfS (wOr (wNot (wTru (wCB fIsi (wCons (wVar 0) (wCons (wC (.ty "tuple")) wNil))))) (wOr (wB (wBin (fEqD false) (wVar 0) (wTup wNil))) (wNot (wTru (wCB fIsi (wCons (wBin fIx (wVar 0) (wC (.int 0))) (wCons (wC (.ty "str")) wNil))))))) (wRet (wC (.bl false))) (fun D S A => D.nx S A)) b_law_is_event_d13b_1)
def w_law_is_event_d13b : WF := wFun 3 b_law_is_event_d13b
abbrev n_law_number_c6c6 : List Str := ["_law_word", "_law_sign"]
def b_law_number_c6c6_1 : WS := (wRet (wIf (wAnd (wB (wBin (fEqD false) (wBin fIx (wVar 0) (wC (.int 0))) (wC (.str "0")))) (wB (wBin (fEqD true) (wVar 0) (wC (.str "0"))))) (wC .non) (wCB fIntT (wCons (wVar 0) wNil))))
def b_law_number_c6c6 : WS :=
    (wSeq (wIfS (wOr (wB (wBin (fEqD false) (wVar 0) (wC (.str "")))) (wOr (wB (wBin fGt (wCB fLen (wCons (wVar 0) wNil)) (wC (.int 30)))) (wNot (wTru (wCB fAll (wCons (wLc .F (wiSeq (wVar 0)) (gN 1) wYes (wChain fLe fLe (wC (.str "0")) (wVar 1) (wC (.str "9"))) [1]) wNil)))))) (wRet (wC .non)) (fun D S A => D.nx S A)) b_law_number_c6c6_1)
def w_law_number_c6c6 : WF := wFun 2 b_law_number_c6c6
abbrev n_law_event_text_f62d : List Str := ["_law_event_here"]
def b_law_event_text_f62d_1 : WS := (wRet (wMt (only .str fJoin) (wC (.str " ")) (wCons (wVar 0) wNil)))
def b_law_event_text_f62d : WS :=
    (wSeq (wIfS (wB (wBin (fEqD false) (wBin fIx (wVar 0) (wC (.int 0))) (wC (.str "ask")))) (wRet (wBin (fAdd .F) (wBin (fAdd .F) (wBin (fAdd .F) (wC (.str "ask ")) (wMt (only .str fJoin) (wC (.str ",")) (wCons (wBin fIx (wVar 0) (wC (.int 1))) wNil))) (wC (.str " "))) (wCB fStr (wCons (wBin fIx (wVar 0) (wC (.int 2))) wNil)))) (fun D S A => D.nx S A)) b_law_event_text_f62d_1)
def w_law_event_text_f62d : WF := wFun 1 b_law_event_text_f62d
abbrev n_law_joined_714a : List Str := ["_law_words", "_law_sign"]
def b_law_joined_714a : WS :=
    (wRet (wIf (wB (wBin (fEqD true) (wVar 0) (wLst .F wNil))) (wMt (only .str fJoin) (wVar 1) (wCons (wVar 0) wNil)) (wC (.str "-"))))
def w_law_joined_714a : WF := wFun 2 b_law_joined_714a
abbrev n_law_start_5715 : List Str := ["_law_names_here", "_law_links_here", "_law_link"]
def b_law_start_5715 : WS :=
    (wRet (wBin (fAdd .F) (wBin (fAdd .F) (wBin (fAdd .F) (wC (.str "tree ")) (wMt (only .str fJoin) (wC (.str ",")) (wCons (wVar 0) wNil))) (wC (.str " "))) (wCall 2 w_law_joined_714a (wCons (wLc .F (wiSeq (wVar 1)) (gN 2) wYes (wMt (only .str fJoin) (wC (.str "-")) (wCons (wVar 2) wNil)) [2]) (wCons (wC (.str ",")) wNil)))))
def w_law_start_5715 : WF := wFun 3 b_law_start_5715
abbrev n_law_item_text_e5c1 : List Str := ["_law_item", "_law_part"]
def b_law_item_text_e5c1_1 : WS := (wRet (wMt (only .str fJoin) (wC (.str " ")) (wCons (wLc .F (wiSeq (wVar 0)) (gN 1) wYes (wCB fStr (wCons (wVar 1) wNil)) [1]) wNil)))
def b_law_item_text_e5c1 : WS :=
    (wSeq (wIfS (wB (wBin (fEqD false) (wCB fLen (wCons (wVar 0) wNil)) (wC (.int 3)))) (wRet (wBin (fAdd .F) (wBin (fAdd .F) (wBin (fAdd .F) (wBin (fAdd .F) (wBin fIx (wVar 0) (wC (.int 0))) (wC (.str " "))) (wMt (only .str fJoin) (wC (.str ",")) (wCons (wBin fIx (wVar 0) (wC (.int 1))) wNil))) (wC (.str " "))) (wCB fStr (wCons (wBin fIx (wVar 0) (wC (.int 2))) wNil)))) (fun D S A => D.nx S A)) b_law_item_text_e5c1_1)
def w_law_item_text_e5c1 : WF := wFun 2 b_law_item_text_e5c1
end Hl

set_option Elab.async false
set_option linter.all false
set_option maxRecDepth 100000
set_option maxHeartbeats 1000000
/-! printed by gen2.py -/
namespace Lw
open PySem PySem.Spec PyProof.Rows L2 Rk Pg Hl
def top (i : Nat) : Stmt := PySem.Challenge.pw_relinktree_k16_relinks_judged.main.body.getD i (.Pass ⟨0, 0, 0, 0⟩)
abbrev n_law_is_right : List Str := ["_law_value", "_law_way", "_law_at", "_law_name"]
def b_law_is_right_3 : WS := (wRet (wAndV (wCB fIsi (wCons (wVar 2) (wCons (wC (.ty "int")) wNil))) (wAndV (wNotV (wCB fIsi (wCons (wVar 2) (wCons (wC (.ty "bool")) wNil)))) (wChain fLe fLe (wC (.int 0)) (wVar 2) (wBin fSub (wCB fLen (wCons (wVar 1) wNil)) (wC (.int 2)))))))
def b_law_is_right_2 : WS := (wSeq (wIfS (wOr (wB (wBin fLt (wCB fLen (wCons (wVar 1) wNil)) (wC (.int 3)))) (wOr (wNot (wTru (wCB fAll (wCons (wLc .F (wiSeq (wVar 1)) (gN 3) wYes (wCall 1 w_law_is_name_328b (wCons (wVar 3) wNil)) [3]) wNil)))) (wB (wBin (fEqD true) (wLenSet (wVar 1)) (wCB fLen (wCons (wVar 1) wNil)))))) (wRet (wC (.bl false))) (fun D S A => D.nx S A)) b_law_is_right_3)
def b_law_is_right_1 : WS := (wSeq (wAsg (wVar 0) (gT 2 (gCn (gN 1) (gCn (gN 2) gNl)))) b_law_is_right_2)
def b_law_is_right : WS :=
    (wSeq (wIfS (wOr (wNot (wTru (wCB fIsi (wCons (wVar 0) (wCons (wC (.ty "tuple")) wNil))))) (wOr (wB (wBin (fEqD true) (wCB fLen (wCons (wVar 0) wNil)) (wC (.int 2)))) (wNot (wTru (wCB fIsi (wCons (wBin fIx (wVar 0) (wC (.int 0))) (wCons (wC (.ty "tuple")) wNil))))))) (wRet (wC (.bl false))) (fun D S A => D.nx S A)) b_law_is_right_1)
def w_law_is_right : WF := wFun 4 b_law_is_right
abbrev n_law_call : List Str := ["_law_kind", "_law_value", "_law_name"]
def b_law_call_3 : WS := (wRet (wIf (wB (wBin (fEqD false) (wVar 0) (wC (.int 3)))) (wCall 2 w_is_near (wCons (wVar 1) (wCons (wVar 2) wNil))) (wCall 2 w_are_independent (wCons (wVar 1) (wCons (wVar 2) wNil)))))
def b_law_call_2 : WS := (wSeq (wIfS (wB (wBin (fEqD false) (wVar 0) (wC (.int 2)))) (wRet (wCall 2 w_position (wCons (wVar 1) (wCons (wVar 2) wNil)))) (fun D S A => D.nx S A)) b_law_call_3)
def b_law_call_1 : WS := (wSeq (wIfS (wB (wBin (fEqD false) (wVar 0) (wC (.int 1)))) (wRet (wCall 1 w_removed_link (wCons (wVar 1) wNil))) (fun D S A => D.nx S A)) b_law_call_2)
def b_law_call : WS :=
    (wSeq (wIfS (wB (wBin (fEqD false) (wVar 0) (wC (.int 0)))) (wRet (wCall 1 w_added_link (wCons (wVar 1) wNil))) (fun D S A => D.nx S A)) b_law_call_1)
def w_law_call : WF := wFun 3 b_law_call
abbrev n_law_told : List Str := ["_law_kind", "_law_value", "_law_name", "_law_told_here", "e", "_law_is_right_here"]
def b_law_told_h1 : Addr → Option Addr → String → WS := fun a d C => (wAsg (wIf (wAnd (wTru (wXi 4 a d C ["RelinkTreeError"])) (wTru (wXi 4 a d C ["ValueError"]))) (wTup (wCons (wC (.str "relink")) (wCons (wCB fReprD (wCons (wXf 4 a d C ("value" : Str)) wNil)) wNil))) (wVar 3)) (gN 3))
def b_law_told_h2 : Addr → Option Addr → String → WS := fun a d C => (wSeq (wAsg (wAndV (wXi 4 a d C ["LookupError"]) (wNotV (wXi 4 a d C ["RelinkTreeError"]))) (gN 5)) (wAsg (wIf (wTru (wVar 5)) (wTup (wCons (wC (.str "host")) (wCons (wCB fReprD (wCons (wXf 4 a d C ("host" : Str)) wNil)) wNil))) (wVar 3)) (gN 3)))
def b_law_told_2 : WS := (wRet (wVar 3))
def b_law_told_1 : WS := (wSeq (wTry (wAsg (wTup (wCons (wC (.str "told")) (wCons (wCB fReprD (wCons (wCall 3 w_law_call (wCons (wVar 0) (wCons (wVar 1) (wCons (wVar 2) wNil)))) wNil)) wNil))) (gN 3)) [⟨["InvalidRelink"], some 4, b_law_told_h1⟩, ⟨["UnknownHost"], some 4, b_law_told_h2⟩]) b_law_told_2)
def b_law_told : WS :=
    (wSeq (wAsg (wTup (wCons (wC (.str "another")) (wCons (wC (.str "")) wNil))) (gN 3)) b_law_told_1)
def w_law_told : WF := wFun 6 b_law_told
abbrev n_law_links_right : List Str := ["_law_value", "_law_names_here", "_law_second", "_law_way", "_law_at", "_law_due", "_law_name", "_law_told_here", "_law_here", "_law_apart", "_law_kind", "_law_link"]
def b_law_links_right_x1 : WS := (wIfS (wB (wBin (fEqD true) (wVar 7) (wVar 8))) (wRet (wC (.bl false))) (fun D S A => D.nx S A))
def b_law_links_right_x2 : WS := (wSeq (wIfS (wB (wBin (fInA false) (wVar 6) (wVar 3))) (wAsg (wLst .F (wCons (wTup (wCons (wC (.str "told")) (wCons (wCB fReprD (wCons (wMt (only .tup fTIndex) (wVar 3) (wCons (wVar 6) wNil)) wNil)) wNil))) (wCons (wTup (wCons (wC (.str "told")) (wCons (wCB fReprD (wCons (wBin fLe (wMt (only .tup fTIndex) (wVar 3) (wCons (wVar 6) wNil)) (wVar 4)) wNil)) wNil))) wNil))) (gN 8)) (fun D S A => D.nx S A)) b_law_links_right_x1)
def b_law_links_right_x3 : WS := (wSeq (wAsg (wBin (fMul .F) (wLst .M (wCons (wTup (wCons (wC (.str "host")) (wCons (wCB fReprD (wCons (wVar 6) wNil)) wNil))) wNil)) (wC (.int 2))) (gN 8)) b_law_links_right_x2)
def b_law_links_right_5 : WS := (wRet (wBin (fEqD false) (wLst .F (wCons (wCall 3 w_law_told (wCons (wC (.int 4)) (wCons (wVar 0) (wCons (wVar 2) wNil)))) (wCons (wCall 3 w_law_told (wCons (wC (.int 4)) (wCons (wVar 2) (wCons (wVar 0) wNil)))) wNil))) (wBin (fMul .F) (wLst .M (wCons (wTup (wCons (wC (.str "told")) (wCons (wCB fReprD (wCons (wVar 9) wNil)) wNil))) wNil)) (wC (.int 2)))))
def b_law_links_right_4 : WS := (wSeq (wAsg (wCB fAll (wCons (wLc .F (wiSeq (wVar 3)) (gN 6) wYes (wBin (fInA true) (wVar 6) (wBin fIx (wVar 2) (wC (.int 0)))) [6]) wNil)) (gN 9)) b_law_links_right_5)
def b_law_links_right_3 : WS := (wSeq (wFor (wiSeq (wVar 1)) (gN 6) (wSeq (wAsg (wLst .F (wCons (wCall 3 w_law_told (wCons (wC (.int 2)) (wCons (wVar 0) (wCons (wVar 6) wNil)))) (wCons (wCall 3 w_law_told (wCons (wC (.int 3)) (wCons (wVar 0) (wCons (wVar 6) wNil)))) wNil))) (gN 7)) b_law_links_right_x3)) b_law_links_right_4)
def b_law_links_right_2 : WS := (wSeq (wIfS (wB (wBin (fEqD true) (wLc .F (wiR1 (wCons (wC (.int 2)) wNil)) (gN 10) wYes (wCall 3 w_law_told (wCons (wVar 10) (wCons (wVar 0) (wCons (wC .non) wNil)))) [10]) (wLc .F (wiSeq (wVar 5)) (gN 11) wYes (wTup (wCons (wC (.str "told")) (wCons (wCB fReprD (wCons (wVar 11) wNil)) wNil))) [11]))) (wRet (wC (.bl false))) (fun D S A => D.nx S A)) b_law_links_right_3)
def b_law_links_right_1 : WS := (wSeq (wAsg (wLst .F (wCons (wCB fTupO (wCons (wCB (fSorted .F) (wCons (wLst .F (wCons (wBin fIx (wVar 3) (wC (.int 0))) (wCons (wBin fIx (wVar 3) (wUn fNeg (wC (.int 1)))) wNil))) wNil)) wNil)) (wCons (wCB fTupO (wCons (wCB (fSorted .F) (wCons (wLst .F (wCons (wBin fIx (wVar 3) (wVar 4)) (wCons (wBin fIx (wVar 3) (wBin (fAdd .F) (wVar 4) (wC (.int 1)))) wNil))) wNil)) wNil)) wNil))) (gN 5)) b_law_links_right_2)
def b_law_links_right : WS :=
    (wSeq (wAsg (wVar 0) (gT 2 (gCn (gN 3) (gCn (gN 4) gNl)))) b_law_links_right_1)
def w_law_links_right : WF := wFun 12 b_law_links_right
abbrev n_law_value_right : List Str := ["_law_rng_here", "_law_value", "_law_names_here", "_law_second", "_law_shown", "_law_due", "_law_odd_here", "_law_told_here", "_law_kind"]
def b_law_value_right_8 : WS := (wRet (wBin (fEqD false) (wCB fReprD (wCons (wVar 1) wNil)) (wVar 4)))
def b_law_value_right_7 : WS := (wSeq (wIfS (wAnd (wNot (wTru (wVar 5))) (wB (wBin (fEqD true) (wCall 3 w_law_told (wCons (wC (.int 4)) (wCons (wVar 3) (wCons (wVar 1) wNil)))) (wTup (wCons (wC (.str "relink")) (wCons (wCB fReprD (wCons (wVar 1) wNil)) wNil)))))) (wRet (wC (.bl false))) (fun D S A => D.nx S A)) b_law_value_right_8)
def b_law_value_right_6 : WS := (wSeq (wIfS (wAnd (wNot (wTru (wVar 5))) (wB (wBin (fEqD true) (wVar 7) (wBin (fMul .F) (wLst .M (wCons (wTup (wCons (wC (.str "relink")) (wCons (wCB fReprD (wCons (wVar 1) wNil)) wNil))) wNil)) (wC (.int 5)))))) (wRet (wC (.bl false))) (fun D S A => D.nx S A)) b_law_value_right_7)
def b_law_value_right_5 : WS := (wSeq (wAsg (wLc .F (wiR1 (wCons (wC (.int 5)) wNil)) (gN 8) wYes (wCall 3 w_law_told (wCons (wVar 8) (wCons (wVar 1) (wCons (wBin fIx (wVar 2) (wC (.int 0))) wNil)))) [8]) (gN 7)) b_law_value_right_6)
def b_law_value_right_4 : WS := (wSeq (wIfS (wAnd (wTru (wVar 5)) (wB (wBin (fInD true) (wVar 6) (wBin fIx (wVar 1) (wC (.int 0)))))) (wIfS (wB (wBin (fEqD true) (wLc .F (wiSeq (wTup (wCons (wC (.int 2)) (wCons (wC (.int 3)) wNil)))) (gN 8) wYes (wCall 3 w_law_told (wCons (wVar 8) (wCons (wVar 1) (wCons (wVar 6) wNil)))) [8]) (wBin (fMul .F) (wLst .M (wCons (wTup (wCons (wC (.str "host")) (wCons (wCB fReprD (wCons (wVar 6) wNil)) wNil))) wNil)) (wC (.int 2))))) (wRet (wC (.bl false))) (fun D S A => D.nx S A)) (fun D S A => D.nx S A)) b_law_value_right_5)
def b_law_value_right_3 : WS := (wSeq (wIfS (wAnd (wTru (wVar 5)) (wNot (wTru (wCall 3 w_law_links_right (wCons (wVar 1) (wCons (wVar 2) (wCons (wVar 3) wNil))))))) (wRet (wC (.bl false))) (fun D S A => D.nx S A)) b_law_value_right_4)
def b_law_value_right_2 : WS := (wSeq (wAsg (wCall 1 w_law_odd_573c (wCons (wVar 0) wNil)) (gN 6)) b_law_value_right_3)
def b_law_value_right_1 : WS := (wSeq (wIfS (wB (wBin (fEqD true) (wCB fReprD (wCons (wLst .F (wCons (wCall 1 w_is_relink (wCons (wVar 1) wNil)) (wCons (wCall 1 w_is_relink (wCons (wVar 1) wNil)) wNil))) wNil)) (wCB fReprD (wCons (wLst .F (wCons (wVar 5) (wCons (wVar 5) wNil))) wNil)))) (wRet (wC (.bl false))) (fun D S A => D.nx S A)) b_law_value_right_2)
def b_law_value_right : WS :=
    (wSeq (wPar 4 5 (wCons (wCB fReprD (wCons (wVar 1) wNil)) (wCons (wCall 1 w_law_is_right (wCons (wVar 1) wNil)) wNil))) b_law_value_right_1)
def w_law_value_right : WF := wFun 9 b_law_value_right
abbrev n_law_drawn : List Str := ["_law_rng_here", "_law_names_here", "_law_way"]
def b_law_drawn_1 : WS := (wRet (wTup (wCons (wVar 2) (wCons (wCall 2 w_law_draw_c477 (wCons (wVar 0) (wCons (wBin fSub (wCB fLen (wCons (wVar 2) wNil)) (wC (.int 1))) wNil))) wNil))))
def b_law_drawn : WS :=
    (wSeq (wAsg (wCB fTupO (wCons (wSl (fSl .F) (wCall 2 w_law_shuffled_fe8a (wCons (wVar 0) (wCons (wVar 1) wNil))) wNoP (wPt (wBin (fAdd .F) (wC (.int 3)) (wCall 2 w_law_draw_c477 (wCons (wVar 0) (wCons (wBin fSub (wCB fLen (wCons (wVar 1) wNil)) (wC (.int 2))) wNil)))))) wNil)) (gN 2)) b_law_drawn_1)
def w_law_drawn : WF := wFun 3 b_law_drawn
abbrev n_law_spoilt : List Str := ["_law_rng_here", "_law_value", "_law_at", "_law_kind", "_law_odd_here"]
def b_law_spoilt_x1 (r_law_spoilt : WF) : WS := (wRet (wBin (fAdd .F) (wBin (fAdd .F) (wSl (fSl .F) (wVar 1) wNoP (wPt (wVar 2))) (wTup (wCons (wVar 4) wNil))) (wSl (fSl .F) (wVar 1) (wPt (wBin (fAdd .F) (wVar 2) (wC (.int 1)))) wNoP)))
def b_law_spoilt_7 (r_law_spoilt : WF) : WS := (wRet (wBin (fAdd .F) (wBin (fAdd .F) (wSl (fSl .F) (wVar 1) wNoP (wPt (wVar 2))) (wTup (wCons (wCall 2 r_law_spoilt (wCons (wVar 0) (wCons (wBin fIx (wVar 1) (wVar 2)) wNil))) wNil))) (wSl (fSl .F) (wVar 1) (wPt (wBin (fAdd .F) (wVar 2) (wC (.int 1)))) wNoP)))
def b_law_spoilt_6 (r_law_spoilt : WF) : WS := (wSeq (wIfS (wB (wBin (fEqD false) (wVar 3) (wC (.int 4)))) (wSeq (wAsg (wBin fIx (wLst .F (wCons (wC (.bl true)) (wCons (wUn fNeg (wC (.int 1))) (wCons (wCB fLen (wCons (wVar 1) wNil)) (wCons (wC (.int 99)) (wCons (wC (.str "0")) (wCons (wC (.str "zq")) (wCons (wBin fIx (wVar 1) (wC (.int 0))) wNil)))))))) (wCall 2 w_law_draw_c477 (wCons (wVar 0) (wCons (wC (.int 7)) wNil)))) (gN 4)) (b_law_spoilt_x1 r_law_spoilt)) (fun D S A => D.nx S A)) (b_law_spoilt_7 r_law_spoilt))
def b_law_spoilt_5 (r_law_spoilt : WF) : WS := (wSeq (wIfS (wB (wBin (fEqD false) (wVar 3) (wC (.int 3)))) (wRet (wRev .F (wVar 1))) (fun D S A => D.nx S A)) (b_law_spoilt_6 r_law_spoilt))
def b_law_spoilt_4 (r_law_spoilt : WF) : WS := (wSeq (wIfS (wB (wBin (fEqD false) (wVar 3) (wC (.int 2)))) (wRet (wCB (fList .F) (wCons (wVar 1) wNil))) (fun D S A => D.nx S A)) (b_law_spoilt_5 r_law_spoilt))
def b_law_spoilt_3 (r_law_spoilt : WF) : WS := (wSeq (wIfS (wB (wBin (fEqD false) (wVar 3) (wC (.int 1)))) (wRet (wBin (fAdd .F) (wBin (fAdd .F) (wSl (fSl .F) (wVar 1) wNoP (wPt (wVar 2))) (wSl (fSl .F) (wVar 1) (wPt (wVar 2)) (wPt (wBin (fAdd .F) (wVar 2) (wC (.int 1)))))) (wSl (fSl .F) (wVar 1) (wPt (wVar 2)) wNoP))) (fun D S A => D.nx S A)) (b_law_spoilt_4 r_law_spoilt))
def b_law_spoilt_2 (r_law_spoilt : WF) : WS := (wSeq (wIfS (wB (wBin (fEqD false) (wVar 3) (wC (.int 0)))) (wRet (wBin (fAdd .F) (wSl (fSl .F) (wVar 1) wNoP (wPt (wVar 2))) (wSl (fSl .F) (wVar 1) (wPt (wBin (fAdd .F) (wVar 2) (wC (.int 1)))) wNoP))) (fun D S A => D.nx S A)) (b_law_spoilt_3 r_law_spoilt))
def b_law_spoilt_1 (r_law_spoilt : WF) : WS := (wSeq (wPar 2 3 (wCons (wCall 2 w_law_draw_c477 (wCons (wVar 0) (wCons (wCB fLen (wCons (wVar 1) wNil)) wNil))) (wCons (wCall 2 w_law_draw_c477 (wCons (wVar 0) (wCons (wC (.int 8)) wNil))) wNil))) (b_law_spoilt_2 r_law_spoilt))
def b_law_spoilt (r_law_spoilt : WF) : WS :=
    (wSeq (wIfS (wOr (wNot (wTru (wCB fIsi (wCons (wVar 1) (wCons (wC (.ty "tuple")) wNil))))) (wOr (wB (wBin (fEqD false) (wVar 1) (wTup wNil))) (wB (wBin (fEqD false) (wCall 2 w_law_draw_c477 (wCons (wVar 0) (wCons (wC (.int 6)) wNil))) (wC (.int 0)))))) (wRet (wCall 1 w_law_odd_573c (wCons (wVar 0) wNil))) (fun D S A => D.nx S A)) (b_law_spoilt_1 r_law_spoilt))
def w_law_spoilt : Nat → WF
  | 0 => wNoF
  | n + 1 => wFun 5 (b_law_spoilt (w_law_spoilt n))
abbrev n_law_right : List Str := ["_law_rng_here", "_law_names_here", "_law_value", "_law_second", "_law_turn", "_law_odd_here"]
def b_law_right_x1 : WS := (wIfS (wNot (wTru (wCall 4 w_law_value_right (wCons (wVar 0) (wCons (wVar 5) (wCons (wVar 1) (wCons (wVar 3) wNil))))))) (wRet (wC (.bl false))) (fun D S A => D.nx S A))
def b_law_right_x2 : WS := (wSeq (wAsg (wIf (wB (wBin fGt (wVar 4) (wC (.int 2)))) (wCall 2 (w_law_spoilt 20) (wCons (wVar 0) (wCons (wVar 5) wNil))) (wVar 5)) (gN 5)) b_law_right_x1)
def b_law_right_4 : WS := (wRet (wCall 4 w_law_value_right (wCons (wVar 0) (wCons (wCall 1 w_law_odd_573c (wCons (wVar 0) wNil)) (wCons (wVar 1) (wCons (wVar 3) wNil))))))
def b_law_right_3 : WS := (wSeq (wFor (wiR1 (wCons (wC (.int 4)) wNil)) (gN 4) (wSeq (wAsg (wCall 2 (w_law_spoilt 20) (wCons (wVar 0) (wCons (wVar 2) wNil))) (gN 5)) b_law_right_x2)) b_law_right_4)
def b_law_right_2 : WS := (wSeq (wIfS (wOr (wNot (wTru (wCall 1 w_law_is_right (wCons (wVar 2) wNil)))) (wNot (wTru (wCall 4 w_law_value_right (wCons (wVar 0) (wCons (wVar 2) (wCons (wVar 1) (wCons (wVar 3) wNil)))))))) (wRet (wC (.bl false))) (fun D S A => D.nx S A)) b_law_right_3)
def b_law_right_1 : WS := (wSeq (wPar 2 3 (wCons (wCall 2 w_law_drawn (wCons (wVar 0) (wCons (wVar 1) wNil))) (wCons (wCall 2 w_law_drawn (wCons (wVar 0) (wCons (wSl (fSl .F) (wCall 2 w_law_shuffled_fe8a (wCons (wVar 0) (wCons (wVar 1) wNil))) wNoP (wPt (wC (.int 4)))) wNil))) wNil))) b_law_right_2)
def b_law_right : WS :=
    (wSeq (wAsg (wCall 2 w_law_names_e25f (wCons (wVar 0) (wCons (wBin (fAdd .F) (wC (.int 4)) (wCall 2 w_law_draw_c477 (wCons (wVar 0) (wCons (wC (.int 9)) wNil)))) wNil))) (gN 1)) b_law_right_1)
def w_law_right : WF := wFun 6 b_law_right
abbrev n_law : List Str := ["_law_script", "_law_k"]
def b_law : WS :=
    (wRet (wCB fAll (wCons (wLc .F (wiR1 (wCons (wCB fMax (wCons (wC (.int 1)) (wCons (wCB fMin (wCons (wC (.int 8)) (wCons (wCB fLen (wCons (wVar 0) wNil)) wNil))) wNil))) wNil)) (gN 1) wYes (wCall 1 w_law_right (wCons (wCall 2 w_law_rng_725d (wCons (wVar 0) (wCons (wVar 1) wNil))) wNil)) [1]) wNil)))
def w_law : WF := wFun 2 b_law
abbrev s_law_draw_c477 : Stmt := top 22
theorem sc_law_draw_c477 : FnScope n_law_draw_c477 ["_law_rng_here", "_law_many"] (defScope s_law_draw_c477) := ⟨rfl, rfl, rfl, by decide +kernel, rfl, by decide +kernel, by decide +kernel⟩
abbrev s_law_names_e25f : Stmt := top 23
theorem sc_law_names_e25f : FnScope n_law_names_e25f ["_law_rng_here", "_law_many"] (defScope s_law_names_e25f) := ⟨rfl, rfl, rfl, by decide +kernel, rfl, by decide +kernel, by decide +kernel⟩
abbrev s_law_odd_573c : Stmt := top 25
theorem sc_law_odd_573c : FnScope n_law_odd_573c ["_law_rng_here"] (defScope s_law_odd_573c) := ⟨rfl, rfl, rfl, by decide +kernel, rfl, by decide +kernel, by decide +kernel⟩
abbrev s_law_is_name_328b : Stmt := top 26
theorem sc_law_is_name_328b : FnScope n_law_is_name_328b ["_law_value"] (defScope s_law_is_name_328b) := ⟨rfl, rfl, rfl, by decide +kernel, rfl, by decide +kernel, by decide +kernel⟩
abbrev s_law_is_right : Stmt := top 27
theorem sc_law_is_right : FnScope n_law_is_right ["_law_value"] (defScope s_law_is_right) := ⟨rfl, rfl, rfl, by decide +kernel, rfl, by decide +kernel, by decide +kernel⟩
abbrev s_is_integer : Stmt := top 7
theorem sc_is_integer : FnScope n_is_integer ["value"] (defScope s_is_integer) := ⟨rfl, rfl, rfl, by decide +kernel, rfl, by decide +kernel, by decide +kernel⟩
abbrev s_is_string_of : Stmt := top 8
theorem sc_is_string_of : FnScope n_is_string_of ["value", "characters", "longest"] (defScope s_is_string_of) := ⟨rfl, rfl, rfl, by decide +kernel, rfl, by decide +kernel, by decide +kernel⟩
abbrev s_is_host_name : Stmt := top 9
theorem sc_is_host_name : FnScope n_is_host_name ["value"] (defScope s_is_host_name) := ⟨rfl, rfl, rfl, by decide +kernel, rfl, by decide +kernel, by decide +kernel⟩
abbrev s_is_relink : Stmt := top 12
theorem sc_is_relink : FnScope n_is_relink ["value"] (defScope s_is_relink) := ⟨rfl, rfl, rfl, by decide +kernel, rfl, by decide +kernel, by decide +kernel⟩
abbrev s_require_relink : Stmt := top 13
theorem sc_require_relink : FnScope n_require_relink ["relink"] (defScope s_require_relink) := ⟨rfl, rfl, rfl, by decide +kernel, rfl, by decide +kernel, by decide +kernel⟩
abbrev s_ordered_link : Stmt := top 14
theorem sc_ordered_link : FnScope n_ordered_link ["one", "other"] (defScope s_ordered_link) := ⟨rfl, rfl, rfl, by decide +kernel, rfl, by decide +kernel, by decide +kernel⟩
abbrev s_added_link : Stmt := top 15
theorem sc_added_link : FnScope n_added_link ["relink"] (defScope s_added_link) := ⟨rfl, rfl, rfl, by decide +kernel, rfl, by decide +kernel, by decide +kernel⟩
abbrev s_removed_link : Stmt := top 16
theorem sc_removed_link : FnScope n_removed_link ["relink"] (defScope s_removed_link) := ⟨rfl, rfl, rfl, by decide +kernel, rfl, by decide +kernel, by decide +kernel⟩
abbrev s_position : Stmt := top 17
theorem sc_position : FnScope n_position ["relink", "host"] (defScope s_position) := ⟨rfl, rfl, rfl, by decide +kernel, rfl, by decide +kernel, by decide +kernel⟩
abbrev s_is_near : Stmt := top 18
theorem sc_is_near : FnScope n_is_near ["relink", "host"] (defScope s_is_near) := ⟨rfl, rfl, rfl, by decide +kernel, rfl, by decide +kernel, by decide +kernel⟩
abbrev s_are_independent : Stmt := top 19
theorem sc_are_independent : FnScope n_are_independent ["one", "other"] (defScope s_are_independent) := ⟨rfl, rfl, rfl, by decide +kernel, rfl, by decide +kernel, by decide +kernel⟩
abbrev s_law_call : Stmt := top 30
theorem sc_law_call : FnScope n_law_call ["_law_kind", "_law_value", "_law_name"] (defScope s_law_call) := ⟨rfl, rfl, rfl, by decide +kernel, rfl, by decide +kernel, by decide +kernel⟩
abbrev s_law_told : Stmt := top 31
theorem sc_law_told : FnScope n_law_told ["_law_kind", "_law_value", "_law_name"] (defScope s_law_told) := ⟨rfl, rfl, rfl, by decide +kernel, rfl, by decide +kernel, by decide +kernel⟩
abbrev s_law_links_right : Stmt := top 32
theorem sc_law_links_right : FnScope n_law_links_right ["_law_value", "_law_names_here", "_law_second"] (defScope s_law_links_right) := ⟨rfl, rfl, rfl, by decide +kernel, rfl, by decide +kernel, by decide +kernel⟩
abbrev s_law_value_right : Stmt := top 33
theorem sc_law_value_right : FnScope n_law_value_right ["_law_rng_here", "_law_value", "_law_names_here", "_law_second"] (defScope s_law_value_right) := ⟨rfl, rfl, rfl, by decide +kernel, rfl, by decide +kernel, by decide +kernel⟩
abbrev s_law_shuffled_fe8a : Stmt := top 24
theorem sc_law_shuffled_fe8a : FnScope n_law_shuffled_fe8a ["_law_rng_here", "_law_some"] (defScope s_law_shuffled_fe8a) := ⟨rfl, rfl, rfl, by decide +kernel, rfl, by decide +kernel, by decide +kernel⟩
abbrev s_law_drawn : Stmt := top 28
theorem sc_law_drawn : FnScope n_law_drawn ["_law_rng_here", "_law_names_here"] (defScope s_law_drawn) := ⟨rfl, rfl, rfl, by decide +kernel, rfl, by decide +kernel, by decide +kernel⟩
abbrev s_law_spoilt : Stmt := top 29
theorem sc_law_spoilt : FnScope n_law_spoilt ["_law_rng_here", "_law_value"] (defScope s_law_spoilt) := ⟨rfl, rfl, rfl, by decide +kernel, rfl, by decide +kernel, by decide +kernel⟩
abbrev s_law_right : Stmt := top 34
theorem sc_law_right : FnScope n_law_right ["_law_rng_here"] (defScope s_law_right) := ⟨rfl, rfl, rfl, by decide +kernel, rfl, by decide +kernel, by decide +kernel⟩
abbrev s_law_rng_725d : Stmt := top 21
theorem sc_law_rng_725d : FnScope n_law_rng_725d ["_law_script", "_law_k"] (defScope s_law_rng_725d) := ⟨rfl, rfl, rfl, by decide +kernel, rfl, by decide +kernel, by decide +kernel⟩
abbrev s_law : Stmt := top 35
theorem sc_law : FnScope n_law ["_law_script"] (defScope s_law) := ⟨rfl, rfl, rfl, by decide +kernel, rfl, by decide +kernel, by decide +kernel⟩
abbrev s_i_InvalidRelink : Stmt := inClass (top 2) 0
theorem sc_i_InvalidRelink : FnScope ["self", "value"] ["self", "value"] (defScope s_i_InvalidRelink) := ⟨rfl, rfl, rfl, by decide +kernel, rfl, by decide +kernel, by decide +kernel⟩
abbrev s_i_UnknownHost : Stmt := inClass (top 3) 0
theorem sc_i_UnknownHost : FnScope ["self", "host"] ["self", "host"] (defScope s_i_UnknownHost) := ⟨rfl, rfl, rfl, by decide +kernel, rfl, by decide +kernel, by decide +kernel⟩
/-- what the defs hold -/
structure Ad where
  fd_law_draw_c477 : FuncData
  fd_law_names_e25f : FuncData
  fd_law_odd_573c : FuncData
  fd_law_is_name_328b : FuncData
  fd_law_is_right : FuncData
  fd_is_integer : FuncData
  fd_is_string_of : FuncData
  fd_is_host_name : FuncData
  fd_is_relink : FuncData
  fd_require_relink : FuncData
  fd_ordered_link : FuncData
  fd_added_link : FuncData
  fd_removed_link : FuncData
  fd_position : FuncData
  fd_is_near : FuncData
  fd_are_independent : FuncData
  fd_law_call : FuncData
  fd_law_told : FuncData
  fd_law_links_right : FuncData
  fd_law_value_right : FuncData
  fd_law_shuffled_fe8a : FuncData
  fd_law_drawn : FuncData
  fd_law_spoilt : FuncData
  fd_law_right : FuncData
  fd_law_rng_725d : FuncData
  fd_law : FuncData
  fi_InvalidRelink : Addr
  fdi_InvalidRelink : FuncData
  fi_UnknownHost : Addr
  fdi_UnknownHost : FuncData
/-- what the top has written -/
structure Tx (w : World) (K : PySem.W.Frag) (mg : Str → Option Value) (F : Ad) : Prop where
  m_law_draw_c477 : mg "_law_draw" = some (.ref (cA K "_law_draw"))
  d_law_draw_c477 : Df K "_law_draw" "_law_draw" s_law_draw_c477 (cA K "_law_draw") F.fd_law_draw_c477 .none
  m_law_names_e25f : mg "_law_names" = some (.ref (cA K "_law_names"))
  d_law_names_e25f : Df K "_law_names" "_law_names" s_law_names_e25f (cA K "_law_names") F.fd_law_names_e25f .none
  m_law_odd_573c : mg "_law_odd" = some (.ref (cA K "_law_odd"))
  d_law_odd_573c : Df K "_law_odd" "_law_odd" s_law_odd_573c (cA K "_law_odd") F.fd_law_odd_573c .none
  m_law_is_name_328b : mg "_law_is_name" = some (.ref (cA K "_law_is_name"))
  d_law_is_name_328b : Df K "_law_is_name" "_law_is_name" s_law_is_name_328b (cA K "_law_is_name") F.fd_law_is_name_328b .none
  m_law_is_right : mg "_law_is_right" = some (.ref (cA K "_law_is_right"))
  d_law_is_right : Df K "_law_is_right" "_law_is_right" s_law_is_right (cA K "_law_is_right") F.fd_law_is_right .none
  m_is_integer : mg "is_integer" = some (.ref (cA K "is_integer"))
  d_is_integer : Df K "is_integer" "is_integer" s_is_integer (cA K "is_integer") F.fd_is_integer .none
  m_is_string_of : mg "is_string_of" = some (.ref (cA K "is_string_of"))
  d_is_string_of : Df K "is_string_of" "is_string_of" s_is_string_of (cA K "is_string_of") F.fd_is_string_of .none
  m_is_host_name : mg "is_host_name" = some (.ref (cA K "is_host_name"))
  d_is_host_name : Df K "is_host_name" "is_host_name" s_is_host_name (cA K "is_host_name") F.fd_is_host_name .none
  m_is_relink : mg "is_relink" = some (.ref (cA K "is_relink"))
  d_is_relink : Df K "is_relink" "is_relink" s_is_relink (cA K "is_relink") F.fd_is_relink .none
  m_require_relink : mg "require_relink" = some (.ref (cA K "require_relink"))
  d_require_relink : Df K "require_relink" "require_relink" s_require_relink (cA K "require_relink") F.fd_require_relink .none
  m_ordered_link : mg "ordered_link" = some (.ref (cA K "ordered_link"))
  d_ordered_link : Df K "ordered_link" "ordered_link" s_ordered_link (cA K "ordered_link") F.fd_ordered_link .none
  m_added_link : mg "added_link" = some (.ref (cA K "added_link"))
  d_added_link : Df K "added_link" "added_link" s_added_link (cA K "added_link") F.fd_added_link .none
  m_removed_link : mg "removed_link" = some (.ref (cA K "removed_link"))
  d_removed_link : Df K "removed_link" "removed_link" s_removed_link (cA K "removed_link") F.fd_removed_link .none
  m_position : mg "position" = some (.ref (cA K "position"))
  d_position : Df K "position" "position" s_position (cA K "position") F.fd_position .none
  m_is_near : mg "is_near" = some (.ref (cA K "is_near"))
  d_is_near : Df K "is_near" "is_near" s_is_near (cA K "is_near") F.fd_is_near .none
  m_are_independent : mg "are_independent" = some (.ref (cA K "are_independent"))
  d_are_independent : Df K "are_independent" "are_independent" s_are_independent (cA K "are_independent") F.fd_are_independent .none
  m_law_call : mg "_law_call" = some (.ref (cA K "_law_call"))
  d_law_call : Df K "_law_call" "_law_call" s_law_call (cA K "_law_call") F.fd_law_call .none
  m_law_told : mg "_law_told" = some (.ref (cA K "_law_told"))
  d_law_told : Df K "_law_told" "_law_told" s_law_told (cA K "_law_told") F.fd_law_told .none
  m_law_links_right : mg "_law_links_right" = some (.ref (cA K "_law_links_right"))
  d_law_links_right : Df K "_law_links_right" "_law_links_right" s_law_links_right (cA K "_law_links_right") F.fd_law_links_right .none
  m_law_value_right : mg "_law_value_right" = some (.ref (cA K "_law_value_right"))
  d_law_value_right : Df K "_law_value_right" "_law_value_right" s_law_value_right (cA K "_law_value_right") F.fd_law_value_right .none
  m_law_shuffled_fe8a : mg "_law_shuffled" = some (.ref (cA K "_law_shuffled"))
  d_law_shuffled_fe8a : Df K "_law_shuffled" "_law_shuffled" s_law_shuffled_fe8a (cA K "_law_shuffled") F.fd_law_shuffled_fe8a .none
  m_law_drawn : mg "_law_drawn" = some (.ref (cA K "_law_drawn"))
  d_law_drawn : Df K "_law_drawn" "_law_drawn" s_law_drawn (cA K "_law_drawn") F.fd_law_drawn .none
  m_law_spoilt : mg "_law_spoilt" = some (.ref (cA K "_law_spoilt"))
  d_law_spoilt : Df K "_law_spoilt" "_law_spoilt" s_law_spoilt (cA K "_law_spoilt") F.fd_law_spoilt .none
  m_law_right : mg "_law_right" = some (.ref (cA K "_law_right"))
  d_law_right : Df K "_law_right" "_law_right" s_law_right (cA K "_law_right") F.fd_law_right .none
  m_law_rng_725d : mg "_law_rng" = some (.ref (cA K "_law_rng"))
  d_law_rng_725d : Df K "_law_rng" "_law_rng" s_law_rng_725d (cA K "_law_rng") F.fd_law_rng_725d .none
  m_law : mg "law" = some (.ref (cA K "law"))
  d_law : Df K "law" "law" s_law (cA K "law") F.fd_law .none
  mc_InvalidRelink : mg "InvalidRelink" = some (.ref (cA K "InvalidRelink"))
  cv_InvalidRelink : clsV K "InvalidRelink" = .ref (cA K "InvalidRelink")
  mc_RelinkTreeError : mg "RelinkTreeError" = some (.ref (cA K "RelinkTreeError"))
  cv_RelinkTreeError : clsV K "RelinkTreeError" = .ref (cA K "RelinkTreeError")
  mc_UnknownHost : mg "UnknownHost" = some (.ref (cA K "UnknownHost"))
  cv_UnknownHost : clsV K "UnknownHost" = .ref (cA K "UnknownHost")
  di_InvalidRelink : Fun K "__init__" "InvalidRelink.__init__" s_i_InvalidRelink F.fi_InvalidRelink F.fdi_InvalidRelink
  ic_InvalidRelink : PySem.W.findIn K (.ref (cA K "InvalidRelink")) "__init__" = some (some (.ref F.fi_InvalidRelink))
  ti_InvalidRelink : PySem.W.typeIn K (.ref F.fi_InvalidRelink) = some (.type "function")
  ox_InvalidRelink : oexB K (cA K "InvalidRelink") .V [("value" : Str)] = true
  di_UnknownHost : Fun K "__init__" "UnknownHost.__init__" s_i_UnknownHost F.fi_UnknownHost F.fdi_UnknownHost
  ic_UnknownHost : PySem.W.findIn K (.ref (cA K "UnknownHost")) "__init__" = some (some (.ref F.fi_UnknownHost))
  ti_UnknownHost : PySem.W.typeIn K (.ref F.fi_UnknownHost) = some (.type "function")
  ox_UnknownHost : oexB K (cA K "UnknownHost") .L [("host" : Str)] = true
  ob_RelinkTreeError : ownB K (cA K "RelinkTreeError") .V = true
  xfx : Xfx K ["InvalidRelink", "LookupError", "RelinkTreeError", "UnknownHost", "ValueError"] [("host" : Str), ("value" : Str)]
  bv_LookupError : clsV K "LookupError" = .type "LookupError"
  bv_ValueError : clsV K "ValueError" = .type "ValueError"
  n_LookupError : mg "LookupError" = none
  n_ValueError : mg "ValueError" = none
  n_abs : mg "abs" = none
  n_all : mg "all" = none
  n_any : mg "any" = none
  n_bool : mg "bool" = none
  n_divmod : mg "divmod" = none
  n_int : mg "int" = none
  n_isinstance : mg "isinstance" = none
  n_len : mg "len" = none
  n_list : mg "list" = none
  n_max : mg "max" = none
  n_min : mg "min" = none
  n_range : mg "range" = none
  n_repr : mg "repr" = none
  n_set : mg "set" = none
  n_sorted : mg "sorted" = none
  n_str : mg "str" = none
  n_tuple : mg "tuple" = none
  e_LETTERS : ∃ t, mg "LETTERS" = some (.str "abcdefghijklmnopqrstuvwxyz" t)
  e_LONGEST_NAME : ∃ t, mg "LONGEST_NAME" = some (.int 8 t)
  e_SHORTEST_PATH : ∃ t, mg "SHORTEST_PATH" = some (.int 3 t)
section
variable {P : Program} {w : World} {K : PySem.W.Frag} {mg : Str → Option Value} {base : Heap} {F : Ad}
theorem ex_InvalidRelink (T : Tx w K mg F) : Exm P w K mg base 1 (cA K "InvalidRelink") .V [("value" : Str)] := by
  have G : FnOk P w K mg base CX0 1 F.fi_InvalidRelink F.fdi_InvalidRelink [("self" : Str), ("value" : Str)] (exSp (cA K "InvalidRelink") [("value" : Str)]) :=
    ok_ex1 (s := ("not a valid relink" : Str)) T.di_InvalidRelink sc_i_InvalidRelink (oexB_ok T.ox_InvalidRelink).1 ((oexB_ok T.ox_InvalidRelink).2 _ (by decide)) rfl rfl fun cdv A outer s0 H E => pss_cons (ps_expr (pe_baseO .V (by rfl) T.mc_RelinkTreeError (ownB_ok T.ob_RelinkTreeError) (pa_cons (pv 0) (pa_cons pe_str pa_nil)) (by decide) (by rfl) (by rfl) (by rfl))) (pss_one (ps_sto (b := .V) (pv 0) (pv 1) (by rfl)))
  exact ⟨(oexB_ok T.ox_InvalidRelink).1, by decide, F.fi_InvalidRelink, F.fdi_InvalidRelink, _, T.ic_InvalidRelink, T.ti_InvalidRelink, G, T.di_InvalidRelink.binds (fun _ _ _ _ _ _ us hl => match us, hl with | [_, _], _ => rfl), rfl⟩
theorem ex_UnknownHost (T : Tx w K mg F) : Exm P w K mg base 1 (cA K "UnknownHost") .L [("host" : Str)] := by
  have G : FnOk P w K mg base CX0 1 F.fi_UnknownHost F.fdi_UnknownHost [("self" : Str), ("host" : Str)] (exSp (cA K "UnknownHost") [("host" : Str)]) :=
    ok_ex1 (s := ("no such host" : Str)) T.di_UnknownHost sc_i_UnknownHost (oexB_ok T.ox_UnknownHost).1 ((oexB_ok T.ox_UnknownHost).2 _ (by decide)) rfl rfl fun cdv A outer s0 H E => pss_cons (ps_expr (pe_baseB .L (by rfl) T.n_LookupError (pa_cons (pv 0) (pa_cons pe_str pa_nil)) (by decide) (by decide) (by rfl) (by rfl) (by rfl))) (pss_one (ps_sto (b := .L) (pv 0) (pv 1) (by rfl)))
  exact ⟨(oexB_ok T.ox_UnknownHost).1, by decide, F.fi_UnknownHost, F.fdi_UnknownHost, _, T.ic_UnknownHost, T.ti_UnknownHost, G, T.di_UnknownHost.binds (fun _ _ _ _ _ _ us hl => match us, hl with | [_, _], _ => rfl), rfl⟩
theorem bd_law_draw_c477 (T : Tx w K mg F) : ∀ us : List Value, us.length = 2 → bindArgs F.fd_law_draw_c477 ⟨us, []⟩ = pure ((["_law_rng_here", "_law_many"] : List Str).zip us) := T.d_law_draw_c477.bind fun _ _ _ _ _ _ us hu => match us, hu with | [_, _], _ => rfl
theorem ok_law_draw_c477 (T : Tx w K mg F) : Gn P w K mg base 1 (cA K "_law_draw") F.fd_law_draw_c477 ["_law_rng_here", "_law_many"] w_law_draw_c477 := by
  refine T.d_law_draw_c477.gn (N := n_law_draw_c477) sc_law_draw_c477 fun cdv A outer s H E C B => ?_
  exact (ass_cons (as_if (at_cmp o_gt sim2 (ae_ix o_ix sim2 (av 0) ae_int) ae_int) (ass_cons (as_asg (vs := [2]) (ae_callB o_divmod simC (by rfl) T.n_divmod bb_divmod (aa_cons (ae_ix o_ix sim2 (av 0) ae_int) (aa_cons (av 1) aa_nil))) (ag_tup B.calm (ags_cons (ag_sub (W := bodyW E) set_list s_set (av 0) ae_int) (ags_cons (agn 2 B.nd) ags_nil))))
    (ass_one (as_ret (av 2)))) ass_nil)
    (ass_cons (as_asg (vs := []) (ae_bin o_mod sim2 (ae_bin (o_add .F) sim2 (ae_bin (o_mul .F) sim2 (ae_ix o_ix sim2 (av 0) ae_int) ae_int) ae_int) ae_int) (ag_sub (W := bodyW E) set_list s_set (av 0) ae_int))
    (ass_one (as_ret (ae_bin o_mod sim2 (ae_bin o_div sim2 (ae_bin o_mod sim2 (ae_bin (o_mul .F) sim2 (ae_ix o_ix sim2 (av 0) ae_int) (ae_ix o_ix sim2 (av 0) ae_int)) ae_int) ae_int) (av 1))))))
theorem bd_law_names_e25f (T : Tx w K mg F) : ∀ us : List Value, us.length = 2 → bindArgs F.fd_law_names_e25f ⟨us, []⟩ = pure ((["_law_rng_here", "_law_many"] : List Str).zip us) := T.d_law_names_e25f.bind fun _ _ _ _ _ _ us hu => match us, hu with | [_, _], _ => rfl
theorem ok_law_names_e25f (T : Tx w K mg F) : Gn P w K mg base 2 (cA K "_law_names") F.fd_law_names_e25f ["_law_rng_here", "_law_many"] w_law_names_e25f := by
  refine T.d_law_names_e25f.gn (N := n_law_names_e25f) sc_law_names_e25f fun cdv A outer s H E C B => ?_
  exact (ass_cons (as_set (i := 2) B.nd rfl (by first | exact Or.inl rfl | exact Or.inr rfl) ae_str)
    (ass_cons (as_set (i := 3) B.nd rfl (by first | exact Or.inl rfl | exact Or.inr rfl) (ae_lst .M aa_nil))
    (ass_cons (as_for (vs := [4]) B.pass B.calm (ai_range1 (by rfl) T.n_range (aa_cons (av 1) aa_nil)) (agn 4 B.nd) (ass_cons (as_set (i := 5) B.nd rfl (by first | exact Or.inl rfl | exact Or.inr rfl) (ae_ix o_ix sim2 (ae_lst .F (aa_cons ae_int (aa_cons ae_int (aa_cons ae_int (aa_cons ae_int aa_nil))))) (ae_call (runs_all (n := 2) B ((ok_law_draw_c477 T).mono (by decide)) rfl (bd_law_draw_c477 T)) (by rfl) T.m_law_draw_c477 T.d_law_draw_c477.kp (aa_cons (av 0) (aa_cons ae_int aa_nil)))))
    (ass_cons (as_set (i := 6) B.nd rfl (by first | exact Or.inl rfl | exact Or.inr rfl) (ae_mt (only_mt m_join) ae_str (aa_cons (ae_lc (m := .F) B.calm B.nd (ai_range1 (by rfl) T.n_range (aa_cons (av 5) aa_nil)) (blkOk_by (own := [(("_law_turn" : Str), 8)]) (N := n_law_names_e25f) (sc := defScope s_law_names_e25f) (by decide +kernel)) (fun _ _ _ _ _ => (agn 8 (B.blk _ _ _ _ _).nd)) (fun _ _ _ _ _ => ats_nil) (fun _ _ _ _ _ => (ae_ix o_ix sim2 (av 2) (ae_call (runs_all (n := 2) (B.blk _ _ _ _ _) ((ok_law_draw_c477 T).mono (by decide)) rfl (bd_law_draw_c477 T)) (by rfl) T.m_law_draw_c477 T.d_law_draw_c477.kp (aa_cons (av 0) (aa_cons ae_int aa_nil)))))) aa_nil)))
    (ass_cons (as_set (i := 7) B.nd rfl (by first | exact Or.inl rfl | exact Or.inr rfl) (ae_call (runs_all (n := 2) B ((ok_law_draw_c477 T).mono (by decide)) rfl (bd_law_draw_c477 T)) (by rfl) T.m_law_draw_c477 T.d_law_draw_c477.kp (aa_cons (av 0) (aa_cons ae_int aa_nil))))
    (ass_cons (as_if (at_cmp (o_eqD B.u64) sim2 (av 7) ae_int) (ass_one (as_set (i := 6) B.nd rfl (by first | exact Or.inl rfl | exact Or.inr rfl) (ae_ix o_ix sim2 (ae_lst .F (aa_cons ae_str (aa_cons ae_str (aa_cons ae_str (aa_cons ae_str (aa_cons ae_str (aa_cons ae_str (aa_cons ae_str (aa_cons ae_str aa_nil))))))))) (ae_call (runs_all (n := 2) B ((ok_law_draw_c477 T).mono (by decide)) rfl (bd_law_draw_c477 T)) (by rfl) T.m_law_draw_c477 T.d_law_draw_c477.kp (aa_cons (av 0) (aa_cons ae_int aa_nil)))))) (ass_one (as_if (at_w (aw_and (at_cmp o_lt sim2 (av 7) ae_int) (aw_and1 (at_cmp (o_neD B.u64) sim2 (av 3) (ae_lst .F aa_nil))))) (ass_one (as_set (i := 6) B.nd rfl (by first | exact Or.inl rfl | exact Or.inr rfl) (ae_slice o_sl (s_sl .F) (ae_bin (o_add .F) sim2 (ae_ix o_ix sim2 (av 3) (ae_un un_neg s_neg ae_int)) (av 6)) ao_none (ao_some ae_int)))) ass_nil)))
    (ass_cons (as_if (at_cmp o_inA sim2 (av 6) (av 3)) (ass_one (as_set (i := 6) B.nd rfl (by first | exact Or.inl rfl | exact Or.inr rfl) (ae_ix o_ix sim2 (ae_lc (m := .F) B.calm B.nd (ai_seq (av 2)) (blkOk_by (own := [(("_law_letter" : Str), 9)]) (N := n_law_names_e25f) (sc := defScope s_law_names_e25f) (by decide +kernel)) (fun _ _ _ _ _ => (agn 9 (B.blk _ _ _ _ _).nd)) (fun _ _ _ _ _ => (ats_one (at_cmp o_notinA sim2 (ae_bin (o_add .F) sim2 (av 9) ae_str) (av 3)))) (fun _ _ _ _ _ => (ae_bin (o_add .F) sim2 (av 9) ae_str))) ae_int))) ass_nil)
    (ass_one (as_expr (ae_mt (only_mt m_append) (av 3) (aa_cons (av 6) aa_nil))))))))))
    (ass_one (as_ret (av 3))))))
theorem bd_law_odd_573c (T : Tx w K mg F) : ∀ us : List Value, us.length = 1 → bindArgs F.fd_law_odd_573c ⟨us, []⟩ = pure ((["_law_rng_here"] : List Str).zip us) := T.d_law_odd_573c.bind fun _ _ _ _ _ _ us hu => match us, hu with | [_], _ => rfl
theorem ok_law_odd_573c (T : Tx w K mg F) : Gn P w K mg base 2 (cA K "_law_odd") F.fd_law_odd_573c ["_law_rng_here"] w_law_odd_573c := by
  refine T.d_law_odd_573c.gn (N := n_law_odd_573c) sc_law_odd_573c fun cdv A outer s H E C B => ?_
  exact (ass_cons (as_set (i := 1) B.nd rfl (by first | exact Or.inl rfl | exact Or.inr rfl) (ae_lst .F (aa_cons ae_non (aa_cons ae_bl (aa_cons ae_bl (aa_cons ae_int (aa_cons ae_int (aa_cons (ae_un un_neg s_neg ae_int) (aa_cons ae_str (aa_cons ae_str (aa_cons ae_str (aa_cons ae_str (aa_cons ae_str (aa_cons ae_str (aa_cons ae_str (aa_cons (ae_lst .F aa_nil) (aa_cons (ae_tup aa_nil) (aa_cons (ae_dct0 .F) aa_nil))))))))))))))))))
    (ass_one (as_ret (ae_ix o_ix sim2 (ae_bin (o_add .F) sim2 (av 1) (ae_lst .F (aa_cons (ae_lst .F (aa_cons ae_str aa_nil)) (aa_cons (ae_tup (aa_cons ae_str aa_nil)) (aa_cons ae_str aa_nil))))) (ae_call (runs_all (n := 2) B ((ok_law_draw_c477 T).mono (by decide)) rfl (bd_law_draw_c477 T)) (by rfl) T.m_law_draw_c477 T.d_law_draw_c477.kp (aa_cons (av 0) (aa_cons ae_int aa_nil)))))))
theorem bd_law_is_name_328b (T : Tx w K mg F) : ∀ us : List Value, us.length = 1 → bindArgs F.fd_law_is_name_328b ⟨us, []⟩ = pure ((["_law_value"] : List Str).zip us) := T.d_law_is_name_328b.bind fun _ _ _ _ _ _ us hu => match us, hu with | [_], _ => rfl
theorem ok_law_is_name_328b (T : Tx w K mg F) : Gn P w K mg base 1 (cA K "_law_is_name") F.fd_law_is_name_328b ["_law_value"] w_law_is_name_328b := by
  refine T.d_law_is_name_328b.gn (N := n_law_is_name_328b) sc_law_is_name_328b fun cdv A outer s H E C B => ?_
  exact (ass_cons (as_if (at_w (aw_or (at_not (at_tru (ae_callB o_isi simC (by rfl) T.n_isinstance bb_isinstance (aa_cons (av 0) (aa_cons (ae_bltn (v := .ty "str") (by rfl) T.n_str bb_str rfl re_ty) aa_nil))))) (aw_or1 (at_not (at_chain o_le sim2 o_le sim2 ae_int (ae_callB o_len simC (by rfl) T.n_len bb_len (aa_cons (av 0) aa_nil)) ae_int))))) (ass_one (as_ret ae_bl)) ass_nil)
    (ass_one (as_ret (ae_callB (o_all B.calm) simC (by rfl) T.n_all bb_all (aa_cons (ae_lc (m := .F) B.calm B.nd (ai_seq (av 0)) (blkOk_by (own := [(("_law_sign" : Str), 1)]) (N := n_law_is_name_328b) (sc := defScope s_law_is_name_328b) (by decide +kernel)) (fun _ _ _ _ _ => (agn 1 (B.blk _ _ _ _ _).nd)) (fun _ _ _ _ _ => ats_nil) (fun _ _ _ _ _ => (ae_chain o_le sim2 o_le sim2 ae_str (av 1) ae_str))) aa_nil)))))
theorem bd_law_is_right (T : Tx w K mg F) : ∀ us : List Value, us.length = 1 → bindArgs F.fd_law_is_right ⟨us, []⟩ = pure ((["_law_value"] : List Str).zip us) := T.d_law_is_right.bind fun _ _ _ _ _ _ us hu => match us, hu with | [_], _ => rfl
theorem ok_law_is_right (T : Tx w K mg F) : Gn P w K mg base 2 (cA K "_law_is_right") F.fd_law_is_right ["_law_value"] w_law_is_right := by
  refine T.d_law_is_right.gn (N := n_law_is_right) sc_law_is_right fun cdv A outer s H E C B => ?_
  exact (ass_cons (as_if (at_w (aw_or (at_not (at_tru (ae_callB o_isi simC (by rfl) T.n_isinstance bb_isinstance (aa_cons (av 0) (aa_cons (ae_bltn (v := .ty "tuple") (by rfl) T.n_tuple bb_tuple rfl re_ty) aa_nil))))) (aw_or (at_cmp (o_neD B.u64) sim2 (ae_callB o_len simC (by rfl) T.n_len bb_len (aa_cons (av 0) aa_nil)) ae_int) (aw_or1 (at_not (at_tru (ae_callB o_isi simC (by rfl) T.n_isinstance bb_isinstance (aa_cons (ae_ix o_ix sim2 (av 0) ae_int) (aa_cons (ae_bltn (v := .ty "tuple") (by rfl) T.n_tuple bb_tuple rfl re_ty) aa_nil))))))))) (ass_one (as_ret ae_bl)) ass_nil)
    (ass_cons (as_asg (vs := [1, 2]) (av 0) (ag_tup B.calm (ags_cons (agn 1 B.nd) (ags_cons (agn 2 B.nd) ags_nil))))
    (ass_cons (as_if (at_w (aw_or (at_cmp o_lt sim2 (ae_callB o_len simC (by rfl) T.n_len bb_len (aa_cons (av 1) aa_nil)) ae_int) (aw_or (at_not (at_tru (ae_callB (o_all B.calm) simC (by rfl) T.n_all bb_all (aa_cons (ae_lc (m := .F) B.calm B.nd (ai_seq (av 1)) (blkOk_by (own := [(("_law_name" : Str), 3)]) (N := n_law_is_right) (sc := defScope s_law_is_right) (by decide +kernel)) (fun _ _ _ _ _ => (agn 3 (B.blk _ _ _ _ _).nd)) (fun _ _ _ _ _ => ats_nil) (fun _ _ _ _ _ => (ae_call (runs_all (n := 1) (B.blk _ _ _ _ _) ((ok_law_is_name_328b T).mono (by decide)) rfl (bd_law_is_name_328b T)) (by rfl) T.m_law_is_name_328b T.d_law_is_name_328b.kp (aa_cons (av 3) aa_nil)))) aa_nil)))) (aw_or1 (at_cmp (o_neD B.u64) sim2 (ae_lenSet B.calm (by rfl) T.n_len (by rfl) T.n_set (av 1)) (ae_callB o_len simC (by rfl) T.n_len bb_len (aa_cons (av 1) aa_nil))))))) (ass_one (as_ret ae_bl)) ass_nil)
    (ass_one (as_ret (ae_and (ae_callB o_isi simC (by rfl) T.n_isinstance bb_isinstance (aa_cons (av 2) (aa_cons (ae_bltn (v := .ty "int") (by rfl) T.n_int bb_int rfl re_ty) aa_nil))) (ae_and (ae_not (ae_callB o_isi simC (by rfl) T.n_isinstance bb_isinstance (aa_cons (av 2) (aa_cons (ae_bltn (v := .ty "bool") (by rfl) T.n_bool bb_bool rfl re_ty) aa_nil)))) (ae_one (ae_chain o_le sim2 o_le sim2 ae_int (av 2) (ae_bin o_sub sim2 (ae_callB o_len simC (by rfl) T.n_len bb_len (aa_cons (av 1) aa_nil)) ae_int))))))))))
theorem bd_is_integer (T : Tx w K mg F) : ∀ us : List Value, us.length = 1 → bindArgs F.fd_is_integer ⟨us, []⟩ = pure ((["value"] : List Str).zip us) := T.d_is_integer.bind fun _ _ _ _ _ _ us hu => match us, hu with | [_], _ => rfl
theorem ok_is_integer (T : Tx w K mg F) : Gn P w K mg base 1 (cA K "is_integer") F.fd_is_integer ["value"] w_is_integer := by
  refine T.d_is_integer.gn (N := n_is_integer) sc_is_integer fun cdv A outer s H E C B => ?_
  exact (ass_one (as_ret (ae_and (ae_callB o_isi simC (by rfl) T.n_isinstance bb_isinstance (aa_cons (av 0) (aa_cons (ae_bltn (v := .ty "int") (by rfl) T.n_int bb_int rfl re_ty) aa_nil))) (ae_one (ae_not (ae_callB o_isi simC (by rfl) T.n_isinstance bb_isinstance (aa_cons (av 0) (aa_cons (ae_bltn (v := .ty "bool") (by rfl) T.n_bool bb_bool rfl re_ty) aa_nil))))))))
theorem bd_is_string_of (T : Tx w K mg F) : ∀ us : List Value, us.length = 3 → bindArgs F.fd_is_string_of ⟨us, []⟩ = pure ((["value", "characters", "longest"] : List Str).zip us) := T.d_is_string_of.bind fun _ _ _ _ _ _ us hu => match us, hu with | [_, _, _], _ => rfl
theorem ok_is_string_of (T : Tx w K mg F) : Gn P w K mg base 1 (cA K "is_string_of") F.fd_is_string_of ["value", "characters", "longest"] w_is_string_of := by
  refine T.d_is_string_of.gn (N := n_is_string_of) sc_is_string_of fun cdv A outer s H E C B => ?_
  exact (ass_cons (as_if (at_w (aw_or (at_not (at_tru (ae_callB o_isi simC (by rfl) T.n_isinstance bb_isinstance (aa_cons (av 0) (aa_cons (ae_bltn (v := .ty "str") (by rfl) T.n_str bb_str rfl re_ty) aa_nil))))) (aw_or1 (at_not (at_chain o_le sim2 o_le sim2 ae_int (ae_callB o_len simC (by rfl) T.n_len bb_len (aa_cons (av 0) aa_nil)) (av 2)))))) (ass_one (as_ret ae_bl)) ass_nil)
    (ass_one (as_ret (ae_callB (o_all B.calm) simC (by rfl) T.n_all bb_all (aa_cons (ae_lc (m := .F) B.calm B.nd (ai_seq (av 0)) (blkOk_by (own := [(("character" : Str), 3)]) (N := n_is_string_of) (sc := defScope s_is_string_of) (by decide +kernel)) (fun _ _ _ _ _ => (agn 3 (B.blk _ _ _ _ _).nd)) (fun _ _ _ _ _ => ats_nil) (fun _ _ _ _ _ => (ae_cmp o_inA sim2 (av 3) (av 1)))) aa_nil)))))
theorem bd_is_host_name (T : Tx w K mg F) : ∀ us : List Value, us.length = 1 → bindArgs F.fd_is_host_name ⟨us, []⟩ = pure ((["value"] : List Str).zip us) := T.d_is_host_name.bind fun _ _ _ _ _ _ us hu => match us, hu with | [_], _ => rfl
theorem ok_is_host_name (T : Tx w K mg F) : Gn P w K mg base 2 (cA K "is_host_name") F.fd_is_host_name ["value"] w_is_host_name := by
  obtain ⟨t_LETTERS, h_LETTERS⟩ := T.e_LETTERS
  obtain ⟨t_LONGEST_NAME, h_LONGEST_NAME⟩ := T.e_LONGEST_NAME
  refine T.d_is_host_name.gn (N := n_is_host_name) sc_is_host_name fun cdv A outer s H E C B => ?_
  exact (ass_one (as_ret (ae_call (runs_all (n := 3) B ((ok_is_string_of T).mono (by decide)) rfl (bd_is_string_of T)) (by rfl) T.m_is_string_of T.d_is_string_of.kp (aa_cons (av 0) (aa_cons (ae_glob (v := .str "abcdefghijklmnopqrstuvwxyz") (by rfl) h_LETTERS ⟨_, rfl⟩ (re_str (okS_of (by decide +kernel)))) (aa_cons (ae_glob (v := .int 8) (by rfl) h_LONGEST_NAME ⟨_, rfl⟩ re_int) aa_nil))))))
theorem bd_is_relink (T : Tx w K mg F) : ∀ us : List Value, us.length = 1 → bindArgs F.fd_is_relink ⟨us, []⟩ = pure ((["value"] : List Str).zip us) := T.d_is_relink.bind fun _ _ _ _ _ _ us hu => match us, hu with | [_], _ => rfl
theorem ok_is_relink (T : Tx w K mg F) : Gn P w K mg base 3 (cA K "is_relink") F.fd_is_relink ["value"] w_is_relink := by
  obtain ⟨t_SHORTEST_PATH, h_SHORTEST_PATH⟩ := T.e_SHORTEST_PATH
  refine T.d_is_relink.gn (N := n_is_relink) sc_is_relink fun cdv A outer s H E C B => ?_
  exact (ass_cons (as_if (at_w (aw_or (at_not (at_tru (ae_callB o_isi simC (by rfl) T.n_isinstance bb_isinstance (aa_cons (av 0) (aa_cons (ae_bltn (v := .ty "tuple") (by rfl) T.n_tuple bb_tuple rfl re_ty) aa_nil))))) (aw_or1 (at_cmp (o_neD B.u64) sim2 (ae_callB o_len simC (by rfl) T.n_len bb_len (aa_cons (av 0) aa_nil)) ae_int)))) (ass_one (as_ret ae_bl)) ass_nil)
    (ass_cons (as_asg (vs := [1, 2]) (av 0) (ag_tup B.calm (ags_cons (agn 1 B.nd) (ags_cons (agn 2 B.nd) ags_nil))))
    (ass_cons (as_if (at_w (aw_or (at_not (at_tru (ae_callB o_isi simC (by rfl) T.n_isinstance bb_isinstance (aa_cons (av 1) (aa_cons (ae_bltn (v := .ty "tuple") (by rfl) T.n_tuple bb_tuple rfl re_ty) aa_nil))))) (aw_or (at_cmp o_lt sim2 (ae_callB o_len simC (by rfl) T.n_len bb_len (aa_cons (av 1) aa_nil)) (ae_glob (v := .int 3) (by rfl) h_SHORTEST_PATH ⟨_, rfl⟩ re_int)) (aw_or1 (at_not (at_tru (ae_callB (o_all B.calm) simC (by rfl) T.n_all bb_all (aa_cons (ae_lc (m := .F) B.calm B.nd (ai_seq (av 1)) (blkOk_by (own := [(("host" : Str), 3)]) (N := n_is_relink) (sc := defScope s_is_relink) (by decide +kernel)) (fun _ _ _ _ _ => (agn 3 (B.blk _ _ _ _ _).nd)) (fun _ _ _ _ _ => ats_nil) (fun _ _ _ _ _ => (ae_call (runs_all (n := 1) (B.blk _ _ _ _ _) ((ok_is_host_name T).mono (by decide)) rfl (bd_is_host_name T)) (by rfl) T.m_is_host_name T.d_is_host_name.kp (aa_cons (av 3) aa_nil)))) aa_nil)))))))) (ass_one (as_ret ae_bl)) ass_nil)
    (ass_one (as_ret (ae_and (ae_cmp (o_eqD B.u64) sim2 (ae_lenSet B.calm (by rfl) T.n_len (by rfl) T.n_set (av 1)) (ae_callB o_len simC (by rfl) T.n_len bb_len (aa_cons (av 1) aa_nil))) (ae_and (ae_call (runs_all (n := 1) B ((ok_is_integer T).mono (by decide)) rfl (bd_is_integer T)) (by rfl) T.m_is_integer T.d_is_integer.kp (aa_cons (av 2) aa_nil)) (ae_one (ae_chain o_le sim2 o_le sim2 ae_int (av 2) (ae_bin o_sub sim2 (ae_callB o_len simC (by rfl) T.n_len bb_len (aa_cons (av 1) aa_nil)) ae_int))))))))))
theorem bd_require_relink (T : Tx w K mg F) : ∀ us : List Value, us.length = 1 → bindArgs F.fd_require_relink ⟨us, []⟩ = pure ((["relink"] : List Str).zip us) := T.d_require_relink.bind fun _ _ _ _ _ _ us hu => match us, hu with | [_], _ => rfl
theorem ok_require_relink (T : Tx w K mg F) : Gn P w K mg base 4 (cA K "require_relink") F.fd_require_relink ["relink"] w_require_relink := by
  refine T.d_require_relink.gn (N := n_require_relink) sc_require_relink fun cdv A outer s H E C B => ?_
  exact (ass_one (as_if (at_not (at_tru (ae_call (runs_all (n := 1) B ((ok_is_relink T).mono (by decide)) rfl (bd_is_relink T)) (by rfl) T.m_is_relink T.d_is_relink.kp (aa_cons (av 0) aa_nil)))) (ass_one (as_raise (C := "InvalidRelink") B (ex_InvalidRelink T) (by decide) T.cv_InvalidRelink (by rfl) T.mc_InvalidRelink (aa_cons (av 0) aa_nil))) ass_nil))
theorem bd_ordered_link (T : Tx w K mg F) : ∀ us : List Value, us.length = 2 → bindArgs F.fd_ordered_link ⟨us, []⟩ = pure ((["one", "other"] : List Str).zip us) := T.d_ordered_link.bind fun _ _ _ _ _ _ us hu => match us, hu with | [_, _], _ => rfl
theorem ok_ordered_link (T : Tx w K mg F) : Gn P w K mg base 1 (cA K "ordered_link") F.fd_ordered_link ["one", "other"] w_ordered_link := by
  refine T.d_ordered_link.gn (N := n_ordered_link) sc_ordered_link fun cdv A outer s H E C B => ?_
  exact (ass_one (as_ret (ae_tup (aa_cons (ae_callB (o_minV B.calm) simC (by rfl) T.n_min bb_min (aa_cons (av 0) (aa_cons (av 1) aa_nil))) (aa_cons (ae_callB (o_maxV B.calm) simC (by rfl) T.n_max bb_max (aa_cons (av 0) (aa_cons (av 1) aa_nil))) aa_nil)))))
theorem bd_added_link (T : Tx w K mg F) : ∀ us : List Value, us.length = 1 → bindArgs F.fd_added_link ⟨us, []⟩ = pure ((["relink"] : List Str).zip us) := T.d_added_link.bind fun _ _ _ _ _ _ us hu => match us, hu with | [_], _ => rfl
theorem ok_added_link (T : Tx w K mg F) : Gn P w K mg base 5 (cA K "added_link") F.fd_added_link ["relink"] w_added_link := by
  refine T.d_added_link.gn (N := n_added_link) sc_added_link fun cdv A outer s H E C B => ?_
  exact (ass_cons (as_expr (ae_call (runs_all (n := 1) B ((ok_require_relink T).mono (by decide)) rfl (bd_require_relink T)) (by rfl) T.m_require_relink T.d_require_relink.kp (aa_cons (av 0) aa_nil)))
    (ass_cons (as_asg (vs := [1, 2]) (av 0) (ag_tup B.calm (ags_cons (agn 1 B.nd) (ags_cons (agn 2 B.nd) ags_nil))))
    (ass_one (as_ret (ae_call (runs_all (n := 2) B ((ok_ordered_link T).mono (by decide)) rfl (bd_ordered_link T)) (by rfl) T.m_ordered_link T.d_ordered_link.kp (aa_cons (ae_ix o_ix sim2 (av 1) ae_int) (aa_cons (ae_ix o_ix sim2 (av 1) (ae_un un_neg s_neg ae_int)) aa_nil)))))))
theorem bd_removed_link (T : Tx w K mg F) : ∀ us : List Value, us.length = 1 → bindArgs F.fd_removed_link ⟨us, []⟩ = pure ((["relink"] : List Str).zip us) := T.d_removed_link.bind fun _ _ _ _ _ _ us hu => match us, hu with | [_], _ => rfl
theorem ok_removed_link (T : Tx w K mg F) : Gn P w K mg base 5 (cA K "removed_link") F.fd_removed_link ["relink"] w_removed_link := by
  refine T.d_removed_link.gn (N := n_removed_link) sc_removed_link fun cdv A outer s H E C B => ?_
  exact (ass_cons (as_expr (ae_call (runs_all (n := 1) B ((ok_require_relink T).mono (by decide)) rfl (bd_require_relink T)) (by rfl) T.m_require_relink T.d_require_relink.kp (aa_cons (av 0) aa_nil)))
    (ass_cons (as_asg (vs := [1, 2]) (av 0) (ag_tup B.calm (ags_cons (agn 1 B.nd) (ags_cons (agn 2 B.nd) ags_nil))))
    (ass_one (as_ret (ae_call (runs_all (n := 2) B ((ok_ordered_link T).mono (by decide)) rfl (bd_ordered_link T)) (by rfl) T.m_ordered_link T.d_ordered_link.kp (aa_cons (ae_ix o_ix sim2 (av 1) (av 2)) (aa_cons (ae_ix o_ix sim2 (av 1) (ae_bin (o_add .F) sim2 (av 2) ae_int)) aa_nil)))))))
theorem bd_position (T : Tx w K mg F) : ∀ us : List Value, us.length = 2 → bindArgs F.fd_position ⟨us, []⟩ = pure ((["relink", "host"] : List Str).zip us) := T.d_position.bind fun _ _ _ _ _ _ us hu => match us, hu with | [_, _], _ => rfl
theorem ok_position (T : Tx w K mg F) : Gn P w K mg base 5 (cA K "position") F.fd_position ["relink", "host"] w_position := by
  refine T.d_position.gn (N := n_position) sc_position fun cdv A outer s H E C B => ?_
  exact (ass_cons (as_expr (ae_call (runs_all (n := 1) B ((ok_require_relink T).mono (by decide)) rfl (bd_require_relink T)) (by rfl) T.m_require_relink T.d_require_relink.kp (aa_cons (av 0) aa_nil)))
    (ass_cons (as_asg (vs := [2, 3]) (av 0) (ag_tup B.calm (ags_cons (agn 2 B.nd) (ags_cons (agn 3 B.nd) ags_nil))))
    (ass_cons (as_if (at_w (aw_or (at_not (at_tru (ae_call (runs_all (n := 1) B ((ok_is_host_name T).mono (by decide)) rfl (bd_is_host_name T)) (by rfl) T.m_is_host_name T.d_is_host_name.kp (aa_cons (av 1) aa_nil)))) (aw_or1 (at_cmp o_notinA sim2 (av 1) (av 2))))) (ass_one (as_raise (C := "UnknownHost") B (ex_UnknownHost T) (by decide) T.cv_UnknownHost (by rfl) T.mc_UnknownHost (aa_cons (av 1) aa_nil))) ass_nil)
    (ass_one (as_ret (ae_mt (only_mt m_tindex) (av 2) (aa_cons (av 1) aa_nil)))))))
theorem bd_is_near (T : Tx w K mg F) : ∀ us : List Value, us.length = 2 → bindArgs F.fd_is_near ⟨us, []⟩ = pure ((["relink", "host"] : List Str).zip us) := T.d_is_near.bind fun _ _ _ _ _ _ us hu => match us, hu with | [_, _], _ => rfl
theorem ok_is_near (T : Tx w K mg F) : Gn P w K mg base 6 (cA K "is_near") F.fd_is_near ["relink", "host"] w_is_near := by
  refine T.d_is_near.gn (N := n_is_near) sc_is_near fun cdv A outer s H E C B => ?_
  exact (ass_one (as_ret (ae_cmp o_le sim2 (ae_call (runs_all (n := 2) B ((ok_position T).mono (by decide)) rfl (bd_position T)) (by rfl) T.m_position T.d_position.kp (aa_cons (av 0) (aa_cons (av 1) aa_nil))) (ae_ix o_ix sim2 (av 0) ae_int))))
theorem bd_are_independent (T : Tx w K mg F) : ∀ us : List Value, us.length = 2 → bindArgs F.fd_are_independent ⟨us, []⟩ = pure ((["one", "other"] : List Str).zip us) := T.d_are_independent.bind fun _ _ _ _ _ _ us hu => match us, hu with | [_, _], _ => rfl
theorem ok_are_independent (T : Tx w K mg F) : Gn P w K mg base 5 (cA K "are_independent") F.fd_are_independent ["one", "other"] w_are_independent := by
  refine T.d_are_independent.gn (N := n_are_independent) sc_are_independent fun cdv A outer s H E C B => ?_
  exact (ass_cons (as_expr (ae_call (runs_all (n := 1) B ((ok_require_relink T).mono (by decide)) rfl (bd_require_relink T)) (by rfl) T.m_require_relink T.d_require_relink.kp (aa_cons (av 0) aa_nil)))
    (ass_cons (as_expr (ae_call (runs_all (n := 1) B ((ok_require_relink T).mono (by decide)) rfl (bd_require_relink T)) (by rfl) T.m_require_relink T.d_require_relink.kp (aa_cons (av 1) aa_nil)))
    (ass_one (as_ret (ae_not (ae_callB (o_any B.calm) simC (by rfl) T.n_any bb_any (aa_cons (ae_lc (m := .F) B.calm B.nd (ai_seq (ae_ix o_ix sim2 (av 0) ae_int)) (blkOk_by (own := [(("host" : Str), 2)]) (N := n_are_independent) (sc := defScope s_are_independent) (by decide +kernel)) (fun _ _ _ _ _ => (agn 2 (B.blk _ _ _ _ _).nd)) (fun _ _ _ _ _ => ats_nil) (fun _ _ _ _ _ => (ae_cmp o_inA sim2 (av 2) (ae_ix o_ix sim2 (av 1) ae_int)))) aa_nil)))))))
theorem bd_law_call (T : Tx w K mg F) : ∀ us : List Value, us.length = 3 → bindArgs F.fd_law_call ⟨us, []⟩ = pure ((["_law_kind", "_law_value", "_law_name"] : List Str).zip us) := T.d_law_call.bind fun _ _ _ _ _ _ us hu => match us, hu with | [_, _, _], _ => rfl
theorem ok_law_call (T : Tx w K mg F) : Gn P w K mg base 7 (cA K "_law_call") F.fd_law_call ["_law_kind", "_law_value", "_law_name"] w_law_call := by
  refine T.d_law_call.gn (N := n_law_call) sc_law_call fun cdv A outer s H E C B => ?_
  exact (ass_cons (as_if (at_cmp (o_eqD B.u64) sim2 (av 0) ae_int) (ass_one (as_ret (ae_call (runs_all (n := 1) B ((ok_added_link T).mono (by decide)) rfl (bd_added_link T)) (by rfl) T.m_added_link T.d_added_link.kp (aa_cons (av 1) aa_nil)))) ass_nil)
    (ass_cons (as_if (at_cmp (o_eqD B.u64) sim2 (av 0) ae_int) (ass_one (as_ret (ae_call (runs_all (n := 1) B ((ok_removed_link T).mono (by decide)) rfl (bd_removed_link T)) (by rfl) T.m_removed_link T.d_removed_link.kp (aa_cons (av 1) aa_nil)))) ass_nil)
    (ass_cons (as_if (at_cmp (o_eqD B.u64) sim2 (av 0) ae_int) (ass_one (as_ret (ae_call (runs_all (n := 2) B ((ok_position T).mono (by decide)) rfl (bd_position T)) (by rfl) T.m_position T.d_position.kp (aa_cons (av 1) (aa_cons (av 2) aa_nil))))) ass_nil)
    (ass_one (as_ret (ae_if (at_cmp (o_eqD B.u64) sim2 (av 0) ae_int) (ae_call (runs_all (n := 2) B ((ok_is_near T).mono (by decide)) rfl (bd_is_near T)) (by rfl) T.m_is_near T.d_is_near.kp (aa_cons (av 1) (aa_cons (av 2) aa_nil))) (ae_call (runs_all (n := 2) B ((ok_are_independent T).mono (by decide)) rfl (bd_are_independent T)) (by rfl) T.m_are_independent T.d_are_independent.kp (aa_cons (av 1) (aa_cons (av 2) aa_nil)))))))))
theorem bd_law_told (T : Tx w K mg F) : ∀ us : List Value, us.length = 3 → bindArgs F.fd_law_told ⟨us, []⟩ = pure ((["_law_kind", "_law_value", "_law_name"] : List Str).zip us) := T.d_law_told.bind fun _ _ _ _ _ _ us hu => match us, hu with | [_, _, _], _ => rfl
theorem ok_law_told (T : Tx w K mg F) : Gn P w K mg base 8 (cA K "_law_told") F.fd_law_told ["_law_kind", "_law_value", "_law_name"] w_law_told := by
  refine T.d_law_told.gn (N := n_law_told) sc_law_told fun cdv A outer s H E C B => ?_
  exact (ass_cons (as_set (i := 3) B.nd rfl (by first | exact Or.inl rfl | exact Or.inr rfl) (ae_tup (aa_cons ae_str (aa_cons ae_str aa_nil))))
    (ass_cons (as_try B T.xfx rfl rfl (fun W' pn xe B' => (ass_one (as_set (i := 3) B'.nd rfl (by first | exact Or.inl rfl | exact Or.inr rfl) (ae_tup (aa_cons ae_str (aa_cons (ae_callB (o_reprD B'.gd B'.u64) simC (by rfl) T.n_repr bb_repr (aa_cons (ae_call (runs_all (n := 3) B' ((ok_law_call T).mono (by decide)) rfl (bd_law_call T)) (by rfl) T.m_law_call T.d_law_call.kp (aa_cons (av 0) (aa_cons (av 1) (aa_cons (av 2) aa_nil)))) aa_nil)) aa_nil)))))) (.named (D := "InvalidRelink") (i := 4) (ws := b_law_told_h1) (by decide) ⟨by rfl, by decide, .inl (T.mc_InvalidRelink.trans (congrArg some T.cv_InvalidRelink.symm))⟩ rfl rfl (fun a oe c C d pn hC nk hz hf Bs => (ass_one (as_set (i := 3) Bs.nd rfl (by first | exact Or.inl rfl | exact Or.inr rfl) (ae_if (at_w (aw_and (at_tru (ae_xi1 (i := 4) T.xfx hC nk hz hf (D := "RelinkTreeError") (by decide) (by rfl) T.n_isinstance (cv := .ref (cA _ "RelinkTreeError")) (pe_glob (v := .ref (cA _ "RelinkTreeError")) (by rfl) T.mc_RelinkTreeError rfl) (fun u h => (show u = _ from h).trans T.cv_RelinkTreeError.symm) rfl (Or.inl rfl) rfl rfl rfl)) (aw_and1 (at_tru (ae_xi1 (i := 4) T.xfx hC nk hz hf (D := "ValueError") (by decide) (by rfl) T.n_isinstance (cv := .ty "ValueError") (pe_bltn (v := .ty "ValueError") (by rfl) T.n_ValueError (by decide +kernel) rfl) (fun u h => (show u = _ from h).trans T.bv_ValueError.symm) rfl (Or.inl rfl) rfl rfl rfl))))) (ae_tup (aa_cons ae_str (aa_cons (ae_callB (o_reprD Bs.gd Bs.u64) simC (by rfl) T.n_repr bb_repr (aa_cons (ae_xf (i := 4) T.xfx hC nk hz hf (by decide) rfl (Or.inl rfl)) aa_nil)) aa_nil))) (av 3))))) (.named (D := "UnknownHost") (i := 4) (ws := b_law_told_h2) (by decide) ⟨by rfl, by decide, .inl (T.mc_UnknownHost.trans (congrArg some T.cv_UnknownHost.symm))⟩ rfl rfl (fun a oe c C d pn hC nk hz hf Bs => (ass_cons (as_set (i := 5) Bs.nd rfl (by first | exact Or.inl rfl | exact Or.inr rfl) (ae_and (ae_xi1 (i := 4) T.xfx hC nk hz hf (D := "LookupError") (by decide) (by rfl) T.n_isinstance (cv := .ty "LookupError") (pe_bltn (v := .ty "LookupError") (by rfl) T.n_LookupError (by decide +kernel) rfl) (fun u h => (show u = _ from h).trans T.bv_LookupError.symm) rfl (Or.inl rfl) rfl rfl rfl) (ae_one (ae_not (ae_xi1 (i := 4) T.xfx hC nk hz hf (D := "RelinkTreeError") (by decide) (by rfl) T.n_isinstance (cv := .ref (cA _ "RelinkTreeError")) (pe_glob (v := .ref (cA _ "RelinkTreeError")) (by rfl) T.mc_RelinkTreeError rfl) (fun u h => (show u = _ from h).trans T.cv_RelinkTreeError.symm) rfl (Or.inl rfl) rfl rfl rfl)))))
    (ass_one (as_set (i := 3) Bs.nd rfl (by first | exact Or.inl rfl | exact Or.inr rfl) (ae_if (at_tru (av 5)) (ae_tup (aa_cons ae_str (aa_cons (ae_callB (o_reprD Bs.gd Bs.u64) simC (by rfl) T.n_repr bb_repr (aa_cons (ae_xf (i := 4) T.xfx hC nk hz hf (by decide) rfl (Or.inl rfl)) aa_nil)) aa_nil))) (av 3)))))) .nil)))
    (ass_one (as_ret (av 3)))))
theorem bd_law_links_right (T : Tx w K mg F) : ∀ us : List Value, us.length = 3 → bindArgs F.fd_law_links_right ⟨us, []⟩ = pure ((["_law_value", "_law_names_here", "_law_second"] : List Str).zip us) := T.d_law_links_right.bind fun _ _ _ _ _ _ us hu => match us, hu with | [_, _, _], _ => rfl
theorem ok_law_links_right (T : Tx w K mg F) : Gn P w K mg base 9 (cA K "_law_links_right") F.fd_law_links_right ["_law_value", "_law_names_here", "_law_second"] w_law_links_right := by
  refine T.d_law_links_right.gn (N := n_law_links_right) sc_law_links_right fun cdv A outer s H E C B => ?_
  exact (ass_cons (as_asg (vs := [3, 4]) (av 0) (ag_tup B.calm (ags_cons (agn 3 B.nd) (ags_cons (agn 4 B.nd) ags_nil))))
    (ass_cons (as_set (i := 5) B.nd rfl (by first | exact Or.inl rfl | exact Or.inr rfl) (ae_lst .F (aa_cons (ae_callTy o_tuple simC (by rfl) T.n_tuple bb_tuple (aa_cons (ae_callB (o_sorted .F B.calm B.u64) simC (by rfl) T.n_sorted bb_sorted (aa_cons (ae_lst .F (aa_cons (ae_ix o_ix sim2 (av 3) ae_int) (aa_cons (ae_ix o_ix sim2 (av 3) (ae_un un_neg s_neg ae_int)) aa_nil))) aa_nil)) aa_nil)) (aa_cons (ae_callTy o_tuple simC (by rfl) T.n_tuple bb_tuple (aa_cons (ae_callB (o_sorted .F B.calm B.u64) simC (by rfl) T.n_sorted bb_sorted (aa_cons (ae_lst .F (aa_cons (ae_ix o_ix sim2 (av 3) (av 4)) (aa_cons (ae_ix o_ix sim2 (av 3) (ae_bin (o_add .F) sim2 (av 4) ae_int)) aa_nil))) aa_nil)) aa_nil)) aa_nil))))
    (ass_cons (as_if (at_cmp (o_neD B.u64) sim2 (ae_lc (m := .F) B.calm B.nd (ai_range1 (by rfl) T.n_range (aa_cons ae_int aa_nil)) (blkOk_by (own := [(("_law_kind" : Str), 10)]) (N := n_law_links_right) (sc := defScope s_law_links_right) (by decide +kernel)) (fun _ _ _ _ _ => (agn 10 (B.blk _ _ _ _ _).nd)) (fun _ _ _ _ _ => ats_nil) (fun _ _ _ _ _ => (ae_call (runs_all (n := 3) (B.blk _ _ _ _ _) ((ok_law_told T).mono (by decide)) rfl (bd_law_told T)) (by rfl) T.m_law_told T.d_law_told.kp (aa_cons (av 10) (aa_cons (av 0) (aa_cons ae_non aa_nil)))))) (ae_lc (m := .F) B.calm B.nd (ai_seq (av 5)) (blkOk_by (own := [(("_law_link" : Str), 11)]) (N := n_law_links_right) (sc := defScope s_law_links_right) (by decide +kernel)) (fun _ _ _ _ _ => (agn 11 (B.blk _ _ _ _ _).nd)) (fun _ _ _ _ _ => ats_nil) (fun _ _ _ _ _ => (ae_tup (aa_cons ae_str (aa_cons (ae_callB (o_reprD (B.blk _ _ _ _ _).gd (B.blk _ _ _ _ _).u64) simC (by rfl) T.n_repr bb_repr (aa_cons (av 11) aa_nil)) aa_nil)))))) (ass_one (as_ret ae_bl)) ass_nil)
    (ass_cons (as_for (vs := [6]) B.pass B.calm (ai_seq (av 1)) (agn 6 B.nd) (ass_cons (as_set (i := 7) B.nd rfl (by first | exact Or.inl rfl | exact Or.inr rfl) (ae_lst .F (aa_cons (ae_call (runs_all (n := 3) B ((ok_law_told T).mono (by decide)) rfl (bd_law_told T)) (by rfl) T.m_law_told T.d_law_told.kp (aa_cons ae_int (aa_cons (av 0) (aa_cons (av 6) aa_nil)))) (aa_cons (ae_call (runs_all (n := 3) B ((ok_law_told T).mono (by decide)) rfl (bd_law_told T)) (by rfl) T.m_law_told T.d_law_told.kp (aa_cons ae_int (aa_cons (av 0) (aa_cons (av 6) aa_nil)))) aa_nil))))
    (ass_cons (as_set (i := 8) B.nd rfl (by first | exact Or.inl rfl | exact Or.inr rfl) (ae_bin (o_mul .F) sim2 (ae_lst .M (aa_cons (ae_tup (aa_cons ae_str (aa_cons (ae_callB (o_reprD B.gd B.u64) simC (by rfl) T.n_repr bb_repr (aa_cons (av 6) aa_nil)) aa_nil))) aa_nil)) ae_int))
    (ass_cons (as_if (at_cmp o_inA sim2 (av 6) (av 3)) (ass_one (as_set (i := 8) B.nd rfl (by first | exact Or.inl rfl | exact Or.inr rfl) (ae_lst .F (aa_cons (ae_tup (aa_cons ae_str (aa_cons (ae_callB (o_reprD B.gd B.u64) simC (by rfl) T.n_repr bb_repr (aa_cons (ae_mt (only_mt m_tindex) (av 3) (aa_cons (av 6) aa_nil)) aa_nil)) aa_nil))) (aa_cons (ae_tup (aa_cons ae_str (aa_cons (ae_callB (o_reprD B.gd B.u64) simC (by rfl) T.n_repr bb_repr (aa_cons (ae_cmp o_le sim2 (ae_mt (only_mt m_tindex) (av 3) (aa_cons (av 6) aa_nil)) (av 4)) aa_nil)) aa_nil))) aa_nil))))) ass_nil)
    (ass_one (as_if (at_cmp (o_neD B.u64) sim2 (av 7) (av 8)) (ass_one (as_ret ae_bl)) ass_nil))))))
    (ass_cons (as_set (i := 9) B.nd rfl (by first | exact Or.inl rfl | exact Or.inr rfl) (ae_callB (o_all B.calm) simC (by rfl) T.n_all bb_all (aa_cons (ae_lc (m := .F) B.calm B.nd (ai_seq (av 3)) (blkOk_by (own := [(("_law_name" : Str), 6)]) (N := n_law_links_right) (sc := defScope s_law_links_right) (by decide +kernel)) (fun _ _ _ _ _ => (agn 6 (B.blk _ _ _ _ _).nd)) (fun _ _ _ _ _ => ats_nil) (fun _ _ _ _ _ => (ae_cmp o_notinA sim2 (av 6) (ae_ix o_ix sim2 (av 2) ae_int)))) aa_nil)))
    (ass_one (as_ret (ae_cmp (o_eqD B.u64) sim2 (ae_lst .F (aa_cons (ae_call (runs_all (n := 3) B ((ok_law_told T).mono (by decide)) rfl (bd_law_told T)) (by rfl) T.m_law_told T.d_law_told.kp (aa_cons ae_int (aa_cons (av 0) (aa_cons (av 2) aa_nil)))) (aa_cons (ae_call (runs_all (n := 3) B ((ok_law_told T).mono (by decide)) rfl (bd_law_told T)) (by rfl) T.m_law_told T.d_law_told.kp (aa_cons ae_int (aa_cons (av 2) (aa_cons (av 0) aa_nil)))) aa_nil))) (ae_bin (o_mul .F) sim2 (ae_lst .M (aa_cons (ae_tup (aa_cons ae_str (aa_cons (ae_callB (o_reprD B.gd B.u64) simC (by rfl) T.n_repr bb_repr (aa_cons (av 9) aa_nil)) aa_nil))) aa_nil)) ae_int)))))))))
theorem bd_law_value_right (T : Tx w K mg F) : ∀ us : List Value, us.length = 4 → bindArgs F.fd_law_value_right ⟨us, []⟩ = pure ((["_law_rng_here", "_law_value", "_law_names_here", "_law_second"] : List Str).zip us) := T.d_law_value_right.bind fun _ _ _ _ _ _ us hu => match us, hu with | [_, _, _, _], _ => rfl
theorem ok_law_value_right (T : Tx w K mg F) : Gn P w K mg base 10 (cA K "_law_value_right") F.fd_law_value_right ["_law_rng_here", "_law_value", "_law_names_here", "_law_second"] w_law_value_right := by
  refine T.d_law_value_right.gn (N := n_law_value_right) sc_law_value_right fun cdv A outer s H E C B => ?_
  exact (ass_cons (as_par (i := 4) (j := 5) B.calm B.nd rfl rfl (by decide) rfl rfl (aa_cons (ae_callB (o_reprD B.gd B.u64) simC (by rfl) T.n_repr bb_repr (aa_cons (av 1) aa_nil)) (aa_cons (ae_call (runs_all (n := 1) B ((ok_law_is_right T).mono (by decide)) rfl (bd_law_is_right T)) (by rfl) T.m_law_is_right T.d_law_is_right.kp (aa_cons (av 1) aa_nil)) aa_nil)) (fun h => ps_par B.calm B.nd rfl rfl (by decide) rfl rfl h (by first | rfl | kernel_rfl)))
    (ass_cons (as_if (at_cmp (o_neD B.u64) sim2 (ae_callB (o_reprD B.gd B.u64) simC (by rfl) T.n_repr bb_repr (aa_cons (ae_lst .F (aa_cons (ae_call (runs_all (n := 1) B ((ok_is_relink T).mono (by decide)) rfl (bd_is_relink T)) (by rfl) T.m_is_relink T.d_is_relink.kp (aa_cons (av 1) aa_nil)) (aa_cons (ae_call (runs_all (n := 1) B ((ok_is_relink T).mono (by decide)) rfl (bd_is_relink T)) (by rfl) T.m_is_relink T.d_is_relink.kp (aa_cons (av 1) aa_nil)) aa_nil))) aa_nil)) (ae_callB (o_reprD B.gd B.u64) simC (by rfl) T.n_repr bb_repr (aa_cons (ae_lst .F (aa_cons (av 5) (aa_cons (av 5) aa_nil))) aa_nil))) (ass_one (as_ret ae_bl)) ass_nil)
    (ass_cons (as_set (i := 6) B.nd rfl (by first | exact Or.inl rfl | exact Or.inr rfl) (ae_call (runs_all (n := 1) B ((ok_law_odd_573c T).mono (by decide)) rfl (bd_law_odd_573c T)) (by rfl) T.m_law_odd_573c T.d_law_odd_573c.kp (aa_cons (av 0) aa_nil)))
    (ass_cons (as_if (at_w (aw_and (at_tru (av 5)) (aw_and1 (at_not (at_tru (ae_call (runs_all (n := 3) B ((ok_law_links_right T).mono (by decide)) rfl (bd_law_links_right T)) (by rfl) T.m_law_links_right T.d_law_links_right.kp (aa_cons (av 1) (aa_cons (av 2) (aa_cons (av 3) aa_nil))))))))) (ass_one (as_ret ae_bl)) ass_nil)
    (ass_cons (as_if (at_w (aw_and (at_tru (av 5)) (aw_and1 (at_cmp (o_notinD B.u64) sim2 (av 6) (ae_ix o_ix sim2 (av 1) ae_int))))) (ass_one (as_if (at_cmp (o_neD B.u64) sim2 (ae_lc (m := .F) B.calm B.nd (ai_seq (ae_tup (aa_cons ae_int (aa_cons ae_int aa_nil)))) (blkOk_by (own := [(("_law_kind" : Str), 8)]) (N := n_law_value_right) (sc := defScope s_law_value_right) (by decide +kernel)) (fun _ _ _ _ _ => (agn 8 (B.blk _ _ _ _ _).nd)) (fun _ _ _ _ _ => ats_nil) (fun _ _ _ _ _ => (ae_call (runs_all (n := 3) (B.blk _ _ _ _ _) ((ok_law_told T).mono (by decide)) rfl (bd_law_told T)) (by rfl) T.m_law_told T.d_law_told.kp (aa_cons (av 8) (aa_cons (av 1) (aa_cons (av 6) aa_nil)))))) (ae_bin (o_mul .F) sim2 (ae_lst .M (aa_cons (ae_tup (aa_cons ae_str (aa_cons (ae_callB (o_reprD B.gd B.u64) simC (by rfl) T.n_repr bb_repr (aa_cons (av 6) aa_nil)) aa_nil))) aa_nil)) ae_int)) (ass_one (as_ret ae_bl)) ass_nil)) ass_nil)
    (ass_cons (as_setLc (m := .F) (i := 7) B.calm B.nd rfl rfl (sw_true rfl rfl rfl (by decide +kernel)) (ai_range1 (by rfl) T.n_range (aa_cons ae_int aa_nil)) (blkOk_by (own := [(("_law_kind" : Str), 8)]) (N := n_law_value_right) (sc := defScope s_law_value_right) (by decide +kernel)) (fun _ _ _ _ _ => (agn 8 (B.blk _ _ _ _ _).nd)) (fun _ _ _ _ _ => ats_nil) (fun _ _ _ _ _ => (ae_call (runs_all (n := 3) (B.blk _ _ _ _ _) ((ok_law_told T).mono (by decide)) rfl (bd_law_told T)) (by rfl) T.m_law_told T.d_law_told.kp (aa_cons (av 8) (aa_cons (av 1) (aa_cons (ae_ix o_ix sim2 (av 2) ae_int) aa_nil))))))
    (ass_cons (as_if (at_w (aw_and (at_not (at_tru (av 5))) (aw_and1 (at_cmp (o_neD B.u64) sim2 (av 7) (ae_bin (o_mul .F) sim2 (ae_lst .M (aa_cons (ae_tup (aa_cons ae_str (aa_cons (ae_callB (o_reprD B.gd B.u64) simC (by rfl) T.n_repr bb_repr (aa_cons (av 1) aa_nil)) aa_nil))) aa_nil)) ae_int))))) (ass_one (as_ret ae_bl)) ass_nil)
    (ass_cons (as_if (at_w (aw_and (at_not (at_tru (av 5))) (aw_and1 (at_cmp (o_neD B.u64) sim2 (ae_call (runs_all (n := 3) B ((ok_law_told T).mono (by decide)) rfl (bd_law_told T)) (by rfl) T.m_law_told T.d_law_told.kp (aa_cons ae_int (aa_cons (av 3) (aa_cons (av 1) aa_nil)))) (ae_tup (aa_cons ae_str (aa_cons (ae_callB (o_reprD B.gd B.u64) simC (by rfl) T.n_repr bb_repr (aa_cons (av 1) aa_nil)) aa_nil))))))) (ass_one (as_ret ae_bl)) ass_nil)
    (ass_one (as_ret (ae_cmp (o_eqD B.u64) sim2 (ae_callB (o_reprD B.gd B.u64) simC (by rfl) T.n_repr bb_repr (aa_cons (av 1) aa_nil)) (av 4))))))))))))
theorem bd_law_shuffled_fe8a (T : Tx w K mg F) : ∀ us : List Value, us.length = 2 → bindArgs F.fd_law_shuffled_fe8a ⟨us, []⟩ = pure ((["_law_rng_here", "_law_some"] : List Str).zip us) := T.d_law_shuffled_fe8a.bind fun _ _ _ _ _ _ us hu => match us, hu with | [_, _], _ => rfl
theorem ok_law_shuffled_fe8a (T : Tx w K mg F) : Gn P w K mg base 2 (cA K "_law_shuffled") F.fd_law_shuffled_fe8a ["_law_rng_here", "_law_some"] w_law_shuffled_fe8a := by
  refine T.d_law_shuffled_fe8a.gn (N := n_law_shuffled_fe8a) sc_law_shuffled_fe8a fun cdv A outer s H E C B => ?_
  exact (ass_cons (as_set (i := 2) B.nd rfl (by first | exact Or.inl rfl | exact Or.inr rfl) (ae_callTy (o_list .M) simC (by rfl) T.n_list bb_list (aa_cons (av 1) aa_nil)))
    (ass_one (as_ret (ae_lc (m := .F) B.calm B.nd (ai_range1 (by rfl) T.n_range (aa_cons (ae_callB o_len simC (by rfl) T.n_len bb_len (aa_cons (av 1) aa_nil)) aa_nil)) (blkOk_by (own := [(("_law_k" : Str), 3)]) (N := n_law_shuffled_fe8a) (sc := defScope s_law_shuffled_fe8a) (by decide +kernel)) (fun _ _ _ _ _ => (agn 3 (B.blk _ _ _ _ _).nd)) (fun _ _ _ _ _ => ats_nil) (fun _ _ _ _ _ => (ae_mt (only_mt m_pop) (av 2) (aa_cons (ae_call (runs_all (n := 2) (B.blk _ _ _ _ _) ((ok_law_draw_c477 T).mono (by decide)) rfl (bd_law_draw_c477 T)) (by rfl) T.m_law_draw_c477 T.d_law_draw_c477.kp (aa_cons (av 0) (aa_cons (ae_callB o_len simC (by rfl) T.n_len bb_len (aa_cons (av 2) aa_nil)) aa_nil))) aa_nil)))))))
theorem bd_law_drawn (T : Tx w K mg F) : ∀ us : List Value, us.length = 2 → bindArgs F.fd_law_drawn ⟨us, []⟩ = pure ((["_law_rng_here", "_law_names_here"] : List Str).zip us) := T.d_law_drawn.bind fun _ _ _ _ _ _ us hu => match us, hu with | [_, _], _ => rfl
theorem ok_law_drawn (T : Tx w K mg F) : Gn P w K mg base 3 (cA K "_law_drawn") F.fd_law_drawn ["_law_rng_here", "_law_names_here"] w_law_drawn := by
  refine T.d_law_drawn.gn (N := n_law_drawn) sc_law_drawn fun cdv A outer s H E C B => ?_
  exact (ass_cons (as_set (i := 2) B.nd rfl (by first | exact Or.inl rfl | exact Or.inr rfl) (ae_callTy o_tuple simC (by rfl) T.n_tuple bb_tuple (aa_cons (ae_slice o_sl (s_sl .F) (ae_call (runs_all (n := 2) B ((ok_law_shuffled_fe8a T).mono (by decide)) rfl (bd_law_shuffled_fe8a T)) (by rfl) T.m_law_shuffled_fe8a T.d_law_shuffled_fe8a.kp (aa_cons (av 0) (aa_cons (av 1) aa_nil))) ao_none (ao_some (ae_bin (o_add .F) sim2 ae_int (ae_call (runs_all (n := 2) B ((ok_law_draw_c477 T).mono (by decide)) rfl (bd_law_draw_c477 T)) (by rfl) T.m_law_draw_c477 T.d_law_draw_c477.kp (aa_cons (av 0) (aa_cons (ae_bin o_sub sim2 (ae_callB o_len simC (by rfl) T.n_len bb_len (aa_cons (av 1) aa_nil)) ae_int) aa_nil)))))) aa_nil)))
    (ass_one (as_ret (ae_tup (aa_cons (av 2) (aa_cons (ae_call (runs_all (n := 2) B ((ok_law_draw_c477 T).mono (by decide)) rfl (bd_law_draw_c477 T)) (by rfl) T.m_law_draw_c477 T.d_law_draw_c477.kp (aa_cons (av 0) (aa_cons (ae_bin o_sub sim2 (ae_callB o_len simC (by rfl) T.n_len bb_len (aa_cons (av 2) aa_nil)) ae_int) aa_nil))) aa_nil))))))
theorem bd_law_spoilt (T : Tx w K mg F) : ∀ us : List Value, us.length = 2 → bindArgs F.fd_law_spoilt ⟨us, []⟩ = pure ((["_law_rng_here", "_law_value"] : List Str).zip us) := T.d_law_spoilt.bind fun _ _ _ _ _ _ us hu => match us, hu with | [_, _], _ => rfl
theorem st_law_spoilt (T : Tx w K mg F) {n : Nat} {r_law_spoilt : WF} (ih_law_spoilt : Gn P w K mg base (3 + n) (cA K "_law_spoilt") F.fd_law_spoilt ["_law_rng_here", "_law_value"] r_law_spoilt) : Gn P w K mg base (3 + n + 1) (cA K "_law_spoilt") F.fd_law_spoilt ["_law_rng_here", "_law_value"] (wFun 5 (b_law_spoilt r_law_spoilt)) := by
  refine T.d_law_spoilt.gn (N := n_law_spoilt) sc_law_spoilt fun cdv A outer s H E C B => ?_
  exact (ass_cons (as_if (at_w (aw_or (at_not (at_tru (ae_callB o_isi simC (by rfl) T.n_isinstance bb_isinstance (aa_cons (av 1) (aa_cons (ae_bltn (v := .ty "tuple") (by rfl) T.n_tuple bb_tuple rfl re_ty) aa_nil))))) (aw_or (at_cmp (o_eqD B.u64) sim2 (av 1) (ae_tup aa_nil)) (aw_or1 (at_cmp (o_eqD B.u64) sim2 (ae_call (runs_all (n := 2) B ((ok_law_draw_c477 T).mono (Nat.le_trans (by decide : 1 ≤ 3) (Nat.le_add_right _ _))) rfl (bd_law_draw_c477 T)) (by rfl) T.m_law_draw_c477 T.d_law_draw_c477.kp (aa_cons (av 0) (aa_cons ae_int aa_nil))) ae_int))))) (ass_one (as_ret (ae_call (runs_all (n := 1) B ((ok_law_odd_573c T).mono (Nat.le_trans (by decide : 2 ≤ 3) (Nat.le_add_right _ _))) rfl (bd_law_odd_573c T)) (by rfl) T.m_law_odd_573c T.d_law_odd_573c.kp (aa_cons (av 0) aa_nil)))) ass_nil)
    (ass_cons (as_par (i := 2) (j := 3) B.calm B.nd rfl rfl (by decide) rfl rfl (aa_cons (ae_call (runs_all (n := 2) B ((ok_law_draw_c477 T).mono (Nat.le_trans (by decide : 1 ≤ 3) (Nat.le_add_right _ _))) rfl (bd_law_draw_c477 T)) (by rfl) T.m_law_draw_c477 T.d_law_draw_c477.kp (aa_cons (av 0) (aa_cons (ae_callB o_len simC (by rfl) T.n_len bb_len (aa_cons (av 1) aa_nil)) aa_nil))) (aa_cons (ae_call (runs_all (n := 2) B ((ok_law_draw_c477 T).mono (Nat.le_trans (by decide : 1 ≤ 3) (Nat.le_add_right _ _))) rfl (bd_law_draw_c477 T)) (by rfl) T.m_law_draw_c477 T.d_law_draw_c477.kp (aa_cons (av 0) (aa_cons ae_int aa_nil))) aa_nil)) (fun h => ps_par B.calm B.nd rfl rfl (by decide) rfl rfl h (by first | rfl | kernel_rfl)))
    (ass_cons (as_if (at_cmp (o_eqD B.u64) sim2 (av 3) ae_int) (ass_one (as_ret (ae_bin (o_add .F) sim2 (ae_slice o_sl (s_sl .F) (av 1) ao_none (ao_some (av 2))) (ae_slice o_sl (s_sl .F) (av 1) (ao_some (ae_bin (o_add .F) sim2 (av 2) ae_int)) ao_none)))) ass_nil)
    (ass_cons (as_if (at_cmp (o_eqD B.u64) sim2 (av 3) ae_int) (ass_one (as_ret (ae_bin (o_add .F) sim2 (ae_bin (o_add .F) sim2 (ae_slice o_sl (s_sl .F) (av 1) ao_none (ao_some (av 2))) (ae_slice o_sl (s_sl .F) (av 1) (ao_some (av 2)) (ao_some (ae_bin (o_add .F) sim2 (av 2) ae_int)))) (ae_slice o_sl (s_sl .F) (av 1) (ao_some (av 2)) ao_none)))) ass_nil)
    (ass_cons (as_if (at_cmp (o_eqD B.u64) sim2 (av 3) ae_int) (ass_one (as_ret (ae_callTy (o_list .F) simC (by rfl) T.n_list bb_list (aa_cons (av 1) aa_nil)))) ass_nil)
    (ass_cons (as_if (at_cmp (o_eqD B.u64) sim2 (av 3) ae_int) (ass_one (as_ret (ae_rev .F (av 1)))) ass_nil)
    (ass_cons (as_if (at_cmp (o_eqD B.u64) sim2 (av 3) ae_int) (ass_cons (as_set (i := 4) B.nd rfl (by first | exact Or.inl rfl | exact Or.inr rfl) (ae_ix o_ix sim2 (ae_lst .F (aa_cons ae_bl (aa_cons (ae_un un_neg s_neg ae_int) (aa_cons (ae_callB o_len simC (by rfl) T.n_len bb_len (aa_cons (av 1) aa_nil)) (aa_cons ae_int (aa_cons ae_str (aa_cons ae_str (aa_cons (ae_ix o_ix sim2 (av 1) ae_int) aa_nil)))))))) (ae_call (runs_all (n := 2) B ((ok_law_draw_c477 T).mono (Nat.le_trans (by decide : 1 ≤ 3) (Nat.le_add_right _ _))) rfl (bd_law_draw_c477 T)) (by rfl) T.m_law_draw_c477 T.d_law_draw_c477.kp (aa_cons (av 0) (aa_cons ae_int aa_nil)))))
    (ass_one (as_ret (ae_bin (o_add .F) sim2 (ae_bin (o_add .F) sim2 (ae_slice o_sl (s_sl .F) (av 1) ao_none (ao_some (av 2))) (ae_tup (aa_cons (av 4) aa_nil))) (ae_slice o_sl (s_sl .F) (av 1) (ao_some (ae_bin (o_add .F) sim2 (av 2) ae_int)) ao_none))))) ass_nil)
    (ass_one (as_ret (ae_bin (o_add .F) sim2 (ae_bin (o_add .F) sim2 (ae_slice o_sl (s_sl .F) (av 1) ao_none (ao_some (av 2))) (ae_tup (aa_cons (ae_call (runs_all (n := 2) B (ih_law_spoilt.mono (by omega)) rfl (bd_law_spoilt T)) (by rfl) T.m_law_spoilt T.d_law_spoilt.kp (aa_cons (av 0) (aa_cons (ae_ix o_ix sim2 (av 1) (av 2)) aa_nil))) aa_nil))) (ae_slice o_sl (s_sl .F) (av 1) (ao_some (ae_bin (o_add .F) sim2 (av 2) ae_int)) ao_none)))))))))))
theorem all_law_spoilt (T : Tx w K mg F) : ∀ n : Nat, Gn P w K mg base (3 + n) (cA K "_law_spoilt") F.fd_law_spoilt ["_law_rng_here", "_law_value"] (w_law_spoilt n)
  | 0 => gn_no
  | n + 1 => by
    obtain i0 := all_law_spoilt T n
    exact st_law_spoilt T i0
theorem ok_law_spoilt (T : Tx w K mg F) (n : Nat) : Gn P w K mg base (3 + n) (cA K "_law_spoilt") F.fd_law_spoilt ["_law_rng_here", "_law_value"] (w_law_spoilt n) := (all_law_spoilt T n)
theorem bd_law_right (T : Tx w K mg F) : ∀ us : List Value, us.length = 1 → bindArgs F.fd_law_right ⟨us, []⟩ = pure ((["_law_rng_here"] : List Str).zip us) := T.d_law_right.bind fun _ _ _ _ _ _ us hu => match us, hu with | [_], _ => rfl
theorem ok_law_right (T : Tx w K mg F) : Gn P w K mg base 24 (cA K "_law_right") F.fd_law_right ["_law_rng_here"] w_law_right := by
  refine T.d_law_right.gn (N := n_law_right) sc_law_right fun cdv A outer s H E C B => ?_
  exact (ass_cons (as_set (i := 1) B.nd rfl (by first | exact Or.inl rfl | exact Or.inr rfl) (ae_call (runs_all (n := 2) B ((ok_law_names_e25f T).mono (by decide)) rfl (bd_law_names_e25f T)) (by rfl) T.m_law_names_e25f T.d_law_names_e25f.kp (aa_cons (av 0) (aa_cons (ae_bin (o_add .F) sim2 ae_int (ae_call (runs_all (n := 2) B ((ok_law_draw_c477 T).mono (by decide)) rfl (bd_law_draw_c477 T)) (by rfl) T.m_law_draw_c477 T.d_law_draw_c477.kp (aa_cons (av 0) (aa_cons ae_int aa_nil)))) aa_nil))))
    (ass_cons (as_par (i := 2) (j := 3) B.calm B.nd rfl rfl (by decide) rfl rfl (aa_cons (ae_call (runs_all (n := 2) B ((ok_law_drawn T).mono (by decide)) rfl (bd_law_drawn T)) (by rfl) T.m_law_drawn T.d_law_drawn.kp (aa_cons (av 0) (aa_cons (av 1) aa_nil))) (aa_cons (ae_call (runs_all (n := 2) B ((ok_law_drawn T).mono (by decide)) rfl (bd_law_drawn T)) (by rfl) T.m_law_drawn T.d_law_drawn.kp (aa_cons (av 0) (aa_cons (ae_slice o_sl (s_sl .F) (ae_call (runs_all (n := 2) B ((ok_law_shuffled_fe8a T).mono (by decide)) rfl (bd_law_shuffled_fe8a T)) (by rfl) T.m_law_shuffled_fe8a T.d_law_shuffled_fe8a.kp (aa_cons (av 0) (aa_cons (av 1) aa_nil))) ao_none (ao_some ae_int)) aa_nil))) aa_nil)) (fun h => ps_par B.calm B.nd rfl rfl (by decide) rfl rfl h (by first | rfl | kernel_rfl)))
    (ass_cons (as_if (at_w (aw_or (at_not (at_tru (ae_call (runs_all (n := 1) B ((ok_law_is_right T).mono (by decide)) rfl (bd_law_is_right T)) (by rfl) T.m_law_is_right T.d_law_is_right.kp (aa_cons (av 2) aa_nil)))) (aw_or1 (at_not (at_tru (ae_call (runs_all (n := 4) B ((ok_law_value_right T).mono (by decide)) rfl (bd_law_value_right T)) (by rfl) T.m_law_value_right T.d_law_value_right.kp (aa_cons (av 0) (aa_cons (av 2) (aa_cons (av 1) (aa_cons (av 3) aa_nil)))))))))) (ass_one (as_ret ae_bl)) ass_nil)
    (ass_cons (as_for (vs := [4]) B.pass B.calm (ai_range1 (by rfl) T.n_range (aa_cons ae_int aa_nil)) (agn 4 B.nd) (ass_cons (as_set (i := 5) B.nd rfl (by first | exact Or.inl rfl | exact Or.inr rfl) (ae_call (runs_all (n := 2) B ((ok_law_spoilt T 20).mono (by decide)) rfl (bd_law_spoilt T)) (by rfl) T.m_law_spoilt T.d_law_spoilt.kp (aa_cons (av 0) (aa_cons (av 2) aa_nil))))
    (ass_cons (as_set (i := 5) B.nd rfl (by first | exact Or.inl rfl | exact Or.inr rfl) (ae_if (at_cmp o_gt sim2 (av 4) ae_int) (ae_call (runs_all (n := 2) B ((ok_law_spoilt T 20).mono (by decide)) rfl (bd_law_spoilt T)) (by rfl) T.m_law_spoilt T.d_law_spoilt.kp (aa_cons (av 0) (aa_cons (av 5) aa_nil))) (av 5)))
    (ass_one (as_if (at_not (at_tru (ae_call (runs_all (n := 4) B ((ok_law_value_right T).mono (by decide)) rfl (bd_law_value_right T)) (by rfl) T.m_law_value_right T.d_law_value_right.kp (aa_cons (av 0) (aa_cons (av 5) (aa_cons (av 1) (aa_cons (av 3) aa_nil))))))) (ass_one (as_ret ae_bl)) ass_nil)))))
    (ass_one (as_ret (ae_call (runs_all (n := 4) B ((ok_law_value_right T).mono (by decide)) rfl (bd_law_value_right T)) (by rfl) T.m_law_value_right T.d_law_value_right.kp (aa_cons (av 0) (aa_cons (ae_call (runs_all (n := 1) B ((ok_law_odd_573c T).mono (by decide)) rfl (bd_law_odd_573c T)) (by rfl) T.m_law_odd_573c T.d_law_odd_573c.kp (aa_cons (av 0) aa_nil)) (aa_cons (av 1) (aa_cons (av 3) aa_nil)))))))))))
theorem bd_law_rng_725d (T : Tx w K mg F) : ∀ us : List Value, us.length = 2 → bindArgs F.fd_law_rng_725d ⟨us, []⟩ = pure ((["_law_script", "_law_k"] : List Str).zip us) := T.d_law_rng_725d.bind fun _ _ _ _ _ _ us hu => match us, hu with | [_, _], _ => rfl
theorem ok_law_rng_725d (T : Tx w K mg F) : Gn P w K mg base 1 (cA K "_law_rng") F.fd_law_rng_725d ["_law_script", "_law_k"] w_law_rng_725d := by
  refine T.d_law_rng_725d.gn (N := n_law_rng_725d) sc_law_rng_725d fun cdv A outer s H E C B => ?_
  exact (ass_cons (as_set (i := 2) B.nd rfl (by first | exact Or.inl rfl | exact Or.inr rfl) (ae_if (at_cmp o_lt sim2 (av 1) (ae_callB o_len simC (by rfl) T.n_len bb_len (aa_cons (av 0) aa_nil))) (ae_ix o_ix sim2 (av 0) (av 1)) (ae_bin (o_add .F) sim2 (ae_bin (o_mul .F) sim2 ae_int (av 1)) ae_int)))
    (ass_one (as_ret (ae_lst .M (aa_cons (ae_callB (o_max B.calm) simC (by rfl) T.n_max bb_max (aa_cons ae_int (aa_cons (ae_bin o_sub sim2 (ae_callB o_abs simC (by rfl) T.n_abs bb_abs (aa_cons (av 2) aa_nil)) (ae_bin o_pow sim2 ae_int ae_int)) aa_nil))) (aa_cons (ae_bin (o_add .F) sim2 (ae_bin (o_add .F) sim2 (ae_bin o_mod sim2 (ae_callB o_abs simC (by rfl) T.n_abs bb_abs (aa_cons (av 2) aa_nil)) ae_int) (ae_bin (o_mul .F) sim2 ae_int (av 1))) ae_int) aa_nil))))))
theorem bd_law (T : Tx w K mg F) : ∀ us : List Value, us.length = 1 → bindArgs F.fd_law ⟨us, []⟩ = pure ((["_law_script"] : List Str).zip us) := T.d_law.bind fun _ _ _ _ _ _ us hu => match us, hu with | [_], _ => rfl
theorem ok_law (T : Tx w K mg F) : Gn P w K mg base 25 (cA K "law") F.fd_law ["_law_script"] w_law := by
  refine T.d_law.gn (N := n_law) sc_law fun cdv A outer s H E C B => ?_
  exact (ass_one (as_ret (ae_callB (o_all B.calm) simC (by rfl) T.n_all bb_all (aa_cons (ae_lc (m := .F) B.calm B.nd (ai_range1 (by rfl) T.n_range (aa_cons (ae_callB (o_max B.calm) simC (by rfl) T.n_max bb_max (aa_cons ae_int (aa_cons (ae_callB (o_min B.calm) simC (by rfl) T.n_min bb_min (aa_cons ae_int (aa_cons (ae_callB o_len simC (by rfl) T.n_len bb_len (aa_cons (av 0) aa_nil)) aa_nil))) aa_nil))) aa_nil)) (blkOk_by (own := [(("_law_k" : Str), 1)]) (N := n_law) (sc := defScope s_law) (by decide +kernel)) (fun _ _ _ _ _ => (agn 1 (B.blk _ _ _ _ _).nd)) (fun _ _ _ _ _ => ats_nil) (fun _ _ _ _ _ => (ae_call (runs_all (n := 1) (B.blk _ _ _ _ _) ((ok_law_right T).mono (by decide)) rfl (bd_law_right T)) (by rfl) T.m_law_right T.d_law_right.kp (aa_cons (ae_call (runs_all (n := 2) (B.blk _ _ _ _ _) ((ok_law_rng_725d T).mono (by decide)) rfl (bd_law_rng_725d T)) (by rfl) T.m_law_rng_725d T.d_law_rng_725d.kp (aa_cons (av 0) (aa_cons (av 1) aa_nil))) aa_nil)))) aa_nil))))
end
end Lw

set_option Elab.async false
set_option linter.all false
set_option maxRecDepth 100000
set_option maxHeartbeats 400000
/-! What the laws' draws need: the pot of draws, host names, texts from letters. -/
namespace Dw
open PySem PySem.Spec PyProof.Rows L2 Rk
variable {A : Ah} {Q : QE} {E : EX}
@[simp] theorem lt_sz {n : Nat} : (n < sizeLine) = (n < 16777216) := rfl
@[simp] theorem at_zero {α : Type} {x : α} {xs : List α} : atI (x :: xs) 0 = some x := by rw [show (0 : Int) = ((0 : Nat) : Int) from rfl, Rk.atI_nat (by simp)]; rfl
theorem flat_str (ps : List Str) : (∀ a : Str, a ∈ ps → flatL (Vl.str a) = true) = True := by simp [flatL]
/-! ### the pot of draws -/
def isG (A : Ah) (g : Addr) : Prop := ∃ x y : Int, 0 ≤ x ∧ 0 ≤ y ∧ A g = some (.lst [.int x, .int y])
/-- B is A but for the pot at g -/
structure Of (A : Ah) (g : Addr) (B : Ah) : Prop where
  same : ∀ a, a ≠ g → B a = A a
  pot : isG B g
theorem Of.refl {g : Addr} (h : isG A g) : Of A g A := ⟨fun _ _ => rfl, h⟩
theorem Of.trans {B C : Ah} {g : Addr} (h : Of A g B) (k : Of B g C) : Of A g C := ⟨fun a ha => (k.same a ha).trans (h.same a ha), k.pot⟩
theorem isG.put {B : Ah} {g p : Addr} {o : Ob} (h : isG B g) (hp : p ≠ g) : isG (put B p o) g := by
  obtain ⟨x, y, hx, hy, e⟩ := h
  exact ⟨x, y, hx, hy, by rw [put_ne (Ne.symm hp)]; exact e⟩
theorem isG.fresh {B : Ah} {g p : Addr} (h : isG B g) (hp : B p = none) : p ≠ g := by
  obtain ⟨x, y, _, _, e⟩ := h
  rintro rfl; rw [e] at hp; cases hp
theorem Of.none {B : Ah} {g p : Addr} (h : Of A g B) (hp : B p = none) : A p = none := by
  rw [← h.same p (h.pot.fresh hp)]; exact hp
theorem Of.at {B : Ah} {g p : Addr} {o : Ob} (h : Of A g B) (hp : p ≠ g) (e : A p = some o) : B p = some o := (h.same p hp).trans e
theorem Of.drawn {B : Ah} {g : Addr} {x y : Int} (h : Of A g B) (hx : 0 ≤ x) (hy : 0 ≤ y) : Of A g (Rk.put B g (.lst [.int x, .int y])) :=
  ⟨fun a ha => by rw [put_ne ha]; exact h.same a ha, x, y, hx, hy, put_same⟩
/-- a list of one's own put in on both sides -/
theorem Of.put {B : Ah} {g p : Addr} {o : Ob} (h : Of A g B) (hp : p ≠ g) : Of (Rk.put A p o) g (Rk.put B p o) :=
  ⟨fun a ha => by
    by_cases e : a = p
    · subst e; rw [put_same, put_same]
    · rw [put_ne e, put_ne e]; exact h.same a ha, h.pot.put hp⟩
/-- what a def leaves behind: its own new things may be forgotten -/
theorem Of.sub {B : Ah} {g p : Addr} {o : Ob} (h : Of (Rk.put A p o) g B) (hp : A p = Option.none) (gp : p ≠ g) : ∃ C, Of A g C ∧ Sub C B := by
  refine ⟨fun a => if a = p then Option.none else B a, ⟨fun a ha => ?_, ?_⟩, fun a u e => ?_⟩
  · by_cases e : a = p
    · subst e; rw [if_pos rfl, hp]
    · rw [if_neg e, h.same a ha, put_ne e]
  · obtain ⟨x, y, hx, hy, e⟩ := h.pot
    exact ⟨x, y, hx, hy, by dsimp only; rw [if_neg (Ne.symm gp)]; exact e⟩
  · dsimp only at e
    by_cases z : a = p
    · rw [if_pos z] at e; cases e
    · rw [if_neg z] at e; exact e
theorem give {B : Ah} {Q : QE} {v : Vl} (q : Q v B) : ∃ C, Sub C B ∧ Q v C := ⟨B, .refl, q⟩
/-! ### texts of letters -/
def letter (c : Nat) : Prop := 97 ≤ c ∧ c ≤ 122
def ofC (cs : List Nat) : Str := ⟨cs.toArray⟩
/-- a host's name -/
def hostOk (s : Str) : Prop := 1 ≤ s.length ∧ s.length ≤ 8 ∧ ∀ c ∈ s.cps.toList, letter c
instance : DecidablePred letter := fun c => by unfold letter; exact inferInstance
instance : DecidablePred hostOk := fun s => by unfold hostOk; exact inferInstance
theorem le_list : (Str.ofString "abcdefghijklmnopqrstuvwxyz").cps.toList = List.range' 97 26 := by decide +kernel
theorem le_mem (c : Nat) : c ∈ (Str.ofString "abcdefghijklmnopqrstuvwxyz").cps.toList ↔ letter c := by
  rw [le_list, List.mem_range'_1]; unfold letter; omega
theorem le_len : (Str.ofString "abcdefghijklmnopqrstuvwxyz").length = 26 := by decide +kernel
theorem ofC_len (cs : List Nat) : (ofC cs).length = cs.length := by simp [ofC, Str.length]
theorem okS_chars {cs : List Nat} (h : cs.length ≤ 16777216) (g : ∀ c ∈ cs, letter c) : okS (ofC cs) :=
  ⟨by simpa [Str.length, ofC] using h, by simp [PyData.strOk, ofC]; intro c hc; have := g c hc; unfold letter at this; omega⟩
theorem hostOk.okS {s : Str} (h : hostOk s) : okS s := by
  have : s = ofC s.cps.toList := by cases s; simp [ofC]
  rw [this]; exact okS_chars (by have := h.2.1; have e : s.cps.toList.length = s.length := by simp [Str.length]
                                 omega) h.2.2
theorem ofC_host {cs : List Nat} (h1 : 1 ≤ cs.length) (h2 : cs.length ≤ 8) (g : ∀ c ∈ cs, letter c) : hostOk (ofC cs) := ⟨by rw [ofC_len]; exact h1, by rw [ofC_len]; exact h2, fun c hc => g c (by simpa [ofC] using hc)⟩
theorem host_ofC {s : Str} (h : hostOk s) : ∃ cs, s = ofC cs ∧ 1 ≤ cs.length ∧ cs.length ≤ 8 ∧ ∀ c ∈ cs, letter c := by
  refine ⟨s.cps.toList, by cases s; simp [ofC], ?_, ?_, h.2.2⟩
  · have := h.1; simpa [Str.length] using this
  · have := h.2.1; simpa [Str.length] using this
theorem ofC_inj {a b : List Nat} (h : ofC a = ofC b) : a = b := by
  have := congrArg (fun s => s.cps.toList) h
  simpa [ofC] using this
theorem ofC_app (a : List Nat) (c : Nat) : ofC a ++ (⟨#[c]⟩ : Str) = ofC (a ++ [c]) := by
  show (⟨(ofC a).cps ++ #[c]⟩ : Str) = _
  simp [ofC]
theorem ofC_app2 (a b : List Nat) : ofC a ++ ofC b = ofC (a ++ b) := by
  show (⟨(ofC a).cps ++ (ofC b).cps⟩ : Str) = _
  simp [ofC]
theorem cutS_ofC (cs : List Nat) (k : Nat) : cutS (ofC cs) none (some (k : Int)) = ofC (cs.take k) := by
  unfold cutS
  rw [HT.sIx_none, HT.sIx_nat, ofC_len]
  simp [List.take_eq_take_min, ofC]
theorem strL_chars : ∀ cs : List Nat, strL (cs.map fun c => .str ⟨#[c]⟩) = some (cs.map fun c => (⟨#[c]⟩ : Str))
  | [] => rfl
  | c :: cs => by simp [strL, strL_chars cs]
theorem join_chars : ∀ cs : List Nat, Txt.join (Str.ofString "") (cs.map fun c => ⟨#[c]⟩) = ofC cs := by
  intro cs
  rw [TL.join_eq]
  have : ∀ cs : List Nat, TL.joinL [] ((cs.map fun c => (⟨#[c]⟩ : Str)).map TL.tl) = cs := by
    intro cs
    induction cs with
    | nil => rfl
    | cons c cs ih =>
      cases cs with
      | nil => rfl
      | cons d cs => simp only [List.map_cons, TL.joinL] at ih ⊢; rw [ih]; rfl
  have h := TL.tl_join (Str.ofString "") (cs.map fun c => ⟨#[c]⟩)
  rw [show TL.tl (Str.ofString "") = [] by decide +kernel, this] at h
  have : ∀ s : Str, TL.tl s = cs → s = ⟨cs.toArray⟩ := by
    rintro ⟨a⟩ e
    have e : a.toList = cs := e
    rw [← e]
  exact this _ h
theorem join_sum (cs : List Nat) : ((cs.map fun c => (⟨#[c]⟩ : Str)).map (·.length)).sum + (cs.map fun c => (⟨#[c]⟩ : Str)).length * (Str.ofString "").length ≤ cs.length := by
  rw [show (Str.ofString "").length = 0 by decide +kernel]
  induction cs with
  | nil => simp
  | cons c cs ih =>
    simp only [List.map_cons, List.sum_cons, List.length_cons] at ih ⊢
    have : (⟨#[c]⟩ : Str).length = 1 := rfl
    omega
/-- ''.join of letters -/
theorem join_letters {cs : List Nat} (h : cs.length ≤ 16777216) (g : ∀ c ∈ cs, letter c) {z : Vl} (hz : z = .lst (cs.map fun c => .str ⟨#[c]⟩)) (q : Q (.str (ofC cs)) A) : fJoin (.str (Str.ofString "")) [z] A Q := by
  subst hz
  refine ⟨_, rfl, .inl ⟨_, rfl, _, strL_chars cs, ⟨Nat.le_trans (join_sum cs) h, ?_⟩, ?_⟩⟩
  · rw [join_chars]; exact okS_chars h g
  · rw [join_chars]; exact q
/-- of distinct texts one is not among few -/
theorem some_new {α : Type} [DecidableEq α] (ts fs : List α) (h : ts.Nodup) (hl : fs.length < ts.length) : ∃ t ∈ ts, t ∉ fs := by
  apply Classical.byContradiction
  intro hn
  have hs : ∀ t ∈ ts, t ∈ fs := fun t ht => Classical.byContradiction fun hf => hn ⟨t, ht, hf⟩
  have : ts.length ≤ fs.length := by
    clear hn hl
    induction ts generalizing fs with
    | nil => simp
    | cons t ts ih =>
      obtain ⟨h1, h2⟩ := List.nodup_cons.mp h
      have ht := hs t List.mem_cons_self
      have := ih (fs.erase t) h2 fun x hx => (List.mem_erase_of_ne (fun e : x = t => h1 (by rw [← e]; exact hx))).2 (hs x (List.mem_cons_of_mem _ hx))
      rw [List.length_erase_of_mem ht] at this
      have := List.length_pos_of_mem ht
      simp only [List.length_cons]; omega
  omega
theorem signs_le : Rk.signs (Str.ofString "abcdefghijklmnopqrstuvwxyz") = (List.range' 97 26).map fun c => Vl.str ⟨#[c]⟩ := by
  unfold Rk.signs; rw [le_list]
def cod : Vl → Nat
  | .str s => s.cps.toList.headD 0
  | _ => 0
/-- a name and its 26 neighbors -/
def tries (cs : List Nat) : List (List Nat) := cs :: (List.range' 97 26).map fun c => cs.take 7 ++ [c]
theorem tries_ok {cs : List Nat} (h1 : 1 ≤ cs.length) (h2 : cs.length ≤ 8) (g : ∀ c ∈ cs, letter c) : ∀ t ∈ tries cs, 1 ≤ t.length ∧ t.length ≤ 8 ∧ ∀ c ∈ t, letter c := by
  intro t ht
  rcases List.mem_cons.mp ht with rfl | ht
  · exact ⟨h1, h2, g⟩
  · obtain ⟨c, hc, rfl⟩ := List.mem_map.mp ht
    rw [List.mem_range'_1] at hc
    refine ⟨by simp, by simp; omega, fun d hd => ?_⟩
    rcases List.mem_append.mp hd with hd | hd
    · exact g d (List.mem_of_mem_take hd)
    · simp at hd; subst hd; unfold letter; omega
theorem tries_new {cs : List Nat} (ps : List Str) (h : ps.length < 26) : ∃ t ∈ tries cs, ofC t ∉ ps := by
  have nd : ((List.range' 97 26).map fun c => ofC (cs.take 7 ++ [c])).Nodup := by
    refine List.Pairwise.map _ (fun a b hne e => hne ?_) List.nodup_range'
    have := ofC_inj e
    have := List.append_cancel_left this
    simpa using this
  obtain ⟨t, ht, hn⟩ := some_new _ ps nd (by simpa using h)
  obtain ⟨c, hc, rfl⟩ := List.mem_map.mp ht
  exact ⟨_, List.mem_cons_of_mem _ (List.mem_map.mpr ⟨c, hc, rfl⟩), hn⟩
/-! ### == with an empty list -/
theorem dats_strs {n : Nat} {A : Ah} : ∀ ps : List Str, dats (dat (n + 1) A) (ps.map .str) = some (ps.map PyData.str)
  | [] => rfl
  | p :: ps => by rw [List.map_cons, dats, dats_strs ps]; rfl
theorem noDict_strs : ∀ ps : List Str, PyData.hasDictAll (ps.map PyData.str) = false := fun ps => by
  induction ps with
  | nil => rfl
  | cons p ps ih => simp [PyData.hasDictAll, PyData.hasDict, ih]
theorem eq_nil {k : Bool} {p : Addr} {ps : List Str} (hp : A p = some (.lst (ps.map .str))) (w : Q (.bl (k != decide (ps = []))) A) : fEqD k (.ref p) (.lst []) A Q := by
  refine eqD_of ⟨.list (ps.map PyData.str), .list [], ?_, rfl, ?_, rfl, ?_⟩
  · show datR (dats (dat 11 A)) (A p) = _
    rw [hp]; show (dats (dat 11 A) (ps.map .str)).map PyData.list = _
    rw [dats_strs]; rfl
  · simp [PyData.hasDict, noDict_strs]
  · have : PyData.eqv (.list (ps.map PyData.str)) (.list []) = decide (ps = []) := by
      cases ps <;> simp [PyData.eqv, PyData.eqvAll]
    rw [this]; exact w
theorem last_of {ps : List Str} (h : ps ≠ []) : ∃ l ∈ ps, atI (ps.map Vl.str) (-1) = some (.str l) := by
  have hl : ps.length - 1 < ps.length := by have := List.length_pos_iff.mpr h; omega
  refine ⟨ps[ps.length - 1], List.getElem_mem hl, ?_⟩
  unfold atI ixN
  rw [if_neg (by decide), if_pos (by simp; omega)]
  simp only [Option.bind_some, List.length_map]
  rw [show ((-1 : Int) + (ps.length : Int)).toNat = ps.length - 1 by omega]
  simp [hl]
theorem pick {xs : List Vl} {r : Int} (h : 0 ≤ r) (g : r < xs.length) : ∃ z, atI xs r = some z ∧ z ∈ xs := ⟨_, atI_lo h g, List.getElem_mem _⟩
theorem map_rep {α : Type} (xs : List α) : xs.map (fun _ => Vl.bl true) = List.replicate xs.length (.bl true) := by
  induction xs with
  | nil => rfl
  | cons x xs ih => simp [List.replicate_succ, ih]
theorem bls_map {α : Type} (f : α → Bool) (xs : List α) : bls (xs.map fun x => .bl (f x)) = some (xs.map f) := by
  induction xs with
  | nil => rfl
  | cons x xs ih => simp [bls, ih]
/-! ### the kinds of values -/
theorem isi_str {s : Str} {QB : QE} (q : QB (.bl true) A) : fIsi [.str s, .ty "str"] A QB := e_isi (y := .str) (z := .str) rfl rfl q
theorem isi_tup {xs : List Vl} {QB : QE} (q : QB (.bl true) A) : fIsi [.tup xs, .ty "tuple"] A QB := e_isi (y := .tup) (z := .tup) rfl rfl q
theorem isi_int {i : Int} {QB : QE} (q : QB (.bl true) A) : fIsi [.int i, .ty "int"] A QB := e_isi (y := .int) (z := .int) rfl rfl q
theorem isi_intb {i : Int} {QB : QE} (q : QB (.bl false) A) : fIsi [.int i, .ty "bool"] A QB := e_isi (y := .int) (z := .bl) rfl rfl q
/-- a path of hosts -/
structure PathOk (ps : List Str) : Prop where
  nd : ps.Nodup
  lo : 3 ≤ ps.length
  hi : ps.length ≤ 100
  ok : ∀ p ∈ ps, hostOk p
theorem rngL_get {n i : Nat} {x : Vl} (h : (rngL 0 n)[i]? = some x) : x = .int i ∧ i < n := by
  have hi := (List.getElem?_eq_some_iff.mp h).1
  have e := (List.getElem?_eq_some_iff.mp h).2
  simp [rngL] at e hi
  exact ⟨e.symm, hi⟩
theorem bls_rep : ∀ n : Nat, bls (List.replicate n (.bl true)) = some (List.replicate n true)
  | 0 => rfl
  | n + 1 => by simp [List.replicate_succ, bls, bls_rep n]
theorem all_rep (n : Nat) : (List.replicate n true).all id = true := by simp
end Dw

set_option Elab.async false
set_option linter.all false
set_option maxRecDepth 100000
set_option maxHeartbeats 1000000
/-! printed by gen2.py: helpers that several laws share, as transformers -/
namespace Hl
open PySem PySem.Spec PyProof.Rows L2 Rk Pg
abbrev n_law_draw_8923 : List Str := ["_law_pot_here", "_law_many", "_law_digit"]
def b_law_draw_8923_x1 : WS := (wRet (wVar 2))
def b_law_draw_8923_2 : WS := (wRet (wBin fMod (wBin fDiv (wBin fMod (wBin (fMul .F) (wBin fIx (wVar 0) (wC (.int 1))) (wBin fIx (wVar 0) (wC (.int 1)))) (wC (.int 2147483543))) (wC (.int 13))) (wVar 1)))
def b_law_draw_8923_1 : WS := (wSeq (wAsg (wBin fMod (wBin (fAdd .F) (wBin (fMul .F) (wBin fIx (wVar 0) (wC (.int 1))) (wC (.int 48271))) (wC (.int 30011))) (wC (.int 2147483587))) (gS fSet (wVar 0) (wC (.int 1)))) b_law_draw_8923_2)
def b_law_draw_8923 : WS :=
    (wSeq (wIfS (wB (wBin fGt (wBin fIx (wVar 0) (wC (.int 0))) (wC (.int 0)))) (wSeq (wAsg (wCB fDivmod (wCons (wBin fIx (wVar 0) (wC (.int 0))) (wCons (wVar 1) wNil))) (gT 2 (gCn (gS fSet (wVar 0) (wC (.int 0))) (gCn (gN 2) gNl)))) b_law_draw_8923_x1) (fun D S A => D.nx S A)) b_law_draw_8923_1)
def w_law_draw_8923 : WF := wFun 3 b_law_draw_8923
abbrev n_law_pick_d4a1 : List Str := ["_law_pot_here", "_law_some"]
def b_law_pick_d4a1 : WS :=
    (wRet (wBin fIx (wVar 1) (wCall 2 w_law_draw_8923 (wCons (wVar 0) (wCons (wCB fLen (wCons (wVar 1) wNil)) wNil)))))
def w_law_pick_d4a1 : WF := wFun 2 b_law_pick_d4a1
abbrev n_law_names_ef81 : List Str := ["_law_pot_here", "_law_many", "_law_letters", "_law_found", "_law_k", "_law_size", "_law_name", "_law_tries", "_law_time", "_law_letter", "_law_one"]
def b_law_names_ef81_x1 : WS := (wEx (wMt (only .lst fAppend) (wVar 3) (wCons (wBin fIx (wLc .F (wiSeq (wVar 7)) (gN 10) (wB (wBin (fInA true) (wVar 10) (wVar 3))) (wVar 10) [10]) (wC (.int 0))) wNil)))
def b_law_names_ef81_x2 : WS := (wSeq (wAsg (wBin (fAdd .F) (wLst .F (wCons (wVar 6) wNil)) (wLc .F (wiSeq (wVar 2)) (gN 9) wYes (wBin (fAdd .F) (wSl (fSl .F) (wVar 6) wNoP (wPt (wC (.int 7)))) (wVar 9)) [9])) (gN 7)) b_law_names_ef81_x1)
def b_law_names_ef81_x3 : WS := (wSeq (wIfS (wAnd (wB (wBin (fEqD true) (wVar 3) (wLst .F wNil))) (wB (wBin (fEqD false) (wCall 2 w_law_draw_8923 (wCons (wVar 0) (wCons (wC (.int 4)) wNil))) (wC (.int 0))))) (wAsg (wSl (fSl .F) (wBin (fAdd .F) (wBin fIx (wVar 3) (wUn fNeg (wC (.int 1)))) (wVar 6)) wNoP (wPt (wC (.int 8)))) (gN 6)) (fun D S A => D.nx S A)) b_law_names_ef81_x2)
def b_law_names_ef81_x4 : WS := (wSeq (wAsg (wMt (only .str fJoin) (wC (.str "")) (wCons (wLc .F (wiR1 (wCons (wVar 5) wNil)) (gN 8) wYes (wCall 2 w_law_pick_d4a1 (wCons (wVar 0) (wCons (wVar 2) wNil))) [8]) wNil)) (gN 6)) b_law_names_ef81_x3)
def b_law_names_ef81_3 : WS := (wRet (wVar 3))
def b_law_names_ef81_2 : WS := (wSeq (wFor (wiR1 (wCons (wVar 1) wNil)) (gN 4) (wSeq (wAsg (wBin fIx (wLst .F (wCons (wC (.int 1)) (wCons (wC (.int 1)) (wCons (wC (.int 2)) (wCons (wC (.int 8)) wNil))))) (wCall 2 w_law_draw_8923 (wCons (wVar 0) (wCons (wC (.int 4)) wNil)))) (gN 5)) b_law_names_ef81_x4)) b_law_names_ef81_3)
def b_law_names_ef81_1 : WS := (wSeq (wAsg (wLst .M wNil) (gN 3)) b_law_names_ef81_2)
def b_law_names_ef81 : WS :=
    (wSeq (wAsg (wC (.str "abcdefghijklmnopqrstuvwxyz")) (gN 2)) b_law_names_ef81_1)
def w_law_names_ef81 : WF := wFun 11 b_law_names_ef81
abbrev n_law_pot_29d4 : List Str := ["_law_script", "_law_k", "_law_cell"]
def b_law_pot_29d4_1 : WS := (wRet (wLst .M (wCons (wCB fMax (wCons (wC (.int 0)) (wCons (wBin fSub (wVar 2) (wBin fPow (wC (.int 10)) (wC (.int 18)))) wNil))) (wCons (wBin (fAdd .F) (wBin fMod (wBin fPow (wBin (fAdd .F) (wBin (fAdd .F) (wBin fMod (wVar 2) (wC (.int 2147483563))) (wBin (fMul .F) (wBin (fMul .M) (wC (.int 61)) (wVar 1)) (wVar 1))) (wC (.int 17))) (wC (.int 3))) (wC (.int 2147483549))) (wC (.int 1))) wNil))))
def b_law_pot_29d4 : WS :=
    (wSeq (wAsg (wIf (wB (wBin fLt (wVar 1) (wCB fLen (wCons (wVar 0) wNil)))) (wCB fAbs (wCons (wBin fIx (wVar 0) (wVar 1)) wNil)) (wC (.int 0))) (gN 2)) b_law_pot_29d4_1)
def w_law_pot_29d4 : WF := wFun 3 b_law_pot_29d4
abbrev n_law_relink_e5af : List Str := ["_law_pot_here", "_law_most", "_law_path"]
def b_law_relink_e5af_1 : WS := (wRet (wTup (wCons (wVar 2) (wCons (wCall 2 w_law_draw_8923 (wCons (wVar 0) (wCons (wBin fSub (wCB fLen (wCons (wVar 2) wNil)) (wC (.int 1))) wNil))) wNil))))
def b_law_relink_e5af : WS :=
    (wSeq (wAsg (wCB fTupO (wCons (wCall 2 w_law_names_ef81 (wCons (wVar 0) (wCons (wBin (fAdd .F) (wC (.int 3)) (wCall 2 w_law_draw_8923 (wCons (wVar 0) (wCons (wBin fSub (wVar 1) (wC (.int 2))) wNil)))) wNil))) wNil)) (gN 2)) b_law_relink_e5af_1)
def w_law_relink_e5af : WF := wFun 3 b_law_relink_e5af
abbrev n_law_pairs_2081 : List Str := ["_law_pot_here", "_law_names_here", "_law_found", "_law_k", "_law_pair"]
def b_law_pairs_2081_x1 : WS := (wEx (wMt (only .lst fAppend) (wVar 2) (wCons (wBin fIx (wLst .F (wCons (wVar 4) (wCons (wRev .F (wVar 4)) wNil))) (wCall 2 w_law_draw_8923 (wCons (wVar 0) (wCons (wC (.int 2)) wNil)))) wNil)))
def b_law_pairs_2081_2 : WS := (wRet (wVar 2))
def b_law_pairs_2081_1 : WS := (wSeq (wFor (wiR2 (wCons (wC (.int 1)) (wCons (wCB fLen (wCons (wVar 1) wNil)) wNil))) (gN 3) (wSeq (wAsg (wTup (wCons (wBin fIx (wVar 1) (wBin fIx (wLst .F (wCons (wBin fSub (wVar 3) (wC (.int 1))) (wCons (wC (.int 0)) (wCons (wCall 2 w_law_draw_8923 (wCons (wVar 0) (wCons (wVar 3) wNil))) wNil)))) (wCall 2 w_law_draw_8923 (wCons (wVar 0) (wCons (wC (.int 3)) wNil))))) (wCons (wBin fIx (wVar 1) (wVar 3)) wNil))) (gN 4)) b_law_pairs_2081_x1)) b_law_pairs_2081_2)
def b_law_pairs_2081 : WS :=
    (wSeq (wAsg (wLst .M wNil) (gN 2)) b_law_pairs_2081_1)
def w_law_pairs_2081 : WF := wFun 5 b_law_pairs_2081
abbrev n_law_refusal_88d0 : List Str := ["_law_world_here", "_law_event_here", "_law_hosts", "_law_who"]
def b_law_refusal_88d0_8 : WS := (wRet (wC .non))
def b_law_refusal_88d0_7 : WS := (wSeq (wIfS (wAnd (wB (wBin (fEqD false) (wBin fIx (wVar 1) (wC (.int 0))) (wC (.str "remove")))) (wOr (wB (wBin (fEqD true) (wCB fLen (wCons (wBin fIx (wBin fIx (wVar 2) (wVar 3)) (wC (.str "links"))) wNil)) (wC (.int 1)))) (wB (wBin (fEqD false) (wCB fLen (wCons (wVar 2) wNil)) (wC (.int 1)))))) (wRet (wLst .F (wCons (wC (.str "inner")) (wCons (wVar 3) wNil)))) (fun D S A => D.nx S A)) b_law_refusal_88d0_8)
def b_law_refusal_88d0_6 : WS := (wSeq (wIfS (wAnd (wB (wBin (fEqD false) (wBin fIx (wVar 1) (wC (.int 0))) (wC (.str "ask")))) (wB (wBin (fInA true) (wBin fIx (wBin fIx (wVar 1) (wC (.int 1))) (wC (.int 1))) (wBin fIx (wBin fIx (wVar 2) (wVar 3)) (wC (.str "links")))))) (wRet (wLst .F (wCons (wC (.str "unlinked")) (wCons (wTup (wCons (wVar 3) (wCons (wBin fIx (wBin fIx (wVar 1) (wC (.int 1))) (wC (.int 1))) wNil))) wNil)))) (fun D S A => D.nx S A)) b_law_refusal_88d0_7)
def b_law_refusal_88d0_5 : WS := (wSeq (wIfS (wAnd (wB (wBin (fInA false) (wBin fIx (wVar 1) (wC (.int 0))) (wTup (wCons (wC (.str "ask")) (wCons (wC (.str "remove")) wNil))))) (wB (wBin (fIsN true) (wBin fIx (wBin fIx (wVar 2) (wVar 3)) (wC (.str "relink"))) (wC .non)))) (wRet (wLst .F (wCons (wC (.str "busy")) (wCons (wVar 3) wNil)))) (fun D S A => D.nx S A)) b_law_refusal_88d0_6)
def b_law_refusal_88d0_4 : WS := (wSeq (wIfS (wB (wBin (fInA true) (wVar 3) (wVar 2))) (wRet (wLst .F (wCons (wC (.str "unknown")) (wCons (wVar 3) wNil)))) (fun D S A => D.nx S A)) b_law_refusal_88d0_5)
def b_law_refusal_88d0_3 : WS := (wSeq (wAsg (wBin fIx (wDisp .F [((wC (.str "write")), (wBin fIx (wVar 1) (wC (.int 1)))), ((wC (.str "ask")), (wBin fIx (wBin fIx (wVar 1) (wC (.int 1))) (wC (.int 0)))), ((wC (.str "add")), (wBin fIx (wVar 1) (wUn fNeg (wC (.int 1))))), ((wC (.str "remove")), (wBin fIx (wVar 1) (wC (.int 1))))]) (wBin fIx (wVar 1) (wC (.int 0)))) (gN 3)) b_law_refusal_88d0_4)
def b_law_refusal_88d0_2 : WS := (wSeq (wIfS (wAnd (wB (wBin (fEqD false) (wBin fIx (wVar 1) (wC (.int 0))) (wC (.str "add")))) (wB (wBin (fInA false) (wBin fIx (wVar 1) (wC (.int 1))) (wBin fIx (wVar 0) (wC (.str "used")))))) (wRet (wLst .F (wCons (wC (.str "taken")) (wCons (wBin fIx (wVar 1) (wC (.int 1))) wNil)))) (fun D S A => D.nx S A)) b_law_refusal_88d0_3)
def b_law_refusal_88d0_1 : WS := (wSeq (wIfS (wB (wBin (fEqD false) (wBin fIx (wVar 1) (wC (.int 0))) (wC (.str "deliver")))) (wRet (wIf (wB (wBin (fInA false) (wSl (fSl .F) (wVar 1) (wPt (wC (.int 1))) wNoP) (wBin fIx (wVar 0) (wC (.str "flight"))))) (wC .non) (wLst .F (wCons (wC (.str "empty")) (wCons (wSl (fSl .F) (wVar 1) (wPt (wC (.int 1))) wNoP) wNil))))) (fun D S A => D.nx S A)) b_law_refusal_88d0_2)
def b_law_refusal_88d0 : WS :=
    (wSeq (wAsg (wBin fIx (wVar 0) (wC (.str "hosts"))) (gN 2)) b_law_refusal_88d0_1)
def w_law_refusal_88d0 : WF := wFun 4 b_law_refusal_88d0
abbrev n_law_bit_70a2 : List Str := ["_law_own_here", "_law_origin", "_law_aim", "_law_mark", "_law_line", "_law_cut", "_law_index", "_law_carried", "_law_ahead"]
def b_law_bit_70a2_7 : WS := (wRet (wIf (wB (wBin (fInA false) (wVar 2) (wVar 8))) (wVar 7) (wC (.int 0))))
def b_law_bit_70a2_6 : WS := (wSeq (wIfS (wB (wBin fLe (wVar 6) (wVar 5))) (wAsg (wSl (fSl .F) (wVar 4) (wPt (wCB fMax (wCons (wBin fSub (wVar 6) (wC (.int 1))) (wCons (wC (.int 0)) wNil)))) (wPt (wVar 6))) (gN 8)) (fun D S A => D.nx S A)) b_law_bit_70a2_7)
def b_law_bit_70a2_5 : WS := (wSeq (wAsg (wSl (fSl .F) (wVar 4) (wPt (wBin (fAdd .F) (wVar 6) (wC (.int 1)))) (wPt (wBin (fAdd .F) (wVar 6) (wC (.int 2))))) (gN 8)) b_law_bit_70a2_6)
def b_law_bit_70a2_4 : WS := (wSeq (wIfS (wB (wBin (fEqD false) (wCB (fSorted .F) (wCons (wLst .F (wCons (wBin fIx (wVar 0) (wC (.str "name"))) (wCons (wVar 2) wNil))) wNil)) (wCB (fSorted .F) (wCons (wLst .F (wCons (wBin fIx (wVar 4) (wC (.int 0))) (wCons (wBin fIx (wVar 4) (wUn fNeg (wC (.int 1)))) wNil))) wNil)))) (wRet (wBin fIx (wLst .F (wCons (wC .non) (wCons (wC (.int 0)) wNil))) (wVar 7))) (fun D S A => D.nx S A)) b_law_bit_70a2_5)
def b_law_bit_70a2_3 : WS := (wSeq (wAsg (wIf (wB (wBin (fInA false) (wVar 1) (wVar 4))) (wVar 3) (wC (.int 1))) (gN 7)) b_law_bit_70a2_4)
def b_law_bit_70a2_2 : WS := (wSeq (wAsg (wMt (only .tup fTIndex) (wVar 4) (wCons (wBin fIx (wVar 0) (wC (.str "name"))) wNil)) (gN 6)) b_law_bit_70a2_3)
def b_law_bit_70a2_1 : WS := (wSeq (wAsg (wBin fIx (wVar 0) (wC (.str "relink"))) (gT 2 (gCn (gN 4) (gCn (gN 5) gNl)))) b_law_bit_70a2_2)
def b_law_bit_70a2 : WS :=
    (wSeq (wIfS (wOr (wB (wBin (fIsN false) (wBin fIx (wVar 0) (wC (.str "relink"))) (wC .non))) (wB (wBin (fEqD false) (wBin fIx (wVar 0) (wC (.str "phase"))) (wC (.str "reserved"))))) (wRet (wC (.int 0))) (fun D S A => D.nx S A)) b_law_bit_70a2_1)
def w_law_bit_70a2 : WF := wFun 9 b_law_bit_70a2
abbrev n_law_taken_fdb1 : List Str := ["_law_world_here", "_law_pair", "_law_items", "_law_item"]
def b_law_taken_fdb1_3 : WS := (wRet (wVar 3))
def b_law_taken_fdb1_2 : WS := (wSeq (wIfS (wB (wBin (fEqD false) (wVar 2) (wLst .F wNil))) (wEx (wMt (only .lst fPop) (wBin fIx (wVar 0) (wC (.str "flight"))) (wCons (wVar 1) wNil))) (fun D S A => D.nx S A)) b_law_taken_fdb1_3)
def b_law_taken_fdb1_1 : WS := (wSeq (wAsg (wMt (only .lst fPop) (wVar 2) (wCons (wC (.int 0)) wNil)) (gN 3)) b_law_taken_fdb1_2)
def b_law_taken_fdb1 : WS :=
    (wSeq (wAsg (wBin fIx (wBin fIx (wVar 0) (wC (.str "flight"))) (wVar 1)) (gN 2)) b_law_taken_fdb1_1)
def w_law_taken_fdb1 : WF := wFun 4 b_law_taken_fdb1
abbrev n_law_unlinked_6282 : List Str := ["_law_world_here", "_law_who", "_law_aim", "_law_own_here", "_law_one"]
def b_law_unlinked_6282_1 : WS := (wAsg (wLc .F (wiSeq (wBin fIx (wVar 3) (wC (.str "links")))) (gN 4) (wB (wBin (fEqD true) (wVar 4) (wVar 2))) (wVar 4) [4]) (gS fSet (wVar 3) (wC (.str "links"))))
def b_law_unlinked_6282 : WS :=
    (wSeq (wAsg (wBin fIx (wBin fIx (wVar 0) (wC (.str "hosts"))) (wVar 1)) (gN 3)) b_law_unlinked_6282_1)
def w_law_unlinked_6282 : WF := wFun 5 b_law_unlinked_6282
abbrev n_law_walk_9a0b : List Str := ["_law_pot_here", "_law_world_here", "_law_hosts", "_law_line", "_law_turn", "_law_ends", "_law_near", "_law_far", "_law_one"]
def b_law_walk_9a0b_x1 : WS := (wIfS (wB (wBin (fEqD true) (wVar 6) (wLst .F wNil))) (wEx (wMt (only .lst fAppend) (wVar 3) (wCons (wCall 2 w_law_pick_d4a1 (wCons (wVar 0) (wCons (wVar 6) wNil))) wNil))) (fun D S A => D.nx S A))
def b_law_walk_9a0b_x2 : WS := (wSeq (wAsg (wLc .F (wiSeq (wVar 5)) (gN 8) (wAnd (wB (wBin (fInA true) (wVar 8) (wVar 3))) (wB (wBin (fInA false) (wVar 8) (wVar 2)))) (wVar 8) [8]) (gN 6)) b_law_walk_9a0b_x1)
def b_law_walk_9a0b_5 : WS := (wRet (wCB fTupO (wCons (wVar 3) wNil)))
def b_law_walk_9a0b_4 : WS := (wSeq (wIfS (wAnd (wB (wBin (fEqD true) (wVar 7) (wLst .F wNil))) (wOr (wB (wBin fLt (wCB fLen (wCons (wVar 3) wNil)) (wC (.int 3)))) (wB (wBin (fEqD false) (wCall 2 w_law_draw_8923 (wCons (wVar 0) (wCons (wC (.int 8)) wNil))) (wC (.int 0)))))) (wEx (wMt (only .lst fAppend) (wVar 3) (wCons (wCall 2 w_law_pick_d4a1 (wCons (wVar 0) (wCons (wVar 7) wNil))) wNil))) (fun D S A => D.nx S A)) b_law_walk_9a0b_5)
def b_law_walk_9a0b_3 : WS := (wSeq (wAsg (wLc .F (wiSeq (wVar 2)) (gN 8) (wB (wBin (fInA true) (wVar 8) (wVar 3))) (wVar 8) [8]) (gN 7)) b_law_walk_9a0b_4)
def b_law_walk_9a0b_2 : WS := (wSeq (wFor (wiR1 (wCons (wBin (fAdd .F) (wC (.int 2)) (wCall 2 w_law_draw_8923 (wCons (wVar 0) (wCons (wC (.int 4)) wNil)))) wNil)) (gN 4) (wSeq (wAsg (wBin fIx (wBin fIx (wBin fIx (wVar 1) (wC (.str "hosts"))) (wBin fIx (wVar 3) (wUn fNeg (wC (.int 1))))) (wC (.str "links"))) (gN 5)) b_law_walk_9a0b_x2)) b_law_walk_9a0b_3)
def b_law_walk_9a0b_1 : WS := (wSeq (wAsg (wLst .M (wCons (wCall 2 w_law_pick_d4a1 (wCons (wVar 0) (wCons (wVar 2) wNil))) wNil)) (gN 3)) b_law_walk_9a0b_2)
def b_law_walk_9a0b : WS :=
    (wSeq (wAsg (wCB (fSorted .F) (wCons (wBin fIx (wVar 1) (wC (.str "hosts"))) wNil)) (gN 2)) b_law_walk_9a0b_1)
def w_law_walk_9a0b : WF := wFun 9 b_law_walk_9a0b
abbrev n_law_walk_d73f : List Str := ["_law_pot_here", "_law_world", "_law_hosts", "_law_line", "_law_turn", "_law_ends", "_law_near", "_law_far", "_law_one"]
def b_law_walk_d73f_x1 : WS := (wIfS (wB (wBin (fEqD true) (wVar 6) (wLst .F wNil))) (wEx (wMt (only .lst fAppend) (wVar 3) (wCons (wCall 2 w_law_pick_d4a1 (wCons (wVar 0) (wCons (wVar 6) wNil))) wNil))) (fun D S A => D.nx S A))
def b_law_walk_d73f_x2 : WS := (wSeq (wAsg (wLc .F (wiSeq (wVar 5)) (gN 8) (wAnd (wB (wBin (fInA true) (wVar 8) (wVar 3))) (wB (wBin (fInA false) (wVar 8) (wVar 2)))) (wVar 8) [8]) (gN 6)) b_law_walk_d73f_x1)
def b_law_walk_d73f_5 : WS := (wRet (wCB fTupO (wCons (wVar 3) wNil)))
def b_law_walk_d73f_4 : WS := (wSeq (wIfS (wAnd (wB (wBin (fEqD true) (wVar 7) (wLst .F wNil))) (wOr (wB (wBin fLt (wCB fLen (wCons (wVar 3) wNil)) (wC (.int 3)))) (wB (wBin (fEqD false) (wCall 2 w_law_draw_8923 (wCons (wVar 0) (wCons (wC (.int 8)) wNil))) (wC (.int 0)))))) (wEx (wMt (only .lst fAppend) (wVar 3) (wCons (wCall 2 w_law_pick_d4a1 (wCons (wVar 0) (wCons (wVar 7) wNil))) wNil))) (fun D S A => D.nx S A)) b_law_walk_d73f_5)
def b_law_walk_d73f_3 : WS := (wSeq (wAsg (wLc .F (wiSeq (wVar 2)) (gN 8) (wB (wBin (fInA true) (wVar 8) (wVar 3))) (wVar 8) [8]) (gN 7)) b_law_walk_d73f_4)
def b_law_walk_d73f_2 : WS := (wSeq (wFor (wiR1 (wCons (wBin (fAdd .F) (wC (.int 2)) (wCall 2 w_law_draw_8923 (wCons (wVar 0) (wCons (wC (.int 4)) wNil)))) wNil)) (gN 4) (wSeq (wAsg (wBin fIx (wBin fIx (wBin fIx (wVar 1) (wC (.str "hosts"))) (wBin fIx (wVar 3) (wUn fNeg (wC (.int 1))))) (wC (.str "links"))) (gN 5)) b_law_walk_d73f_x2)) b_law_walk_d73f_3)
def b_law_walk_d73f_1 : WS := (wSeq (wAsg (wLst .M (wCons (wCall 2 w_law_pick_d4a1 (wCons (wVar 0) (wCons (wVar 2) wNil))) wNil)) (gN 3)) b_law_walk_d73f_2)
def b_law_walk_d73f : WS :=
    (wSeq (wAsg (wCB (fSorted .F) (wCons (wBin fIx (wVar 1) (wC (.str "hosts"))) wNil)) (gN 2)) b_law_walk_d73f_1)
def w_law_walk_d73f : WF := wFun 9 b_law_walk_d73f
abbrev n_law_event_c922 : List Str := ["_law_pot_here", "_law_world", "_law_spare", "_law_hosts", "_law_busy", "_law_way", "_law_line", "_law_ends", "_law_names_here", "_law_pair", "_law_word", "_law_some", "_law_written", "_law_one", "_law_event_here"]
def b_law_event_c922_x1 : WS := (wIfS (wB (wBin fGt (wCB fLen (wCons (wVar 6) wNil)) (wC (.int 2)))) (wRet (wTup (wCons (wC (.str "ask")) (wCons (wVar 6) (wCons (wCall 2 w_law_draw_8923 (wCons (wVar 0) (wCons (wBin fSub (wCB fLen (wCons (wVar 6) wNil)) (wC (.int 1))) wNil))) wNil))))) (fun D S A => D.nx S A))
def b_law_event_c922_x2 : WS := (wRet (wTup (wCons (wC (.str "remove")) (wCons (wCall 2 w_law_pick_d4a1 (wCons (wVar 0) (wCons (wBin (fAdd .F) (wVar 7) (wSl (fSl .F) (wVar 3) wNoP (wPt (wC (.int 1))))) wNil))) wNil))))
def b_law_event_c922_x3 : WS := (wRet (wCall 2 w_law_pick_d4a1 (wCons (wVar 0) (wCons (wVar 11) wNil))))
def b_law_event_c922_x4 : WS := (wSeq (wAsg (wLst .F (wCons (wBin (fAdd .F) (wTup (wCons (wC (.str "deliver")) wNil)) (wVar 9)) (wCons (wTup (wCons (wC (.str "write")) (wCons (wBin fIx (wVar 9) (wC (.int 0))) (wCons (wVar 10) wNil)))) (wCons (wTup (wCons (wC (.str "add")) (wCons (wBin fIx (wVar 9) (wC (.int 0))) (wCons (wBin fIx (wVar 9) (wC (.int 1))) wNil)))) (wCons (wTup (wCons (wC (.str "remove")) (wCons (wBin fIx (wVar 9) (wC (.int 0))) wNil))) wNil))))) (gN 11)) b_law_event_c922_x3)
def b_law_event_c922_x5 : WS := (wSeq (wAsg (wBin (fAdd .F) (wC (.str "w")) (wCB fStr (wCons (wCB fLen (wCons (wBin fIx (wVar 1) (wC (.str "done"))) wNil)) wNil))) (gN 10)) b_law_event_c922_x4)
def b_law_event_c922_x6 : WS := (wSeq (wAsg (wTup (wCons (wCall 2 w_law_pick_d4a1 (wCons (wVar 0) (wCons (wVar 8) wNil))) (wCons (wCall 2 w_law_pick_d4a1 (wCons (wVar 0) (wCons (wVar 8) wNil))) wNil))) (gN 9)) b_law_event_c922_x5)
def b_law_event_c922_9 : WS := (wRet (wTup (wCons (wC (.str "write")) (wCons (wCall 2 w_law_pick_d4a1 (wCons (wVar 0) (wCons (wVar 3) wNil))) (wCons (wBin (fAdd .F) (wC (.str "w")) (wCB fStr (wCons (wCB fLen (wCons (wBin fIx (wVar 1) (wC (.str "done"))) wNil)) wNil))) wNil)))))
def b_law_event_c922_8 : WS := (wSeq (wIfS (wAnd (wB (wBin fGt (wCB fLen (wCons (wVar 12) wNil)) (wC (.int 13)))) (wB (wBin (fEqD true) (wVar 4) (wLst .F wNil)))) (wRet (wBin (fAdd .F) (wTup (wCons (wC (.str "deliver")) wNil)) (wCall 2 w_law_pick_d4a1 (wCons (wVar 0) (wCons (wVar 4) wNil))))) (fun D S A => D.nx S A)) b_law_event_c922_9)
def b_law_event_c922_7 : WS := (wSeq (wAsg (wLc .F (wiSeq (wBin fIx (wVar 1) (wC (.str "done")))) (gN 14) (wB (wBin (fEqD false) (wBin fIx (wVar 14) (wC (.int 0))) (wC (.str "write")))) (wVar 14) [14]) (gN 12)) b_law_event_c922_8)
def b_law_event_c922_6 : WS := (wSeq (wIfS (wAnd (wB (wBin (fEqD false) (wVar 5) (wC (.int 10)))) (wB (wBin (fEqD false) (wCall 2 w_law_draw_8923 (wCons (wVar 0) (wCons (wC (.int 2)) wNil))) (wC (.int 0))))) (wSeq (wAsg (wBin (fAdd .F) (wBin fIx (wVar 1) (wC (.str "used"))) (wLst .F (wCons (wC (.str "nobodyx")) wNil))) (gN 8)) b_law_event_c922_x6) (fun D S A => D.nx S A)) b_law_event_c922_7)
def b_law_event_c922_5 : WS := (wSeq (wIfS (wB (wBin (fEqD false) (wVar 5) (wC (.int 9)))) (wSeq (wAsg (wLc .F (wiSeq (wVar 3)) (gN 13) (wB (wBin (fEqD false) (wCB fLen (wCons (wBin fIx (wBin fIx (wBin fIx (wVar 1) (wC (.str "hosts"))) (wVar 13)) (wC (.str "links"))) wNil)) (wC (.int 1)))) (wVar 13) [13]) (gN 7)) b_law_event_c922_x2) (fun D S A => D.nx S A)) b_law_event_c922_6)
def b_law_event_c922_4 : WS := (wSeq (wIfS (wAnd (wB (wBin (fEqD false) (wVar 5) (wC (.int 8)))) (wAnd (wB (wBin (fEqD true) (wVar 2) (wLst .F wNil))) (wB (wBin fLt (wCB fLen (wCons (wVar 3) wNil)) (wC (.int 9)))))) (wRet (wTup (wCons (wC (.str "add")) (wCons (wMt (only .lst fPop) (wVar 2) (wCons (wC (.int 0)) wNil)) (wCons (wCall 2 w_law_pick_d4a1 (wCons (wVar 0) (wCons (wVar 3) wNil))) wNil))))) (fun D S A => D.nx S A)) b_law_event_c922_5)
def b_law_event_c922_3 : WS := (wSeq (wIfS (wB (wBin (fInA false) (wVar 5) (wTup (wCons (wC (.int 5)) (wCons (wC (.int 6)) (wCons (wC (.int 7)) wNil)))))) (wSeq (wAsg (wCall 2 w_law_walk_d73f (wCons (wVar 0) (wCons (wVar 1) wNil))) (gN 6)) b_law_event_c922_x1) (fun D S A => D.nx S A)) b_law_event_c922_4)
def b_law_event_c922_2 : WS := (wSeq (wIfS (wAnd (wB (wBin fLt (wVar 5) (wC (.int 5)))) (wB (wBin (fEqD true) (wVar 4) (wLst .F wNil)))) (wRet (wBin (fAdd .F) (wTup (wCons (wC (.str "deliver")) wNil)) (wCall 2 w_law_pick_d4a1 (wCons (wVar 0) (wCons (wVar 4) wNil))))) (fun D S A => D.nx S A)) b_law_event_c922_3)
def b_law_event_c922_1 : WS := (wSeq (wAsg (wCall 2 w_law_draw_8923 (wCons (wVar 0) (wCons (wC (.int 12)) wNil))) (gN 5)) b_law_event_c922_2)
def b_law_event_c922 : WS :=
    (wSeq (wPar 3 4 (wCons (wCB (fSorted .F) (wCons (wBin fIx (wVar 1) (wC (.str "hosts"))) wNil)) (wCons (wCB (fSorted .F) (wCons (wBin fIx (wVar 1) (wC (.str "flight"))) wNil)) wNil))) b_law_event_c922_1)
def w_law_event_c922 : WF := wFun 15 b_law_event_c922
abbrev n_law_event_a3fd : List Str := ["_law_pot_here", "_law_world", "_law_spare", "_law_hosts", "_law_busy", "_law_way", "_law_line", "_law_ends", "_law_names_here", "_law_pair", "_law_word", "_law_some", "_law_written", "_law_one", "_law_event_here"]
def b_law_event_a3fd_x1 : WS := (wIfS (wB (wBin fGt (wCB fLen (wCons (wVar 6) wNil)) (wC (.int 2)))) (wRet (wTup (wCons (wC (.str "ask")) (wCons (wVar 6) (wCons (wCall 2 w_law_draw_8923 (wCons (wVar 0) (wCons (wBin fSub (wCB fLen (wCons (wVar 6) wNil)) (wC (.int 1))) wNil))) wNil))))) (fun D S A => D.nx S A))
def b_law_event_a3fd_x2 : WS := (wRet (wTup (wCons (wC (.str "remove")) (wCons (wCall 2 w_law_pick_d4a1 (wCons (wVar 0) (wCons (wBin (fAdd .F) (wVar 7) (wSl (fSl .F) (wVar 3) wNoP (wPt (wC (.int 1))))) wNil))) wNil))))
def b_law_event_a3fd_x3 : WS := (wRet (wCall 2 w_law_pick_d4a1 (wCons (wVar 0) (wCons (wVar 11) wNil))))
def b_law_event_a3fd_x4 : WS := (wSeq (wAsg (wLst .F (wCons (wBin (fAdd .F) (wTup (wCons (wC (.str "deliver")) wNil)) (wVar 9)) (wCons (wTup (wCons (wC (.str "write")) (wCons (wBin fIx (wVar 9) (wC (.int 0))) (wCons (wVar 10) wNil)))) (wCons (wTup (wCons (wC (.str "add")) (wCons (wBin fIx (wVar 9) (wC (.int 0))) (wCons (wBin fIx (wVar 9) (wC (.int 1))) wNil)))) (wCons (wTup (wCons (wC (.str "remove")) (wCons (wBin fIx (wVar 9) (wC (.int 0))) wNil))) wNil))))) (gN 11)) b_law_event_a3fd_x3)
def b_law_event_a3fd_x5 : WS := (wSeq (wAsg (wBin (fAdd .F) (wC (.str "w")) (wCB fStr (wCons (wCB fLen (wCons (wBin fIx (wVar 1) (wC (.str "done"))) wNil)) wNil))) (gN 10)) b_law_event_a3fd_x4)
def b_law_event_a3fd_x6 : WS := (wSeq (wAsg (wTup (wCons (wCall 2 w_law_pick_d4a1 (wCons (wVar 0) (wCons (wVar 8) wNil))) (wCons (wCall 2 w_law_pick_d4a1 (wCons (wVar 0) (wCons (wVar 8) wNil))) wNil))) (gN 9)) b_law_event_a3fd_x5)
def b_law_event_a3fd_10 : WS := (wRet (wTup (wCons (wC (.str "write")) (wCons (wCall 2 w_law_pick_d4a1 (wCons (wVar 0) (wCons (wVar 3) wNil))) (wCons (wVar 10) wNil)))))
def b_law_event_a3fd_9 : WS := (wSeq (wAsg (wBin fIx (wLst .F (wCons (wC (.str "same")) (wCons (wBin (fAdd .F) (wC (.str "w")) (wCB fStr (wCons (wCB fLen (wCons (wBin fIx (wVar 1) (wC (.str "done"))) wNil)) wNil))) wNil))) (wCB fMin (wCons (wC (.int 1)) (wCons (wCall 2 w_law_draw_8923 (wCons (wVar 0) (wCons (wC (.int 3)) wNil))) wNil)))) (gN 10)) b_law_event_a3fd_10)
def b_law_event_a3fd_8 : WS := (wSeq (wIfS (wAnd (wB (wBin fGt (wCB fLen (wCons (wVar 12) wNil)) (wC (.int 13)))) (wB (wBin (fEqD true) (wVar 4) (wLst .F wNil)))) (wRet (wBin (fAdd .F) (wTup (wCons (wC (.str "deliver")) wNil)) (wCall 2 w_law_pick_d4a1 (wCons (wVar 0) (wCons (wVar 4) wNil))))) (fun D S A => D.nx S A)) b_law_event_a3fd_9)
def b_law_event_a3fd_7 : WS := (wSeq (wAsg (wLc .F (wiSeq (wBin fIx (wVar 1) (wC (.str "done")))) (gN 14) (wB (wBin (fEqD false) (wBin fIx (wVar 14) (wC (.int 0))) (wC (.str "write")))) (wVar 14) [14]) (gN 12)) b_law_event_a3fd_8)
def b_law_event_a3fd_6 : WS := (wSeq (wIfS (wAnd (wB (wBin (fEqD false) (wVar 5) (wC (.int 10)))) (wB (wBin (fEqD false) (wCall 2 w_law_draw_8923 (wCons (wVar 0) (wCons (wC (.int 2)) wNil))) (wC (.int 0))))) (wSeq (wAsg (wBin (fAdd .F) (wBin fIx (wVar 1) (wC (.str "used"))) (wLst .F (wCons (wC (.str "nobodyx")) wNil))) (gN 8)) b_law_event_a3fd_x6) (fun D S A => D.nx S A)) b_law_event_a3fd_7)
def b_law_event_a3fd_5 : WS := (wSeq (wIfS (wB (wBin (fEqD false) (wVar 5) (wC (.int 9)))) (wSeq (wAsg (wLc .F (wiSeq (wVar 3)) (gN 13) (wB (wBin (fEqD false) (wCB fLen (wCons (wBin fIx (wBin fIx (wBin fIx (wVar 1) (wC (.str "hosts"))) (wVar 13)) (wC (.str "links"))) wNil)) (wC (.int 1)))) (wVar 13) [13]) (gN 7)) b_law_event_a3fd_x2) (fun D S A => D.nx S A)) b_law_event_a3fd_6)
def b_law_event_a3fd_4 : WS := (wSeq (wIfS (wAnd (wB (wBin (fEqD false) (wVar 5) (wC (.int 8)))) (wAnd (wB (wBin (fEqD true) (wVar 2) (wLst .F wNil))) (wB (wBin fLt (wCB fLen (wCons (wVar 3) wNil)) (wC (.int 9)))))) (wRet (wTup (wCons (wC (.str "add")) (wCons (wMt (only .lst fPop) (wVar 2) (wCons (wC (.int 0)) wNil)) (wCons (wCall 2 w_law_pick_d4a1 (wCons (wVar 0) (wCons (wVar 3) wNil))) wNil))))) (fun D S A => D.nx S A)) b_law_event_a3fd_5)
def b_law_event_a3fd_3 : WS := (wSeq (wIfS (wB (wBin (fInA false) (wVar 5) (wTup (wCons (wC (.int 5)) (wCons (wC (.int 6)) (wCons (wC (.int 7)) wNil)))))) (wSeq (wAsg (wCall 2 w_law_walk_d73f (wCons (wVar 0) (wCons (wVar 1) wNil))) (gN 6)) b_law_event_a3fd_x1) (fun D S A => D.nx S A)) b_law_event_a3fd_4)
def b_law_event_a3fd_2 : WS := (wSeq (wIfS (wAnd (wB (wBin fLt (wVar 5) (wC (.int 5)))) (wB (wBin (fEqD true) (wVar 4) (wLst .F wNil)))) (wRet (wBin (fAdd .F) (wTup (wCons (wC (.str "deliver")) wNil)) (wCall 2 w_law_pick_d4a1 (wCons (wVar 0) (wCons (wVar 4) wNil))))) (fun D S A => D.nx S A)) b_law_event_a3fd_3)
def b_law_event_a3fd_1 : WS := (wSeq (wAsg (wCall 2 w_law_draw_8923 (wCons (wVar 0) (wCons (wC (.int 12)) wNil))) (gN 5)) b_law_event_a3fd_2)
def b_law_event_a3fd : WS :=
    (wSeq (wPar 3 4 (wCons (wCB (fSorted .F) (wCons (wBin fIx (wVar 1) (wC (.str "hosts"))) wNil)) (wCons (wCB (fSorted .F) (wCons (wBin fIx (wVar 1) (wC (.str "flight"))) wNil)) wNil))) b_law_event_a3fd_1)
def w_law_event_a3fd : WF := wFun 15 b_law_event_a3fd
end Hl

set_option Elab.async false
set_option linter.all false
set_option maxRecDepth 100000
set_option maxHeartbeats 400000
/-! The draws of the laws k31 to k36 and k50 to k59: what they give. -/
namespace Hl
open PySem PySem.Spec PyProof.Rows L2 Rk Pg Dw
variable {A : Ah} {Q : QE} {E : EX}
theorem c_draw3 {g : Addr} {n : Int} (h : isG A g) (hn : 0 < n) (hn2 : n < 1073741824) (hq : ∀ r A', 0 ≤ r → r < n → Of A g A' → Q (.int r) A') : w_law_draw_8923 [.ref g, .int n] A Q E := by
  have O := Of.refl h
  obtain ⟨x, y, hx, hy, hA⟩ := h
  rw [w_law_draw_8923, wFun_dx]
  have i0 : ∀ x y : Int, atI [Vl.int x, Vl.int y] 0 = some (.int x) := fun _ _ => rfl
  have i1 : ∀ x y : Int, atI [Vl.int x, Vl.int y] 1 = some (.int y) := fun _ _ => rfl
  have n0 : ixN 2 0 = some 0 := rfl
  have n1 : ixN 2 1 = some 1 := rfl
  have hp : ∀ o, put A g o g = some o := fun o => put_same
  simp [b_law_draw_8923, b_law_draw_8923_x1, b_law_draw_8923_1, b_law_draw_8923_2, lstA_eq hA, lstA_eq (hp _), i0, i1, n0, n1]
  split
  · exact ⟨⟨hn, hn2⟩, _, .refl, hq _ _ (Int.emod_nonneg _ (by omega)) (Int.emod_lt_of_pos _ hn) (O.drawn (Int.ediv_nonneg hx (by omega)) hy)⟩
  · refine ⟨cMul_r, cMul_l (by omega) (by omega), ⟨by decide, by decide⟩, hn, _, .refl, hq _ _ (Int.emod_nonneg _ (by omega)) (Int.emod_lt_of_pos _ hn) (O.drawn hx (by omega))⟩
theorem c_pot3 {k : Int} {ns : List Int} (hl : ns.length ≤ 63) (hk : 0 ≤ k) (hk2 : k ≤ 100) (hq : ∀ p A', A p = none → Of A' p A' → (∀ a, a ≠ p → A' a = A a) → Q (.ref p) A') : w_law_pot_29d4 [.lst (ns.map .int), .int k] A Q E := by
  rw [w_law_pot_29d4, wFun_dx]
  have fin : ∀ m : Int, 0 ≤ m → b_law_pot_29d4_1 (Dx Q E) [some (.lst (ns.map .int)), some (.int k), some (.int m)] A := by
    intro m hm
    have kk : 0 ≤ 61 * k * k := Int.mul_nonneg (by omega) hk
    have kk2 : 61 * k * k ≤ 610000 := by
      have := Int.mul_le_mul (a := 61 * k) (b := k) (c := 6100) (d := 100) (by omega) hk2 hk (by omega)
      omega
    simp [b_law_pot_29d4_1]
    have hb : 0 ≤ m % 2147483563 + 61 * k * k + 17 := by omega
    have hp : 0 ≤ (m % 2147483563 + 61 * k * k + 17) ^ 3 % 2147483549 := Int.emod_nonneg _ (by omega)
    refine ⟨cPow18, cMul_l, cMul_l, ⟨by decide, by decide, by omega⟩, fun p hpn => ⟨_, .refl, hq _ _ hpn (.refl ⟨_, _, ?_, ?_, put_same⟩) fun a ha => put_ne ha⟩⟩
    · split <;> omega
    · omega
  simp [b_law_pot_29d4]
  split
  · rename_i h
    obtain ⟨z, hz, _⟩ := atI_map (f := Vl.int) hk h
    refine ⟨_, hz, ?_⟩
    simp
    exact fin _ (by split <;> omega)
  · exact fin _ (by omega)
theorem c_pickS3 {g : Addr} {s : Str} (h : isG A g) (hs : 0 < s.length) (hs2 : s.length < 10000) (hq : ∀ c A', c ∈ s.cps.toList → Of A g A' → Q (.str ⟨#[c]⟩) A') : w_law_pick_d4a1 [.ref g, .str s] A Q E := by
  rw [w_law_pick_d4a1, wFun_dx]
  simp [b_law_pick_d4a1]
  refine c_draw3 h (by omega) (by omega) fun r A' h0 h1 O => ?_
  have h2 : r < s.cps.toList.length := by simpa [Str.length] using h1
  simp
  exact ⟨_, atI_lo h0 h2, _, .refl, hq _ _ (List.getElem_mem _) O⟩
theorem c_pickL3 {g : Addr} {xs : List Vl} (h : isG A g) (hs : 0 < xs.length) (hs2 : xs.length < 10000) (hq : ∀ z A', z ∈ xs → Of A g A' → Q z A') : w_law_pick_d4a1 [.ref g, .lst xs] A Q E := by
  rw [w_law_pick_d4a1, wFun_dx]
  simp [b_law_pick_d4a1]
  refine c_draw3 h (by omega) (by omega) fun r A' h0 h1 O => ?_
  simp
  exact ⟨_, atI_lo h0 h1, _, .refl, hq _ _ (List.getElem_mem _) O⟩
theorem c_pickT3 {g : Addr} {xs : List Vl} (h : isG A g) (hs : 0 < xs.length) (hs2 : xs.length < 10000) (hq : ∀ z A', z ∈ xs → Of A g A' → Q z A') : w_law_pick_d4a1 [.ref g, .tup xs] A Q E := by
  rw [w_law_pick_d4a1, wFun_dx]
  simp [b_law_pick_d4a1]
  refine c_draw3 h (by omega) (by omega) fun r A' h0 h1 O => ?_
  simp
  exact ⟨_, atI_lo h0 h1, _, .refl, hq _ _ (List.getElem_mem _) O⟩
/-! names -/
abbrev LE : Vl := .str "abcdefghijklmnopqrstuvwxyz"
theorem names_x1 {g p : Addr} {D : Es} {ps : List Str} {ts : List (List Nat)} {s1 s2 s4 s5 s6 s8 s9 s10 : Option Vl} (e : A p = some (.lst (ps.map .str)))
    (hn : ∃ t ∈ ts, ofC t ∉ ps) (few : ts.length ≤ 100) (pfew : ps.length ≤ 100)
    (hN : ∀ t z, t ∈ ts → ofC t ∉ ps → D.nx [some (.ref g), s1, s2, some (.ref p), s4, s5, s6, some (.lst (ts.map fun t => .str (ofC t))), s8, s9, z] (put A p (.lst ((ps ++ [ofC t]).map .str)))) :
    b_law_names_ef81_x1 D [some (.ref g), s1, s2, some (.ref p), s4, s5, s6, some (.lst (ts.map fun t => .str (ofC t))), s8, s9, s10] A := by
  simp [b_law_names_ef81_x1]
  refine ⟨.lst, kdM_l e, fAppend, rfl, ?_⟩
  refine lcP_filter (fun x => !inL x (ps.map .str)) id (by simp; show ts.length < 16777216; omega) trivial ?_ ?_
  · intro x hx K1 K2 k1 k2
    simp at hx
    obtain ⟨t, ht, rfl⟩ := hx
    simp [wipeA, lstA_eq e, flat_map]
    refine ⟨rfl, ?_⟩
    cases hi : inL (.str (ofC t)) (ps.map .str)
    · simp [flatL]; exact k1 (by simp [hi])
    · simp [flatL]; exact k2 (by simp [hi])
  · obtain ⟨t, ht, hn⟩ := hn
    have hm : (Vl.str (ofC t)) ∈ ((ts.map fun t => Vl.str (ofC t)).filter fun x => !inL x (ps.map .str)).map id := by
      simp; exact ⟨⟨t, ht, rfl⟩, by rw [inL_map]; simp [hn]⟩
    simp
    generalize hxs : (((ts.map fun t => Vl.str (ofC t)).filter fun x => !inL x (ps.map .str)).map id) = xs at hm
    simp at hxs
    rw [hxs]
    cases xs with
    | nil => cases hm
    | cons z zs =>
      have hz : z ∈ ((ts.map fun t => Vl.str (ofC t)).filter fun x => !inL x (ps.map .str)) := by
        rw [hxs]; exact List.mem_cons_self
      simp at hz
      obtain ⟨⟨t', ht', rfl⟩, hz2⟩ := hz
      rw [inL_map] at hz2
      refine ⟨_, at_zero, kdM_l e, p, _, rfl, rfl, ?_⟩
      rw [lstA_eq e]
      refine ⟨by simp; show ps.length < 16777216; omega, ?_⟩
      simpa [wipeA] using hN t' s10 ht' (by simpa using hz2)
theorem names_x2 {g p : Addr} {D : Es} {ps : List Str} {cs : List Nat} {s1 s4 s5 s7 s8 s9 s10 : Option Vl} (e : A p = some (.lst (ps.map .str)))
    (h1 : 1 ≤ cs.length) (h2 : cs.length ≤ 8) (hl : ∀ c ∈ cs, letter c) (pfew : ps.length ≤ 20)
    (hN : ∀ t u v w, hostOk (ofC t) → ofC t ∉ ps → D.nx [some (.ref g), s1, some LE, some (.ref p), s4, s5, some (.str (ofC cs)), u, s8, v, w] (put A p (.lst ((ps ++ [ofC t]).map .str)))) :
    b_law_names_ef81_x2 D [some (.ref g), s1, some LE, some (.ref p), s4, s5, some (.str (ofC cs)), s7, s8, s9, s10] A := by
  simp [b_law_names_ef81_x2]
  rw [signs_le]
  refine lcP_map (fun x => .str (ofC (cs.take 7 ++ [cod x]))) (by simp) trivial ?_ ?_
  · intro x hx K1 hk
    obtain ⟨c, hc, rfl⟩ := List.mem_map.mp hx
    simp [wipeA]
    rw [show (7 : Int) = ((7 : Nat) : Int) from rfl, cutS_ofC, ofC_app]
    refine ⟨?_, hk⟩
    have l1 : (⟨#[c]⟩ : Str).length = 1 := rfl
    rw [ofC_len, l1]
    simp; omega
  simp
  have el : (Vl.str (ofC cs)) :: List.map (fun x => Vl.str (ofC (cs.take 7 ++ [cod x]))) ((List.range' 97 26).map fun c => Vl.str ⟨#[c]⟩) = (tries cs).map fun t => Vl.str (ofC t) := by
    simp [tries, cod]
  simp at el
  rw [el]
  refine names_x1 e (tries_new ps (by omega)) (by simp [tries]) (by omega) fun t z ht hnt => ?_
  obtain ⟨t1, t2, t3⟩ := tries_ok h1 h2 hl t ht
  exact hN t _ _ z (ofC_host t1 t2 t3) hnt
theorem names_x3 {g p : Addr} {D : Es} {ps : List Str} {cs : List Nat} {s1 s4 s5 s7 s8 s9 s10 : Option Vl} (G : isG A g) (gp : p ≠ g) (e : A p = some (.lst (ps.map .str)))
    (h1 : 1 ≤ cs.length) (h2 : cs.length ≤ 8) (hl : ∀ c ∈ cs, letter c) (pfew : ps.length ≤ 20) (hok : ∀ z ∈ ps, hostOk z)
    (hN : ∀ A' t u v w x, hostOk (ofC t) → ofC t ∉ ps → Of A g A' → D.nx [some (.ref g), s1, some LE, some (.ref p), s4, s5, x, u, s8, v, w] (put A' p (.lst ((ps ++ [ofC t]).map .str)))) :
    b_law_names_ef81_x3 D [some (.ref g), s1, some LE, some (.ref p), s4, s5, some (.str (ofC cs)), s7, s8, s9, s10] A := by
  simp [b_law_names_ef81_x3]
  refine eq_nil e ?_
  cases ps with
  | nil =>
    simp
    exact names_x2 e h1 h2 hl pfew fun t u v w a b => hN A t u v w _ a b (.refl G)
  | cons p0 ps =>
    simp
    refine c_draw3 G (by decide) (by decide) fun r A2 h0 h3 O2 => ?_
    have e2 := O2.at gp e
    refine eqD_flat rfl rfl ?_
    cases hr : (false != eqL (.int r) (.int 0)) with
    | false =>
      simp [hr]
      exact names_x2 e2 h1 h2 hl pfew fun t u v w a b => hN A2 t u v w _ a b O2
    | true =>
      simp [hr]
      rw [lstA_eq e2]
      obtain ⟨l, hl1, hl2⟩ := last_of (ps := p0 :: ps) (by simp)
      obtain ⟨ds, rfl, d1, d2, d3⟩ := host_ofC (hok l hl1)
      refine ⟨_, hl2, ?_⟩
      simp
      refine ⟨by rw [ofC_len, ofC_len]; omega, ?_⟩
      rw [ofC_app2, show (8 : Int) = ((8 : Nat) : Int) from rfl, cutS_ofC]
      refine names_x2 e2 (by simp; omega) (by simp; omega) (fun c hc => ?_) pfew fun t u v w a b => hN A2 t u v w _ a b O2
      rcases List.mem_append.mp (List.mem_of_mem_take hc) with h | h
      · exact d3 c h
      · exact hl c h
theorem names_x4 {g p : Addr} {D : Es} {ps : List Str} {m : Nat} {s1 s4 s6 s7 s8 s9 s10 : Option Vl} (G : isG A g) (gp : p ≠ g) (e : A p = some (.lst (ps.map .str)))
    (h1 : 1 ≤ m) (h2 : m ≤ 8) (pfew : ps.length ≤ 20) (hok : ∀ z ∈ ps, hostOk z)
    (hN : ∀ A' t u v w x, hostOk (ofC t) → ofC t ∉ ps → Of A g A' → D.nx [some (.ref g), s1, some LE, some (.ref p), s4, some (.int m), x, u, s8, v, w] (put A' p (.lst ((ps ++ [ofC t]).map .str)))) :
    b_law_names_ef81_x4 D [some (.ref g), s1, some LE, some (.ref p), s4, some (.int m), s6, s7, s8, s9, s10] A := by
  simp [b_law_names_ef81_x4]
  refine ⟨⟨by decide, by decide, by omega, by omega⟩, ?_⟩
  refine lcP_ind (fun i acc A' => Of A g A' ∧ ∃ cs : List Nat, cs.length = i ∧ (∀ c ∈ cs, letter c) ∧ acc = cs.map fun c => .str ⟨#[c]⟩) ⟨.refl G, [], rfl, by simp, rfl⟩ (fun _ _ _ _ => trivial) ?_ ?_
  · rintro i x acc A' K1 K2 hx ⟨O2, cs, hc, hlt, rfl⟩ g1 g2
    simp [wipeA]
    refine c_pickS3 O2.pot (by decide +kernel) (by decide +kernel) fun c A5 hcm O5 => ?_
    have hi : i < m := by
      have := (List.getElem?_eq_some_iff.mp hx).1
      simpa [rngL] using this
    refine g1 _ _ (by simp; show cs.length < 16777216; omega) ⟨O2.trans O5, cs ++ [c], by simp [hc], ?_, by simp⟩
    intro d hd
    rcases List.mem_append.mp hd with hd | hd
    · exact hlt d hd
    · simp at hd; subst hd; exact (le_mem d).mp hcm
  · rintro acc A' ⟨O2, cs, hc, hlt, rfl⟩
    have hcm : cs.length = m := by rw [hc]; simp [rngL]
    refine join_letters (by omega) hlt rfl ?_
    exact names_x3 (cs := cs) O2.pot gp (O2.at gp e) (by omega) (by omega) hlt pfew hok fun A' t u v w x a b c => hN A' t u v w x a b (O2.trans c)
theorem c_names3 {g : Addr} {n : Nat} (hg : isG A g) (hn : n ≤ 20) (q : ∀ (p : Addr) (ps : List Str) (B : Ah), Of A g B → B p = none → ps.Nodup → ps.length = n → (∀ z ∈ ps, hostOk z) → Q (.ref p) (put B p (.lst (ps.map .str)))) : w_law_names_ef81 [.ref g, .int n] A Q E := by
  rw [w_law_names_ef81, wFun_dx]
  simp [b_law_names_ef81, b_law_names_ef81_1, b_law_names_ef81_2]
  intro p hp
  have gp := hg.fresh hp
  refine ⟨⟨by decide, by decide, by omega, by omega⟩, ?_⟩
  refine forL_ind (fun i S' A' => ∃ B, Of A g B ∧ ∃ ps : List Str, A' = put B p (.lst (ps.map .str)) ∧ ps.length = i ∧ ps.Nodup ∧ (∀ z ∈ ps, hostOk z) ∧ ∃ u4 u5 u6 u7 u8 u9 u10, S' = [some (.ref g), some (.int n), some LE, some (.ref p), u4, u5, u6, u7, u8, u9, u10])
    ⟨A, .refl hg, [], rfl, rfl, List.nodup_nil, by simp, _, _, _, _, _, _, _, rfl⟩ (fun _ _ _ _ => trivial) ?_ ?_
  · rintro i x S' A1 N hx ⟨B, O1, ps, rfl, len, nd, ok, u4, u5, u6, u7, u8, u9, u10, rfl⟩ hN
    simp
    have hi : i < n := by
      have := (List.getElem?_eq_some_iff.mp hx).1
      simpa [rngL] using this
    refine c_draw3 (O1.pot.put gp) (by decide) (by decide) fun r A2 h0 h1 O2 => ?_
    obtain ⟨z, hz, hm⟩ := pick h0 (xs := [_, _, _, _]) h1
    refine ⟨z, hz, ?_⟩
    have hs : ∃ m : Nat, z = .int m ∧ 1 ≤ m ∧ m ≤ 8 := by
      simp only [List.mem_cons, List.not_mem_nil, or_false] at hm
      rcases hm with rfl | rfl | rfl | rfl
      · exact ⟨1, rfl, by omega, by omega⟩
      · exact ⟨1, rfl, by omega, by omega⟩
      · exact ⟨2, rfl, by omega, by omega⟩
      · exact ⟨8, rfl, by omega, by omega⟩
    obtain ⟨m, rfl, m1, m2⟩ := hs
    refine names_x4 O2.pot gp (O2.at gp put_same) m1 m2 (by omega) ok fun A' t u v w y t1 t2 O3 => ?_
    have O4 := O2.trans O3
    have O5 : Of A g (fun a => if a = p then none else A' a) := ⟨fun a ha => by
      by_cases z : a = p
      · subst z; simp [hp]
      · simp [z]; rw [O4.same a ha, put_ne z, O1.same a ha], by
      obtain ⟨x, y, hx, hy, e⟩ := O4.pot
      exact ⟨x, y, hx, hy, by simp [Ne.symm gp]; exact e⟩⟩
    refine hN _ _ ⟨_, O5, ps ++ [ofC t], ?_, by simp [len], ?_, fun z hz => ?_, _, _, _, _, _, _, _, rfl⟩
    · funext a; unfold put; by_cases z : a = p <;> simp [z]
    · rw [List.nodup_append]
      exact ⟨nd, by simp, fun a ha b hb => by simp at hb; subst hb; rintro rfl; exact t2 ha⟩
    · rcases List.mem_append.mp hz with hz | hz
      · exact ok z hz
      · simp at hz; subst hz; exact t1
  · rintro S' A' ⟨B, O1, ps, rfl, len, nd, ok, u4, u5, u6, u7, u8, u9, u10, rfl⟩
    simp [b_law_names_ef81_3]
    exact ⟨_, .refl, q p ps B O1 ((O1.same p gp).trans hp) nd (by simpa [rngL] using len) ok⟩
theorem c_relink3 {g : Addr} {m : Nat} (hg : isG A g) (hm : 3 ≤ m) (hm2 : m ≤ 18) (q : ∀ (ps : List Str) (cut : Nat) (B : Ah), Of A g B → PathOk ps → ps.length ≤ m → cut + 2 ≤ ps.length → Q (.tup [.tup (ps.map .str), .int cut]) B) : w_law_relink_e5af [.ref g, .int m] A Q E := by
  rw [w_law_relink_e5af, wFun_dx]
  simp [b_law_relink_e5af, b_law_relink_e5af_1]
  refine c_draw3 hg (by omega) (by omega) fun r A2 h0 h1 O2 => ?_
  obtain ⟨n, rfl⟩ : ∃ n : Nat, r = (n : Int) := ⟨r.toNat, by omega⟩
  simp
  rw [show (3 : Int) + (n : Int) = ((3 + n : Nat) : Int) by omega]
  refine c_names3 O2.pot (by omega) fun p ps B O3 hp nd hl ok => ?_
  simp
  rw [lstA_eq put_same]
  simp
  have gp := O3.pot.fresh hp
  refine c_draw3 (O3.pot.put gp) (by omega) (by omega) fun r A4 h2 h3 O4 => ?_
  obtain ⟨cut, rfl⟩ : ∃ n : Nat, r = (n : Int) := ⟨r.toNat, by omega⟩
  obtain ⟨C, O5, sb⟩ := O4.sub hp gp
  refine ⟨C, sb, q ps cut C ((O2.trans O3).trans O5) ⟨nd, by omega, by omega, ok⟩ (by omega) (by omega)⟩
/-- a law of cells, each with a pot of its own -/
theorem law3 {w : WF} {a b : Int} {ns : List Int} (hl : ns.length ≤ 63) (ha : 0 ≤ a) (ha2 : a ≤ 50) (hb : b ≤ 50) (hw : ∀ {A : Ah} {g : Addr} {Q : QE} {E : EX}, isG A g → (∀ B, Q (.bl true) B) → w [.ref g] A Q E) (hq : ∀ A', Q (.bl true) A') :
    wFun 2 (wRet (wCB fAll (wCons (wLc .F (wiR1 (wCons (wCB fMax (wCons (wC (.int a)) (wCons (wCB fMin (wCons (wC (.int b)) (wCons (wCB fLen (wCons (wVar 0) wNil)) wNil))) wNil))) wNil)) (gN 1) wYes (wCall 1 w (wCons (wCall 2 w_law_pot_29d4 (wCons (wVar 0) (wCons (wVar 1) wNil))) wNil)) [1]) wNil))) [.lst (ns.map .int)] A Q E := by
  rw [wFun_dx]
  simp
  refine ⟨⟨by decide, by decide, by (repeat' split) <;> omega, by (repeat' split) <;> omega⟩, ?_⟩
  refine lcP_ind (fun j acc _ => acc = List.replicate j (.bl true)) rfl (fun _ _ _ _ => trivial) ?_ ?_
  · rintro j x acc A' K1 K2 hx rfl g1 _
    obtain ⟨rfl, hj⟩ := rngL_get hx
    have hj : j < 64 := by
      refine Nat.lt_of_lt_of_le hj ?_
      (repeat' split) <;> omega
    simp [wipeA]
    refine c_pot3 hl (by omega) (by omega) fun p A2 hp O _ => ?_
    refine hw O.pot fun B => ?_
    exact g1 _ _ (by simp; show j < 16777216; omega) (by rw [List.replicate_succ'])
  · rintro acc A' rfl
    exact ⟨_, bls_rep _, by rw [all_rep]; exact ⟨_, .refl, hq _⟩⟩
end Hl

set_option Elab.async false
set_option linter.all false
set_option maxRecDepth 100000
set_option maxHeartbeats 400000
/-! The program's own functions of names, relinks and roles: what they give, for any values. -/
namespace Pg
open PySem PySem.Spec PyProof.Rows L2 Rk Dw
variable {A : Ah} {Q : QE} {E : EX}
/-- errors as the program raises them -/
def X1 (C : String) (f : Str) (v : Vl) : Xv := ⟨C, [f], [v]⟩
@[simp ↓] theorem e_wRaise {C : String} {ns : List Str} {r : WA} {D : Es} {S : Sl} : wRaise C ns r D S A = r S A (fun xs A1 => xs.length = ns.length ∧ D.ex ⟨C, ns.reverse, xs.reverse⟩ S A1) (fun x A1 => D.ex x S A1) := id rfl
theorem giveE {B : Ah} {E : EX} {v : Xv} (q : E v B) : ∃ C, Sub C B ∧ E v C := ⟨B, .refl, q⟩
@[simp ↓] theorem e_wGl {n : Nat} {tab : List (String × WF)} {wf : WE} {wa : WA} {S : Sl} : wGl n tab wf wa S A Q E = wf S A (fun x A1 => ∃ g w, x = .gl g ∧ tab.lookup g = some w ∧ wa S A1 (fun xs A2 => xs.length = n ∧ w xs A2 Q E) E) E := id rfl
/-! ### values of a known kind, through and through -/
mutual
def okV (A : Ah) : Vl → Prop
  | .tup xs => xs.length ≤ 1000 ∧ okVs A xs
  | .lst xs => xs.length ≤ 1000
  | .non => True
  | .bl _ => True
  | .int _ => True
  | .str _ => True
  | .dct _ _ => True
  | .ref p => kdR (A p) ≠ none
  | _ => False
def okVs (A : Ah) : List Vl → Prop
  | [] => True
  | x :: xs => okV A x ∧ okVs A xs
end
theorem okVs_iff {xs : List Vl} : okVs A xs ↔ ∀ x ∈ xs, okV A x := by
  induction xs with
  | nil => simp [okVs]
  | cons x xs ih => simp [okVs, ih]
theorem okV_kd {v : Vl} (h : okV A v) : ∃ k, kd A v = some k ∧ (k = .str ↔ ∃ s, v = .str s) ∧ (k = .tup ↔ ∃ xs, v = .tup xs) ∧ (k = .int ↔ ∃ i, v = .int i) ∧ (k = .bl ↔ ∃ i, v = .bl i) := by
  cases v with
  | ref p =>
    have h : kdR (A p) ≠ none := h
    cases e : kdR (A p) with
    | none => exact (h e).elim
    | some k =>
      have hk : k = .lst ∨ k = .dct := by
        unfold kdR at e
        split at e <;> cases e <;> simp
      refine ⟨k, e, ?_⟩
      rcases hk with rfl | rfl <;> simp
  | wtp => exact h.elim
  | gl => exact h.elim
  | xv => exact h.elim
  | ty => exact h.elim
  | _ => exact ⟨_, rfl, by simp, by simp, by simp, by simp⟩
/-- isinstance(v, str) and the like -/
theorem is_str {v : Vl} (h : okV A v) (h1 : ∀ s, v = .str s → Q (.bl true) A) (h0 : (∀ s, v ≠ .str s) → Q (.bl false) A) : fIsi [v, .ty "str"] A Q := by
  obtain ⟨k, hk, e, _⟩ := okV_kd h
  refine e_isi (z := .str) hk rfl ?_
  by_cases z : k = .str
  · obtain ⟨s, rfl⟩ := e.mp z
    subst z; exact h1 s rfl
  · rw [show k.sub .str = false by cases k <;> first | rfl | exact (z rfl).elim]
    exact h0 fun s hs => z (e.mpr ⟨s, hs⟩)
theorem is_tup {v : Vl} (h : okV A v) (h1 : ∀ s, v = .tup s → Q (.bl true) A) (h0 : (∀ s, v ≠ .tup s) → Q (.bl false) A) : fIsi [v, .ty "tuple"] A Q := by
  obtain ⟨k, hk, _, e, _⟩ := okV_kd h
  refine e_isi (z := .tup) hk rfl ?_
  by_cases z : k = .tup
  · obtain ⟨s, rfl⟩ := e.mp z
    subst z; exact h1 s rfl
  · rw [show k.sub .tup = false by cases k <;> first | rfl | exact (z rfl).elim]
    exact h0 fun s hs => z (e.mpr ⟨s, hs⟩)
def strIn (cs : Str) (n : Nat) : Vl → Bool
  | .str s => decide (1 ≤ s.length) && decide (s.length ≤ n) && s.cps.toList.all fun c => decide (c ∈ cs.cps.toList)
  | _ => false
def isHost : Vl → Bool := strIn "abcdefghijklmnopqrstuvwxyz" 8
def isWord : Vl → Bool := strIn "abcdefghijklmnopqrstuvwxyz0123456789" 12
def isInt : Vl → Bool
  | .int _ => true
  | _ => false
theorem isHost_iff {v : Vl} : isHost v = true ↔ ∃ s, v = .str s ∧ hostOk s := by
  cases v with
  | str s =>
    simp only [isHost, strIn, Bool.and_eq_true, decide_eq_true_eq, List.all_eq_true]
    constructor
    · rintro ⟨⟨h1, h2⟩, h3⟩
      exact ⟨s, rfl, h1, h2, fun c hc => (le_mem c).mp (h3 c hc)⟩
    · rintro ⟨t, e, h1, h2, h3⟩
      cases e
      exact ⟨⟨h1, h2⟩, fun c hc => (le_mem c).mpr (h3 c hc)⟩
  | _ => simp [isHost, strIn]
theorem c_is_string_of {v : Vl} {cs : Str} {n : Nat} (h : okV A v) (hn : n ≤ 1000) (q : Q (.bl (strIn cs n v)) A) : w_is_string_of [v, .str cs, .int n] A Q E := by
  rw [w_is_string_of, wFun_dx]
  simp [b_is_string_of, b_is_string_of_1]
  refine is_str h ?_ fun h0 => ?_
  · rintro s rfl
    simp
    by_cases h2 : 1 ≤ s.length ∧ s.length ≤ n
    · rw [if_pos (by omega), if_neg (by omega)]
      refine lcP_map (fun x => match x with | .str z => .bl (decide (z.cps.toList.headD 0 ∈ cs.cps.toList)) | _ => .non) ?_ trivial ?_ ?_
      · simp [Rk.signs]; have := h2.2; show s.length < 16777216; omega
      · intro x hx K1 hk
        simp only [Rk.signs, List.mem_map] at hx
        obtain ⟨c, hc, rfl⟩ := hx
        simp [wipeA]
        rw [StrLaws.found_one]
        simpa using hk
      · simp
        refine ⟨s.cps.toList.map fun c => decide (c ∈ cs.cps.toList), ?_, ?_⟩
        · rw [Rk.signs, List.map_map, ← bls_map]; exact congrArg bls (List.map_congr_left fun c _ => congrArg Vl.bl (by simp; exact decide_eq_decide.mpr Iff.rfl))
        · refine give ?_
          have : strIn cs n (.str s) = (s.cps.toList.map fun c => decide (c ∈ cs.cps.toList)).all id := by
            simp [strIn, h2.1, h2.2, List.all_map]
          rw [this] at q
          exact q
    · have e : strIn cs n (.str s) = false := by
        simp only [strIn]
        rcases Nat.lt_or_ge s.length 1 with h3 | h3
        · simp; omega
        · have : ¬ s.length ≤ n := fun h => h2 ⟨h3, h⟩
          simp [this]
      rw [e] at q
      by_cases h3 : (1 : Int) ≤ s.length
      · rw [if_pos h3, if_pos (by omega)]
        exact give q
      · rw [if_neg h3]
        exact give q
  · simp
    have e : strIn cs n v = false := by
      cases v <;> first | rfl | exact (h0 _ rfl).elim
    rw [e] at q
    exact give q
theorem c_is_host_name {v : Vl} (h : okV A v) (q : Q (.bl (isHost v)) A) : w_is_host_name [v] A Q E := by
  rw [w_is_host_name, wFun_dx]
  simp [b_is_host_name]
  exact c_is_string_of (n := 8) h (by decide) (give q)
theorem c_is_word {v : Vl} (h : okV A v) (q : Q (.bl (isWord v)) A) : w_is_word [v] A Q E := by
  rw [w_is_word, wFun_dx]
  simp [b_is_word]
  exact c_is_string_of (n := 12) h (by decide) (give q)
theorem c_is_integer {v : Vl} (h : okV A v) (q : Q (.bl (isInt v)) A) : w_is_integer [v] A Q E := by
  rw [w_is_integer, wFun_dx]
  simp [b_is_integer]
  obtain ⟨k, hk, _, _, e1, e2⟩ := okV_kd h
  refine e_isi (z := .int) hk rfl ?_
  by_cases z : k = .int
  · obtain ⟨i, rfl⟩ := e1.mp z
    cases hk
    show onB _ _ _
    rw [show Kd.int.sub .int = true from rfl]
    simp
    refine e_isi (y := .int) (z := .bl) rfl rfl ?_
    rw [show Kd.int.sub .bl = false from rfl]
    exact give q
  · have en : isInt v = false := by
      cases v <;> first | rfl | exact (z (e1.mpr ⟨_, rfl⟩)).elim
    rw [en] at q
    by_cases y : k = .bl
    · rw [show k.sub .int = true by rw [y]; rfl]
      simp
      refine e_isi (z := .bl) hk rfl ?_
      rw [show k.sub .bl = true by rw [y]; rfl]
      exact give q
    · rw [show k.sub .int = false by cases k <;> first | rfl | exact (z rfl).elim | exact (y rfl).elim]
      simp
      exact give q
/-! ### relinks -/
structure RelOk (ps : List Str) (cut : Nat) : Prop where
  nd : ps.Nodup
  lo : 3 ≤ ps.length
  hi : ps.length ≤ 1000
  ok : ∀ p ∈ ps, hostOk p
  cut : cut + 2 ≤ ps.length
theorem _root_.Dw.PathOk.rel {ps : List Str} {cut : Nat} (h : PathOk ps) (hc : cut + 2 ≤ ps.length) : RelOk ps cut := ⟨h.nd, h.lo, by have := h.hi; omega, h.ok, hc⟩
abbrev rel (ps : List Str) (cut : Nat) : Vl := .tup [.tup (ps.map .str), .int cut]
def IsRel (v : Vl) : Prop := ∃ ps cut, v = rel ps cut ∧ RelOk ps cut
theorem okV_strs (A : Ah) (ps : List Str) : okVs A (ps.map .str) := okVs_iff.mpr fun x hx => by
  obtain ⟨s, _, rfl⟩ := List.mem_map.mp hx
  trivial
theorem okV_rel {ps : List Str} {cut : Nat} (h : ps.length ≤ 1000) : okV A (rel ps cut) := ⟨by simp, ⟨by simpa using h, okV_strs A ps⟩, trivial, trivial⟩
theorem hosts_of : ∀ {xs : List Vl}, (∀ x ∈ xs, isHost x = true) → ∃ ps : List Str, xs = ps.map .str ∧ ∀ p ∈ ps, hostOk p
  | [], _ => ⟨[], rfl, by simp⟩
  | x :: xs, h => by
    obtain ⟨s, rfl, hs⟩ := isHost_iff.mp (h _ List.mem_cons_self)
    obtain ⟨ps, rfl, hp⟩ := hosts_of fun y hy => h y (List.mem_cons_of_mem _ hy)
    exact ⟨s :: ps, rfl, by simpa using ⟨hs, hp⟩⟩
theorem mem_sum {k : Key} {acc : List Key} : memK acc k = true ↔ k ∈ acc := by unfold memK; simp
theorem ddN_lt : ∀ (r acc : List Key), (ddN acc r).length ≤ acc.length + r.length ∧ ((ddN acc r).length = acc.length + r.length → acc.Nodup → (acc ++ r).Nodup)
  | [], acc => ⟨by simp [ddN], fun _ h => by simpa using h⟩
  | k :: r, acc => by
    unfold ddN
    by_cases h : memK acc k = true
    · rw [if_pos h]
      obtain ⟨h1, _⟩ := ddN_lt r acc
      exact ⟨by simp; omega, fun e => by simp at e; omega⟩
    · rw [if_neg h]
      obtain ⟨h1, h2⟩ := ddN_lt r (acc ++ [k])
      refine ⟨by simp at h1 ⊢; omega, fun e hn => ?_⟩
      have := h2 (by simp at e ⊢; omega) (by
        rw [List.nodup_append]
        exact ⟨hn, by simp, fun a ha b hb => by simp at hb; subst hb; rintro rfl; exact h (mem_sum.mpr ha)⟩)
      simpa using this
theorem dd_eq {ps : List Str} : ((ddN [] (ps.map Sum.inr)).length = ps.length) ↔ ps.Nodup := by
  constructor
  · intro h
    have := (ddN_lt (ps.map Sum.inr) []).2 (by simpa using h) List.nodup_nil
    simp at this
    exact (List.pairwise_map.mp this).imp fun h e => h (congrArg _ e)
  · exact dd_strs
theorem beq_eq_decide_of (n m : Nat) : ((n : Int) == (m : Int)) = decide (n = m) := by
  by_cases h : n = m
  · subst h; simp
  · have : ¬ (n : Int) = m := by omega
    simp [h, this]
theorem c_is_relink {v : Vl} (h : okV A v) (q1 : IsRel v → Q (.bl true) A) (q0 : ¬ IsRel v → Q (.bl false) A) : w_is_relink [v] A Q E := by
  rw [w_is_relink, wFun_dx]
  simp [b_is_relink, b_is_relink_1]
  refine is_tup h ?_ fun h0 => ?_
  · rintro xs rfl
    simp
    refine eqD_flat rfl rfl ?_
    rw [show eqL (.int (xs.length : Int)) (.int 2) = decide (xs.length = 2) by simp only [eqL]; exact beq_eq_decide_of xs.length 2]
    by_cases h2 : xs.length = 2
    · match xs, h2 with
      | [path, cut], _ =>
      obtain ⟨_, hp, hc, _⟩ := h
      simp [b_is_relink_2]
      refine is_tup hp ?_ fun h0 => ?_
      · rintro hs rfl
        simp
        by_cases h3 : hs.length < 3
        · rw [if_pos (by omega)]
          refine give (q0 ?_)
          rintro ⟨ps, c, e, R⟩
          cases e
          have := R.lo; simp at h3; omega
        · rw [if_neg (by omega)]
          refine lcP_map (fun x => .bl (isHost x)) (by simp; have := hp.1; omega) trivial ?_ ?_
          · intro x hx K1 hk
            simp [wipeA]
            exact c_is_host_name (okVs_iff.mp hp.2 x hx) hk
          · refine ⟨hs.map isHost, by rw [← bls_map], ?_⟩
            by_cases ha : ∀ x ∈ hs, isHost x = true
            case neg =>
              have hn : ¬ IsRel (.tup [.tup hs, cut]) := by
                rintro ⟨ps, c, e, R⟩
                cases e
                exact ha fun x hx => by
                  obtain ⟨p, hp, rfl⟩ := List.mem_map.mp hx
                  exact isHost_iff.mpr ⟨p, rfl, R.ok p hp⟩
              rw [if_pos (by
                apply Classical.byContradiction
                intro hf
                refine ha fun x hx => ?_
                cases z : isHost x with
                | true => rfl
                | false => exact (hf (List.mem_map.mpr ⟨x, hx, z⟩)).elim)]
              exact give (q0 hn)
            case pos =>
              rw [if_neg (by
                intro hf
                obtain ⟨x, hx, z⟩ := List.mem_map.mp hf
                rw [ha x hx] at z; cases z)]
              obtain ⟨ps, rfl, hps⟩ := hosts_of ha
              simp [b_is_relink_3]
              simp at h3
              refine ⟨ps.map Sum.inr, by have := hp.1; simp at this ⊢; omega, .inr (keys_strs ps), ?_⟩
              refine eqD_flat rfl rfl ?_
              rw [show eqL (.int ((ddN [] (ps.map Sum.inr)).length : Int)) (.int (ps.length : Int)) = decide ps.Nodup by
                have := dd_eq (ps := ps)
                simp only [eqL]
                by_cases z : ps.Nodup
                · rw [this.mpr z]; simp [z]
                · have z2 : ¬ ((ddN [] (ps.map Sum.inr)).length : Int) = ps.length := fun e => z (this.mp (by omega))
                  simp [z, z2]]
              by_cases z : ps.Nodup
              · simp [z]
                refine c_is_integer hc ?_
                cases hi : isInt cut with
                | false =>
                  simp
                  refine give (q0 ?_)
                  rintro ⟨ps', c, e, R⟩
                  simp at e
                  rw [e.2] at hi
                  cases hi
                | true =>
                  simp
                  cases cut with
                  | int c =>
                    simp
                    by_cases hc0 : 0 ≤ c
                    · simp [hc0]
                      by_cases hc2 : c ≤ (ps.length : Int) - 2
                      · try rw [decide_eq_true hc2]
                        refine give (q1 ⟨ps, c.toNat, ?_, z, by omega, by have := hp.1; simpa using this, hps, by omega⟩)
                        rw [rel, Int.toNat_of_nonneg hc0]
                      · rw [decide_eq_false hc2]
                        refine give (q0 ?_)
                        rintro ⟨ps', c', e, R⟩
                        simp at e
                        obtain ⟨e1, e2⟩ := e
                        have e3 := congrArg List.length e1
                        have := R.cut
                        simp at e3; omega
                    · simp [hc0]
                      refine give (q0 ?_)
                      rintro ⟨ps', c', e, R⟩
                      simp at e
                      omega
                  | _ => cases hi
              · simp [z]
                refine give (q0 ?_)
                rintro ⟨ps', c', e, R⟩
                simp at e
                have : ps = ps' := (List.map_inj_right (fun _ _ e => Vl.str.inj e)).mp e.1
                subst this
                exact z R.nd
      · simp
        refine give (q0 ?_)
        rintro ⟨ps, c, e, R⟩
        simp at e
        exact h0 _ e.1
    · simp [h2]
      refine give (q0 ?_)
      rintro ⟨ps, c, e, R⟩
      cases e
      exact h2 rfl
  · simp
    refine give (q0 ?_)
    rintro ⟨ps, c, e, R⟩
    exact h0 _ e
theorem c_require {v : Vl} (h : okV A v) (q1 : IsRel v → Q .non A) (q0 : ¬ IsRel v → E (X1 "InvalidRelink" "value" v) A) : w_require_relink [v] A Q E := by
  rw [w_require_relink, wFun_dx]
  simp [b_require_relink]
  refine c_is_relink h (fun R => ?_) fun R => ?_
  · simp; exact ⟨A, .refl, q1 R⟩
  · simp; exact ⟨A, .refl, q0 R⟩
theorem first_at {ps : List Str} {s : Str} (hs : s ∈ ps) : ps[ps.idxOf s]? = some s ∧ ∀ m, m < ps.idxOf s → ps[m]? ≠ some s := by
  have hi := List.idxOf_lt_length_of_mem hs
  refine ⟨by rw [List.getElem?_eq_getElem hi, List.getElem_idxOf hi], fun m hm e => ?_⟩
  have hm2 : m < ps.length := by omega
  rw [List.getElem?_eq_getElem hm2] at e
  have := List.not_of_lt_findIdx (p := (· == s)) hm
  simp at e this
  exact this e
theorem c_position {ps : List Str} {cut : Nat} {v : Vl} (R : RelOk ps cut) (h : okV A v) (q1 : ∀ s, v = .str s → s ∈ ps → Q (.int (ps.idxOf s)) A) (q0 : (∀ s ∈ ps, v ≠ .str s) → E (X1 "UnknownHost" "host" v) A) : w_position [rel ps cut, v] A Q E := by
  rw [w_position, wFun_dx]
  simp [b_position]
  refine c_require (okV_rel R.hi) (fun _ => ?_) fun z => (z ⟨_, _, rfl, R⟩).elim
  simp [b_position_1, b_position_2]
  refine c_is_host_name h ?_
  cases hv : isHost v with
  | false =>
    simp
    refine giveE (q0 fun s hs e => ?_)
    rw [isHost_iff.mpr ⟨s, e, R.ok s hs⟩] at hv; cases hv
  | true =>
    obtain ⟨s, rfl, hs⟩ := isHost_iff.mp hv
    simp [flat_map, inL_map]
    refine ⟨rfl, flat_str ps ▸ trivial, ?_⟩
    by_cases hm : s ∈ ps
    · simp [hm, b_position_3]
      obtain ⟨f1, f2⟩ := first_at hm
      exact ⟨ps.map .str, s, ps, _, rfl, rfl, strL_map ps, f1, f2, A, .refl, q1 s rfl hm⟩
    · simp [hm]
      exact giveE (q0 fun t ht e => by cases e; exact hm ht)
/-- the first argument is no relink -/
theorem c_position0 {r v : Vl} (hr : okV A r) (R : ¬ IsRel r) (q : E (X1 "InvalidRelink" "value" r) A) : w_position [r, v] A Q E := by
  rw [w_position, wFun_dx]
  simp [b_position]
  refine c_require hr (fun z => (R z).elim) fun _ => ?_
  exact giveE q
theorem c_near {ps : List Str} {cut : Nat} {v : Vl} (R : RelOk ps cut) (h : okV A v) (q1 : ∀ s, v = .str s → s ∈ ps → Q (.bl (decide (ps.idxOf s ≤ cut))) A) (q0 : (∀ s ∈ ps, v ≠ .str s) → E (X1 "UnknownHost" "host" v) A) : w_is_near [rel ps cut, v] A Q E := by
  rw [w_is_near, wFun_dx]
  simp [b_is_near]
  refine c_position R h (fun s e hs => ?_) fun z => giveE (q0 z)
  refine ⟨_, rfl, ?_⟩
  simp
  exact give (q1 s e hs)
/-! ### bits -/
def carrV (ps : List Str) (src bit : Vl) : Vl := if inL src (ps.map .str) = true then bit else .int 1
theorem c_carried {ps : List Str} {src bit : Vl} (hs : flatL src = true) (q : Q (carrV ps src bit) A) : w_carried_bit [.tup (ps.map .str), src, bit] A Q E := by
  rw [w_carried_bit, wFun_dx]
  simp [b_carried_bit, hs]
  refine ⟨flat_str ps ▸ trivial, ?_⟩
  unfold carrV at q
  split
  · rename_i h; rw [if_pos h] at q; exact give q
  · rename_i h; rw [if_neg h] at q; exact give q
theorem setEq_at {a g f l : Str} (ne : f ≠ l) : setEq (.inr a) (.inr g) (.inr f) (.inr l) = true ↔ ((a = f ∧ g = l) ∨ (a = l ∧ g = f)) := by
  have e1 : ∀ x y : Str, decide ((Sum.inr x : Key) = .inr y) = decide (x = y) := fun x y => by simp
  have d2 : ∀ x y : Str, x ≠ y → ddN [] [(.inr x : Key), .inr y] = [.inr x, .inr y] := fun x y h => by simp [ddN, memK, h]
  have d1 : ∀ x : Str, ddN [] [(.inr x : Key), .inr x] = [.inr x] := fun x => by simp [ddN, memK]
  unfold setEq
  rw [d2 f l ne]
  by_cases h : a = g
  · subst h
    rw [d1]
    simp
    constructor
    · intro e e2; exact ne (e.symm.trans e2)
    · intro e e2; exact ne (e2.symm.trans e)
  · rw [d2 a g h]
    simp [memK]
    constructor
    · rintro ⟨h1 | h1, h2 | h2⟩
      · exact (h (h1.symm.trans h2)).elim
      · exact .inl ⟨h1.symm, h2.symm⟩
      · exact .inr ⟨h1.symm, h2.symm⟩
      · exact (h (h1.symm.trans h2)).elim
    · rintro (⟨h1, h2⟩ | ⟨h1, h2⟩)
      · exact ⟨.inl h1.symm, .inr h2.symm⟩
      · exact ⟨.inr h1.symm, .inl h2.symm⟩
/-- the path's ends, as the code reads them -/
theorem ends_at {ps : List Str} (h : 3 ≤ ps.length) : atI (ps.map Vl.str) 0 = some (.str (ps[0]'(by omega))) ∧ atI (ps.map Vl.str) (-1) = some (.str (ps[ps.length - 1]'(by omega))) := by
  constructor
  · rw [show (0 : Int) = ((0 : Nat) : Int) from rfl, Rk.atI_nat (by simp; omega)]; simp
  · have hl : ps.length - 1 < ps.length := by omega
    unfold atI ixN
    rw [if_neg (by decide), if_pos (by simp; omega)]
    simp only [Option.bind_some, List.length_map]
    rw [show ((-1 : Int) + (ps.length : Int)).toNat = ps.length - 1 by omega]
    simp [hl]
def atEnds (ps : List Str) (a g : Str) : Prop := (ps[0]? = some a ∧ ps[ps.length - 1]? = some g) ∨ (ps[ps.length - 1]? = some a ∧ ps[0]? = some g)
def ahead (ps : List Str) (cut i : Nat) (g : Str) : Prop := if i ≤ cut then 0 < i ∧ ps[i - 1]? = some g else ps[i + 1]? = some g
instance {ps a g} : Decidable (atEnds ps a g) := by unfold atEnds; exact inferInstance
instance {ps cut i g} : Decidable (ahead ps cut i g) := by unfold ahead; exact inferInstance
/-- the bit that a host says to a neighbor -/
def fwdV (ps : List Str) (cut : Nat) (a : Str) (ph src : Vl) (g : Str) (bit : Vl) : Vl :=
  if eqL ph (.str "turned") = false then .int 0
  else if atEnds ps a g then (if eqL (carrV ps src bit) (.int 1) = true then .int 0 else .non)
  else if ahead ps cut (ps.idxOf a) g then carrV ps src bit else .int 0
theorem inj_at {ps : List Str} (h : ps.Nodup) {i j : Nat} (hi : i < ps.length) (hj : j < ps.length) (e : ps[i] = ps[j]) : i = j := by
  rcases Nat.lt_trichotomy i j with c | c | c
  · exact ((List.pairwise_iff_getElem.mp h) i j hi hj c e).elim
  · exact c
  · exact ((List.pairwise_iff_getElem.mp h) j i hj hi c e.symm).elim
theorem fwd6 {s0 s1 s2 s3 s4 s5 s6 s7 : Option Vl} {c : Vl} {k : Bool} {C : Prop} [Decidable C] (hk : k = true ↔ C) (q : Q (if C then c else .int 0) A) :
    b_forward_bit_6 (Dx Q E) [s0, s1, s2, s3, s4, s5, s6, s7, some c, some (.bl k)] A := by
  cases k with
  | true =>
    simp [b_forward_bit_6]
    rw [if_pos (hk.mp rfl)] at q
    exact give q
  | false =>
    simp [b_forward_bit_6]
    rw [if_neg fun z => nomatch (hk.mpr z)] at q
    exact give q
theorem c_fwd {ps : List Str} {cut : Nat} {a g : Str} {ph src bit : Vl} (R : RelOk ps cut) (ha : a ∈ ps) (hp : flatL ph = true) (hs : flatL src = true) (hb : flatL bit = true) (q : Q (fwdV ps cut a ph src g bit) A) :
    w_forward_bit [rel ps cut, .str a, ph, src, .str g, bit] A Q E := by
  have lo := R.lo
  obtain ⟨f1, l1⟩ := ends_at R.lo
  rw [w_forward_bit, wFun_dx]
  simp [b_forward_bit]
  refine c_position R trivial (fun s e _ => ?_) fun z => (z a ha rfl).elim
  cases e
  have hi := List.idxOf_lt_length_of_mem ha
  simp [b_forward_bit_1, b_forward_bit_2]
  refine eqD_flat hp rfl ?_
  cases ht : eqL ph (.str "turned") with
  | false =>
    simp
    rw [fwdV, if_pos ht] at q
    exact give q
  | true =>
    simp [b_forward_bit_3]
    refine c_carried hs ?_
    have hc : flatL (carrV ps src bit) = true := by unfold carrV; split <;> first | exact hb | rfl
    simp [b_forward_bit_4]
    refine ⟨.inr a, rfl, .inr g, rfl, .inr (ps[0]'(by omega)), by simp [Rk.rIx, f1, keyOf?], .inr (ps[ps.length - 1]'(by omega)), by simp [Rk.rIx, l1, keyOf?], ?_⟩
    have ne : ps[0]'(by omega) ≠ ps[ps.length - 1]'(by omega) := fun e => by
      have := inj_at R.nd (by omega) (by omega) e
      omega
    have se := setEq_at (a := a) (g := g) ne
    rw [fwdV, if_neg (by simp [ht])] at q
    have e0 : atEnds ps a g ↔ setEq (.inr a) (.inr g) (.inr (ps[0]'(by omega))) (.inr (ps[ps.length - 1]'(by omega))) = true := by
      rw [se]; unfold atEnds
      rw [List.getElem?_eq_getElem (by omega), List.getElem?_eq_getElem (by omega)]
      simp only [Option.some.injEq]
      constructor
      · rintro (⟨x, y⟩ | ⟨x, y⟩)
        · exact .inl ⟨x.symm, y.symm⟩
        · exact .inr ⟨x.symm, y.symm⟩
      · rintro (⟨x, y⟩ | ⟨x, y⟩)
        · exact .inl ⟨x.symm, y.symm⟩
        · exact .inr ⟨x.symm, y.symm⟩
    generalize carrV ps src bit = c at *
    by_cases he : atEnds ps a g
    · rw [if_pos (e0.mp he)]
      rw [if_pos he] at q
      refine eqD_flat hc rfl ?_
      simp
      split
      · rename_i h; rw [if_pos h] at q; exact give q
      · rename_i h; rw [if_neg h] at q; exact give q
    · rw [if_neg fun z => he (e0.mpr z)]
      rw [if_neg he] at q
      simp [b_forward_bit_5]
      refine c_near R trivial (fun s e _ => ?_) fun z => (z a ha rfl).elim
      cases e
      have at' : ∀ j (hj : j < ps.length), atI (ps.map Vl.str) (j : Int) = some (.str ps[j]) := fun j hj => by rw [Rk.atI_nat (by simpa using hj)]; simp
      simp
      generalize ps.idxOf a = i at *
      by_cases h1 : i ≤ cut
      · rw [if_pos h1]
        by_cases h2 : 0 < i
        · rw [if_pos h2]
          have hj : i - 1 < ps.length := by omega
          rw [show ((i : Int) - 1) = ((i - 1 : Nat) : Int) by omega]
          refine ⟨_, at' _ hj, eqD_flat rfl rfl ?_⟩
          refine fwd6 (C := ahead ps cut i g) ?_ (by exact q)
          unfold ahead
          rw [if_pos h1, List.getElem?_eq_getElem hj]
          simp only [eqL, Bool.false_bne, beq_iff_eq, Option.some.injEq]
          exact ⟨fun e => ⟨h2, e.symm⟩, fun e => e.2.symm⟩
        · rw [if_neg h2]
          refine fwd6 (C := ahead ps cut i g) ?_ (by exact q)
          unfold ahead
          rw [if_pos h1]
          simp [h2]
      · rw [if_neg h1]
        by_cases h2 : (i : Int) < (ps.length : Int) - 1
        · rw [if_pos h2]
          have hj : i + 1 < ps.length := by omega
          rw [show ((i : Int) + 1) = ((i + 1 : Nat) : Int) by omega]
          refine ⟨_, at' _ hj, eqD_flat rfl rfl ?_⟩
          refine fwd6 (C := ahead ps cut i g) ?_ (by exact q)
          unfold ahead
          rw [if_neg h1, List.getElem?_eq_getElem hj]
          simp only [eqL, Bool.false_bne, beq_iff_eq, Option.some.injEq]
          exact ⟨fun e => e.symm, fun e => e.symm⟩
        · rw [if_neg h2]
          refine fwd6 (C := ahead ps cut i g) ?_ (by exact q)
          unfold ahead
          rw [if_neg h1, List.getElem?_eq_none (by omega)]
          simp
/-! ### the bits to all neighbors -/
def fwdsL (gs : List Str) (src : Vl) (f : Str → Vl) : List Vl := gs.flatMap fun g => if eqL (.str g) src = true then [] else if isNon (f g) = true then [] else [.tup [.str g, f g]]
theorem fwdsL_len (gs : List Str) (src : Vl) (f : Str → Vl) : (fwdsL gs src f).length ≤ gs.length := by
  unfold fwdsL
  induction gs with
  | nil => simp
  | cons g gs ih => rw [List.flatMap_cons, List.length_append]; generalize (List.flatMap _ gs) = r at *; split <;> (try split) <;> simp <;> omega
theorem seqV_put {p : Addr} {o : Ob} {lk : Vl} {xs : List Vl} {P : List Vl → Prop} (hp : A p = none) (h : ∀ P : List Vl → Prop, P xs → seqV A lk P) (q : P xs) : seqV (put A p o) lk P := by
  have := h P q
  cases lk with
  | lst ys => exact this
  | ref r =>
    simp at this ⊢
    unfold lstA at this ⊢
    by_cases e : r = p
    · subst e; rw [hp] at this; exact this.elim
    · rw [put_ne e]; exact this
  | _ => exact this.elim
theorem seqW_put {p : Addr} {o : Ob} {lk : Vl} {xs : List Vl} {P : List Vl → Prop} (hp : A p = none) (h : ∀ P : List Vl → Prop, P xs → seqW A lk P) (q : P xs) : seqW (put A p o) lk P := by
  cases lk with
  | tup ys => exact h P q
  | lst ys => exact seqV_put (o := o) (lk := .lst ys) hp h q
  | ref r => exact seqV_put (o := o) (lk := .ref r) hp h q
  | _ => exact (h P q).elim
theorem c_forwards {ps gs : List Str} {cut : Nat} {a : Str} {lk src bit ph : Vl} (R : RelOk ps cut) (ha : a ∈ ps) (hp : flatL ph = true) (hs : flatL src = true) (hb : flatL bit = true) (hl : ∀ P : List Vl → Prop, P (gs.map .str) → seqW A lk P) (hg : gs.length < 64)
    (hq : ∀ p, A p = none → Q (.ref p) (put A p (.lst (fwdsL (sortT gs) src fun g => fwdV ps cut a ph src g bit)))) : w_forwards [lk, src, bit, rel ps cut, .str a, ph] A Q E := by
  rw [w_forwards, wFun_dx]
  simp [b_forwards, Rk.isNon]
  refine c_position R trivial (fun s e _ => ?_) fun z => (z a ha rfl).elim
  simp [b_forwards_1]
  intro p hpn
  simp [b_forwards_2]
  have sl : (sortT gs).length = gs.length := by unfold sortT; simp
  refine seqW_put hpn hl ⟨gs, strL_map gs, hg, ?_⟩
  simp
  refine forL_ind (fun i S' A' => ∃ u7 u8, A' = put A p (.lst (fwdsL ((sortT gs).take i) src fun g => fwdV ps cut a ph src g bit)) ∧ S' = [some lk, some src, some bit, some (rel ps cut), some (.str a), some ph, some (.ref p), u7, u8]) ⟨none, none, rfl, rfl⟩ (fun _ _ _ _ => trivial) ?_ ?_
  · rintro i x S' A' N hx ⟨u7, u8, rfl, rfl⟩ hN
    obtain ⟨hi, hx⟩ := List.getElem?_eq_some_iff.mp hx
    simp at hi hx
    subst hx
    have tk : (sortT gs).take (i + 1) = (sortT gs).take i ++ [(sortT gs)[i]] := (List.take_append_getElem hi).symm
    have step : fwdsL ((sortT gs).take (i + 1)) src (fun g => fwdV ps cut a ph src g bit) = fwdsL ((sortT gs).take i) src (fun g => fwdV ps cut a ph src g bit) ++ fwdsL [(sortT gs)[i]] src (fun g => fwdV ps cut a ph src g bit) := by
      rw [tk]; unfold fwdsL; rw [List.flatMap_append]
    have few := fwdsL_len ((sortT gs).take i) src (fun g => fwdV ps cut a ph src g bit)
    rw [List.length_take] at few
    generalize (sortT gs)[i] = g at *
    simp
    refine eqD_flat rfl hs ?_
    cases he : eqL (.str g) src with
    | true =>
      simp
      exact hN _ _ ⟨_, _, by rw [step]; simp [fwdsL, he], rfl⟩
    | false =>
      simp [Rk.isNon]
      refine c_fwd R ha hp hs hb ?_
      simp [b_forwards_x1]
      cases hn : Rk.isNon (fwdV ps cut a ph src g bit) with
      | true =>
        simp
        exact hN _ _ ⟨_, _, by rw [step]; simp [fwdsL, he, hn], rfl⟩
      | false =>
        simp
        refine ⟨.lst, kdM_l put_same, fAppend, rfl, kdM_l put_same, p, _, rfl, rfl, ?_⟩
        rw [lstA_eq put_same]
        refine ⟨by simp; omega, ?_⟩
        exact hN _ _ ⟨_, _, by rw [step, put_put]; simp [fwdsL, he, hn], rfl⟩
  · rintro S' A' ⟨u7, u8, rfl, rfl⟩
    simp [b_forwards_3]
    exact give (hq p hpn)
/-! ### control steps -/
/-- the i-th host -/
def hat (ps : List Str) (i : Nat) : Vl := match ps[i]? with
  | some s => .str s
  | none => .non
def snd (ps : List Str) (i : Nat) (k : Str) : Vl := .tup [hat ps i, .str k]
def stp (sends : List Vl) (phase : Str) (added removed outcome : Vl) : Vl := .tup [.lst sends, .str phase, added, removed, outcome]
def cutB (ps : List Str) (cut i : Nat) : Vl := if i = cut + 1 then hat ps (i - 1) else .non
theorem hat_at {ps : List Str} {k : Int} {j : Nat} (e : k = j) (h : j < ps.length) : atI (ps.map Vl.str) k = some (hat ps j) := by
  rw [e, Rk.atI_nat (by simpa using h)]; simp [hat, h]
theorem hat_last {ps : List Str} (h : 3 ≤ ps.length) : atI (ps.map Vl.str) (-1) = some (hat ps (ps.length - 1)) := by
  rw [(ends_at h).2]; unfold hat; rw [List.getElem?_eq_getElem (by omega)]
@[simp ↓] theorem e_wSr {l : List Sr} {h : WF} {xs : List Vl} : wSr l h xs A Q E = h (l.map (Sr.pl xs)) A Q E := id rfl
@[simp] theorem e_Sp {xs : List Vl} {i : Nat} : Sr.pl xs (.p i) = xs.getD i .non := id rfl
@[simp] theorem e_Sc {xs : List Vl} {x : Vl} : Sr.pl xs (.c x) = x := id rfl
def askV (ps : List Str) (cut i : Nat) : Vl := if i + 1 < ps.length then stp [snd ps (i + 1) "ask"] "reserved" .non .non .non else stp [snd ps (i - 1) "yes"] "turned" (hat ps 0) (cutB ps cut i) .non
def noV (ps : List Str) (i : Nat) : Vl := if i = 0 then stp [] "free" .non .non (.str "refused") else stp [snd ps (i - 1) "no"] "free" .non .non .non
def yesV (ps : List Str) (cut i : Nat) : Vl := if cut < i then stp [snd ps (i - 1) "yes"] "turned" .non (cutB ps cut i) .non
  else if 0 < i then stp [snd ps (i - 1) "yes"] "reserved" .non .non .non
  else if 0 < cut then stp [snd ps 1 "go"] "turned" (hat ps (ps.length - 1)) .non .non
  else stp [snd ps 1 "go"] "free" (hat ps (ps.length - 1)) (hat ps 1) (.str "done")
def goV (ps : List Str) (cut i : Nat) : Vl := if i < cut then stp [snd ps (i + 1) "go"] "turned" .non .non .non
  else if i = cut then stp [snd ps (i + 1) "go", snd ps (i - 1) "back"] "free" .non (hat ps (i + 1)) .non
  else stp (if i + 1 < ps.length then [snd ps (i + 1) "go"] else []) "free" .non .non .non
def backV (ps : List Str) (i : Nat) : Vl := if i = 0 then stp [] "free" .non .non (.str "done") else stp [snd ps (i - 1) "back"] "free" .non .non .non
theorem c_step {x y a r o : Vl} (q : Q (.tup [x, y, a, r, o]) A) : w_step [x, y, a, r, o] A Q E := by
  rw [w_step, wFun_dx]
  simp [b_step]
  exact give q
theorem c_cut_before {ps : List Str} {cut i : Nat} (hi : i < ps.length) (q : Q (cutB ps cut i) A) : w_cut_before [.tup (ps.map .str), .int cut, .int i] A Q E := by
  rw [w_cut_before, wFun_dx]
  simp [b_cut_before]
  refine eqD_flat rfl rfl ?_
  unfold cutB at q
  by_cases h : i = cut + 1
  · rw [show eqL (.int (i : Int)) (.int ((cut : Int) + 1)) = true by simp [eqL]; omega]
    rw [if_pos h] at q
    simp
    exact ⟨_, hat_at (j := i - 1) (by omega) (by omega), give q⟩
  · rw [show eqL (.int (i : Int)) (.int ((cut : Int) + 1)) = false by simp [eqL]; omega]
    rw [if_neg h] at q
    simp
    exact give q
theorem c_ask {ps : List Str} {cut i : Nat} (R : RelOk ps cut) (hi : i < ps.length) (h0 : 0 < i) (q : Q (askV ps cut i) A) : w_ask_step [.tup (ps.map .str), .int cut, .int i] A Q E := by
  have lo := R.lo
  rw [w_ask_step, wFun_dx]
  unfold askV at q
  simp [b_ask_step, b_ask_step_1]
  by_cases h : i + 1 < ps.length
  · rw [if_pos (by omega)]
    rw [if_pos h] at q
    exact ⟨_, hat_at (j := i + 1) (by omega) h, c_step (give q)⟩
  · rw [if_neg (by omega)]
    rw [if_neg h] at q
    refine ⟨_, hat_at (j := i - 1) (by omega) (by omega), _, hat_at (j := 0) rfl (by omega), ?_⟩
    refine c_cut_before hi ?_
    exact c_step (give q)
theorem c_no {ps : List Str} {cut i : Nat} (hi : i < ps.length) (q : Q (noV ps i) A) : w_no_step [.tup (ps.map .str), .int cut, .int i] A Q E := by
  rw [w_no_step, wFun_dx]
  unfold noV at q
  simp [b_no_step, b_no_step_1]
  refine eqD_flat rfl rfl ?_
  by_cases h : i = 0
  · rw [show eqL (.int (i : Int)) (.int 0) = true by simp [eqL, h]]
    rw [if_pos h] at q
    simp
    exact c_step (give q)
  · rw [show eqL (.int (i : Int)) (.int 0) = false by simp [eqL, h]]
    rw [if_neg h] at q
    simp
    exact ⟨_, hat_at (j := i - 1) (by omega) (by omega), c_step (give q)⟩
theorem c_back {ps : List Str} {cut i : Nat} (hi : i < ps.length) (q : Q (backV ps i) A) : w_back_step [.tup (ps.map .str), .int cut, .int i] A Q E := by
  rw [w_back_step, wFun_dx]
  unfold backV at q
  simp [b_back_step, b_back_step_1]
  refine eqD_flat rfl rfl ?_
  by_cases h : i = 0
  · rw [show eqL (.int (i : Int)) (.int 0) = true by simp [eqL, h]]
    rw [if_pos h] at q
    simp
    exact c_step (give q)
  · rw [show eqL (.int (i : Int)) (.int 0) = false by simp [eqL, h]]
    rw [if_neg h] at q
    simp
    exact ⟨_, hat_at (j := i - 1) (by omega) (by omega), c_step (give q)⟩
theorem c_yes {ps : List Str} {cut i : Nat} (R : RelOk ps cut) (hi : i < ps.length) (q : Q (yesV ps cut i) A) : w_yes_step [.tup (ps.map .str), .int cut, .int i] A Q E := by
  have lo := R.lo
  rw [w_yes_step, wFun_dx]
  unfold yesV at q
  simp [b_yes_step, b_yes_step_1, b_yes_step_2, b_yes_step_3]
  by_cases h : cut < i
  · rw [if_pos h]
    rw [if_pos h] at q
    exact ⟨_, hat_at (j := i - 1) (by omega) (by omega), c_cut_before hi (c_step (give q))⟩
  · rw [if_neg h]
    rw [if_neg h] at q
    by_cases h2 : 0 < i
    · rw [if_pos h2]
      rw [if_pos h2] at q
      exact ⟨_, hat_at (j := i - 1) (by omega) (by omega), c_step (give q)⟩
    · rw [if_neg h2]
      rw [if_neg h2] at q
      by_cases h3 : 0 < cut
      · rw [if_pos h3]
        rw [if_pos h3] at q
        exact ⟨_, hat_at (j := 1) rfl (by omega), _, hat_last lo, c_step (give q)⟩
      · rw [if_neg h3]
        rw [if_neg h3] at q
        exact ⟨_, hat_at (j := 1) rfl (by omega), _, hat_last lo, _, hat_at (j := 1) rfl (by omega), c_step (give q)⟩
theorem c_go {ps : List Str} {cut i : Nat} (R : RelOk ps cut) (hi : i < ps.length) (h0 : 0 < i) (q : Q (goV ps cut i) A) : w_go_step [.tup (ps.map .str), .int cut, .int i] A Q E := by
  have lo := R.lo
  have hc := R.cut
  rw [w_go_step, wFun_dx]
  unfold goV at q
  simp [b_go_step, b_go_step_1, b_go_step_2]
  by_cases h : i < cut
  · rw [if_pos h]
    rw [if_pos h] at q
    exact ⟨_, hat_at (j := i + 1) (by omega) (by omega), c_step (give q)⟩
  · rw [if_neg h]
    rw [if_neg h] at q
    refine eqD_flat rfl rfl ?_
    by_cases h2 : i = cut
    · rw [show eqL (.int (i : Int)) (.int (cut : Int)) = true by simp [eqL, h2]]
      rw [if_pos h2] at q
      simp
      exact ⟨_, hat_at (j := i + 1) (by omega) (by omega), _, hat_at (j := i - 1) (by omega) (by omega), _, hat_at (j := i + 1) (by omega) (by omega), c_step (give q)⟩
    · rw [show eqL (.int (i : Int)) (.int (cut : Int)) = false by simp [eqL]; omega]
      rw [if_neg h2] at q
      simp
      rw [cutL_map, cut_next]
      refine lcP_map (fun x => .tup [x, .str "go"]) ?_ trivial ?_ ?_
      · cases ps[i + 1]? <;> simp
      · intro x hx K1 hk
        simp [wipeA]
        exact hk
      · simp
        refine c_step ?_
        have e : ((ps[i + 1]?.toList.map Vl.str).map fun x => Vl.tup [x, .str "go"]) = (if i + 1 < ps.length then [snd ps (i + 1) "go"] else []) := by
          split
          · rename_i h; rw [List.getElem?_eq_getElem h]; simp [snd, hat, h]
          · rename_i h; rw [List.getElem?_eq_none (by omega)]; rfl
        rw [← e] at q
        simpa [stp] using give q
/-! ### control steps as a whole -/
def recvB (ps : List Str) (cut i : Nat) (k : Str) : Bool := if k = "ask" ∨ k = "go" then decide (0 < i) else if k = "back" then decide (i < cut) else decide (i + 1 < ps.length)
def ctlV (ps : List Str) (cut i : Nat) (k : Str) : Vl :=
  if k = "ask" then askV ps cut i else if k = "no" then noV ps i else if k = "yes" then yesV ps cut i else if k = "go" then goV ps cut i else backV ps i
section
variable {ps : List Str} {cut i : Nat}
theorem ctl_ask : ctlV ps cut i "ask" = askV ps cut i := if_pos rfl
theorem ctl_no : ctlV ps cut i "no" = noV ps i := by unfold ctlV; rw [if_neg (by decide +kernel), if_pos rfl]
theorem ctl_yes : ctlV ps cut i "yes" = yesV ps cut i := by unfold ctlV; rw [if_neg (by decide +kernel), if_neg (by decide +kernel), if_pos rfl]
theorem ctl_go : ctlV ps cut i "go" = goV ps cut i := by unfold ctlV; rw [if_neg (by decide +kernel), if_neg (by decide +kernel), if_neg (by decide +kernel), if_pos rfl]
theorem ctl_back : ctlV ps cut i "back" = backV ps i := by unfold ctlV; rw [if_neg (by decide +kernel), if_neg (by decide +kernel), if_neg (by decide +kernel), if_neg (by decide +kernel)]
end
def Kinds : List Str := ["ask", "no", "yes", "go", "back"]
theorem tabIn {neg : Bool} {n : String} {tab : List (Str × String)} {z : Str} (q : Q (.bl (neg != (tab.lookup z).isSome)) A) : fTabIn neg n tab (.str z) (.gl n) A Q := ⟨rfl, z, rfl, q⟩
theorem tabIx {n g : String} {tab : List (Str × String)} {z : Str} (h : tab.lookup z = some g) (q : Q (.gl g) A) : fTabIx n tab (.gl n) (.str z) A Q := ⟨rfl, z, g, rfl, h, q⟩
theorem eqS (a b : Str) : eqL (.str a) (.str b) = decide (a = b) := by
  by_cases h : a = b
  · subst h; simp [eqL]
  · simp [eqL, h]
theorem c_received {ps : List Str} {cut i : Nat} {k : Str} (q : Q (.bl (recvB ps cut i k)) A) : w_is_received [.tup (ps.map .str), .int cut, .int i, .str k] A Q E := by
  rw [w_is_received, wFun_dx]
  simp [b_is_received, b_is_received_1, b_is_received_2]
  refine ⟨rfl, ⟨rfl, rfl⟩, ?_⟩
  rw [show inL (.str k) [.str "ask", .str "go"] = decide (k = "ask" ∨ k = "go") by
    have := inL_map k ["ask", "go"]
    rw [List.map_cons, List.map_cons, List.map_nil] at this
    rw [this]; simp]
  unfold recvB at q
  by_cases h : k = "ask" ∨ k = "go"
  · rw [if_pos h] at q
    simp [h]
    exact give q
  · rw [if_neg h] at q
    simp [h]
    refine eqD_flat rfl rfl ?_
    rw [eqS]
    by_cases h2 : k = "back"
    · rw [if_pos h2] at q
      simp [h2]
      exact give q
    · rw [if_neg h2] at q
      simp [h2]
      rw [show decide ((i : Int) < (ps.length : Int) - 1) = decide (i + 1 < ps.length) from decide_eq_decide.mpr (by omega)]
      exact give q
theorem k_look (k : Str) : k_STEPS.lookup k = if k = "ask" then some "ask_step" else if k = "no" then some "no_step" else if k = "yes" then some "yes_step" else if k = "go" then some "go_step" else if k = "back" then some "back_step" else none := by
  have e : ∀ x : Str, (k == x) = decide (k = x) := fun x => by
    by_cases h : k = x
    · subst h; simp
    · simp [h]
  simp only [k_STEPS, List.lookup, e]
  split <;> rename_i h0 <;> (try simp only [decide_eq_true_eq] at h0) <;> (try simp only [decide_eq_false_iff_not] at h0)
  · rw [if_pos h0]
  · rw [if_neg h0]
    split <;> rename_i h1 <;> (try simp only [decide_eq_true_eq] at h1) <;> (try simp only [decide_eq_false_iff_not] at h1)
    · rw [if_pos h1]
    · rw [if_neg h1]
      split <;> rename_i h2 <;> (try simp only [decide_eq_true_eq] at h2) <;> (try simp only [decide_eq_false_iff_not] at h2)
      · rw [if_pos h2]
      · rw [if_neg h2]
        split <;> rename_i h3 <;> (try simp only [decide_eq_true_eq] at h3) <;> (try simp only [decide_eq_false_iff_not] at h3)
        · rw [if_pos h3]
        · rw [if_neg h3]
          split <;> rename_i h4 <;> (try simp only [decide_eq_true_eq] at h4) <;> (try simp only [decide_eq_false_iff_not] at h4)
          · rw [if_pos h4]
          · rw [if_neg h4]
theorem k_some (k : Str) : (k_STEPS.lookup k).isSome = decide (k ∈ Kinds) := by
  rw [k_look]
  simp only [Kinds, List.mem_cons, List.not_mem_nil, or_false]
  split <;> (try simp [*])
  split <;> (try simp [*])
  split <;> (try simp [*])
  split <;> (try simp [*])
  split <;> (try simp [*])
/-- a control item that the host receives, or else an error -/
theorem c_control {ps : List Str} {cut : Nat} {v kd : Vl} (R : RelOk ps cut) (hv : okV A v) (hk : okV A kd)
    (q1 : ∀ a k, v = .str a → a ∈ ps → kd = .str k → k ∈ Kinds → recvB ps cut (ps.idxOf a) k = true → Q (ctlV ps cut (ps.idxOf a) k) A)
    (q0 : (∀ s ∈ ps, v ≠ .str s) → E (X1 "UnknownHost" "host" v) A)
    (q2 : ∀ a, v = .str a → a ∈ ps → (∀ k, kd = .str k → k ∈ Kinds → recvB ps cut (ps.idxOf a) k = false) → E ⟨"InvalidStep", ["kind", "host"], [kd, v]⟩ A) : w_control_step [rel ps cut, v, kd] A Q E := by
  rw [w_control_step, wFun_dx]
  simp [b_control_step]
  refine c_position R hv (fun a e ha => ?_) fun z => giveE (q0 z)
  subst e
  have hi := List.idxOf_lt_length_of_mem ha
  simp [b_control_step_1, b_control_step_2]
  refine is_str hk ?_ fun h0 => ?_
  · rintro k rfl
    simp
    refine tabIn ?_
    rw [k_some]
    by_cases hm : k ∈ Kinds
    · simp [hm]
      refine c_received ?_
      cases hr : recvB ps cut (ps.idxOf a) k with
      | false =>
        simp
        exact giveE (q2 a rfl ha fun k' e _ => by cases e; exact hr)
      | true =>
        simp [b_control_step_3]
        have q := q1 a k rfl ha rfl hm hr
        generalize ps.idxOf a = i at *
        simp only [Kinds, List.mem_cons, List.not_mem_nil, or_false] at hm
        unfold recvB at hr
        rcases hm with rfl | rfl | rfl | rfl | rfl
        · refine tabIx (tab := k_STEPS) (z := "ask") (g := "ask_step") (by decide +kernel) ?_
          refine ⟨_, rfl, w_ask_step, rfl, ?_⟩
          exact c_ask R hi (by simpa using hr) (give (by rw [ctl_ask] at q; exact q))
        · refine tabIx (tab := k_STEPS) (z := "no") (g := "no_step") (by decide +kernel) ?_
          refine ⟨_, rfl, w_no_step, rfl, ?_⟩
          exact c_no hi (give (by rw [ctl_no] at q; exact q))
        · refine tabIx (tab := k_STEPS) (z := "yes") (g := "yes_step") (by decide +kernel) ?_
          refine ⟨_, rfl, w_yes_step, rfl, ?_⟩
          exact c_yes R hi (give (by rw [ctl_yes] at q; exact q))
        · refine tabIx (tab := k_STEPS) (z := "go") (g := "go_step") (by decide +kernel) ?_
          refine ⟨_, rfl, w_go_step, rfl, ?_⟩
          exact c_go R hi (by simpa using hr) (give (by rw [ctl_go] at q; exact q))
        · refine tabIx (tab := k_STEPS) (z := "back") (g := "back_step") (by decide +kernel) ?_
          refine ⟨_, rfl, w_back_step, rfl, ?_⟩
          exact c_back hi (give (by rw [ctl_back] at q; exact q))
    · simp [hm]
      exact giveE (q2 a rfl ha fun k' e hk' => by cases e; exact (hm hk').elim)
  · simp
    exact giveE (q2 a rfl ha fun k' e _ => (h0 _ e).elim)
end Pg

set_option Elab.async false
set_option linter.all false
set_option maxRecDepth 100000
set_option maxHeartbeats 400000
/-! repr: what may be written out, and how long it is. -/
namespace Rpr
open PySem PySem.Spec PyProof.Rows L2 Rk Dw
/-! ### the written form is a text that the machine can hold -/
theorem sk_iff {x : Str} : PyData.strOk x = true ↔ ∀ c ∈ x.cps.toList, c < 1114112 := by
  unfold PyData.strOk
  rw [Array.all_eq_true_iff_forall_mem]
  simp
theorem sk_app {x y : Str} (h : PyData.strOk x = true) (g : PyData.strOk y = true) : PyData.strOk (x ++ y) = true := by
  rw [sk_iff] at *
  intro c hc
  have : (x ++ y).cps.toList = x.cps.toList ++ y.cps.toList := by
    show (x.cps ++ y.cps).toList = _
    simp
  rw [this] at hc
  rcases List.mem_append.mp hc with hc | hc
  · exact h c hc
  · exact g c hc
theorem char_lt (c : Char) : c.toNat < 1114112 := by
  have := c.valid
  have e : c.toNat = c.val.toNat := rfl
  rcases this with h | ⟨_, h⟩
  · have : c.val.toNat < 0xd800 := h
    omega
  · have : c.val.toNat < 0x110000 := h
    omega
theorem sk_of (s : String) : PyData.strOk (Str.ofString s) = true := by
  rw [sk_iff, Str.ofString_eq_toList]
  intro c hc
  simp at hc
  obtain ⟨d, _, rfl⟩ := hc
  exact char_lt d
theorem sk_join {sep : Str} (h : PyData.strOk sep = true) : ∀ {ts : List Str}, (∀ t ∈ ts, PyData.strOk t = true) → PyData.strOk (Str.join sep ts) = true
  | [], _ => by rw [show Str.join sep [] = Str.empty from rfl, sk_iff]; simp [Str.empty]
  | [t], g => by rw [show Str.join sep [t] = t from rfl]; exact g t List.mem_cons_self
  | t :: u :: r, g => by
    have ih := sk_join h (ts := u :: r) fun x hx => g x (List.mem_cons_of_mem _ hx)
    rw [show Str.join sep (t :: u :: r) = t ++ sep ++ Str.join sep (u :: r) from rfl]
    exact sk_app (sk_app (g t List.mem_cons_self) h) ih
theorem sk_char (q c : Nat) (hq : q < 1114112) (hc : c < 1114112) : ∀ d ∈ Builtin.Str.reprChar q c, d < 1114112 := by
  have hex : ∀ (w : Nat), ∀ d ∈ List.replicate (w - ((Nat.toDigits 16 c).map Char.toNat).length) 48 ++ (Nat.toDigits 16 c).map Char.toNat, d < 1114112 := fun w d hd => by
    rcases List.mem_append.mp hd with h | h
    · rw [List.mem_replicate] at h; omega
    · obtain ⟨x, _, rfl⟩ := List.mem_map.mp h; exact char_lt x
  intro d hd
  unfold Builtin.Str.reprChar at hd
  split at hd
  · simp at hd; omega
  split at hd
  · simp at hd; omega
  split at hd
  · simp at hd; omega
  split at hd
  · simp at hd; omega
  split at hd
  · simp at hd; omega
  split at hd
  · rcases List.mem_append.mp hd with h | h
    · simp at h; omega
    · exact hex 2 d h
  split at hd
  · rcases List.mem_append.mp hd with h | h
    · simp at h; omega
    · exact hex 4 d h
  · rcases List.mem_append.mp hd with h | h
    · simp at h; omega
    · exact hex 8 d h
theorem sk_fold (q : Nat) (hq : q < 1114112) : ∀ (l : List Nat) (acc : Array Nat), (∀ c ∈ l, c < 1114112) → (∀ c ∈ acc.toList, c < 1114112) → ∀ c ∈ (l.foldl (fun out c => out ++ (Builtin.Str.reprChar q c).toArray) acc).toList, c < 1114112
  | [], acc, _, h => h
  | x :: l, acc, g, h => by
    refine sk_fold q hq l _ (fun c hc => g c (List.mem_cons_of_mem _ hc)) fun c hc => ?_
    simp at hc
    rcases hc with hc | hc
    · exact h c (by simpa using hc)
    · exact sk_char q x hq (g x List.mem_cons_self) c hc
theorem sk_repr {x : Str} (h : PyData.strOk x = true) : PyData.strOk (reprText x) = true := by
  rw [sk_iff] at *
  have hq : reprQuote x < 1114112 := by unfold reprQuote; split <;> decide
  intro c hc
  unfold reprText at hc
  simp only [Array.toList_push, List.mem_append, List.mem_singleton] at hc
  rcases hc with hc | hc
  · rw [← Array.foldl_toList] at hc
    exact sk_fold _ hq _ _ h (by simp [hq]) c hc
  · omega
mutual
/-- its texts are texts -/
def leafOk : PyData → Prop
  | .str x => PyData.strOk x = true
  | .list xs => leafOks xs
  | .tuple xs => leafOks xs
  | .dict kvs => kvs = []
  | _ => True
def leafOks : List PyData → Prop
  | [] => True
  | x :: xs => leafOk x ∧ leafOks xs
end
mutual
theorem sk_shown : ∀ d : PyData, leafOk d → PyData.strOk d.shown = true
  | .none, _ => by rw [PyData.shown_none]; exact sk_of _
  | .bool b, _ => by rw [PyData.shown_bool]; cases b <;> exact sk_of _
  | .int i, _ => by rw [PyData.shown_int]; exact sk_of _
  | .str x, h => by rw [PyData.shown_str]; exact sk_repr h
  | .list xs, h => by rw [PyData.shown_list]; exact sk_app (sk_app (sk_of _) (sk_join (sk_of _) (sk_shownAll xs h))) (sk_of _)
  | .tuple xs, h => by rw [PyData.shown_tuple]; exact sk_app (sk_app (sk_of _) (sk_join (sk_of _) (sk_shownAll xs h))) (sk_of _)
  | .dict kvs, h => by rw [show kvs = [] from h]; decide +kernel
theorem sk_shownAll : ∀ ds : List PyData, leafOks ds → ∀ t ∈ PyData.shownAll ds, PyData.strOk t = true
  | [], _, t, ht => by rw [PyData.shownAll_nil] at ht; cases ht
  | d :: ds, h, t, ht => by
    rw [PyData.shownAll_cons] at ht
    rcases List.mem_cons.mp ht with rfl | ht
    · exact sk_shown d h.1
    · exact sk_shownAll ds h.2 t ht
end
theorem fits40 {d : PyData} (hl : d.leavesShort 40 = true) (hw : d.weight ≤ 2 ^ 18) : d.shown.length ≤ sizeLine := by
  have h := PyData.shown_le 40 (by decide) d hl
  rw [sizeLine_eq]
  omega
/-! ### values that may be written out, with a measure -/
def Sh (A : Ah) (n : Nat) (v : Vl) (W : Nat) : Prop := ∃ d, dat n A v = some d ∧ d.showable = true ∧ leafOk d ∧ d.leavesShort 40 = true ∧ d.weight ≤ W
def Shs (A : Ah) (n : Nat) (xs : List Vl) (W : Nat) : Prop := ∃ ds, dats (dat n A) xs = some ds ∧ PyData.showableAll ds = true ∧ leafOks ds ∧ PyData.leavesShortAll 40 ds = true ∧ PyData.weightAll ds ≤ W
section
variable {A : Ah} {n W V : Nat} {x : Vl} {xs : List Vl}
theorem Sh.mono (h : Sh A n x W) (hw : W ≤ V := by omega) : Sh A n x V := by
  obtain ⟨d, a, c, e, f, g⟩ := h
  exact ⟨d, a, c, e, f, by omega⟩
theorem Sh.non : Sh A (n + 1) .non 0 := ⟨.none, rfl, rfl, trivial, rfl, Nat.le_refl _⟩
theorem Sh.bl {b : Bool} : Sh A (n + 1) (.bl b) 0 := ⟨.bool b, rfl, rfl, trivial, rfl, Nat.le_refl _⟩
theorem Sh.int {i : Int} (h : i.natAbs < 10 ^ 12) : Sh A (n + 1) (.int i) 40 := by
  have hl : i.natAbs.log2 < 40 := by
    by_cases z : i.natAbs = 0
    · rw [z]; decide
    · have := (Nat.log2_lt z (k := 40)).mpr (by omega)
      exact this
  refine ⟨.int i, rfl, by simp only [PyData.showable, decide_eq_true_eq]; omega, trivial, by simp only [PyData.leavesShort, decide_eq_true_eq]; exact Nat.le_trans (PyData.shown_int_le h) (by decide), ?_⟩
  simp only [PyData.weight]
  split <;> omega
theorem Sh.big {i : Int} (h : i.natAbs < 10 ^ 38) : Sh A (n + 1) (.int i) 130 := by
  have hl : i.natAbs.log2 < 127 := by
    by_cases z : i.natAbs = 0
    · rw [z]; decide
    · exact (Nat.log2_lt z (k := 127)).mpr (by omega)
  refine ⟨.int i, rfl, by simp only [PyData.showable, decide_eq_true_eq]; omega, trivial, ?_, ?_⟩
  · simp only [PyData.leavesShort, decide_eq_true_eq]
    have e := int_text_length_le10 (k := 38) (by decide) h
    show (Str.ofString (toString i)).length ≤ 40
    rw [PySem.ofString_length]; omega
  · simp only [PyData.weight]
    split <;> omega
theorem Sh.str {s : Str} {L : Nat} (h : okS s) (hl : s.length ≤ L) : Sh A (n + 1) (.str s) L := by
  refine ⟨.str s, rfl, rfl, h.2, ?_, by simpa [PyData.weight, Str.length] using hl⟩
  simp only [PyData.leavesShort, List.all_eq_true, decide_eq_true_eq]
  intro c hc
  have := sk_iff.mp h.2 c hc
  have e : (16 : Nat) ^ 8 = 4294967296 := by decide
  omega
theorem Sh.host {s : Str} (h : hostOk s) : Sh A (n + 1) (.str s) 8 := .str h.okS h.2.1
theorem Sh.tup (h : Shs A n xs W) : Sh A (n + 1) (.tup xs) W := by
  obtain ⟨ds, a, c, e, f, g⟩ := h
  refine ⟨.tuple ds, by show (dats (dat n A) xs).map PyData.tuple = _; rw [a]; rfl, ?_, e, ?_, ?_⟩
  · simpa only [PyData.showable] using c
  · simpa only [PyData.leavesShort] using f
  · simpa only [PyData.weight] using g
theorem Sh.lst (h : Shs A n xs W) : Sh A (n + 1) (.lst xs) W := by
  obtain ⟨ds, a, c, e, f, g⟩ := h
  refine ⟨.list ds, by show (dats (dat n A) xs).map PyData.list = _; rw [a]; rfl, ?_, e, ?_, ?_⟩
  · simpa only [PyData.showable] using c
  · simpa only [PyData.leavesShort] using f
  · simpa only [PyData.weight] using g
theorem Sh.ref {p : Addr} (hp : A p = some (.lst xs)) (h : Shs A n xs W) : Sh A (n + 1) (.ref p) W := by
  obtain ⟨ds, a, c, e, f, g⟩ := h
  refine ⟨.list ds, by show datR (dats (dat n A)) (A p) = _; rw [hp]; show (dats (dat n A) xs).map PyData.list = _; rw [a]; rfl, ?_, e, ?_, ?_⟩
  · simpa only [PyData.showable] using c
  · simpa only [PyData.leavesShort] using f
  · simpa only [PyData.weight] using g
theorem Sh.dct : Sh A (n + 1) (.dct [] []) 0 := ⟨.dict [], rfl, rfl, rfl, rfl, by decide⟩
theorem Shs.nil : Shs A n [] 0 := ⟨[], rfl, rfl, trivial, rfl, Nat.le_refl _⟩
theorem Shs.cons (h : Sh A n x W) (t : Shs A n xs V) : Shs A n (x :: xs) (W + 1 + V) := by
  obtain ⟨d, a, c, e, f, g⟩ := h
  obtain ⟨ds, a', c', e', f', g'⟩ := t
  refine ⟨d :: ds, by rw [dats, a, a'], ?_, ⟨e, e'⟩, ?_, ?_⟩
  · simp only [PyData.showableAll, c, c', Bool.and_self]
  · simp only [PyData.leavesShortAll, f, f', Bool.and_self]
  · simp only [PyData.weightAll]; omega
theorem Shs.mono (h : Shs A n xs W) (hw : W ≤ V := by omega) : Shs A n xs V := by
  obtain ⟨d, a, c, e, f, g⟩ := h
  exact ⟨d, a, c, e, f, by omega⟩
theorem Shs.all : ∀ {xs : List Vl}, (∀ x ∈ xs, Sh A n x W) → Shs A n xs (xs.length * (W + 1))
  | [], _ => Shs.nil.mono
  | x :: xs, h => (Shs.cons (h x List.mem_cons_self) (Shs.all fun y hy => h y (List.mem_cons_of_mem _ hy))).mono (by rw [List.length_cons, Nat.add_mul, Nat.one_mul]; omega)
end
/-- the written form -/
def shw (A : Ah) (v : Vl) : Str := ((dat 12 A v).map PyData.shown).getD Str.empty
theorem c_repr {A : Ah} {v : Vl} {W : Nat} {Q : QE} (h : Sh A 12 v W) (hw : W ≤ 2 ^ 18) (q : Q (.str (shw A v)) A) : fReprD [v] A Q := by
  obtain ⟨d, a, c, e, f, g⟩ := h
  refine ⟨v, d, rfl, a, c, ⟨fits40 f (by omega), sk_shown d e⟩, ?_⟩
  unfold shw at q
  rw [a] at q
  exact q
/-! ### values without things that may change -/
mutual
def nR : Vl → Bool
  | .ref _ => false
  | .tup xs => nRs xs
  | .lst xs => nRs xs
  | _ => true
def nRs : List Vl → Bool
  | [] => true
  | x :: xs => nR x && nRs xs
end
theorem dats_congr {f g : Vl → Option PyData} : ∀ {xs : List Vl}, (∀ x ∈ xs, f x = g x) → dats f xs = dats g xs
  | [], _ => rfl
  | x :: xs, h => by rw [dats, dats, h x List.mem_cons_self, dats_congr fun y hy => h y (List.mem_cons_of_mem _ hy)]
theorem nRs_iff {xs : List Vl} : nRs xs = true ↔ ∀ x ∈ xs, nR x = true := by
  induction xs with
  | nil => simp [nRs]
  | cons x xs ih => simp [nRs, ih]
theorem dat_nr {A B : Ah} : ∀ {n : Nat} {v : Vl}, nR v = true → dat n A v = dat n B v
  | 0, _, _ => rfl
  | n + 1, v, h => by
    cases v with
    | ref => cases h
    | tup xs => show (dats (dat n A) xs).map _ = (dats (dat n B) xs).map _; rw [dats_congr fun x hx => dat_nr (nRs_iff.mp h x hx)]
    | lst xs => show (dats (dat n A) xs).map _ = (dats (dat n B) xs).map _; rw [dats_congr fun x hx => dat_nr (nRs_iff.mp h x hx)]
    | dct ks xs => cases ks <;> cases xs <;> rfl
    | _ => rfl
theorem shw_nr {A B : Ah} {v : Vl} (h : nR v = true) : shw A v = shw B v := by unfold shw; rw [dat_nr h]
end Rpr

set_option Elab.async false
set_option linter.all false
set_option maxRecDepth 100000
set_option maxHeartbeats 400000
/-! What relinks and control steps look like, written out; errors that are caught. -/
namespace Rp3
open PySem PySem.Spec PyProof.Rows L2 Rk Pg Hl Dw Rpr
variable {A : Ah} {Q : QE} {E : EX}
theorem shRel {n : Nat} {ps : List Str} {cut : Nat} (h : PathOk ps) (hc : cut < 1000) : Sh A (n + 3) (rel ps cut) 1000 := by
  refine (Sh.tup (Shs.cons (Sh.tup (Shs.all (W := 8) fun x hx => ?_)) (Shs.cons (Sh.int (by omega)) Shs.nil))).mono ?_
  · obtain ⟨s, hs, rfl⟩ := List.mem_map.mp hx
    exact Sh.host (h.ok s hs)
  · have := h.hi; simp; omega
theorem hat_some {ps : List Str} {i : Nat} (h : i < ps.length) : hat ps i = .str ps[i] := by unfold hat; rw [List.getElem?_eq_getElem h]
theorem okW {k : Str} (h : k ∈ (["ask", "no", "yes", "go", "back", "reserved", "turned", "free", "refused", "done", "another"] : List Str)) : okS k ∧ k.length ≤ 10 := by
  simp only [List.mem_cons, List.not_mem_nil, or_false] at h
  rcases h with rfl | rfl | rfl | rfl | rfl | rfl | rfl | rfl | rfl | rfl | rfl <;> exact ⟨⟨by decide +kernel, by decide +kernel⟩, by decide +kernel⟩
theorem shWord {n : Nat} {k : Str} (h : k ∈ (["ask", "no", "yes", "go", "back", "reserved", "turned", "free", "refused", "done", "another"] : List Str)) : Sh A (n + 1) (.str k) 40 := (Sh.str (okW h).1 (okW h).2).mono
theorem shHat {n : Nat} {ps : List Str} {i : Nat} (h : PathOk ps) : Sh A (n + 1) (hat ps i) 40 := by
  unfold hat
  cases e : ps[i]? with
  | none => exact Sh.non.mono
  | some s => exact (Sh.host (h.ok s (List.mem_of_getElem? e))).mono
theorem shSnd {n : Nat} {ps : List Str} {i : Nat} {k : Str} (h : PathOk ps) (hk : k ∈ (["ask", "no", "yes", "go", "back", "reserved", "turned", "free", "refused", "done", "another"] : List Str)) : Sh A (n + 2) (snd ps i k) 90 :=
  (Sh.tup (Shs.cons (shHat h) (Shs.cons (shWord hk) Shs.nil))).mono
theorem shStp {n : Nat} {xs : List Vl} {k : Str} {a r o : Vl} (hx : ∀ x ∈ xs, Sh A (n + 2) x 90) (hl : xs.length ≤ 5) (hk : k ∈ (["ask", "no", "yes", "go", "back", "reserved", "turned", "free", "refused", "done", "another"] : List Str)) (ha : Sh A (n + 3) a 40) (hr : Sh A (n + 3) r 40) (ho : Sh A (n + 3) o 40) : Sh A (n + 4) (stp xs k a r o) 1000 := by
  refine (Sh.tup (Shs.cons (Sh.lst (Shs.all hx)) (Shs.cons (shWord hk) (Shs.cons ha (Shs.cons hr (Shs.cons ho Shs.nil)))))).mono ?_
  have := Nat.mul_le_mul_right (90 + 1) hl
  omega
theorem shCut {n : Nat} {ps : List Str} {cut i : Nat} (h : PathOk ps) : Sh A (n + 1) (cutB ps cut i) 40 := by
  unfold cutB
  split
  · exact shHat h
  · exact Sh.non.mono
theorem shCtl {n : Nat} {ps : List Str} {cut i : Nat} {k : Str} (h : PathOk ps) (hk : k ∈ Pg.Kinds) : Sh A (n + 4) (ctlV ps cut i k) 1000 := by
  have non : Sh A (n + 3) .non 40 := Sh.non.mono
  simp only [Pg.Kinds, List.mem_cons, List.not_mem_nil, or_false] at hk
  rcases hk with rfl | rfl | rfl | rfl | rfl
  · rw [ctl_ask]; unfold askV
    split
    · exact shStp (by simp; exact shSnd h (by simp)) (by simp) (by simp) non non non
    · exact shStp (by simp; exact shSnd h (by simp)) (by simp) (by simp) (shHat h) (shCut h) non
  · rw [ctl_no]; unfold noV
    split
    · exact shStp (by simp) (by simp) (by simp) non non (shWord (by simp))
    · exact shStp (by simp; exact shSnd h (by simp)) (by simp) (by simp) non non non
  · rw [ctl_yes]; unfold yesV
    split
    · exact shStp (by simp; exact shSnd h (by simp)) (by simp) (by simp) non (shCut h) non
    split
    · exact shStp (by simp; exact shSnd h (by simp)) (by simp) (by simp) non non non
    split
    · exact shStp (by simp; exact shSnd h (by simp)) (by simp) (by simp) (shHat h) non non
    · exact shStp (by simp; exact shSnd h (by simp)) (by simp) (by simp) (shHat h) (shHat h) (shWord (by simp))
  · rw [ctl_go]; unfold goV
    split
    · exact shStp (by simp; exact shSnd h (by simp)) (by simp) (by simp) non non non
    split
    · exact shStp (by simp; exact ⟨shSnd h (by simp), shSnd h (by simp)⟩) (by simp) (by simp) non (shHat h) non
    · refine shStp (fun x hx => ?_) (by split <;> simp) (by simp) non non non
      split at hx
      · rw [List.mem_singleton.mp hx]; exact shSnd h (by simp)
      · cases hx
  · rw [ctl_back]; unfold backV
    split
    · exact shStp (by simp) (by simp) (by simp) non non (shWord (by simp))
    · exact shStp (by simp; exact shSnd h (by simp)) (by simp) (by simp) non non non
/-! a tracked list within a tuple -/
theorem dat_ref {n : Nat} {p : Addr} {xs : List Vl} (h : A p = some (.lst xs)) : dat n A (.ref p) = dat n A (.lst xs) := by
  cases n with
  | zero => rfl
  | succ n => show datR (dats (dat n A)) (A p) = _; rw [h]; rfl
theorem dat_head {n : Nat} {p : Addr} {xs r : List Vl} (h : A p = some (.lst xs)) : dat n A (.tup (.ref p :: r)) = dat n A (.tup (.lst xs :: r)) := by
  cases n with
  | zero => rfl
  | succ n => show (dats (dat n A) _).map _ = (dats (dat n A) _).map _; rw [dats, dats, dat_ref h]
theorem shw_congr {v w : Vl} (h : dat 12 A v = dat 12 A w) : shw A v = shw A w := by unfold shw; rw [h]
theorem Sh_congr {n W : Nat} {v w : Vl} (h : dat n A v = dat n A w) (s : Sh A n w W) : Sh A n v W := by unfold Sh; rw [h]; exact s
/-! errors that are caught -/
section
variable {D : Es} {S : Sl} {wb : WS} {hs : List Hnd}
@[simp ↓] theorem e_wTry : wTry wb hs D S A = wb { D with ex := fun x S1 A1 => hndL D hs x S1 A1 } S A := id rfl
theorem hnd_hit {h : Hnd} {r : List Hnd} {x : Xv} (hx : xAnc x.C ≠ []) (hi : isA x.C h.cs = true) (q : ∀ a d, h.ws a d x.C (offA h.slot D) (onA h.slot (.xv a d x.C x.ns x.xs) S) A) : hndL D (h :: r) x S A := by
  unfold hndL
  exact ⟨hx, by rw [if_pos hi]; exact q⟩
theorem hnd_miss {h : Hnd} {r : List Hnd} {x : Xv} (hx : xAnc x.C ≠ []) (hi : isA x.C h.cs = false) (q : hndL D r x S A) : hndL D (h :: r) x S A := by
  unfold hndL
  exact ⟨hx, by rw [if_neg (by rw [hi]; exact Bool.false_ne_true)]; exact q⟩
theorem e_wXf {i : Nat} {a : Addr} {d : Option Addr} {C : String} {f : Str} {ns : List Str} {xs : List Vl} (h : S[i]? = some (some (.xv a d C ns xs))) : wXf i a d C f S A Q E = ∃ z, (ns.zip xs).lookup f = some z ∧ Q z A := by
  unfold wXf
  rw [h]
  simp
theorem e_wXi {i : Nat} {a : Addr} {d : Option Addr} {C : String} {Ds : List String} {ns : List Str} {xs : List Vl} (h : S[i]? = some (some (.xv a d C ns xs))) : wXi i a d C Ds S A Q E = Q (.bl (isA C Ds)) A := by
  unfold wXi
  rw [h]
  simp
end
/-- two values that are alike are equal -/
theorem eq_same {k : Bool} {v : Vl} {d : PyData} (h : dat 12 A v = some d) (hd : d.hasDict = false) (he : PyData.eqv d d = true) (q : Q (.bl (!k)) A) : fEqD k v v A Q := eqD_of <|
  ⟨d, d, h, h, hd, hd, by rw [he]; cases k <;> exact q⟩
/-- a field by its place -/
theorem xf1 {i : Nat} {a : Addr} {d : Option Addr} {C : String} {f : Str} {ns : List Str} {z : Vl} {xs : List Vl} {S : Sl} (h : S[i]? = some (some (.xv a d C (f :: ns) (z :: xs)))) (q : Q z A) : wXf i a d C f S A Q E := by
  rw [e_wXf h]
  exact ⟨z, by simp [List.zip], q⟩
theorem xf2 {i : Nat} {a : Addr} {d : Option Addr} {C : String} {f g : Str} {ns : List Str} {y z : Vl} {xs : List Vl} {S : Sl} (h : S[i]? = some (some (.xv a d C (g :: f :: ns) (y :: z :: xs)))) (ne : (f == g) = false) (q : Q z A) : wXf i a d C f S A Q E := by
  rw [e_wXf h]
  exact ⟨z, by simp [List.zip, List.lookup, ne], q⟩
theorem xi {i : Nat} {a : Addr} {d : Option Addr} {C : String} {Ds : List String} {ns : List Str} {xs : List Vl} {S : Sl} {b : Bool} (h : S[i]? = some (some (.xv a d C ns xs))) (hb : isA C Ds = b) (q : Q (.bl b) A) : wXi i a d C Ds S A Q E := by
  rw [e_wXi h, hb]; exact q
theorem hit {D : Es} {S : Sl} {C : String} {ns : List Str} {xs : List Vl} {cs : List String} {sl : Option Nat} {ws : Addr → Option Addr → String → WS} {r : List Hnd} (hx : xAnc C ≠ []) (hi : isA C cs = true) (q : ∀ a d, ws a d C (offA sl D) (onA sl (.xv a d C ns xs) S) A) : hndL D (⟨cs, sl, ws⟩ :: r) ⟨C, ns, xs⟩ S A := hnd_hit hx hi q
theorem miss {D : Es} {S : Sl} {C : String} {ns : List Str} {xs : List Vl} {cs : List String} {sl : Option Nat} {ws : Addr → Option Addr → String → WS} {r : List Hnd} (hx : xAnc C ≠ []) (hi : isA C cs = false) (q : hndL D r ⟨C, ns, xs⟩ S A) : hndL D (⟨cs, sl, ws⟩ :: r) ⟨C, ns, xs⟩ S A := hnd_miss hx hi q
theorem eq_tnil {k : Bool} {ps : List Str} (w : Q (.bl (k != decide (ps = []))) A) : fEqD k (.tup (ps.map .str)) (.tup []) A Q := by
  refine eqD_of ⟨.tuple (ps.map PyData.str), .tuple [], ?_, rfl, ?_, rfl, ?_⟩
  · show (dats (dat 11 A) (ps.map .str)).map PyData.tuple = _
    rw [dats_strs]; rfl
  · simpa only [PyData.hasDict] using noDict_strs ps
  · cases ps with
    | nil => simpa [PyData.eqv, PyData.eqvAll] using w
    | cons a r => simpa [PyData.eqv, PyData.eqvAll] using w
theorem c_control0 {r v kd : Vl} (hr : okV A r) (nr : ¬ IsRel r) (q : E (X1 "InvalidRelink" "value" r) A) : w_control_step [r, v, kd] A Q E := by
  rw [w_control_step, wFun_dx]
  simp [b_control_step]
  exact c_position0 hr nr (giveE q)
/-! values of any kind, by value: none of them changes -/
def Od (n : Nat) (z : Vl) (W : Nat) : Prop := nR z = true ∧ (∀ A : Ah, okV A z) ∧ ∀ A : Ah, Sh A n z W
def Ods (n : Nat) (xs : List Vl) (W : Nat) : Prop := nRs xs = true ∧ (∀ A : Ah, okVs A xs) ∧ ∀ A : Ah, Shs A n xs W
section
variable {n W V : Nat} {x : Vl} {xs ys : List Vl}
theorem Od.mono (h : Od n x W) (hw : W ≤ V := by omega) : Od n x V := ⟨h.1, h.2.1, fun A => (h.2.2 A).mono hw⟩
theorem Ods.mono (h : Ods n xs W) (hw : W ≤ V := by omega) : Ods n xs V := ⟨h.1, h.2.1, fun A => (h.2.2 A).mono hw⟩
theorem Od.non : Od (n + 1) .non 0 := ⟨rfl, fun _ => trivial, fun _ => Sh.non⟩
theorem Od.bl {b : Bool} : Od (n + 1) (.bl b) 0 := ⟨rfl, fun _ => trivial, fun _ => Sh.bl⟩
theorem Od.int {i : Int} (h : i.natAbs < 10 ^ 12) : Od (n + 1) (.int i) 40 := ⟨rfl, fun _ => trivial, fun _ => Sh.int h⟩
theorem Od.str {s : Str} {L : Nat} (h : okS s) (hl : s.length ≤ L) : Od (n + 1) (.str s) L := ⟨rfl, fun _ => trivial, fun _ => Sh.str h hl⟩
theorem Od.dct : Od (n + 1) (.dct [] []) 0 := ⟨rfl, fun _ => trivial, fun _ => Sh.dct⟩
theorem Od.tup (h : Ods n xs W) (l : xs.length ≤ 1000) : Od (n + 1) (.tup xs) W := ⟨h.1, fun A => ⟨l, h.2.1 A⟩, fun A => Sh.tup (h.2.2 A)⟩
theorem Od.lst (h : Ods n xs W) (l : xs.length ≤ 1000) : Od (n + 1) (.lst xs) W := ⟨h.1, fun A => l, fun A => Sh.lst (h.2.2 A)⟩
theorem Ods.nil : Ods n [] 0 := ⟨rfl, fun _ => trivial, fun _ => Shs.nil⟩
theorem Ods.cons (h : Od n x W) (t : Ods n xs V) : Ods n (x :: xs) (W + 1 + V) := ⟨by unfold nRs; rw [h.1, t.1]; rfl, fun A => ⟨h.2.1 A, t.2.1 A⟩, fun A => Shs.cons (h.2.2 A) (t.2.2 A)⟩
theorem Od.host {s : Str} (h : hostOk s) : Od (n + 1) (.str s) 8 := .str h.okS h.2.1
theorem Ods.hosts {ps : List Str} (h : ∀ p ∈ ps, hostOk p) (l : ps.length ≤ 100) : Ods (n + 1) (ps.map .str) 900 := by
  refine ⟨nRs_iff.mpr fun x hx => ?_, fun A => okV_strs A ps, fun A => (Shs.all (W := 8) fun x hx => ?_).mono ?_⟩
  · obtain ⟨s, _, rfl⟩ := List.mem_map.mp hx; rfl
  · obtain ⟨s, hs, rfl⟩ := List.mem_map.mp hx
    exact Sh.host (h s hs)
  · simp; omega
theorem Ods.hosts1 {ps : List Str} (h : ∀ p ∈ ps, hostOk p) (l : ps.length ≤ 100) (hx : Od (n + 1) x W) : Ods (n + 1) (ps.map .str ++ [x]) (901 + W) := by
  have H : ∀ (qs : List Str), (∀ p ∈ qs, hostOk p) → Ods (n + 1) (qs.map .str ++ [x]) (qs.length * 9 + (W + 1)) := fun qs => by
    induction qs with
    | nil => intro _; exact (Ods.cons hx Ods.nil).mono (by simp)
    | cons q qs ih =>
      intro g
      exact (Ods.cons (Od.host (g q List.mem_cons_self)) (ih fun p hp => g p (List.mem_cons_of_mem _ hp))).mono (by simp; omega)
  exact (H ps h).mono (by omega)
end
/-! pairs that are no relinks -/
theorem rel_pair {xs : List Vl} {y : Vl} (h : IsRel (.tup [.tup xs, y])) : ∃ ps cut, xs = ps.map .str ∧ y = .int (cut : Nat) ∧ RelOk ps cut := by
  obtain ⟨ps, cut, e, R⟩ := h
  simp only [Vl.tup.injEq, List.cons.injEq, and_true] at e
  exact ⟨ps, cut, e.1, e.2, R⟩
theorem strs_inj {ps qs : List Str} (h : ps.map Vl.str = qs.map Vl.str) : ps = qs := (List.map_inj_right (fun a b e => Vl.str.inj e)).mp h
theorem cut_take {α : Type} {xs : List α} (k : Nat) : cutL xs none (some (k : Int)) = xs.take k := by
  unfold cutL
  rw [HT.sIx_nat]
  simp [HT.sIx]
/-! capital letters -/
theorem up_one : ∀ c ∈ List.range' 97 26, Unicode.upperOf c = [c - 32] := by decide +kernel
theorem flat_idx {g : Nat → List Nat} (cs : List Nat) : ((cs.mapIdx fun _ c => (g c).toArray).map Array.toList).flatten = cs.flatMap g := by
  induction cs with
  | nil => rfl
  | cons c cs ih => rw [List.mapIdx_cons, List.map_cons, List.flatten_cons, ih, List.flatMap_cons]
theorem up_ofC {cs : List Nat} (h : ∀ c ∈ cs, letter c) : Txt.upper (ofC cs) = ofC (cs.map (· - 32)) := by
  have e : cs.flatMap Unicode.upperOf = cs.map (· - 32) := by
    induction cs with
    | nil => rfl
    | cons c cs ih =>
      have hc := h c List.mem_cons_self
      rw [List.flatMap_cons, List.map_cons, ih fun d hd => h d (List.mem_cons_of_mem _ hd), up_one c (by rw [List.mem_range']; exact ⟨c - 97, by have := hc.2; have := hc.1; omega, by have := hc.1; omega⟩)]
      rfl
  unfold Txt.upper placed ofC
  congr 1
  apply Array.ext'
  rw [Array.toList_flatten, Array.toList_mapIdx]
  show ((cs.mapIdx fun _ c => (Unicode.upperOf c).toArray).map Array.toList).flatten = _
  rw [flat_idx, e]
/-- the name in capital letters is no host -/
theorem up_host {s : Str} (h : hostOk s) : okS (Txt.upper s) ∧ (Txt.upper s).length ≤ 8 ∧ ¬ hostOk (Txt.upper s) := by
  obtain ⟨cs, rfl, h1, h2, hl⟩ := host_ofC h
  rw [up_ofC hl]
  refine ⟨⟨by rw [ofC_len]; simp; show _ ≤ 16777216; omega, ?_⟩, by rw [ofC_len]; simpa using h2, fun g => ?_⟩
  · rw [sk_iff]
    intro c hc
    simp [ofC] at hc
    obtain ⟨d, hd, rfl⟩ := hc
    have := (hl d hd).2
    omega
  · cases cs with
    | nil => simp at h1
    | cons c cs =>
      have a := (hl c List.mem_cons_self)
      have b := g.2.2 (c - 32) (by simp [ofC])
      have := a.2; have := b.1
      omega
theorem dats_up {f g : Vl → Option PyData} (h : ∀ x d, f x = some d → g x = some d) : ∀ {xs : List Vl} {ds : List PyData}, dats f xs = some ds → dats g xs = some ds
  | [], _, e => e
  | x :: xs, ds, e => by
    rw [dats] at e
    split at e
    · rename_i d ds' e1 e2
      cases e
      rw [dats, h _ _ e1, dats_up h e2]
    · cases e
theorem dat_up : ∀ {n : Nat} {v : Vl} {d : PyData}, dat n A v = some d → dat (n + 1) A v = some d
  | 0, _, _, e => by cases e
  | n + 1, v, d, e => by
    have H : ∀ {xs : List Vl} {f : List PyData → PyData}, (dats (dat n A) xs).map f = some d → (dats (dat (n + 1) A) xs).map f = some d := fun {xs f} e => by
      cases h : dats (dat n A) xs with
      | none => rw [h] at e; cases e
      | some ds => rw [h] at e; rw [dats_up (fun _ _ => dat_up) h]; exact e
    cases v with
    | tup xs => exact H e
    | lst xs => exact H e
    | ref p =>
      have e : datR (dats (dat n A)) (A p) = some d := e
      show datR (dats (dat (n + 1) A)) (A p) = some d
      cases z : A p with
      | none => rw [z] at e; cases e
      | some o =>
        rw [z] at e
        cases o with
        | lst xs => exact H e
        | dct kvs => cases kvs with | nil => exact e | cons _ _ => cases e
        | dtt kvs => cases kvs with | nil => exact e | cons _ _ => cases e
        | _ => cases e
    | dct ks xs =>
      cases ks with
      | nil => cases xs with | nil => exact e | cons _ _ => cases e
      | cons _ _ => cases e
    | _ => exact e
theorem _root_.Rpr.Sh.up {n W : Nat} {v : Vl} (h : Sh A n v W) : Sh A (n + 1) v W := by
  obtain ⟨d, a, r⟩ := h
  exact ⟨d, dat_up a, r⟩
theorem Od.up {n W : Nat} {v : Vl} (h : Od n v W) : Od (n + 1) v W := ⟨h.1, h.2.1, fun A => (h.2.2 A).up⟩
theorem eqI (a b : Int) : eqL (.int a) (.int b) = decide (a = b) := by
  by_cases h : a = b
  · subst h; simp [eqL]
  · simp [eqL, h]
theorem fwd_cases {ps : List Str} {cut : Nat} {a g : Str} {ph src bit : Vl} : fwdV ps cut a ph src g bit = .non ∨ fwdV ps cut a ph src g bit = .int 0 ∨ fwdV ps cut a ph src g bit = .int 1 ∨ fwdV ps cut a ph src g bit = bit := by
  have hc : carrV ps src bit = .int 1 ∨ carrV ps src bit = bit := by unfold carrV; split <;> simp
  unfold fwdV
  split
  · simp
  split
  · split <;> simp
  split
  · rcases hc with e | e <;> simp [e]
  · simp
end Rp3

set_option Elab.async false
set_option linter.all false
set_option maxRecDepth 100000
set_option maxHeartbeats 400000
/-! forwards without a relink, and refused; == of values of any kind. -/
namespace Rp4
open PySem PySem.Spec PyProof.Rows L2 Rk Pg Hl Dw Rpr Rp3
variable {A : Ah} {Q : QE} {E : EX}
mutual
theorem eqvR : ∀ d : PyData, d.hasDict = false → PyData.eqv d d = true
  | .none, _ => by simp [PyData.eqv]
  | .bool b, _ => by simp [PyData.eqv]
  | .int i, _ => by simp [PyData.eqv]
  | .str x, _ => by simp [PyData.eqv]
  | .list xs, h => by rw [PyData.eqv]; exact eqvRs xs (by simpa only [PyData.hasDict] using h)
  | .tuple xs, h => by rw [PyData.eqv]; exact eqvRs xs (by simpa only [PyData.hasDict] using h)
  | .dict kvs, h => by simp only [PyData.hasDict] at h; cases h
theorem eqvRs : ∀ ds : List PyData, PyData.hasDictAll ds = false → PyData.eqvAll ds ds = true
  | [], _ => by rw [PyData.eqvAll]
  | d :: ds, h => by
    simp only [PyData.hasDictAll, Bool.or_eq_false_iff] at h
    rw [PyData.eqvAll, eqvR d h.1, eqvRs ds h.2]; rfl
end
/-! values without dicts and without things that change -/
mutual
def nD : Vl → Bool
  | .tup xs => nDs xs
  | .lst xs => nDs xs
  | .dct _ _ => false
  | .ref _ => false
  | _ => true
def nDs : List Vl → Bool
  | [] => true
  | x :: xs => nD x && nDs xs
end
theorem nDs_iff {xs : List Vl} : nDs xs = true ↔ ∀ x ∈ xs, nD x = true := by
  induction xs with
  | nil => simp [nDs]
  | cons x xs ih => simp [nDs, ih]
theorem nd_dats {f : Vl → Option PyData} (h : ∀ x d, nD x = true → f x = some d → d.hasDict = false) : ∀ {xs : List Vl} {ds : List PyData}, nDs xs = true → dats f xs = some ds → PyData.hasDictAll ds = false
  | [], ds, _, e => by cases e; rfl
  | x :: xs, ds, n, e => by
    unfold nDs at n
    rw [Bool.and_eq_true] at n
    rw [dats] at e
    split at e
    · rename_i d ds' e1 e2
      cases e
      simp only [PyData.hasDictAll, h _ _ n.1 e1, nd_dats h n.2 e2, Bool.or_self]
    · cases e
theorem nd_dat : ∀ {n : Nat} {v : Vl} {d : PyData}, nD v = true → dat n A v = some d → d.hasDict = false
  | 0, _, _, _, e => by cases e
  | n + 1, v, d, h, e => by
    have H : ∀ {xs : List Vl} {ds : List PyData}, nDs xs = true → dats (dat n A) xs = some ds → PyData.hasDictAll ds = false := fun a b => nd_dats (fun _ _ => nd_dat) a b
    cases v with
    | tup xs =>
      have e : (dats (dat n A) xs).map PyData.tuple = some d := e
      cases z : dats (dat n A) xs with
      | none => rw [z] at e; cases e
      | some ds => rw [z] at e; cases e; simpa only [PyData.hasDict] using H h z
    | lst xs =>
      have e : (dats (dat n A) xs).map PyData.list = some d := e
      cases z : dats (dat n A) xs with
      | none => rw [z] at e; cases e
      | some ds => rw [z] at e; cases e; simpa only [PyData.hasDict] using H h z
    | ref p => cases h
    | dct a b => cases h
    | non => cases e; rfl
    | bl b => cases e; rfl
    | int i => cases e; rfl
    | str s => cases e; rfl
    | _ => cases e
/-- alike, thus equal -/
theorem eq_alike {k : Bool} {v w : Vl} {W : Nat} (h : dat 12 A v = dat 12 A w) (s : Sh A 12 w W) (n : nD w = true) (q : Q (.bl (!k)) A) : fEqD k v w A Q := by
  refine eqD_of ?_
  obtain ⟨d, a, _⟩ := s
  have nd := nd_dat n a
  exact ⟨d, d, h.trans a, a, nd, nd, by rw [eqvR d nd]; cases k <;> exact q⟩
theorem sortT_eq {xs ys : List Str} (h : xs.Perm ys) : sortT xs = sortT ys := sort_unique (((sortT_perm xs).trans h).trans (sortT_perm ys).symm) (sortT_sorted xs) (sortT_sorted ys)
/-! forwards -/
theorem c_forwards0 {gs : List Str} {lk src bit ho ph : Vl} (hs : flatL src = true) (hl : ∀ P : List Vl → Prop, P (gs.map .str) → seqW A lk P) (hg : gs.length < 64)
    (hq : ∀ p, A p = none → Q (.ref p) (put A p (.lst (fwdsL (sortT gs) src fun _ => .int 0)))) : w_forwards [lk, src, bit, .non, ho, ph] A Q E := by
  rw [w_forwards, wFun_dx]
  simp [b_forwards, Rk.isNon]
  simp [b_forwards_1]
  intro p hpn
  simp [b_forwards_2]
  have sl : (sortT gs).length = gs.length := by unfold sortT; simp
  refine seqW_put hpn hl ⟨gs, strL_map gs, hg, ?_⟩
  simp
  refine forL_ind (fun i S' A' => ∃ u7 u8, A' = put A p (.lst (fwdsL ((sortT gs).take i) src fun _ => .int 0)) ∧ S' = [some lk, some src, some bit, some .non, some ho, some ph, some (.ref p), u7, u8]) ⟨none, none, rfl, rfl⟩ (fun _ _ _ _ => trivial) ?_ ?_
  · rintro i x S' A' N hx ⟨u7, u8, rfl, rfl⟩ hN
    obtain ⟨hi, hx⟩ := List.getElem?_eq_some_iff.mp hx
    simp at hi hx
    subst hx
    have tk : (sortT gs).take (i + 1) = (sortT gs).take i ++ [(sortT gs)[i]] := (List.take_append_getElem hi).symm
    have step : fwdsL ((sortT gs).take (i + 1)) src (fun _ => .int 0) = fwdsL ((sortT gs).take i) src (fun _ => .int 0) ++ fwdsL [(sortT gs)[i]] src (fun _ => .int 0) := by
      rw [tk]; unfold fwdsL; rw [List.flatMap_append]
    have few := fwdsL_len ((sortT gs).take i) src (fun _ => .int 0)
    rw [List.length_take] at few
    generalize (sortT gs)[i] = g at *
    simp
    refine eqD_flat rfl hs ?_
    cases he : eqL (.str g) src with
    | true =>
      simp
      exact hN _ _ ⟨_, _, by rw [step]; simp [fwdsL, he], rfl⟩
    | false =>
      simp [Rk.isNon]
      simp [b_forwards_x1, Rk.isNon]
      refine ⟨.lst, kdM_l put_same, fAppend, rfl, kdM_l put_same, p, _, rfl, rfl, ?_⟩
      rw [lstA_eq put_same]
      refine ⟨by simp; omega, ?_⟩
      exact hN _ _ ⟨_, _, by rw [step, put_put]; simp [fwdsL, he, Rk.isNon], rfl⟩
  · rintro S' A' ⟨u7, u8, rfl, rfl⟩
    simp [b_forwards_3]
    exact give (hq p hpn)
theorem c_forwardsE {r lk src bit v ph : Vl} (hr : okV A r) (nn : Rk.isNon r = false) (nr : ¬ IsRel r) (q : E (X1 "InvalidRelink" "value" r) A) : w_forwards [lk, src, bit, r, v, ph] A Q E := by
  rw [w_forwards, wFun_dx]
  simp [b_forwards, nn]
  exact c_position0 hr nr (giveE q)
theorem c_forwardsH {ps : List Str} {cut : Nat} {lk src bit v ph : Vl} (R : RelOk ps cut) (hv : okV A v) (nv : ∀ s ∈ ps, v ≠ .str s) (q : E (X1 "UnknownHost" "host" v) A) : w_forwards [lk, src, bit, rel ps cut, v, ph] A Q E := by
  rw [w_forwards, wFun_dx]
  simp [b_forwards, Rk.isNon]
  exact c_position R hv (fun s e hs => (nv s hs e).elim) fun _ => giveE q
theorem c_fwdE {r v ph src g bit : Vl} (hr : okV A r) (nr : ¬ IsRel r) (q : E (X1 "InvalidRelink" "value" r) A) : w_forward_bit [r, v, ph, src, g, bit] A Q E := by
  rw [w_forward_bit, wFun_dx]
  simp [b_forward_bit]
  exact c_position0 hr nr (giveE q)
theorem c_fwdH {ps : List Str} {cut : Nat} {v ph src g bit : Vl} (R : RelOk ps cut) (hv : okV A v) (nv : ∀ s ∈ ps, v ≠ .str s) (q : E (X1 "UnknownHost" "host" v) A) : w_forward_bit [rel ps cut, v, ph, src, g, bit] A Q E := by
  rw [w_forward_bit, wFun_dx]
  simp [b_forward_bit]
  exact c_position R hv (fun s e hs => (nv s hs e).elim) fun _ => giveE q
/-- the same by a law's own comprehension -/
theorem fw0_eq {src : Vl} : ∀ gs : List Str, ((gs.map Vl.str).filter fun x => !eqL x src).map (fun x => Vl.tup [x, .int 0]) = fwdsL gs src fun _ => .int 0
  | [] => rfl
  | g :: gs => by
    have ih := fw0_eq (src := src) gs
    unfold fwdsL at ih ⊢
    rw [List.map_cons, List.filter_cons, List.flatMap_cons, ← ih]
    cases h : eqL (.str g) src <;> simp [h, Rk.isNon]
theorem fw0_sh {src : Vl} {gs : List Str} (h : ∀ p ∈ gs, hostOk p) (l : gs.length ≤ 100) (n : Nat) : Shs A (n + 2) (fwdsL gs src fun _ => .int 0) 6000 ∧ nDs (fwdsL gs src fun _ => .int 0) = true := by
  have H : ∀ x ∈ fwdsL gs src (fun _ => .int 0), ∃ s ∈ gs, x = .tup [.str s, .int 0] := fun x hx => by
    unfold fwdsL at hx
    obtain ⟨s, hs, hx⟩ := List.mem_flatMap.mp hx
    split at hx
    · cases hx
    split at hx
    · cases hx
    · exact ⟨s, hs, List.mem_singleton.mp hx⟩
  refine ⟨(Shs.all (W := 50) fun x hx => ?_).mono ?_, nDs_iff.mpr fun x hx => ?_⟩
  · obtain ⟨s, hs, rfl⟩ := H x hx
    exact (Sh.tup (Shs.cons (Sh.host (h s hs)) (Shs.cons (Sh.int (by decide)) Shs.nil))).mono
  · have := fwdsL_len gs src fun _ => .int 0
    have := Nat.mul_le_mul_right (50 + 1) this
    omega
  · obtain ⟨s, hs, rfl⟩ := H x hx
    rfl
theorem seqW_ref {p : Addr} {xs : List Vl} (h : A p = some (.lst xs)) : ∀ P : List Vl → Prop, P xs → seqW A (.ref p) P := fun P hP => by
  show lstA A p P
  rw [lstA_eq h]; exact hP
theorem seqW_tup {xs : List Vl} : ∀ P : List Vl → Prop, P xs → seqW A (.tup xs) P := fun P hP => hP
/-! all that stood, but the pot, still stands -/
def Kg (A : Ah) (g : Addr) (B : Ah) : Prop := ∀ a o, a ≠ g → A a = some o → B a = some o
theorem Kg.refl {g : Addr} : Kg A g A := fun _ _ _ h => h
theorem Kg.of {B C : Ah} {g : Addr} (k : Kg A g B) (O : Of B g C) : Kg A g C := fun a o ha h => (O.same a ha).trans (k a o ha h)
theorem Kg.new {B : Ah} {g p : Addr} {o : Ob} (k : Kg A g B) (hp : B p = none) : Kg A g (put B p o) := fun a u ha h => by
  have := k a u ha h
  rw [put_ne (ne_of_nn this hp)]; exact this
theorem Kg.none {B : Ah} {g p : Addr} (k : Kg A g B) (hp : B p = none) (hg : p ≠ g) : A p = none := by
  cases e : A p with
  | none => rfl
  | some o => have := k p o hg e; rw [hp] at this; cases this
theorem Kg.put {B : Ah} {g p : Addr} {o : Ob} (k : Kg A g B) (hp : A p = Option.none) : Kg A g (Rk.put B p o) := fun a u ha h => by
  rw [put_ne (ne_of_nn h hp)]; exact k a u ha h
theorem Kg.give {B : Ah} {g : Addr} {v : Vl} (k : Kg A g B) (pot : isG B g) (q : ∀ C, Of A g C → Q v C) : ∃ C, Sub C B ∧ Q v C := by
  refine ⟨fun a => if a = g then B g else A a, fun a o h => ?_, q _ ⟨fun a ha => if_neg ha, ?_⟩⟩
  · by_cases e : a = g
    · subst e; simpa using h
    · have h : (if a = g then B g else A a) = some o := h
      rw [if_neg e] at h; exact k a o e h
  · obtain ⟨x, y, hx, hy, e⟩ := pot
    exact ⟨x, y, hx, hy, by simpa using e⟩
theorem nD_strs (ps : List Str) : nDs (ps.map .str) = true := nDs_iff.mpr fun x hx => by obtain ⟨s, _, rfl⟩ := List.mem_map.mp hx; rfl
theorem sh_hosts {ps : List Str} (h : ∀ p ∈ ps, hostOk p) (l : ps.length ≤ 100) (n : Nat) : Shs A (n + 1) (ps.map .str) 900 := (Ods.hosts (n := n) h l).2.2 A
theorem fw0_all (gs : List Str) : (gs.map Vl.str).map (fun x => Vl.tup [x, .int 0]) = fwdsL gs .non fun _ => .int 0 := by
  rw [← fw0_eq]
  congr 1
  rw [List.filter_eq_self.mpr]
  intro x hx
  obtain ⟨s, _, rfl⟩ := List.mem_map.mp hx
  rfl
theorem cut_mem {α : Type} {xs : List α} {lo hi : Option Int} {x : α} (h : x ∈ cutL xs lo hi) : x ∈ xs := List.mem_of_mem_drop (List.mem_of_mem_take h)
theorem cut_len {α : Type} {xs : List α} {lo hi : Option Int} : (cutL xs lo hi).length ≤ xs.length := by unfold cutL; rw [List.length_take, List.length_drop]; omega
theorem cut_drop {α : Type} {xs : List α} (k : Nat) : cutL xs (some (k : Int)) none = xs.drop k := by
  unfold cutL
  rw [HT.sIx_nat]
  simp only [HT.sIx]
  by_cases h : k ≤ xs.length
  · rw [Nat.min_eq_left h, List.take_of_length_le (by rw [List.length_drop]; omega)]
  · rw [Nat.min_eq_right (by omega), List.drop_length, List.drop_eq_nil_of_le (by omega)]; simp
end Rp4

set_option Elab.async false
set_option linter.all false
set_option maxRecDepth 100000
set_option maxHeartbeats 400000
/-! Values by value, by computing; items. -/
namespace Rp5
open PySem PySem.Spec PyProof.Rows L2 Rk Pg Hl Dw Rpr Rp3 Rp4
variable {A : Ah} {Q : QE} {E : EX}
mutual
/-- the weight of a written value -/
def odw : Nat → Vl → Option Nat
  | 0, _ => none
  | n + 1, v => match v with
    | .non => some 0
    | .bl _ => some 0
    | .int i => if i.natAbs < 10 ^ 38 then some 130 else none
    | .str s => if okB s = true then some s.length else none
    | .tup xs => if xs.length ≤ 1000 then odws n xs else none
    | .lst xs => if xs.length ≤ 1000 then odws n xs else none
    | .dct [] [] => some 0
    | _ => none
def odws : Nat → List Vl → Option Nat
  | _, [] => some 0
  | n, x :: xs => match odw n x, odws n xs with
    | some a, some b => some (a + 1 + b)
    | _, _ => none
end
theorem _root_.Rp3.Od.big {n : Nat} {i : Int} (h : i.natAbs < 10 ^ 38) : Od (n + 1) (.int i) 130 := ⟨rfl, fun _ => trivial, fun _ => Sh.big h⟩
mutual
theorem odw_ok : ∀ {n : Nat} {v : Vl} {W : Nat}, odw n v = some W → Od n v W
  | 0, _, _, h => by unfold odw at h; cases h
  | n + 1, v, W, h => by
    cases v with
    | non => unfold odw at h; cases h; exact Od.non
    | bl b => unfold odw at h; cases h; exact Od.bl
    | int i =>
      unfold odw at h
      simp only at h
      split at h
      · cases h; exact Od.big (by assumption)
      · cases h
    | str s =>
      unfold odw at h
      simp only at h
      split at h
      · cases h; exact Od.str (okS_of (by assumption)) (Nat.le_refl _)
      · cases h
    | tup xs =>
      unfold odw at h
      simp only at h
      split at h
      · exact Od.tup (odws_ok h) (by assumption)
      · cases h
    | lst xs =>
      unfold odw at h
      simp only at h
      split at h
      · exact Od.lst (odws_ok h) (by assumption)
      · cases h
    | dct ks xs =>
      cases ks with
      | cons _ _ => unfold odw at h; cases h
      | nil =>
        cases xs with
        | cons _ _ => unfold odw at h; cases h
        | nil => unfold odw at h; cases h; exact Od.dct
    | ref _ => unfold odw at h; cases h
    | ty _ => unfold odw at h; cases h
    | gl _ => unfold odw at h; cases h
    | wtp _ => unfold odw at h; cases h
    | xv _ _ _ _ _ => unfold odw at h; cases h
theorem odws_ok : ∀ {n : Nat} {xs : List Vl} {W : Nat}, odws n xs = some W → Ods n xs W
  | _, [], _, h => by unfold odws at h; cases h; exact Ods.nil
  | n, x :: xs, _, h => by
    unfold odws at h
    split at h
    · cases h
      exact Ods.cons (odw_ok (by assumption)) (odws_ok (by assumption))
    · cases h
end
/-- a written list of values: each is one -/
def odwAll (n W : Nat) (xs : List Vl) : Bool := xs.all fun x => match odw n x with
  | some w => decide (w ≤ W)
  | none => false
theorem odwAll_ok {n W : Nat} {xs : List Vl} (h : odwAll n W xs = true) : ∀ x ∈ xs, Od n x W := fun x hx => by
  have := List.all_eq_true.mp h x hx
  split at this
  · exact (odw_ok (by assumption)).mono (of_decide_eq_true this)
  · cases this
/-! the items of a tuple -/
theorem shs_mem {n W : Nat} : ∀ {xs : List Vl}, Shs A n xs W → ∀ x ∈ xs, Sh A n x W
  | [], _, x, hx => by cases hx
  | y :: xs, ⟨ds, a, c, e, f, g⟩, x, hx => by
    unfold dats at a
    split at a
    · rename_i d ds' h1 h2
      cases a
      simp only [PyData.showableAll, Bool.and_eq_true] at c
      simp only [PyData.leavesShortAll, Bool.and_eq_true] at f
      simp only [PyData.weightAll] at g
      rcases List.mem_cons.mp hx with rfl | hx
      · exact ⟨d, h1, c.1, e.1, f.1, by omega⟩
      · exact shs_mem ⟨ds', h2, c.2, e.2, f.2, by omega⟩ x hx
    · cases a
theorem _root_.Rp3.Od.its {n W : Nat} {xs : List Vl} (h : Od (n + 1) (.tup xs) W) : Ods n xs W := by
  refine ⟨h.1, fun A => (h.2.1 A).2, fun A => ?_⟩
  obtain ⟨d, a, c, e, f, g⟩ := h.2.2 A
  have a : (dats (dat n A) xs).map PyData.tuple = some d := a
  cases z : dats (dat n A) xs with
  | none => rw [z] at a; cases a
  | some ds =>
    rw [z] at a; cases a
    exact ⟨ds, z, by simpa only [PyData.showable] using c, e, by simpa only [PyData.leavesShort] using f, by simpa only [PyData.weight] using g⟩
theorem _root_.Rp3.Od.len {n W : Nat} {xs : List Vl} (h : Od (n + 1) (.tup xs) W) : xs.length ≤ 1000 := (h.2.1 fun _ => none).1
theorem nRs_mem {xs : List Vl} (h : nRs xs = true) : ∀ x ∈ xs, nR x = true := nRs_iff.mp h
theorem _root_.Rp3.Ods.mem {n W : Nat} {xs : List Vl} (h : Ods n xs W) : ∀ x ∈ xs, Od n x W := fun x hx => ⟨nRs_mem h.1 x hx, fun A => okVs_iff.mp (h.2.1 A) x hx, fun A => shs_mem (h.2.2 A) x hx⟩
theorem _root_.Rp3.Ods.all {n W : Nat} {xs : List Vl} (h : ∀ x ∈ xs, Od n x W) : Ods n xs (xs.length * (W + 1)) := ⟨nRs_iff.mpr fun x hx => (h x hx).1, fun A => okVs_iff.mpr fun x hx => (h x hx).2.1 A, fun A => Shs.all fun x hx => (h x hx).2.2 A⟩
theorem dat_le {n m : Nat} {v : Vl} {d : PyData} (h : dat n A v = some d) (hm : n ≤ m) : dat m A v = some d := by
  induction hm with
  | refl => exact h
  | step _ ih => exact dat_up ih
theorem _root_.Rp3.Od.dat {n W : Nat} {v : Vl} (h : Od n v W) (hn : n ≤ 12) : ∃ d, dat 12 A v = some d := by
  obtain ⟨d, a, _⟩ := h.2.2 A
  exact ⟨d, dat_le a hn⟩
theorem _root_.Rp3.Od.ups {n m W : Nat} {v : Vl} (h : Od n v W) (hm : n ≤ m) : Od m v W := by
  induction hm with
  | refl => exact h
  | step _ ih => exact Od.up ih
theorem _root_.Rp3.Od.ok {n W : Nat} {v : Vl} (h : Od n v W) : okV A v := h.2.1 A
/-! ### items -/
def wordOk (s : Str) : Prop := isWord (.str s) = true
def IsMsg (v : Vl) : Prop := ∃ w t b, v = .tup [.str "message", .str w, .str t, .int b] ∧ hostOk w ∧ wordOk t ∧ 0 ≤ b ∧ b ≤ 1
def IsCtl (v : Vl) : Prop := ∃ k ps cut, v = .tup [.str k, .tup (ps.map .str), .int (cut : Nat)] ∧ k ∈ Pg.Kinds ∧ RelOk ps cut
def IsBye (v : Vl) : Prop := v = .tup [.str "bye"]
def IsItem (v : Vl) : Prop := IsMsg v ∨ IsCtl v ∨ IsBye v
theorem isWord_iff {v : Vl} : isWord v = true ↔ ∃ s, v = .str s ∧ wordOk s := by
  cases v with
  | str s => exact ⟨fun h => ⟨s, rfl, h⟩, fun ⟨t, e, h⟩ => by cases e; exact h⟩
  | _ => simp [isWord, strIn]
/-- the two counts as numbers -/
theorem eqN (a b : Nat) : eqL (.int (a : Int)) (.int (b : Int)) = decide (a = b) := by
  simp only [eqL]; exact beq_eq_decide_of a b
theorem c_is_bit {v : Vl} (h : okV A v) (q1 : ∀ b, v = .int b → 0 ≤ b → b ≤ 1 → Q (.bl true) A) (q0 : (∀ b, v = .int b → 0 ≤ b → b ≤ 1 → False) → Q (.bl false) A) : w_is_bit [v] A Q E := by
  rw [w_is_bit, wFun_dx]
  simp [b_is_bit]
  obtain ⟨k, hk, _, _, e1, e2⟩ := okV_kd h
  refine e_isi (z := .int) hk rfl ?_
  by_cases z : k = .int
  · obtain ⟨i, rfl⟩ := e1.mp z
    cases hk
    rw [show Kd.int.sub .int = true from rfl]
    simp
    refine isi_intb ?_
    simp
    by_cases h0 : 0 ≤ i
    · rw [if_pos h0]
      by_cases h1 : i ≤ 1
      · rw [decide_eq_true h1]; exact give (q1 i rfl h0 h1)
      · rw [decide_eq_false h1]; exact give (q0 fun b e _ g => h1 (by cases e; exact g))
    · rw [if_neg h0]; exact give (q0 fun b e g _ => h0 (by cases e; exact g))
  · have nv : ∀ i, v ≠ .int i := fun i e => z (e1.mpr ⟨i, e⟩)
    by_cases y : k = .bl
    · rw [show k.sub .int = true by rw [y]; rfl]
      simp
      refine e_isi (z := .bl) hk rfl ?_
      rw [show k.sub .bl = true by rw [y]; rfl]
      simp
      exact give (q0 fun b e _ _ => nv b e)
    · rw [show k.sub .int = false by cases k <;> first | rfl | exact (z rfl).elim | exact (y rfl).elim]
      simp
      exact give (q0 fun b e _ _ => nv b e)
theorem c_is_msg {n W : Nat} {v : Vl} (h : Od (n + 1) v W) (hn : n ≤ 11) (q1 : IsMsg v → Q (.bl true) A) (q0 : ¬ IsMsg v → Q (.bl false) A) : w_is_message_item [v] A Q E := by
  rw [w_is_message_item, wFun_dx]
  simp [b_is_message_item, b_is_message_item_1]
  refine is_tup h.ok ?_ fun h0 => ?_
  rotate_left
  · simp
    exact give (q0 fun ⟨w, t, b, e, _⟩ => h0 _ e)
  rintro xs rfl
  simp
  refine eqD_flat rfl rfl ?_
  rw [show (4 : Int) = ((4 : Nat) : Int) from rfl, eqN]
  by_cases h4 : xs.length = 4
  · match xs, h4 with
    | [k, a, w, b], _ =>
    simp
    have hs := Ods.mem (Od.its h)
    obtain ⟨d, hd⟩ := (hs k (by simp)).dat (A := A) (by omega)
    refine eqD_str hd ?_ fun e => ?_
    · rintro rfl
      simp
      refine ⟨_, rfl, ?_⟩
      refine c_is_host_name (hs a (by simp)).ok ?_
      cases e1 : isHost a
      · simp
        refine give (q0 ?_)
        rintro ⟨w', t, b', e, hw, _⟩
        cases e
        rw [isHost_iff.mpr ⟨_, rfl, hw⟩] at e1; cases e1
      simp
      refine ⟨_, rfl, ?_⟩
      refine c_is_word (hs w (by simp)).ok ?_
      cases e2 : isWord w
      · simp
        refine give (q0 ?_)
        rintro ⟨w', t, b', e, _, hw, _⟩
        cases e
        rw [isWord_iff.mpr ⟨_, rfl, hw⟩] at e2; cases e2
      simp
      refine ⟨_, rfl, ?_⟩
      obtain ⟨s, rfl, hs1⟩ := isHost_iff.mp e1
      obtain ⟨t, rfl, ht⟩ := isWord_iff.mp e2
      refine c_is_bit (hs b (by simp)).ok ?_ fun no => ?_
      · rintro b rfl g1 g2
        exact give (q1 ⟨s, t, b, rfl, hs1, ht, g1, g2⟩)
      · exact give (q0 fun ⟨_, _, b', e, _, _, g1, g2⟩ => no b' (by cases e; rfl) g1 g2)
    · simp
      exact give (q0 fun ⟨_, _, _, e', _⟩ => e (by cases e'; rfl))
  · rw [show (true != decide (xs.length = 4)) = true by simp [h4]]
    simp
    exact give (q0 fun ⟨_, _, _, e, _⟩ => h4 (by cases e; rfl))
theorem isRel_pair {p c : Vl} : IsRel (.tup [p, c]) ↔ ∃ ps cut, p = .tup (ps.map .str) ∧ c = .int (cut : Nat) ∧ RelOk ps cut := by
  constructor
  · rintro ⟨ps, cut, e, R⟩; cases e; exact ⟨ps, cut, rfl, rfl, R⟩
  · rintro ⟨ps, cut, rfl, rfl, R⟩; exact ⟨ps, cut, rfl, R⟩
theorem kinds_in (z : Str) : inL (.str z) ((["ask", "no", "yes", "go", "back"] : List Str).map .str) = decide (z ∈ Pg.Kinds) := inL_map z _
theorem c_is_ctl {n W : Nat} {v : Vl} (h : Od (n + 1) v W) (hn : n ≤ 11) (q1 : IsCtl v → Q (.bl true) A) (q0 : ¬ IsCtl v → Q (.bl false) A) : w_is_control_item [v] A Q E := by
  rw [w_is_control_item, wFun_dx]
  simp [b_is_control_item, b_is_control_item_1]
  refine is_tup h.ok ?_ fun h0 => ?_
  rotate_left
  · simp
    exact give (q0 fun ⟨w, t, b, e, _⟩ => h0 _ e)
  rintro xs rfl
  simp
  refine eqD_flat rfl rfl ?_
  rw [show (3 : Int) = ((3 : Nat) : Int) from rfl, eqN]
  by_cases h4 : xs.length = 3
  · match xs, h4 with
    | [k, p, c], _ =>
    simp
    have hs := Ods.mem (Od.its h)
    refine is_str (hs k (by simp)).ok ?_ fun e0 => ?_
    · rintro s rfl
      simp
      refine ⟨rfl, ⟨rfl, rfl, rfl, rfl, rfl⟩, ?_⟩
      have kk := kinds_in s
      simp only [List.map_cons, List.map_nil] at kk
      rw [kk]
      by_cases hk : s ∈ Pg.Kinds
      · simp [hk]
        rw [show (1 : Int) = ((1 : Nat) : Int) from rfl, cut_drop]
        simp
        refine c_is_relink ⟨by simp, (hs p (by simp)).ok, (hs c (by simp)).ok, trivial⟩ (fun r => ?_) fun r => ?_
        · obtain ⟨ps, cut, rfl, rfl, R⟩ := isRel_pair.mp r
          exact give (q1 ⟨s, ps, cut, rfl, hk, R⟩)
        · refine give (q0 ?_)
          rintro ⟨_, ps, cut, e, _, R⟩
          cases e
          exact r (isRel_pair.mpr ⟨ps, cut, rfl, rfl, R⟩)
      · simp [hk]
        refine give (q0 ?_)
        rintro ⟨_, ps, cut, e, hk2, R⟩
        cases e
        exact hk hk2
    · simp
      exact give (q0 fun ⟨k', _, _, e', _⟩ => e0 k' (by cases e'; rfl))
  · rw [show (true != decide (xs.length = 3)) = true by simp [h4]]
    simp
    exact give (q0 fun ⟨_, _, _, e, _⟩ => h4 (by cases e; rfl))
theorem c_is_bye {n W : Nat} {v : Vl} (h : Od (n + 1) v W) (hn : n ≤ 11) (q1 : IsBye v → Q (.bl true) A) (q0 : ¬ IsBye v → Q (.bl false) A) : w_is_bye [v] A Q E := by
  rw [w_is_bye, wFun_dx]
  simp [b_is_bye]
  refine is_tup h.ok ?_ fun h0 => ?_
  rotate_left
  · simp
    exact give (q0 fun e => h0 _ e)
  rintro xs rfl
  simp
  refine eqD_flat rfl rfl ?_
  rw [show (1 : Int) = ((1 : Nat) : Int) from rfl, eqN]
  by_cases h4 : xs.length = 1
  · match xs, h4 with
    | [k], _ =>
    simp
    obtain ⟨d, hd⟩ := (Ods.mem (Od.its h) k (by simp)).dat (A := A) (by omega)
    refine eqD_str hd ?_ fun e => ?_
    · rintro rfl; exact give (q1 rfl)
    · exact give (q0 fun z => e (by cases z; rfl))
  · simp [h4]
    exact give (q0 fun e => h4 (by cases e; rfl))
theorem c_is_item {n W : Nat} {v : Vl} (h : Od (n + 1) v W) (hn : n ≤ 11) (q1 : IsItem v → Q (.bl true) A) (q0 : ¬ IsItem v → Q (.bl false) A) : w_is_item [v] A Q E := by
  rw [w_is_item, wFun_dx]
  simp [b_is_item]
  refine c_is_msg h hn (fun a => ?_) fun a => ?_
  · simp; exact give (q1 (.inl a))
  simp
  refine c_is_ctl h hn (fun b => ?_) fun b => ?_
  · simp; exact give (q1 (.inr (.inl b)))
  simp
  refine c_is_bye h hn (fun c => ?_) fun c => ?_
  · exact give (q1 (.inr (.inr c)))
  · exact give (q0 fun z => z.elim a fun z => z.elim b c)
end Rp5

set_option Elab.async false
set_option linter.all false
set_option maxRecDepth 100000
set_option maxHeartbeats 400000
/-! Pieces of sequences of values by value. -/
namespace Hl
open PySem PySem.Spec PyProof.Rows L2 Rk Pg Dw Rpr Rp3 Rp4 Rp5
variable {A : Ah} {Q : QE} {E : EX}
theorem shs_un {n W : Nat} {x : Vl} {xs : List Vl} (h : Shs A n (x :: xs) W) : ∃ a b, Sh A n x a ∧ Shs A n xs b ∧ a + 1 + b ≤ W := by
  obtain ⟨ds, a, c, e, f, g⟩ := h
  unfold dats at a
  split at a
  · rename_i d ds' h1 h2
    cases a
    simp only [PyData.showableAll, Bool.and_eq_true] at c
    simp only [PyData.leavesShortAll, Bool.and_eq_true] at f
    simp only [PyData.weightAll] at g
    exact ⟨_, _, ⟨d, h1, c.1, e.1, f.1, Nat.le_refl _⟩, ⟨ds', h2, c.2, e.2, f.2, Nat.le_refl _⟩, g⟩
  · cases a
theorem shs_drop {n W : Nat} : ∀ {xs : List Vl} (k : Nat), Shs A n xs W → Shs A n (xs.drop k) W
  | _, 0, h => by simpa using h
  | [], _ + 1, h => by simpa using h
  | x :: xs, k + 1, h => by
    obtain ⟨a, b, _, h2, h3⟩ := shs_un h
    exact shs_drop (xs := xs) k (h2.mono (by omega))
theorem shs_take {n : Nat} : ∀ {xs : List Vl} {W : Nat} (k : Nat), Shs A n xs W → Shs A n (xs.take k) W
  | xs, _, 0, h => by simpa using Shs.nil.mono (by omega)
  | [], _, _ + 1, h => by simpa using h
  | x :: xs, _, k + 1, h => by
    obtain ⟨a, b, h1, h2, h3⟩ := shs_un h
    exact (Shs.cons h1 (shs_take (xs := xs) k h2)).mono (by omega)
theorem shs_cat {n V : Nat} {ys : List Vl} (q : Shs A n ys V) : ∀ {xs : List Vl} {W : Nat}, Shs A n xs W → Shs A n (xs ++ ys) (W + V)
  | [], _, _ => by simpa using q.mono (by omega)
  | x :: xs, _, h => by
    obtain ⟨a, b, h1, h2, h3⟩ := shs_un h
    exact (Shs.cons h1 (shs_cat q (xs := xs) h2)).mono (by omega)
theorem _root_.Rp3.Ods.of {n W : Nat} {xs ys : List Vl} (h : Ods n xs W) (hs : ∀ x ∈ ys, x ∈ xs) (q : ∀ A : Ah, Shs A n xs W → Shs A n ys W) : Ods n ys W :=
  ⟨nRs_iff.mpr fun x hx => nRs_mem h.1 x (hs x hx), fun A => okVs_iff.mpr fun x hx => okVs_iff.mp (h.2.1 A) x (hs x hx), fun A => q A (h.2.2 A)⟩
theorem _root_.Rp3.Ods.cut {n W : Nat} {xs : List Vl} (h : Ods n xs W) (lo hi : Option Int) : Ods n (cutL xs lo hi) W := h.of (fun _ => cut_mem) fun A s => shs_take _ (shs_drop _ s)
theorem _root_.Rp3.Ods.cat {n W V : Nat} {xs ys : List Vl} (h : Ods n xs W) (q : Ods n ys V) : Ods n (xs ++ ys) (W + V) :=
  ⟨nRs_iff.mpr fun x hx => (List.mem_append.mp hx).elim (nRs_mem h.1 x) (nRs_mem q.1 x), fun A => okVs_iff.mpr fun x hx => (List.mem_append.mp hx).elim (okVs_iff.mp (h.2.1 A) x) (okVs_iff.mp (q.2.1 A) x), fun A => shs_cat (q.2.2 A) (h.2.2 A)⟩
theorem _root_.Rp3.Ods.one {n W : Nat} {x : Vl} (h : Od n x W) : Ods n [x] (W + 1) := (Ods.cons h Ods.nil).mono
theorem _root_.Rp3.Ods.ups {n m W : Nat} {xs : List Vl} (h : Ods n xs W) (hm : n ≤ m) : Ods m xs W := by
  refine ⟨h.1, h.2.1, fun A => ?_⟩
  obtain ⟨ds, a, r⟩ := h.2.2 A
  exact ⟨ds, dats_up (fun _ _ e => dat_le e hm) a, r⟩
theorem shs_rev {n : Nat} : ∀ {xs : List Vl} {W : Nat}, Shs A n xs W → Shs A n xs.reverse W
  | [], _, h => by simpa using h
  | x :: xs, _, h => by
    obtain ⟨a, b, h1, h2, h3⟩ := shs_un h
    rw [List.reverse_cons]
    exact (shs_cat (Shs.cons h1 Shs.nil) (shs_rev (xs := xs) h2)).mono (by omega)
end Hl

set_option Elab.async false
set_option linter.all false
set_option maxRecDepth 100000
set_option maxHeartbeats 400000
/-! The draws of the laws k12 to k18: what they give. -/
namespace Hl
open PySem PySem.Spec PyProof.Rows L2 Rk Pg Dw Rpr Rp3 Rp4 Rp5
variable {A : Ah} {Q : QE} {E : EX}
theorem c_draw1 {g : Addr} {n : Int} (h : isG A g) (hn : 0 < n) (hn2 : n < 1073741824) (hq : ∀ r A', 0 ≤ r → r < n → Of A g A' → Q (.int r) A') : w_law_draw_c477 [.ref g, .int n] A Q E := by
  have O := Of.refl h
  obtain ⟨x, y, hx, hy, hA⟩ := h
  rw [w_law_draw_c477, wFun_dx]
  have i0 : ∀ x y : Int, atI [Vl.int x, Vl.int y] 0 = some (.int x) := fun _ _ => rfl
  have i1 : ∀ x y : Int, atI [Vl.int x, Vl.int y] 1 = some (.int y) := fun _ _ => rfl
  have n0 : ixN 2 0 = some 0 := rfl
  have n1 : ixN 2 1 = some 1 := rfl
  have hp : ∀ o, put A g o g = some o := fun o => put_same
  simp [b_law_draw_c477, b_law_draw_c477_x1, b_law_draw_c477_1, b_law_draw_c477_2, lstA_eq hA, lstA_eq (hp _), i0, i1, n0, n1]
  split
  · exact ⟨⟨hn, hn2⟩, _, .refl, hq _ _ (Int.emod_nonneg _ (by omega)) (Int.emod_lt_of_pos _ hn) (O.drawn (Int.ediv_nonneg hx (by omega)) hy)⟩
  · refine ⟨cMul_r, cMul_l (by omega) (by omega), ⟨by decide, by decide⟩, hn, _, .refl, hq _ _ (Int.emod_nonneg _ (by omega)) (Int.emod_lt_of_pos _ hn) (O.drawn hx (by omega))⟩
theorem c_rng1 {k : Int} {ns : List Int} (hk : 0 ≤ k) (hk2 : k ≤ 100) (hq : ∀ p A', A p = none → Of A' p A' → (∀ a, a ≠ p → A' a = A a) → Q (.ref p) A') : w_law_rng_725d [.lst (ns.map .int), .int k] A Q E := by
  rw [w_law_rng_725d, wFun_dx]
  have fin : ∀ m : Int, b_law_rng_725d_1 (Dx Q E) [some (.lst (ns.map .int)), some (.int k), some (.int m)] A := by
    intro m
    simp [b_law_rng_725d_1]
    have hb : 0 ≤ (if m < 0 then -m else m) % 2147483587 + 211 * k + 5 := by omega
    refine ⟨cPow18, cMul_l, fun p hpn => ⟨_, .refl, hq _ _ hpn (.refl ⟨_, _, ?_, ?_, put_same⟩) fun a ha => put_ne ha⟩⟩
    · split <;> omega
    · exact hb
  simp [b_law_rng_725d]
  split
  · rename_i h
    obtain ⟨z, hz, _⟩ := atI_map (f := Vl.int) hk h
    exact ⟨_, hz, fin _⟩
  · exact ⟨cMul_l, fin _⟩
def odds1 : List Vl := [.non, .bl true, .bl false, .int 0, .int 1, .int (-7), .str "", .str "A", .str "a1", .str "a b", .str "abcdefghi", .str "a\n", .str " a", .lst [], .tup [], .dct [] [], .lst [.str "a"], .tup [.str "a"], .str "z-"]
theorem c_odd1 {g : Addr} (G : isG A g) (q : ∀ v A', v ∈ odds1 → Of A g A' → Q v A') : w_law_odd_573c [.ref g] A Q E := by
  rw [w_law_odd_573c, wFun_dx]
  simp [b_law_odd_573c, b_law_odd_573c_1]
  refine c_draw1 G (by decide) (by decide) fun r A1 r0 r1 O1 => ?_
  obtain ⟨z, hz, hm⟩ := pick r0 (xs := odds1) r1
  exact ⟨z, hz, give (q z A1 hm O1)⟩
theorem forget1 {B C : Ah} {g p : Addr} {o : Ob} (O1 : Of A g B) (hp : B p = none) (O2 : Of (Rk.put B p o) g C) : Of A g (fun a => if a = p then none else C a) := by
  have gp := O1.pot.fresh hp
  refine ⟨fun a ha => ?_, ?_⟩
  · by_cases z : a = p
    · subst z; simp; rw [O1.same a ha] at hp; exact hp.symm
    · simp [z]; rw [O2.same a ha, put_ne z, O1.same a ha]
  · obtain ⟨x, y, hx, hy, e⟩ := O2.pot
    exact ⟨x, y, hx, hy, by simp [Ne.symm gp]; exact e⟩
theorem c_shuffled1 {g : Addr} {u : Vl} {ps : List Str} (G : isG A g) (hu : u = .lst (ps.map .str) ∨ ∃ p, u = .ref p ∧ p ≠ g ∧ A p = some (.lst (ps.map .str))) (few : ps.length ≤ 1000) (q : ∀ (qs : List Str) A', qs.Perm ps → Of A g A' → Q (.lst (qs.map .str)) A') : w_law_shuffled_fe8a [.ref g, u] A Q E := by
  rw [w_law_shuffled_fe8a, wFun_dx]
  have main : ∀ p : Addr, A p = none → b_law_shuffled_fe8a_1 (Dx Q E) [some (.ref g), some u, some (.ref p), none] (put A p (.lst (ps.map .str))) := by
    intro p hp
    have gp := G.fresh hp
    simp [b_law_shuffled_fe8a_1]
    have hlen : ∀ R : Int → Prop, R ps.length → lenA (put A p (.lst (ps.map .str))) u R := by
      intro R hR
      rcases hu with rfl | ⟨p0, rfl, n0, h0⟩
      · simpa using hR
      · have ne : p0 ≠ p := fun e => by rw [e, hp] at h0; cases h0
        rw [lenA_eq ((put_ne ne).trans h0)]
        simpa using hR
    refine hlen _ ⟨⟨by decide, by decide, by omega, by omega⟩, ?_⟩
    refine lcP_ind (fun i acc A' => ∃ B, Of A g B ∧ B p = none ∧ ∃ rest qs : List Str, A' = put B p (.lst (rest.map .str)) ∧ acc = qs.map .str ∧ (qs ++ rest).Perm ps ∧ qs.length = i) ⟨A, .refl G, hp, ps, [], rfl, rfl, by simp, rfl⟩ (fun _ _ _ _ => trivial) ?_ ?_
    · rintro i x acc A' K1 K2 hx ⟨B, O1, hB, rest, qs, rfl, rfl, hperm, hi⟩ k1 _
      obtain ⟨rfl, hlt⟩ := rngL_get hx
      have hl := hperm.length_eq
      simp at hl
      have l0 : 0 < rest.length := by omega
      simp [wipeA]
      refine ⟨_, kdM_l put_same, fPop, rfl, ?_⟩
      rw [lenA_eq put_same]
      refine c_draw1 (O1.pot.put gp) (by simpa using l0) (by simp; omega) fun r A2 r0 r1 O2 => ?_
      have e2 := O2.at gp put_same
      simp at r1
      obtain ⟨k, rfl⟩ : ∃ k : Nat, r = k := ⟨r.toNat, by omega⟩
      have hk : k < rest.length := by omega
      refine ⟨kdM_l e2, p, rfl, ?_⟩
      rw [lstA_eq e2]
      refine .inr ⟨k, k, .str rest[k], rfl, ⟨by omega, by omega, by omega, by omega⟩, ?_, by simp [hk], ?_⟩
      · exact (ixN_seq (ixN_nat (by simpa using hk))).1
      refine k1 _ _ (by simp; show qs.length < 16777216; omega) ⟨fun a => if a = p then none else A2 a, forget1 O1 hB O2, by simp, rest.eraseIdx k, qs ++ [rest[k]], ?_, by simp, ?_, by simp [hi]⟩
      · funext a
        unfold put
        by_cases z : a = p
        · simp [z, List.eraseIdx_eq_take_drop_succ, List.map_take, List.map_drop]
        · simp [z]
      · refine List.Perm.trans ?_ hperm
        rw [List.append_assoc]
        refine List.Perm.append_left _ ?_
        rw [List.eraseIdx_eq_take_drop_succ]
        exact (List.perm_middle (l₁ := rest.take k) (l₂ := rest.drop (k + 1)) (a := rest[k])).symm.trans (.of_eq (by rw [List.getElem_cons_drop, List.take_append_drop]))
    · rintro acc A' ⟨B, O1, hB, rest, qs, rfl, rfl, hperm, hi⟩
      have hl := hperm.length_eq
      simp [rngL] at hl hi
      have : rest = [] := List.length_eq_zero_iff.mp (by omega)
      subst this
      exact ⟨B, .new hB, q qs B (by simpa using hperm) O1⟩
  rcases hu with rfl | ⟨p0, rfl, n0, h0⟩
  · simp [b_law_shuffled_fe8a]
    exact main
  · simp [b_law_shuffled_fe8a]
    rw [lstA_eq h0]
    exact main
abbrev LE1 : Vl := .str "abcdefghijklmnopqrstuvwxyz"
def quq : List (List Nat) := (List.range' 97 26).map fun c => [c, 113]
theorem quq_new (ps : List Str) (h : ps.length < 26) : ∃ t ∈ quq, ofC t ∉ ps := by
  have nd : ((List.range' 97 26).map fun c => ofC [c, 113]).Nodup := by
    refine List.Pairwise.map _ (fun a b hne e => hne ?_) List.nodup_range'
    have := ofC_inj e
    simpa using this
  obtain ⟨t, ht, hn⟩ := some_new _ ps nd (by simpa using h)
  obtain ⟨c, hc, rfl⟩ := List.mem_map.mp ht
  exact ⟨_, List.mem_map.mpr ⟨c, hc, rfl⟩, hn⟩
theorem quq_ok : ∀ t ∈ quq, 1 ≤ t.length ∧ t.length ≤ 8 ∧ ∀ c ∈ t, letter c := by
  intro t ht
  obtain ⟨c, hc, rfl⟩ := List.mem_map.mp ht
  rw [List.mem_range'_1] at hc
  refine ⟨by simp, by simp, fun d hd => ?_⟩
  simp only [List.mem_cons, List.not_mem_nil, or_false] at hd
  unfold letter
  rcases hd with rfl | rfl <;> omega
theorem names1_x2 {g p : Addr} {D : Es} {ps : List Str} {s : Str} {s1 s4 s5 s7 s8 s9 : Option Vl} (e : A p = some (.lst (ps.map .str))) (hs : hostOk s) (few : ps.length ≤ 20)
    (hN : ∀ t u v, hostOk t → t ∉ ps → D.nx [some (.ref g), s1, some LE1, some (.ref p), s4, s5, u, s7, s8, v] (put A p (.lst ((ps ++ [t]).map .str)))) :
    b_law_names_e25f_x2 D [some (.ref g), s1, some LE1, some (.ref p), s4, s5, some (.str s), s7, s8, s9] A := by
  have x1 : ∀ (t : Str) (v : Option Vl), hostOk t → t ∉ ps → b_law_names_e25f_x1 D [some (.ref g), s1, some LE1, some (.ref p), s4, s5, some (.str t), s7, s8, v] A := by
    intro t v ht hn
    simp [b_law_names_e25f_x1]
    refine ⟨_, kdM_l e, fAppend, rfl, kdM_l e, p, _, rfl, rfl, ?_⟩
    rw [lstA_eq e]
    refine ⟨by simp; show ps.length < 16777216; omega, ?_⟩
    simpa using hN t _ v ht hn
  simp [b_law_names_e25f_x2, lstA_eq e, flat_map, inL_map]
  refine ⟨rfl, fun _ _ => rfl, ?_⟩
  by_cases hm : s ∈ ps
  · rw [if_pos hm, signs_le]
    have q1 : ofC [113] = Str.ofString "q" := by decide +kernel
    have one : ∀ c : Nat, (⟨#[c]⟩ : Str) ++ Str.ofString "q" = ofC [c, 113] := fun c => by rw [← q1]; exact ofC_app2 [c] [113]
    refine lcP_filter (fun x => !decide (ofC [cod x, 113] ∈ ps)) (fun x => .str (ofC [cod x, 113])) (by simp) trivial ?_ ?_
    · intro x hx K1 K2 k1 k2
      obtain ⟨c, hc, rfl⟩ := List.mem_map.mp hx
      have l1 : (⟨#[c]⟩ : Str).length = 1 := rfl
      have l2 : (Str.ofString "q").length = 1 := by decide +kernel
      simp [wipeA]
      rw [one, l1, l2]
      refine ⟨by omega, ?_⟩
      simp [lstA_eq e, flat_map, inL_map]
      refine ⟨rfl, fun _ _ => rfl, ?_⟩
      by_cases hi : ofC [c, 113] ∈ ps
      · rw [if_pos hi]; exact k2 (by simp [cod, hi])
      · rw [if_neg hi]; exact k1 (by simp [cod, hi])
    · obtain ⟨t, ht, hn⟩ := quq_new ps (by omega)
      obtain ⟨c, hc, rfl⟩ := List.mem_map.mp ht
      have hm : Vl.str (ofC [c, 113]) ∈ (((List.range' 97 26).map fun c => Vl.str ⟨#[c]⟩).filter fun x => !decide (ofC [cod x, 113] ∈ ps)).map fun x => Vl.str (ofC [cod x, 113]) := by
        refine List.mem_map.mpr ⟨.str ⟨#[c]⟩, List.mem_filter.mpr ⟨List.mem_map.mpr ⟨c, hc, rfl⟩, by simp [cod, hn]⟩, rfl⟩
      generalize hxs : ((((List.range' 97 26).map fun c => Vl.str ⟨#[c]⟩).filter fun x => !decide (ofC [cod x, 113] ∈ ps)).map fun x => Vl.str (ofC [cod x, 113])) = xs at hm
      cases xs with
      | nil => cases hm
      | cons z zs =>
        have hz : z ∈ ((((List.range' 97 26).map fun c => Vl.str ⟨#[c]⟩).filter fun x => !decide (ofC [cod x, 113] ∈ ps)).map fun x => Vl.str (ofC [cod x, 113])) := by
          rw [hxs]; exact List.mem_cons_self
        obtain ⟨y, hy, rfl⟩ := List.mem_map.mp hz
        obtain ⟨hy1, hy2⟩ := List.mem_filter.mp hy
        obtain ⟨d, hd, rfl⟩ := List.mem_map.mp hy1
        have ok := quq_ok [d, 113] (List.mem_map.mpr ⟨d, hd, rfl⟩)
        refine ⟨_, at_zero, x1 _ _ (ofC_host ok.1 ok.2.1 ok.2.2) (by simpa [cod] using hy2)⟩
  · rw [if_neg hm]
    exact x1 s _ hs hm
def words1 : List Str := ["host", "link", "events", "ask", "yes", "bye", "message", "write"]
theorem words1_ok : ∀ w ∈ words1, hostOk w := by
  have h : ∀ w ∈ words1, strIn "abcdefghijklmnopqrstuvwxyz" 8 (.str w) = true := by decide +kernel
  intro w hw
  obtain ⟨s, e, hs⟩ := isHost_iff.mp (h w hw)
  cases e; exact hs
theorem names1_x3 {g p : Addr} {D : Es} {ps : List Str} {s : Str} {r : Int} {s1 s4 s5 s8 s9 : Option Vl} (G : isG A g) (gp : p ≠ g) (e : A p = some (.lst (ps.map .str))) (hs : hostOk s) (few : ps.length ≤ 20) (hok : ∀ z ∈ ps, hostOk z)
    (hN : ∀ A' t u v, hostOk t → t ∉ ps → Of A g A' → D.nx [some (.ref g), s1, some LE1, some (.ref p), s4, s5, u, some (.int r), s8, v] (put A' p (.lst ((ps ++ [t]).map .str)))) :
    b_law_names_e25f_x3 D [some (.ref g), s1, some LE1, some (.ref p), s4, s5, some (.str s), some (.int r), s8, s9] A := by
  simp [b_law_names_e25f_x3]
  refine eqD_flat rfl rfl ?_
  rw [eqI]
  by_cases h0 : r = 0
  · rw [decide_eq_true h0]
    simp -failIfUnchanged
    refine c_draw1 G (by decide) (by decide) fun d A2 d0 d1 O2 => ?_
    obtain ⟨y, hy, hm⟩ := atI_map (f := Vl.str) (xs := words1) d0 d1
    refine ⟨_, hy, ?_⟩
    exact names1_x2 (O2.at gp e) (words1_ok y hm) few fun t u v a b => hN A2 t u v a b O2
  rw [decide_eq_false h0]
  simp -failIfUnchanged
  by_cases h3 : r < 3
  · rw [if_pos h3]
    refine eq_nil e ?_
    cases ps with
    | nil =>
      simp
      exact names1_x2 e hs few fun t u v a b => hN A t u v a b (.refl G)
    | cons p0 ps =>
      simp
      rw [lstA_eq e]
      obtain ⟨l, hl1, hl2⟩ := last_of (ps := p0 :: ps) (by simp)
      obtain ⟨ds, rfl, d1, d2, d3⟩ := host_ofC (hok l hl1)
      obtain ⟨cs, rfl, c1, c2, c3⟩ := host_ofC hs
      refine ⟨_, hl2, ?_⟩
      simp
      refine ⟨by rw [ofC_len, ofC_len]; omega, ?_⟩
      rw [ofC_app2, show (8 : Int) = ((8 : Nat) : Int) from rfl, cutS_ofC]
      refine names1_x2 e (ofC_host (by simp; omega) (by simp; omega) fun c hc => ?_) few fun t u v a b => hN A t u v a b (.refl G)
      rcases List.mem_append.mp (List.mem_of_mem_take hc) with h | h
      · exact d3 c h
      · exact c3 c h
  · rw [if_neg h3]
    exact names1_x2 e hs few fun t u v a b => hN A t u v a b (.refl G)
theorem names1_x5 {g p : Addr} {D : Es} {ps : List Str} {m : Nat} {s1 s4 s6 s7 s8 s9 : Option Vl} (G : isG A g) (gp : p ≠ g) (e : A p = some (.lst (ps.map .str)))
    (h1 : 1 ≤ m) (h2 : m ≤ 8) (few : ps.length ≤ 20) (hok : ∀ z ∈ ps, hostOk z)
    (hN : ∀ A' t u v w x, hostOk t → t ∉ ps → Of A g A' → D.nx [some (.ref g), s1, some LE1, some (.ref p), s4, some (.int m), u, v, w, x] (put A' p (.lst ((ps ++ [t]).map .str)))) :
    b_law_names_e25f_x5 D [some (.ref g), s1, some LE1, some (.ref p), s4, some (.int m), s6, s7, s8, s9] A := by
  simp [b_law_names_e25f_x5, -e_gN]
  refine ⟨⟨by decide, by decide, by omega, by omega⟩, ?_⟩
  refine lcP_ind (fun i acc A' => Of A g A' ∧ ∃ cs : List Nat, cs.length = i ∧ (∀ c ∈ cs, letter c) ∧ acc = cs.map fun c => .str ⟨#[c]⟩) ⟨.refl G, [], rfl, by simp, rfl⟩ (fun _ _ _ _ => trivial) ?_ ?_
  · rintro i x acc A' K1 K2 hx ⟨O2, cs, hc, hlt, rfl⟩ g1 g2
    simp [wipeA]
    refine c_draw1 O2.pot (by decide) (by decide) fun r A5 r0 r1 O5 => ?_
    have hi : i < m := by
      have := (List.getElem?_eq_some_iff.mp hx).1
      simpa [rngL] using this
    obtain ⟨c, hcr, hcm⟩ : ∃ c, atI (Str.ofString "abcdefghijklmnopqrstuvwxyz").cps.toList r = some c ∧ c ∈ (Str.ofString "abcdefghijklmnopqrstuvwxyz").cps.toList :=
      ⟨_, atI_lo r0 (by rw [show (Str.ofString "abcdefghijklmnopqrstuvwxyz").cps.toList.length = 26 by decide +kernel]; exact r1), List.getElem_mem _⟩
    refine ⟨c, hcr, ?_⟩
    refine g1 _ _ (by simp; show cs.length < 16777216; omega) ⟨O2.trans O5, cs ++ [c], by simp [hc], ?_, by simp⟩
    intro d hd
    rcases List.mem_append.mp hd with hd | hd
    · exact hlt d hd
    · simp at hd; subst hd; exact (le_mem d).mp hcm
  · rintro acc A' ⟨O2, cs, hc, hlt, rfl⟩
    have hcm : cs.length = m := by rw [hc]; simp [rngL]
    refine join_letters (by omega) hlt rfl ?_
    simp only [e_gN, List.set_cons_succ, List.set_cons_zero]
    simp [b_law_names_e25f_x4, -e_gN]
    refine c_draw1 O2.pot (by decide) (by decide) fun r A6 r0 r1 O6 => ?_
    simp only [e_gN, List.set_cons_succ, List.set_cons_zero]
    have O := O2.trans O6
    exact names1_x3 O6.pot gp (O.at gp e) (ofC_host (by omega) (by omega) hlt) few hok fun A' t u v a b O7 => hN A' t u _ _ v a b (O.trans O7)
theorem c_names1 {g : Addr} {n : Nat} (hg : isG A g) (hn : n ≤ 20) (q : ∀ (p : Addr) (ps : List Str) (B : Ah), Of A g B → B p = none → ps.Nodup → ps.length = n → (∀ z ∈ ps, hostOk z) → Q (.ref p) (put B p (.lst (ps.map .str)))) : w_law_names_e25f [.ref g, .int n] A Q E := by
  rw [w_law_names_e25f, wFun_dx]
  simp [b_law_names_e25f, b_law_names_e25f_1, b_law_names_e25f_2]
  intro p hp
  have gp := hg.fresh hp
  refine ⟨⟨by decide, by decide, by omega, by omega⟩, ?_⟩
  refine forL_ind (fun i S' A' => ∃ B, Of A g B ∧ B p = none ∧ ∃ ps : List Str, A' = put B p (.lst (ps.map .str)) ∧ ps.length = i ∧ ps.Nodup ∧ (∀ z ∈ ps, hostOk z) ∧ ∃ u4 u5 u6 u7 u8 u9, S' = [some (.ref g), some (.int n), some LE1, some (.ref p), u4, u5, u6, u7, u8, u9])
    ⟨A, .refl hg, hp, [], rfl, rfl, List.nodup_nil, by simp, _, _, _, _, _, _, rfl⟩ (fun _ _ _ _ => trivial) ?_ ?_
  · rintro i x S' A1 N hx ⟨B, O1, hB, ps, rfl, len, nd, ok, u4, u5, u6, u7, u8, u9, rfl⟩ hN
    simp [-e_gN]
    simp only [e_gN, List.set_cons_succ, List.set_cons_zero]
    have hi : i < n := by
      have := (List.getElem?_eq_some_iff.mp hx).1
      simpa [rngL] using this
    simp [-e_gN]
    refine c_draw1 (O1.pot.put gp) (by decide) (by decide) fun r A2 h0 h1 O2 => ?_
    obtain ⟨m, hm, m1, m2⟩ : ∃ m : Nat, atI [Vl.int 1, .int 1, .int 2, .int 8] r = some (.int m) ∧ 1 ≤ m ∧ m ≤ 8 := by
      obtain ⟨z, hz, hm⟩ := atI_map (f := Vl.int) (xs := [1, 1, 2, 8]) h0 h1
      simp only [List.mem_cons, List.not_mem_nil, or_false] at hm
      rcases hm with rfl | rfl | rfl | rfl
      · exact ⟨1, hz, by omega, by omega⟩
      · exact ⟨1, hz, by omega, by omega⟩
      · exact ⟨2, hz, by omega, by omega⟩
      · exact ⟨8, hz, by omega, by omega⟩
    refine ⟨_, hm, ?_⟩
    simp only [e_gN, List.set_cons_succ, List.set_cons_zero]
    refine names1_x5 O2.pot gp (O2.at gp put_same) m1 m2 (by omega) ok fun A' t u v w y t1 t2 O3 => ?_
    refine hN _ _ ⟨_, forget1 O1 hB (O2.trans O3), by simp, ps ++ [t], ?_, by simp [len], ?_, fun z hz => ?_, _, _, _, _, _, _, rfl⟩
    · funext a; unfold put; by_cases z : a = p <;> simp [z]
    · rw [List.nodup_append]
      exact ⟨nd, by simp, fun a ha b hb => by simp at hb; subst hb; rintro rfl; exact t2 ha⟩
    · rcases List.mem_append.mp hz with hz | hz
      · exact ok z hz
      · simp at hz; subst hz; exact t1
  · rintro S' A' ⟨B, O1, hB, ps, rfl, len, nd, ok, u4, u5, u6, u7, u8, u9, rfl⟩
    simp [b_law_names_e25f_3]
    exact ⟨_, .refl, q p ps B O1 hB nd (by simpa [rngL] using len) ok⟩
theorem eqD_nilT1 {k : Bool} {zs : List Vl} {d : PyData} (h : dat 12 A (.tup zs) = some d) (q : Q (.bl (k != decide (zs = []))) A) : fEqD k (.tup zs) (.tup []) A Q := by
  refine ⟨d, .tuple [], h, rfl, ?_⟩
  have h : (dats (dat 11 A) zs).map PyData.tuple = some d := h
  cases e : dats (dat 11 A) zs with
  | none => rw [e] at h; cases h
  | some ds =>
    rw [e] at h; cases h
    cases zs with
    | nil => cases e; simpa [deqv, deqs] using q
    | cons z zs =>
      unfold dats at e
      split at e
      · cases e; simpa [deqv, deqs] using q
      · cases e
end Hl

set_option Elab.async false
set_option linter.all false
set_option maxRecDepth 100000
set_option maxHeartbeats 400000
namespace Lw
open PySem PySem.Spec PyProof.Rows L2 Rk Pg Hl Dw Rpr Rp3 Rp4 Rp5
variable {A : Ah} {Q : QE} {E : EX}
theorem one_lt {a b : Nat} : ([a] < [b]) ↔ a < b := by
  constructor
  · intro h
    rcases List.cons_lt_cons_iff.mp h with h | ⟨_, h⟩
    · exact h
    · exact absurd h (List.lt_irrefl _)
  · intro h; exact List.cons_lt_cons_iff.mpr (.inl h)
theorem c_own_name1 {v : Vl} (h : okV A v) (q : Q (.bl (isHost v)) A) : w_law_is_name_328b [v] A Q E := by
  rw [w_law_is_name_328b, wFun_dx]
  simp [b_law_is_name_328b]
  refine is_str h ?_ fun h0 => ?_
  · rintro s rfl
    simp
    by_cases h2 : 1 ≤ s.length ∧ s.length ≤ 8
    · rw [if_pos (by omega), if_neg (by omega)]
      simp [b_law_is_name_328b_1]
      refine lcP_map (fun x => match x with | .str z => .bl (decide (97 ≤ z.cps.toList.headD 0 ∧ z.cps.toList.headD 0 ≤ 122)) | _ => .non) ?_ trivial ?_ ?_
      · simp [Rk.signs]; have := h2.2; show s.length < 16777216; omega
      · intro x hx K1 hk
        simp only [Rk.signs, List.mem_map] at hx
        obtain ⟨c, hc, rfl⟩ := hx
        simp [wipeA]
        rw [show (Str.ofString "a").cps.toList = [97] by decide +kernel, show (Str.ofString "z").cps.toList = [122] by decide +kernel]
        have hk : K1 (.bl (decide (97 ≤ c ∧ c ≤ 122))) A := hk
        by_cases g : c < 97
        · rw [if_neg (by rw [List.not_le]; exact one_lt.mpr g)]
          rw [decide_eq_false (by omega)] at hk
          exact hk
        · rw [if_pos (by rw [← List.not_lt]; exact fun z => g (one_lt.mp z))]
          by_cases g2 : 122 < c
          · rw [decide_eq_true (one_lt.mpr g2)]
            rw [decide_eq_false (by omega)] at hk
            exact hk
          · rw [decide_eq_false (fun z => g2 (one_lt.mp z))]
            rw [decide_eq_true (by omega)] at hk
            exact hk
      · refine ⟨s.cps.toList.map fun c => decide (97 ≤ c ∧ c ≤ 122), ?_, give ?_⟩
        · rw [Rk.signs, List.map_map, ← bls_map]; exact congrArg bls (List.map_congr_left fun c _ => congrArg Vl.bl (by simp))
        · have : (s.cps.toList.map fun c => decide (97 ≤ c ∧ c ≤ 122)).all id = isHost (.str s) := by
            rw [Bool.eq_iff_iff, isHost_iff]
            simp only [List.all_map, List.all_eq_true, Function.comp, id, decide_eq_true_eq]
            constructor
            · intro g; exact ⟨s, rfl, h2.1, h2.2, g⟩
            · rintro ⟨t, e, g⟩; cases e; exact g.2.2
          rw [this]; exact q
    · have e : isHost (.str s) = false := by
        cases z : isHost (.str s) with
        | false => rfl
        | true => obtain ⟨t, e, g⟩ := isHost_iff.mp z; cases e; exact (h2 ⟨g.1, g.2.1⟩).elim
      rw [e] at q
      by_cases h3 : (1 : Int) ≤ s.length
      · rw [if_pos h3, if_pos (by omega)]
        exact give q
      · rw [if_neg h3]
        exact give q
  · simp
    have e : isHost v = false := by
      cases v <;> first | rfl | exact (h0 _ rfl).elim
    rw [e] at q
    exact give q
theorem two_of' {xs : List Vl} (h : xs.length = 2) : ∃ a b, xs = [a, b] := by
  match xs, h with
  | [a, b], _ => exact ⟨a, b, rfl⟩
theorem c_own_right {v : Vl} (h : okV A v) (q1 : IsRel v → Q (.bl true) A) (q0 : ¬ IsRel v → Q (.bl false) A) : w_law_is_right [v] A Q E := by
  rw [w_law_is_right, wFun_dx]
  simp [b_law_is_right]
  refine is_tup h ?_ fun h0 => ?_
  rotate_left
  · simp
    refine give (q0 ?_)
    rintro ⟨ps, c, e, R⟩
    exact h0 _ e
  rintro xs rfl
  simp
  refine eqD_flat rfl rfl ?_
  rw [show (2 : Int) = ((2 : Nat) : Int) from rfl, eqN]
  by_cases h2 : xs.length = 2
  rotate_left
  · rw [decide_eq_false h2]
    simp
    refine give (q0 ?_)
    rintro ⟨ps, c, e, R⟩
    cases e; exact h2 rfl
  rw [decide_eq_true h2]
  obtain ⟨p, c, rfl⟩ := two_of' h2
  obtain ⟨_, hp, hc, _⟩ := h
  simp
  refine is_tup hp ?_ fun h0 => ?_
  rotate_left
  · simp
    refine give (q0 ?_)
    rintro ⟨ps, c, e, R⟩
    cases e; exact h0 _ rfl
  rintro hs rfl
  simp [b_law_is_right_1]
  simp [b_law_is_right_2]
  by_cases h3 : hs.length < 3
  · rw [if_pos (by omega)]
    refine give (q0 ?_)
    rintro ⟨ps, c, e, R⟩
    cases e
    have := R.lo; simp at h3; omega
  rw [if_neg (by omega)]
  refine lcP_map (fun x => .bl (isHost x)) (by simp; have := hp.1; omega) trivial ?_ ?_
  · intro x hx K1 hk
    simp [wipeA]
    exact c_own_name1 (okVs_iff.mp hp.2 x hx) hk
  refine ⟨hs.map isHost, bls_map _ _, ?_⟩
  by_cases hf : false ∈ hs.map isHost
  · rw [if_pos hf]
    refine give (q0 ?_)
    rintro ⟨ps, c, e, R⟩
    cases e
    obtain ⟨x, hx, hz⟩ := List.mem_map.mp hf
    obtain ⟨s, hs, rfl⟩ := List.mem_map.mp hx
    rw [isHost_iff.mpr ⟨s, rfl, R.ok s hs⟩] at hz; cases hz
  rw [if_neg hf]
  obtain ⟨ps, rfl, ok⟩ := hosts_of (xs := hs) fun x hx => by
    cases z : isHost x with
    | true => rfl
    | false => exact (hf (List.mem_map.mpr ⟨x, hx, z⟩)).elim
  have lp := hp.1
  simp at h3 lp
  refine ⟨ps.map Sum.inr, by simp; omega, .inr (keys_strs ps), ?_⟩
  refine eqD_flat rfl rfl ?_
  rw [eqN, List.length_map]
  by_cases z : ps.Nodup
  · rw [decide_eq_true (dd_eq.mpr z)]
    simp [b_law_is_right_3]
    have no : (∀ b, c = .int b → 0 ≤ b → b + 2 ≤ ps.length → False) → Q (.bl false) A := fun g => q0 (by
      rintro ⟨ps', c', e, R⟩
      simp at e
      have := strs_inj e.1
      subst this
      exact g c' e.2 (by omega) (by have := R.cut; omega))
    obtain ⟨k, hk, _, _, e1, e2⟩ := okV_kd hc
    refine e_isi (z := .int) hk rfl ?_
    by_cases z1 : k = .int
    · obtain ⟨i, rfl⟩ := e1.mp z1
      cases hk
      rw [show Kd.int.sub .int = true from rfl]
      simp
      refine isi_intb ?_
      simp
      by_cases g0 : 0 ≤ i
      · rw [if_pos g0]
        by_cases g1 : i ≤ (ps.length : Int) - 2
        · rw [decide_eq_true g1]
          obtain ⟨cut, rfl⟩ : ∃ n : Nat, i = n := ⟨i.toNat, by omega⟩
          exact give (q1 ⟨ps, cut, rfl, z, by omega, lp, ok, by omega⟩)
        · rw [decide_eq_false g1]
          exact give (no fun b e _ h => g1 (by cases e; omega))
      · rw [if_neg g0]
        exact give (no fun b e h _ => g0 (by cases e; exact h))
    · have nv : ∀ i, c ≠ .int i := fun i e => z1 (e1.mpr ⟨i, e⟩)
      by_cases y : k = .bl
      · rw [show k.sub .int = true by rw [y]; rfl]
        simp
        refine e_isi (z := .bl) hk rfl ?_
        rw [show k.sub .bl = true by rw [y]; rfl]
        simp
        exact give (no fun b e _ _ => nv b e)
      · rw [show k.sub .int = false by cases k <;> first | rfl | exact (z1 rfl).elim | exact (y rfl).elim]
        simp
        exact give (no fun b e _ _ => nv b e)
  · rw [decide_eq_false fun e => z (dd_eq.mp e)]
    simp
    refine give (q0 ?_)
    rintro ⟨ps', c', e, R⟩
    simp at e
    have := strs_inj e.1
    subst this
    exact z R.nd
/-! ### the program's links -/
def lnk (a b : Str) : Vl := .tup [.str (loT a b), .str (hiT a b)]
theorem c_ordered {a b : Str} (q : Q (lnk a b) A) : w_ordered_link [.str a, .str b] A Q E := by
  rw [w_ordered_link, wFun_dx]
  simp [b_ordered_link]
  exact give q
theorem c_added {ps : List Str} {cut : Nat} {a b : Str} (R : RelOk ps cut) (ha : ps[0]? = some a) (hb : ps[ps.length - 1]? = some b) (q : Q (lnk a b) A) : w_added_link [rel ps cut] A Q E := by
  rw [w_added_link, wFun_dx]
  simp [b_added_link]
  refine c_require (okV_rel R.hi) (fun _ => ?_) fun z => (z ⟨_, _, rfl, R⟩).elim
  simp [b_added_link_1, b_added_link_2]
  have lo := R.lo
  refine ⟨.str a, ?_, .str b, ?_, c_ordered (give q)⟩
  · unfold L2.atI
    rw [ixN_lo (by decide) (by simp; omega)]
    simp [ha]
  · unfold L2.atI
    have : ixN (ps.map Vl.str).length (-1) = some (ps.length - 1) := by
      unfold ixN
      simp
      omega
    rw [this]
    simp [hb]
theorem c_added0 {r : Vl} (hr : okV A r) (R : ¬ IsRel r) (q : E (X1 "InvalidRelink" "value" r) A) : w_added_link [r] A Q E := by
  rw [w_added_link, wFun_dx]
  simp [b_added_link]
  refine c_require hr (fun z => (R z).elim) fun _ => ?_
  exact giveE q
theorem c_removed {ps : List Str} {cut : Nat} {a b : Str} (R : RelOk ps cut) (ha : ps[cut]? = some a) (hb : ps[cut + 1]? = some b) (q : Q (lnk a b) A) : w_removed_link [rel ps cut] A Q E := by
  rw [w_removed_link, wFun_dx]
  simp [b_removed_link]
  refine c_require (okV_rel R.hi) (fun _ => ?_) fun z => (z ⟨_, _, rfl, R⟩).elim
  simp [b_removed_link_1, b_removed_link_2]
  have hc := R.cut
  refine ⟨.str a, ?_, .str b, ?_, c_ordered (give q)⟩
  · unfold L2.atI
    rw [ixN_nat (by simp; omega)]
    simp [ha]
  · unfold L2.atI
    rw [show ((cut : Int) + 1) = ((cut + 1 : Nat) : Int) by omega, ixN_nat (by simp; omega)]
    simp [hb]
theorem c_removed0 {r : Vl} (hr : okV A r) (R : ¬ IsRel r) (q : E (X1 "InvalidRelink" "value" r) A) : w_removed_link [r] A Q E := by
  rw [w_removed_link, wFun_dx]
  simp [b_removed_link]
  refine c_require hr (fun z => (R z).elim) fun _ => ?_
  exact giveE q
theorem c_apart {ps qs : List Str} {cut at' : Nat} (R : RelOk ps cut) (S : RelOk qs at') (q : Q (.bl (ps.all fun p => decide (p ∉ qs))) A) : w_are_independent [rel ps cut, rel qs at'] A Q E := by
  rw [w_are_independent, wFun_dx]
  simp [b_are_independent]
  refine c_require (okV_rel R.hi) (fun _ => ?_) fun z => (z ⟨_, _, rfl, R⟩).elim
  simp [b_are_independent_1]
  refine c_require (okV_rel S.hi) (fun _ => ?_) fun z => (z ⟨_, _, rfl, S⟩).elim
  simp [b_are_independent_2]
  refine lcP_map (fun x => .bl (inL x (qs.map .str))) (by simp; have := R.hi; omega) trivial ?_ ?_
  · intro x hx K1 hk
    obtain ⟨p, hp, rfl⟩ := List.mem_map.mp hx
    simp [wipeA, flat_map]
    exact ⟨rfl, fun _ _ => rfl, by simpa using hk⟩
  · rw [List.map_map]
    refine ⟨_, bls_map (fun p => decide (p ∈ qs)) ps |> fun e => by rw [← e]; exact congrArg bls (List.map_congr_left fun p _ => congrArg Vl.bl (inL_map _ _)), give ?_⟩
    have : (!((ps.map fun p => decide (p ∈ qs)).any id)) = ps.all fun p => decide (p ∉ qs) := by
      rw [List.any_map, Bool.eq_iff_iff]
      simp
    rw [this]; exact q
theorem c_apart0 {r v : Vl} (hr : okV A r) (R : ¬ IsRel r) (q : E (X1 "InvalidRelink" "value" r) A) : w_are_independent [r, v] A Q E := by
  rw [w_are_independent, wFun_dx]
  simp [b_are_independent]
  refine c_require hr (fun z => (R z).elim) fun _ => ?_
  exact giveE q
theorem c_apart1 {ps : List Str} {cut : Nat} {r : Vl} (S : RelOk ps cut) (hr : okV A r) (R : ¬ IsRel r) (q : E (X1 "InvalidRelink" "value" r) A) : w_are_independent [rel ps cut, r] A Q E := by
  rw [w_are_independent, wFun_dx]
  simp [b_are_independent]
  refine c_require (okV_rel S.hi) (fun _ => ?_) fun z => (z ⟨_, _, rfl, S⟩).elim
  simp [b_are_independent_1]
  refine c_require hr (fun z => (R z).elim) fun _ => ?_
  exact giveE q
/-! ### calls by kind -/
theorem call_v0 {v n r : Vl} (h : ∀ {Q : QE} {E : EX}, Q r A → w_added_link [v] A Q E) (q : Q r A) : w_law_call [.int 0, v, n] A Q E := by
  rw [w_law_call, wFun_dx]
  simp [b_law_call]
  refine eqD_flat rfl rfl ?_
  rw [eqI, decide_eq_true (by decide)]
  simp -failIfUnchanged
  exact h (give q)
theorem call_e0 {v n : Vl} {r : Xv} (h : ∀ {Q : QE} {E : EX}, E r A → w_added_link [v] A Q E) (q : E r A) : w_law_call [.int 0, v, n] A Q E := by
  rw [w_law_call, wFun_dx]
  simp [b_law_call]
  refine eqD_flat rfl rfl ?_
  rw [eqI, decide_eq_true (by decide)]
  simp -failIfUnchanged
  exact h (giveE q)
theorem call_v1 {v n r : Vl} (h : ∀ {Q : QE} {E : EX}, Q r A → w_removed_link [v] A Q E) (q : Q r A) : w_law_call [.int 1, v, n] A Q E := by
  rw [w_law_call, wFun_dx]
  simp [b_law_call]
  refine eqD_flat rfl rfl ?_
  rw [eqI, decide_eq_false (by decide)]
  simp -failIfUnchanged
  simp [b_law_call_1]
  refine eqD_flat rfl rfl ?_
  rw [eqI, decide_eq_true (by decide)]
  simp -failIfUnchanged
  exact h (give q)
theorem call_e1 {v n : Vl} {r : Xv} (h : ∀ {Q : QE} {E : EX}, E r A → w_removed_link [v] A Q E) (q : E r A) : w_law_call [.int 1, v, n] A Q E := by
  rw [w_law_call, wFun_dx]
  simp [b_law_call]
  refine eqD_flat rfl rfl ?_
  rw [eqI, decide_eq_false (by decide)]
  simp -failIfUnchanged
  simp [b_law_call_1]
  refine eqD_flat rfl rfl ?_
  rw [eqI, decide_eq_true (by decide)]
  simp -failIfUnchanged
  exact h (giveE q)
theorem call_v2 {v n r : Vl} (h : ∀ {Q : QE} {E : EX}, Q r A → w_position [v, n] A Q E) (q : Q r A) : w_law_call [.int 2, v, n] A Q E := by
  rw [w_law_call, wFun_dx]
  simp [b_law_call]
  refine eqD_flat rfl rfl ?_
  rw [eqI, decide_eq_false (by decide)]
  simp -failIfUnchanged
  simp [b_law_call_1]
  refine eqD_flat rfl rfl ?_
  rw [eqI, decide_eq_false (by decide)]
  simp -failIfUnchanged
  simp [b_law_call_2]
  refine eqD_flat rfl rfl ?_
  rw [eqI, decide_eq_true (by decide)]
  simp -failIfUnchanged
  exact h (give q)
theorem call_e2 {v n : Vl} {r : Xv} (h : ∀ {Q : QE} {E : EX}, E r A → w_position [v, n] A Q E) (q : E r A) : w_law_call [.int 2, v, n] A Q E := by
  rw [w_law_call, wFun_dx]
  simp [b_law_call]
  refine eqD_flat rfl rfl ?_
  rw [eqI, decide_eq_false (by decide)]
  simp -failIfUnchanged
  simp [b_law_call_1]
  refine eqD_flat rfl rfl ?_
  rw [eqI, decide_eq_false (by decide)]
  simp -failIfUnchanged
  simp [b_law_call_2]
  refine eqD_flat rfl rfl ?_
  rw [eqI, decide_eq_true (by decide)]
  simp -failIfUnchanged
  exact h (giveE q)
theorem call_v3 {v n r : Vl} (h : ∀ {Q : QE} {E : EX}, Q r A → w_is_near [v, n] A Q E) (q : Q r A) : w_law_call [.int 3, v, n] A Q E := by
  rw [w_law_call, wFun_dx]
  simp [b_law_call]
  refine eqD_flat rfl rfl ?_
  rw [eqI, decide_eq_false (by decide)]
  simp -failIfUnchanged
  simp [b_law_call_1]
  refine eqD_flat rfl rfl ?_
  rw [eqI, decide_eq_false (by decide)]
  simp -failIfUnchanged
  simp [b_law_call_2]
  refine eqD_flat rfl rfl ?_
  rw [eqI, decide_eq_false (by decide)]
  simp -failIfUnchanged
  simp [b_law_call_3]
  refine eqD_flat rfl rfl ?_
  rw [eqI, decide_eq_true (by decide)]
  simp -failIfUnchanged
  exact h (give q)
theorem call_e3 {v n : Vl} {r : Xv} (h : ∀ {Q : QE} {E : EX}, E r A → w_is_near [v, n] A Q E) (q : E r A) : w_law_call [.int 3, v, n] A Q E := by
  rw [w_law_call, wFun_dx]
  simp [b_law_call]
  refine eqD_flat rfl rfl ?_
  rw [eqI, decide_eq_false (by decide)]
  simp -failIfUnchanged
  simp [b_law_call_1]
  refine eqD_flat rfl rfl ?_
  rw [eqI, decide_eq_false (by decide)]
  simp -failIfUnchanged
  simp [b_law_call_2]
  refine eqD_flat rfl rfl ?_
  rw [eqI, decide_eq_false (by decide)]
  simp -failIfUnchanged
  simp [b_law_call_3]
  refine eqD_flat rfl rfl ?_
  rw [eqI, decide_eq_true (by decide)]
  simp -failIfUnchanged
  exact h (giveE q)
theorem call_v4 {v n r : Vl} (h : ∀ {Q : QE} {E : EX}, Q r A → w_are_independent [v, n] A Q E) (q : Q r A) : w_law_call [.int 4, v, n] A Q E := by
  rw [w_law_call, wFun_dx]
  simp [b_law_call]
  refine eqD_flat rfl rfl ?_
  rw [eqI, decide_eq_false (by decide)]
  simp -failIfUnchanged
  simp [b_law_call_1]
  refine eqD_flat rfl rfl ?_
  rw [eqI, decide_eq_false (by decide)]
  simp -failIfUnchanged
  simp [b_law_call_2]
  refine eqD_flat rfl rfl ?_
  rw [eqI, decide_eq_false (by decide)]
  simp -failIfUnchanged
  simp [b_law_call_3]
  refine eqD_flat rfl rfl ?_
  rw [eqI, decide_eq_false (by decide)]
  simp -failIfUnchanged
  exact h (give q)
theorem call_e4 {v n : Vl} {r : Xv} (h : ∀ {Q : QE} {E : EX}, E r A → w_are_independent [v, n] A Q E) (q : E r A) : w_law_call [.int 4, v, n] A Q E := by
  rw [w_law_call, wFun_dx]
  simp [b_law_call]
  refine eqD_flat rfl rfl ?_
  rw [eqI, decide_eq_false (by decide)]
  simp -failIfUnchanged
  simp [b_law_call_1]
  refine eqD_flat rfl rfl ?_
  rw [eqI, decide_eq_false (by decide)]
  simp -failIfUnchanged
  simp [b_law_call_2]
  refine eqD_flat rfl rfl ?_
  rw [eqI, decide_eq_false (by decide)]
  simp -failIfUnchanged
  simp [b_law_call_3]
  refine eqD_flat rfl rfl ?_
  rw [eqI, decide_eq_false (by decide)]
  simp -failIfUnchanged
  exact h (giveE q)
theorem told_v {k v n r : Vl} {W : Nat} (hr : Sh A 12 r W) (hW : W ≤ 2 ^ 18) (h : ∀ {Q : QE} {E : EX}, Q r A → w_law_call [k, v, n] A Q E) (q : Q (.tup [.str "told", .str (shw A r)]) A) : w_law_told [k, v, n] A Q E := by
  rw [w_law_told, wFun_dx]
  simp [b_law_told]
  simp [b_law_told_1]
  refine h (c_repr hr hW ?_)
  simp [b_law_told_2]
  exact give q
theorem told_rel {k v n r : Vl} {W : Nat} (hr : Sh A 12 r W) (hW : W ≤ 2 ^ 18) (h : ∀ {Q : QE} {E : EX}, E (X1 "InvalidRelink" "value" r) A → w_law_call [k, v, n] A Q E) (q : Q (.tup [.str "relink", .str (shw A r)]) A) : w_law_told [k, v, n] A Q E := by
  rw [w_law_told, wFun_dx]
  simp [b_law_told]
  simp [b_law_told_1]
  refine h ?_
  refine hit (by decide) (by decide) fun a d => ?_
  simp [b_law_told_h1, offA, onA]
  refine xi rfl (by decide : isA "InvalidRelink" ["RelinkTreeError"] = true) ?_
  simp -failIfUnchanged
  refine xi rfl (by decide : isA "InvalidRelink" ["ValueError"] = true) ?_
  simp -failIfUnchanged
  refine xf1 rfl (c_repr hr hW ?_)
  simp [b_law_told_2]
  exact give q
theorem told_host {k v n r : Vl} {W : Nat} (hr : Sh A 12 r W) (hW : W ≤ 2 ^ 18) (h : ∀ {Q : QE} {E : EX}, E (X1 "UnknownHost" "host" r) A → w_law_call [k, v, n] A Q E) (q : Q (.tup [.str "host", .str (shw A r)]) A) : w_law_told [k, v, n] A Q E := by
  rw [w_law_told, wFun_dx]
  simp [b_law_told]
  simp [b_law_told_1]
  refine h ?_
  refine miss (by decide) (by decide) (hit (by decide) (by decide) fun a d => ?_)
  simp [b_law_told_h2, offA, onA]
  refine xi rfl (by decide : isA "UnknownHost" ["LookupError"] = true) ?_
  simp -failIfUnchanged
  refine xi rfl (by decide : isA "UnknownHost" ["RelinkTreeError"] = false) ?_
  simp -failIfUnchanged
  refine xf1 rfl (c_repr hr hW ?_)
  simp [b_law_told_2]
  exact give q
end Lw

set_option Elab.async false
set_option linter.all false
set_option maxRecDepth 100000
set_option maxHeartbeats 400000
namespace Lw
open PySem PySem.Spec PyProof.Rows L2 Rk Pg Hl Dw Rpr Rp3 Rp4 Rp5
variable {A : Ah} {Q : QE} {E : EX}
abbrev toldV (w : Str) (r : Str) : Vl := .tup [.str w, .str r]
theorem sh_rel {ps : List Str} {cut : Nat} (R : RelOk ps cut) : Od 3 (rel ps cut) 12000 := by
  have := R.cut
  have := R.hi
  have o : Ods 1 (ps.map .str) 9000 := by
    refine ⟨nRs_iff.mpr fun x hx => ?_, fun A => okV_strs A ps, fun A => (Shs.all (W := 8) fun x hx => ?_).mono ?_⟩
    · obtain ⟨s, _, rfl⟩ := List.mem_map.mp hx; rfl
    · obtain ⟨s, hs, rfl⟩ := List.mem_map.mp hx
      exact Sh.host (R.ok s hs)
    · simp; omega
  exact (Od.tup (.cons (Od.tup o (by simpa using R.hi)) (.cons (Od.int (i := (cut : Int)) (by omega)) .nil)) (by simp)).mono (by omega)
theorem sh_lnk {a b : Str} (ha : hostOk a) (hb : hostOk b) : Sh A 12 (lnk a b) 40 := by
  have h : ∀ {x : Str}, x = a ∨ x = b → hostOk x := fun h => by rcases h with rfl | rfl <;> assumption
  refine (Sh.tup (.cons (Sh.host (h ?_)) (.cons (Sh.host (h ?_)) .nil))).mono (by omega)
  · unfold loT; split <;> simp
  · unfold hiT; split <;> simp
theorem sorted2 {a b : Str} {QB : QE} (q : QB (.lst [.str (loT a b), .str (hiT a b)]) A) : fSorted .F [.lst [.str a, .str b]] A QB := by
  refine ⟨[a, b], rfl, by simp, ?_⟩
  rw [sort2]
  exact q
theorem c_links_right {ps qs ns : List Str} {cut at' : Nat} {p0 : Addr} (R : RelOk ps cut) (S : RelOk qs at') (hp : A p0 = some (.lst (ns.map .str))) (hn : ∀ z ∈ ns, hostOk z) (q : Q (.bl true) A) : w_law_links_right [rel ps cut, .ref p0, rel qs at'] A Q E := by
  have lo := R.lo
  have hc := R.cut
  have hi := R.hi
  obtain ⟨a, ha⟩ : ∃ a, ps[0]? = some a := ⟨_, List.getElem?_eq_getElem (by omega)⟩
  obtain ⟨b, hb⟩ : ∃ b, ps[ps.length - 1]? = some b := ⟨_, List.getElem?_eq_getElem (by omega)⟩
  obtain ⟨c, hcc⟩ : ∃ c, ps[cut]? = some c := ⟨_, List.getElem?_eq_getElem (by omega)⟩
  obtain ⟨d, hd⟩ : ∃ d, ps[cut + 1]? = some d := ⟨_, List.getElem?_eq_getElem (by omega)⟩
  have a0 : atI (ps.map Vl.str) 0 = some (.str a) := by
    unfold L2.atI
    rw [ixN_lo (by decide) (by simp; omega)]
    simp [ha]
  have a1 : atI (ps.map Vl.str) (-1) = some (.str b) := by
    unfold L2.atI
    have : ixN (ps.map Vl.str).length (-1) = some (ps.length - 1) := by
      unfold ixN
      simp
      omega
    rw [this]
    simp [hb]
  have a2 : atI (ps.map Vl.str) (cut : Int) = some (.str c) := by
    unfold L2.atI
    rw [ixN_nat (by simp; omega)]
    simp [hcc]
  have a3 : atI (ps.map Vl.str) ((cut : Int) + 1) = some (.str d) := by
    unfold L2.atI
    rw [show ((cut : Int) + 1) = ((cut + 1 : Nat) : Int) by omega, ixN_nat (by simp; omega)]
    simp [hd]
  rw [w_law_links_right, wFun_dx]
  simp [b_law_links_right]
  simp [b_law_links_right_1, -e_gN]
  refine ⟨_, a0, _, a1, ?_⟩
  simp -failIfUnchanged [-e_gN]
  refine sorted2 ?_
  simp -failIfUnchanged [-e_gN]
  refine ⟨_, a2, _, a3, sorted2 ?_⟩
  simp -failIfUnchanged [-e_gN]
  simp only [e_gN, List.set_cons_succ, List.set_cons_zero]
  have L1 : Vl.tup [.str (loT a b), .str (hiT a b)] = lnk a b := rfl
  have L2' : Vl.tup [.str (loT c d), .str (hiT c d)] = lnk c d := rfl
  rw [L1, L2']
  have mem : ∀ {i : Nat} {x : Str}, ps[i]? = some x → hostOk x := fun h => R.ok _ (List.mem_of_getElem? h)
  have s1 := fun A : Ah => sh_lnk (A := A) (mem ha) (mem hb)
  have s2 := fun A : Ah => sh_lnk (A := A) (mem hcc) (mem hd)
  simp [b_law_links_right_2, -e_gN]
  refine ⟨⟨by decide, by decide, by decide, by decide⟩, ?_⟩
  refine lcP_map (fun x => match x with | .int 0 => toldV "told" (shw A (lnk a b)) | _ => toldV "told" (shw A (lnk c d))) (by show 2 < 16777216; decide) trivial ?_ ?_
  · intro x hx K1 hk
    have hx : x ∈ [Vl.int 0, .int 1] := hx
    simp only [List.mem_cons, List.not_mem_nil, or_false] at hx
    rcases hx with rfl | rfl
    · simp [wipeA]
      exact told_v (s1 A) (by decide) (fun q => call_v0 (fun q => c_added R ha hb q) q) hk
    · simp [wipeA]
      exact told_v (s2 A) (by decide) (fun q => call_v1 (fun q => c_removed R hcc hd q) q) hk
  refine lcP_map (fun x => toldV "told" (shw A x)) (by show 2 < 16777216; decide) trivial ?_ ?_
  · intro x hx K1 hk
    simp only [List.mem_cons, List.not_mem_nil, or_false] at hx
    rcases hx with rfl | rfl
    · simp [wipeA]
      exact c_repr (s1 A) (by decide) hk
    · simp [wipeA]
      exact c_repr (s2 A) (by decide) hk
  show fEqD true (.lst [toldV "told" (shw A (lnk a b)), toldV "told" (shw A (lnk c d))]) (.lst [toldV "told" (shw A (lnk a b)), toldV "told" (shw A (lnk c d))]) A _
  refine eqD_self (d := .list [.tuple [.str "told", .str (shw A (lnk a b))], .tuple [.str "told", .str (shw A (lnk c d))]]) rfl ?_
  simp -failIfUnchanged
  simp [b_law_links_right_3]
  rw [itV_eq hp]
  refine forL_ind (fun i S' A' => Rk.Sub A A' ∧ ∃ u6 u7 u8, S' = [some (rel ps cut), some (.ref p0), some (rel qs at'), some (.tup (ps.map .str)), some (.int cut), some (.lst [lnk a b, lnk c d]), u6, u7, u8, none, none, none]) ⟨.refl, _, _, _, rfl⟩ ?_ ?_ ?_
  · rintro i S' A' ⟨sb, _⟩
    exact sb _ _ hp
  · rintro i x S' A' N hx ⟨sb, u6, u7, u8, rfl⟩ hN
    obtain ⟨z, hz, rfl⟩ := List.mem_map.mp (List.mem_of_getElem? hx)
    have oz := hn z hz
    simp only [e_gN, List.set_cons_succ, List.set_cons_zero]
    simp [-e_gN]
    have sz : ∀ A : Ah, Sh A 12 (.str z) 8 := fun A => Sh.host oz
    have cont : ∀ {t u : Vl}, (z ∈ ps → t = toldV "told" (shw A' (.int (ps.idxOf z))) ∧ u = toldV "told" (shw A' (.bl (decide (ps.idxOf z ≤ cut))))) → (z ∉ ps → t = toldV "host" (shw A' (.str z)) ∧ u = toldV "host" (shw A' (.str z))) →
        b_law_links_right_x3 { nx := N, rt := fun v A' => ∃ B, Rk.Sub B A' ∧ Q v B, bk := b_law_links_right_4 (Dx Q E), ct := N, ex := fun x x_2 A' => ∃ B, Rk.Sub B A' ∧ E x B }
          [some (rel ps cut), some (.ref p0), some (rel qs at'), some (.tup (ps.map .str)), some (.int cut), some (.lst [lnk a b, lnk c d]), some (.str z), some (.lst [t, u]), u8, none, none, none] A' := by
      intro t u h1 h0
      simp [b_law_links_right_x3]
      refine c_repr (sz _) (by decide) ?_
      intro p hp2
      rw [lstA_eq put_same]
      refine ⟨by simp, ?_⟩
      have grow : Rk.Sub A (put A' p (.lst [toldV "host" (shw A' (.str z))])) := .trans sb (.new hp2)
      have last : ∀ (w : Vl) (A2 : Ah), Rk.Sub A A2 → w = .lst [t, u] → b_law_links_right_x1 { nx := N, rt := fun v A' => ∃ B, Rk.Sub B A' ∧ Q v B, bk := b_law_links_right_4 (Dx Q E), ct := N, ex := fun x x_2 A' => ∃ B, Rk.Sub B A' ∧ E x B }
          [some (rel ps cut), some (.ref p0), some (rel qs at'), some (.tup (ps.map .str)), some (.int cut), some (.lst [lnk a b, lnk c d]), some (.str z), some (.lst [t, u]), some w, none, none, none] A2 := by
        intro w A2 g e
        subst e
        simp [b_law_links_right_x1]
        obtain ⟨d, hd⟩ : ∃ d, dat 12 A2 (.lst [t, u]) = some d := by
          by_cases hz2 : z ∈ ps
          · obtain ⟨rfl, rfl⟩ := h1 hz2; exact ⟨_, rfl⟩
          · obtain ⟨rfl, rfl⟩ := h0 hz2; exact ⟨_, rfl⟩
        refine eqD_self hd ?_
        simp -failIfUnchanged
        exact hN _ _ ⟨g, _, _, _, rfl⟩
      simp [b_law_links_right_x2, flat_map, inL_map, -e_gN]
      refine ⟨rfl, fun _ _ => rfl, ?_⟩
      by_cases hz2 : z ∈ ps
      · rw [if_pos hz2]
        obtain ⟨rfl, rfl⟩ := h1 hz2
        obtain ⟨f1, f2⟩ := first_at hz2
        have hl := List.idxOf_lt_length_of_mem hz2
        refine ⟨ps.map .str, z, ps, _, rfl, rfl, strL_map ps, f1, f2, ?_⟩
        refine c_repr (W := 40) (Sh.int (by omega)) (by decide) ?_
        refine ⟨ps.map .str, z, ps, _, rfl, rfl, strL_map ps, f1, f2, ?_⟩
        simp -failIfUnchanged [-e_gN]
        refine c_repr (W := 0) Sh.bl (by decide) ?_
        simp only [e_gN, List.set_cons_succ, List.set_cons_zero]
        exact last _ _ grow rfl
      · rw [if_neg hz2]
        obtain ⟨rfl, rfl⟩ := h0 hz2
        exact last _ _ grow rfl
    by_cases hz2 : z ∈ ps
    · have hl := List.idxOf_lt_length_of_mem hz2
      refine told_v (r := .int (ps.idxOf z)) (W := 40) (Sh.int (by omega)) (by decide) (fun q => call_v2 (fun q => c_position R trivial (fun s e hs => by cases e; exact q) fun no => (no z hz2 rfl).elim) q) ?_
      refine told_v (r := .bl (decide (ps.idxOf z ≤ cut))) Sh.bl (by decide) (fun q => call_v3 (fun q => c_near R trivial (fun s e hs => by cases e; exact q) fun no => (no z hz2 rfl).elim) q) ?_
      simp only [e_gN, List.set_cons_succ, List.set_cons_zero]
      exact cont (fun _ => ⟨rfl, rfl⟩) fun h => (h hz2).elim
    · refine told_host (sz _) (by decide) (fun q => call_e2 (fun q => c_position R trivial (fun s e hs => by cases e; exact (hz2 hs).elim) fun no => q) q) ?_
      refine told_host (sz _) (by decide) (fun q => call_e3 (fun q => c_near R trivial (fun s e hs => by cases e; exact (hz2 hs).elim) fun no => q) q) ?_
      simp only [e_gN, List.set_cons_succ, List.set_cons_zero]
      exact cont (fun h => (hz2 h).elim) fun _ => ⟨rfl, rfl⟩
  · rintro S' A' ⟨sb, u6, u7, u8, rfl⟩
    simp [b_law_links_right_4]
    refine lcP_map (fun x => .bl (!inL x (qs.map .str))) (by simp; omega) trivial ?_ ?_
    · intro x hx K1 hk
      obtain ⟨p, hp, rfl⟩ := List.mem_map.mp hx
      simp [wipeA, flat_map]
      exact ⟨rfl, fun _ _ => rfl, by simpa using hk⟩
    rw [List.map_map]
    refine ⟨_, bls_map (fun p => decide (p ∉ qs)) ps |> fun e => by rw [← e]; exact congrArg bls (List.map_congr_left fun p _ => congrArg Vl.bl (by rw [inL_map]; simp)), ?_⟩
    have eq : (ps.map fun p => decide (p ∉ qs)).all id = ps.all fun p => decide (p ∉ qs) := by rw [List.all_map]; rfl
    rw [eq]
    simp [b_law_links_right_5]
    have sym : (qs.all fun p => decide (p ∉ ps)) = ps.all fun p => decide (p ∉ qs) := by
      rw [Bool.eq_iff_iff]
      simp only [List.all_eq_true, decide_eq_true_eq]
      exact ⟨fun h x hx hq => h x hq hx, fun h x hx hp => h x hp hx⟩
    refine told_v (r := .bl (ps.all fun p => decide (p ∉ qs))) Sh.bl (by decide) (fun q => call_v4 (fun q => c_apart R S q) q) ?_
    refine told_v (r := .bl (ps.all fun p => decide (p ∉ qs))) Sh.bl (by decide) (fun q => call_v4 (fun q => c_apart S R (by rw [sym]; exact q)) q) ?_
    have e2 : (ps.all fun p => !decide (p ∈ qs)) = ps.all fun p => decide (p ∉ qs) := by
      rw [Bool.eq_iff_iff]; simp
    rw [e2]
    refine c_repr (W := 0) Sh.bl (by decide) ?_
    intro p hp2
    rw [lstA_eq put_same]
    refine ⟨by simp, ?_⟩
    refine eqD_self (d := .list [.tuple [.str "told", .str (shw A' (.bl (ps.all fun p => decide (p ∉ qs))))], .tuple [.str "told", .str (shw A' (.bl (ps.all fun p => decide (p ∉ qs))))]]) rfl ?_
    exact ⟨A, .trans sb (.new hp2), q⟩
end Lw

set_option Elab.async false
set_option linter.all false
set_option maxRecDepth 100000
set_option maxHeartbeats 400000
namespace Lw
open PySem PySem.Spec PyProof.Rows L2 Rk Pg Hl Dw Rpr Rp3 Rp4 Rp5
variable {A : Ah} {Q : QE} {E : EX}
theorem odds1_ok : ∀ x ∈ odds1, Od 3 x 300 := odwAll_ok (by decide +kernel)
/-- all that the law asks of a value that is no relink -/
theorem told_bad {k : Int} {v n : Vl} {W : Nat} (hk : 0 ≤ k) (hk2 : k < 5) (hv : Od 9 v W) (hW : W ≤ 2 ^ 18) (nr : ¬ IsRel v) (q : Q (toldV "relink" (shw A v)) A) : w_law_told [.int k, v, n] A Q E := by
  have sv := (Od.ups hv (m := 12) (by decide)).2.2 A
  have ok := hv.ok (A := A)
  rcases (by omega : k = 0 ∨ k = 1 ∨ k = 2 ∨ k = 3 ∨ k = 4) with rfl | rfl | rfl | rfl | rfl
  · exact told_rel sv hW (fun q => call_e0 (fun q => c_added0 ok nr q) q) q
  · exact told_rel sv hW (fun q => call_e1 (fun q => c_removed0 ok nr q) q) q
  · exact told_rel sv hW (fun q => call_e2 (fun q => c_position0 ok nr q) q) q
  · exact told_rel sv hW (fun q => call_e3 (fun {Q E} q => by
      rw [w_is_near, wFun_dx]
      simp [b_is_near]
      exact c_position0 ok nr (giveE q)) q) q
  · exact told_rel sv hW (fun q => call_e4 (fun q => c_apart0 ok nr q) q) q
/-- a relink: whatever is told, something is -/
theorem told_any {k : Int} {ps : List Str} {cut : Nat} {z : Str} (hk : 0 ≤ k) (hk2 : k < 5) (R : RelOk ps cut) (oz : hostOk z) (q : ∀ w : Vl, Q w A) : w_law_told [.int k, rel ps cut, .str z] A Q E := by
  have lo := R.lo
  have hc := R.cut
  have hi := R.hi
  obtain ⟨a, ha⟩ : ∃ a, ps[0]? = some a := ⟨_, List.getElem?_eq_getElem (by omega)⟩
  obtain ⟨b, hb⟩ : ∃ b, ps[ps.length - 1]? = some b := ⟨_, List.getElem?_eq_getElem (by omega)⟩
  obtain ⟨c, hcc⟩ : ∃ c, ps[cut]? = some c := ⟨_, List.getElem?_eq_getElem (by omega)⟩
  obtain ⟨d, hd⟩ : ∃ d, ps[cut + 1]? = some d := ⟨_, List.getElem?_eq_getElem (by omega)⟩
  have mem : ∀ {i : Nat} {x : Str}, ps[i]? = some x → hostOk x := fun h => R.ok _ (List.mem_of_getElem? h)
  have sz : Sh A 12 (.str z) 8 := Sh.host oz
  rcases (by omega : k = 0 ∨ k = 1 ∨ k = 2 ∨ k = 3 ∨ k = 4) with rfl | rfl | rfl | rfl | rfl
  · exact told_v (sh_lnk (mem ha) (mem hb)) (by decide) (fun q => call_v0 (fun q => c_added R ha hb q) q) (q _)
  · exact told_v (sh_lnk (mem hcc) (mem hd)) (by decide) (fun q => call_v1 (fun q => c_removed R hcc hd q) q) (q _)
  · by_cases hz2 : z ∈ ps
    · have hl := List.idxOf_lt_length_of_mem hz2
      exact told_v (r := .int (ps.idxOf z)) (W := 40) (Sh.int (by omega)) (by decide) (fun q => call_v2 (fun q => c_position R trivial (fun s e hs => by cases e; exact q) fun no => (no z hz2 rfl).elim) q) (q _)
    · exact told_host sz (by decide) (fun q => call_e2 (fun q => c_position R trivial (fun s e hs => by cases e; exact (hz2 hs).elim) fun no => q) q) (q _)
  · by_cases hz2 : z ∈ ps
    · exact told_v (r := .bl (decide (ps.idxOf z ≤ cut))) Sh.bl (by decide) (fun q => call_v3 (fun q => c_near R trivial (fun s e hs => by cases e; exact q) fun no => (no z hz2 rfl).elim) q) (q _)
    · exact told_host sz (by decide) (fun q => call_e3 (fun q => c_near R trivial (fun s e hs => by cases e; exact (hz2 hs).elim) fun no => q) q) (q _)
  · exact told_rel sz (by decide) (fun q => call_e4 (fun q => c_apart1 R trivial (by rintro ⟨_, _, e, _⟩; cases e) q) q) (q _)
theorem c_value_right {g p0 : Addr} {v : Vl} {qs ns : List Str} {at' W : Nat} (G : isG A g) (hp : A p0 = some (.lst (ns.map .str))) (gp : p0 ≠ g) (hn : ∀ z ∈ ns, hostOk z) (h0 : ns ≠ []) (S : RelOk qs at') (hv : Od 9 v W) (hW : W ≤ 2 ^ 18) (q : ∀ A', Of A g A' → Q (.bl true) A') : w_law_value_right [.ref g, v, .ref p0, rel qs at'] A Q E := by
  have sv : ∀ A : Ah, Sh A 12 v W := fun A => (Od.ups hv (m := 12) (by decide)).2.2 A
  rw [w_law_value_right, wFun_dx]
  simp [b_law_value_right, -e_gN]
  refine c_repr (sv _) hW ?_
  have main : ∀ b : Bool, (b = true → IsRel v) → (b = false → ¬ IsRel v) → (∀ {A : Ah} {Q : QE} {E : EX}, Q (.bl b) A → w_is_relink [v] A Q E) → b_law_value_right_1 (Dx Q E) [some (.ref g), some v, some (.ref p0), some (rel qs at'), some (.str (shw A v)), some (.bl b), none, none, none] A := by
    intro b hb1 hb0 call
    simp [b_law_value_right_1]
    refine call (call ?_)
    have sb : ∀ A : Ah, Sh A 12 (.lst [.bl b, .bl b]) 10 := fun A => (Sh.lst (.cons Sh.bl (.cons Sh.bl .nil))).mono
    simp -failIfUnchanged
    refine c_repr (sb _) (by decide) ?_
    refine c_repr (sb _) (by decide) ?_
    refine eqD_flat rfl rfl ?_
    simp [eqL]
    simp [b_law_value_right_2, -e_gN]
    refine c_odd1 G fun o A2 om O2 => ?_
    have oo := odds1_ok o om
    have hp2 := O2.at gp hp
    simp only [e_gN, List.set_cons_succ, List.set_cons_zero]
    have last : ∀ {A3 : Ah}, Rk.Sub A2 A3 → b_law_value_right_5 (Dx Q E) [some (.ref g), some v, some (.ref p0), some (rel qs at'), some (.str (shw A v)), some (.bl b), some o, none, none] A3 := by
      intro A3 s3
      simp [b_law_value_right_5, -e_gN]
      refine ⟨⟨by decide, by decide, by decide, by decide⟩, ?_⟩
      obtain ⟨z0, zr, ez⟩ : ∃ z r, ns = z :: r := by cases ns with | nil => exact (h0 rfl).elim | cons z r => exact ⟨z, r, rfl⟩
      have hp3 := s3 _ _ hp2
      have oz0 := hn z0 (by rw [ez]; simp)
      have a0 : atI (ns.map Vl.str) 0 = some (.str z0) := by rw [ez]; simp
      have fin : ∀ (t : Vl) (A4 : Ah), Rk.Sub A2 A4 → b_law_value_right_8 (Dx Q E) [some (.ref g), some v, some (.ref p0), some (rel qs at'), some (.str (shw A v)), some (.bl b), some o, some t, none] A4 := by
        intro t A4 s4
        simp [b_law_value_right_8]
        refine c_repr (sv _) hW ?_
        rw [shw_nr (A := A4) (B := A) hv.1]
        refine eqD_flat rfl rfl ?_
        simp [eqL]
        exact ⟨A2, s4, q A2 O2⟩
      cases b with
      | true =>
        obtain ⟨ps, cut, rfl, R⟩ := hb1 rfl
        refine lcP_ind (fun i acc A' => A' = A3 ∧ acc.length = i) ⟨rfl, rfl⟩ (fun _ _ _ _ => trivial) ?_ ?_
        · rintro i x acc A' K1 K2 hx ⟨rfl, hacc⟩ k1 _
          obtain ⟨rfl, hi⟩ := rngL_get hx
          have hi : i < 5 := hi
          simp [wipeA]
          rw [lstA_eq hp3]
          refine ⟨_, a0, told_any (by omega) (by omega) R oz0 fun w => k1 w _ (by rw [hacc]; show i < 16777216; omega) ⟨rfl, by simp [hacc]⟩⟩
        · rintro acc A' ⟨rfl, _⟩
          simp only [e_gN, List.set_cons_succ, List.set_cons_zero]
          simp [b_law_value_right_6, b_law_value_right_7]
          exact fin _ _ s3
      | false =>
        have nr := hb0 rfl
        refine lcP_map (fun _ => toldV "relink" (shw A3 v)) (by show 5 < 16777216; decide) trivial ?_ ?_
        · intro x hx K1 hk
          obtain ⟨i, hi2⟩ := List.mem_iff_getElem?.mp hx
          obtain ⟨rfl, hi⟩ := rngL_get hi2
          have hi : i < 5 := hi
          simp [wipeA]
          rw [lstA_eq hp3]
          exact ⟨_, a0, told_bad (by omega) (by omega) hv hW nr hk⟩
        · simp only [e_gN, List.set_cons_succ, List.set_cons_zero]
          simp [b_law_value_right_6]
          refine c_repr (sv _) hW ?_
          intro p hp4
          rw [lstA_eq put_same]
          refine ⟨by simp, ?_⟩
          let T := toldV "relink" (shw A3 v)
          show fEqD true (.lst [T, T, T, T, T]) (.lst [T, T, T, T, T]) _ _
          refine eqD_self (d := .list [.tuple [.str "relink", .str (shw A3 v)], .tuple [.str "relink", .str (shw A3 v)], .tuple [.str "relink", .str (shw A3 v)], .tuple [.str "relink", .str (shw A3 v)], .tuple [.str "relink", .str (shw A3 v)]]) rfl ?_
          simp -failIfUnchanged
          simp [b_law_value_right_7]
          refine told_rel (sv _) hW (fun q => call_e4 (fun q => c_apart1 S hv.ok nr q) q) ?_
          refine c_repr (sv _) hW ?_
          refine eqD_self (d := .tuple [.str "relink", .str (shw _ v)]) rfl ?_
          simp -failIfUnchanged
          exact fin _ _ (.trans s3 (.new hp4))
    cases b with
    | false =>
      simp [b_law_value_right_3, b_law_value_right_4]
      exact last .refl
    | true =>
      obtain ⟨ps, cut, rfl, R⟩ := hb1 rfl
      simp [b_law_value_right_3]
      refine c_links_right R S hp2 hn ?_
      simp -failIfUnchanged
      simp [b_law_value_right_4]
      obtain ⟨d, hd⟩ := oo.dat (A := A2) (by decide)
      refine ⟨d, hd, fun _ _ => rfl, ?_⟩
      by_cases hin : inD d (ps.map .str) = true
      · rw [if_pos hin]; exact last .refl
      · rw [if_neg hin]
        have ho : ∀ s ∈ ps, o ≠ .str s := by
          rintro s hs rfl
          refine hin (inD_strs.mpr ⟨s, hs, ?_⟩)
          have hd : some (PyData.str s) = some d := hd
          cases hd
          simp [deqv]
          show (s == s) = true
          exact beq_self_eq_true s
        have so : ∀ A : Ah, Sh A 12 o 300 := fun A => (Od.ups oo (m := 12) (by decide)).2.2 A
        refine lcP_map (fun _ => toldV "host" (shw A2 o)) (by show 2 < 16777216; decide) trivial ?_ ?_
        · intro x hx K1 hk
          simp only [List.mem_cons, List.not_mem_nil, or_false] at hx
          rcases hx with rfl | rfl
          · simp [wipeA]
            exact told_host (so _) (by decide) (fun q => call_e2 (fun q => c_position R oo.ok (fun s e hs => (ho s hs e).elim) fun no => q) q) hk
          · simp [wipeA]
            exact told_host (so _) (by decide) (fun q => call_e3 (fun q => c_near R oo.ok (fun s e hs => (ho s hs e).elim) fun no => q) q) hk
        · refine c_repr (so _) (by decide) ?_
          intro p hp4
          rw [lstA_eq put_same]
          refine ⟨by simp, ?_⟩
          let T := toldV "host" (shw A2 o)
          show fEqD true (.lst [T, T]) (.lst [T, T]) _ _
          refine eqD_self (d := .list [.tuple [.str "host", .str (shw A2 o)], .tuple [.str "host", .str (shw A2 o)]]) rfl ?_
          simp -failIfUnchanged
          exact last (.new hp4)
  by_cases i : IsRel v
  · refine c_own_right hv.ok (fun _ => ?_) fun z => (z i).elim
    refine ⟨_, _, ⟨rfl, rfl⟩, ?_⟩
    exact main true (fun _ => i) (fun z => by cases z) fun q => c_is_relink hv.ok (fun _ => q) fun z => (z i).elim
  · refine c_own_right hv.ok (fun z => (i z).elim) fun _ => ?_
    refine ⟨_, _, ⟨rfl, rfl⟩, ?_⟩
    exact main false (fun z => by cases z) (fun _ => i) fun q => c_is_relink hv.ok (fun z => (i z).elim) fun _ => q
end Lw

set_option Elab.async false
set_option linter.all false
set_option maxRecDepth 100000
set_option maxHeartbeats 400000
namespace Lw
open PySem PySem.Spec PyProof.Rows L2 Rk Pg Hl Dw Rpr Rp3 Rp4 Rp5
variable {A : Ah} {Q : QE} {E : EX}
mutual
/-- no tuple within is longer than L -/
def lb (L : Nat) : Vl → Prop
  | .tup xs => xs.length ≤ L ∧ lbs L xs
  | _ => True
def lbs (L : Nat) : List Vl → Prop
  | [] => True
  | x :: xs => lb L x ∧ lbs L xs
end
theorem lbs_iff {L : Nat} : ∀ {xs : List Vl}, lbs L xs ↔ ∀ x ∈ xs, lb L x
  | [] => by simp [lbs]
  | x :: xs => by simp [lbs, lbs_iff (xs := xs)]
mutual
theorem lb_mono {L M : Nat} (h : L ≤ M) : ∀ {v : Vl}, lb L v → lb M v
  | .tup xs, ⟨a, b⟩ => ⟨Nat.le_trans a h, lbs_mono h b⟩
  | .non, _ => trivial
  | .bl _, _ => trivial
  | .int _, _ => trivial
  | .str _, _ => trivial
  | .lst _, _ => trivial
  | .dct _ _, _ => trivial
  | .ref _, _ => trivial
  | .ty _, _ => trivial
  | .gl _, _ => trivial
  | .wtp _, _ => trivial
  | .xv _ _ _ _ _, _ => trivial
theorem lbs_mono {L M : Nat} (h : L ≤ M) : ∀ {xs : List Vl}, lbs L xs → lbs M xs
  | [], _ => trivial
  | x :: xs, ⟨a, b⟩ => ⟨lb_mono h a, lbs_mono h b⟩
end
theorem odds1_lb : ∀ x ∈ odds1, lb 1 x := by
  intro x hx
  simp only [odds1, List.mem_cons, List.not_mem_nil, or_false] at hx
  rcases hx with rfl | rfl | rfl | rfl | rfl | rfl | rfl | rfl | rfl | rfl | rfl | rfl | rfl | rfl | rfl | rfl | rfl | rfl | rfl <;> simp [lb, lbs]
theorem c_spoilt1 : ∀ (m : Nat) {fuel : Nat} (hf : m ≤ fuel) {A : Ah} {Q : QE} {E : EX} {g : Addr} {v : Vl} {W L : Nat} (G : isG A g) (h : Od m v W) (hl : lb L v) (hL : 1 ≤ L) (hL2 : L ≤ 30) (hm : m ≤ 9) (q : ∀ v' A', Od (m + 3) v' ((m + 1) * (3 * W + 500)) → lb (L + 1) v' → Of A g A' → Q v' A'), w_law_spoilt fuel [.ref g, v] A Q E := by
  intro m
  induction m with
  | zero =>
    intro fuel hf A Q E g v W L G h
    obtain ⟨d, hd, _⟩ := h.2.2 A
    cases hd
  | succ m ih =>
    intro fuel hf A Q E g v W L G h hl hL hL2 hm q
    obtain ⟨fuel, rfl⟩ : ∃ k, fuel = k + 1 := ⟨fuel - 1, by omega⟩
    have hq : ∀ {v' : Vl} {A' : Ah} {V : Nat}, Od (m + 1 + 3) v' V → V ≤ (m + 2) * (3 * W + 500) → lb (L + 1) v' → Of A g A' → Q v' A' := fun a b c d => q _ _ (a.mono b) c d
    have big : 3 * W + 500 ≤ (m + 2) * (3 * W + 500) := Nat.le_mul_of_pos_left _ (by omega)
    have oddq : ∀ {A2 : Ah}, Of A g A2 → w_law_odd_573c [.ref g] A2 (fun v A' => ∃ B, Rk.Sub B A' ∧ Q v B) (fun x A' => ∃ B, Rk.Sub B A' ∧ E x B) := fun {A2} O => c_odd1 O.pot fun o A3 om O3 => give (hq (Od.ups (odds1_ok o om) (by omega)) (by omega) (lb_mono (by omega) (odds1_lb o om)) (O.trans O3))
    rw [w_law_spoilt, wFun_dx]
    simp [b_law_spoilt]
    refine is_tup h.ok ?_ fun h0 => ?_
    rotate_left
    · simp -failIfUnchanged
      exact oddq (.refl G)
    rintro xs rfl
    simp -failIfUnchanged
    obtain ⟨d, hd⟩ := h.dat (A := A) (by omega)
    refine eqD_nilT1 hd ?_
    by_cases e0 : xs = []
    · rw [decide_eq_true e0]
      simp -failIfUnchanged
      exact oddq (.refl G)
    rw [decide_eq_false e0]
    simp -failIfUnchanged
    have l0 := List.length_pos_iff.mpr e0
    obtain ⟨hl1, hl2⟩ := hl
    have hl2 := lbs_iff.mp hl2
    refine c_draw1 G (by decide) (by decide) fun r A1 r0 r1 O1 => ?_
    refine eqD_flat rfl rfl ?_
    rw [eqI]
    by_cases er : r = 0
    · rw [decide_eq_true er]
      simp -failIfUnchanged
      exact oddq O1
    rw [decide_eq_false er]
    simp -failIfUnchanged
    simp [b_law_spoilt_1]
    refine c_draw1 O1.pot (by omega) (by omega) fun a A2 a0 a1 O2 => ?_
    refine c_draw1 O2.pot (by decide) (by decide) fun k A3 k0 k1 O3 => ?_
    have O := (O1.trans O2).trans O3
    refine ⟨_, _, ⟨rfl, rfl⟩, ?_⟩
    obtain ⟨i, rfl⟩ : ∃ i : Nat, a = i := ⟨a.toNat, by omega⟩
    have il : i < xs.length := by omega
    have H : Ods (m + 3) xs W := (Od.its h).ups (by omega)
    have ca : (cutL xs none (some (i : Int))).length = i := by rw [cut_take]; simp; omega
    have cb : (cutL xs (some ((i : Int) + 1)) none).length = xs.length - (i + 1) := by
      rw [show ((i : Int) + 1) = ((i + 1 : Nat) : Int) by omega, cut_drop]; simp
    have cc : (cutL xs (some (i : Int)) none).length = xs.length - i := by rw [cut_drop]; simp
    have cone : (cutL xs (some (i : Int)) (some ((i : Int) + 1))).length ≤ 1 := by
      unfold cutL
      rw [show ((i : Int) + 1) = ((i + 1 : Nat) : Int) by omega, HT.sIx_nat, HT.sIx_nat]
      simp; omega
    have inn : ∀ {lo hi : Option Int} {x : Vl}, x ∈ cutL xs lo hi → lb (L + 1) x := fun hx => lb_mono (by omega) (hl2 _ (cut_mem hx))
    have tupq : ∀ {ys : List Vl} {V : Nat} {A' : Ah}, Ods (m + 3) ys V → V ≤ (m + 2) * (3 * W + 500) → ys.length ≤ L + 1 → (∀ x ∈ ys, lb (L + 1) x) → Of A g A' → ∃ B, Rk.Sub B A' ∧ Q (.tup ys) B := fun a b c d e => give (hq (Od.tup a (by omega)) b ⟨c, lbs_iff.mpr d⟩ e)
    have mid : ∀ {z : Vl} {V : Nat} {A' : Ah}, Od (m + 3) z V → 2 * W + V + 1 ≤ (m + 2) * (3 * W + 500) → lb (L + 1) z → Of A g A' → ∃ B, Rk.Sub B A' ∧ Q (.tup (cutL xs none (some (i : Int)) ++ z :: cutL xs (some ((i : Int) + 1)) none)) B := by
      intro z V A' hz hV hb hO
      refine tupq ((H.cut _ _).cat (Ods.cons hz (H.cut _ _))) (by omega) (by rw [List.length_append, List.length_cons, ca, cb]; omega) (fun x hx => ?_) hO
      rcases List.mem_append.mp hx with hx | hx
      · exact inn hx
      · rcases List.mem_cons.mp hx with rfl | hx
        · exact hb
        · exact inn hx
    simp [b_law_spoilt_2]
    refine eqD_flat rfl rfl ?_
    rw [eqI]
    by_cases k0' : k = 0
    · rw [decide_eq_true k0']
      simp -failIfUnchanged
      refine ⟨by omega, tupq ((H.cut _ _).cat (H.cut _ _)) (by omega) (by rw [List.length_append, ca, cb]; omega) (fun x hx => ?_) O⟩
      rcases List.mem_append.mp hx with hx | hx <;> exact inn hx
    rw [decide_eq_false k0']
    simp -failIfUnchanged
    simp [b_law_spoilt_3]
    refine eqD_flat rfl rfl ?_
    rw [eqI]
    by_cases k1' : k = 1
    · rw [decide_eq_true k1']
      simp -failIfUnchanged
      refine ⟨by omega, by omega, tupq ((H.cut _ _).cat ((H.cut _ _).cat (H.cut _ _))) (by omega) (by rw [List.length_append, List.length_append, ca, cc]; omega) (fun x hx => ?_) O⟩
      rcases List.mem_append.mp hx with hx | hx
      · exact inn hx
      · rcases List.mem_append.mp hx with hx | hx <;> exact inn hx
    rw [decide_eq_false k1']
    simp -failIfUnchanged
    simp [b_law_spoilt_4]
    refine eqD_flat rfl rfl ?_
    rw [eqI]
    by_cases k2' : k = 2
    · rw [decide_eq_true k2']
      simp -failIfUnchanged
      exact give (hq (Od.lst H (by omega)) (by omega) trivial O)
    rw [decide_eq_false k2']
    simp -failIfUnchanged
    simp [b_law_spoilt_5]
    refine eqD_flat rfl rfl ?_
    rw [eqI]
    by_cases k3' : k = 3
    · rw [decide_eq_true k3']
      simp -failIfUnchanged
      refine tupq (H.of (fun _ hx => List.mem_reverse.mp hx) fun A s => shs_rev s) (by omega) (by simp; omega) (fun x hx => ?_) O
      exact lb_mono (by omega) (hl2 x (List.mem_reverse.mp hx))
    rw [decide_eq_false k3']
    simp -failIfUnchanged
    simp [b_law_spoilt_6]
    refine eqD_flat rfl rfl ?_
    rw [eqI]
    by_cases k4' : k = 4
    · rw [decide_eq_true k4']
      simp -failIfUnchanged
      obtain ⟨x0, rr, ex⟩ : ∃ x r, xs = x :: r := by cases xs with | nil => exact (e0 rfl).elim | cons x r => exact ⟨x, r, rfl⟩
      have i0 : atI xs 0 = some x0 := by rw [ex]; simp
      have m0 : x0 ∈ xs := by rw [ex]; simp
      refine ⟨_, i0, ?_⟩
      refine c_draw1 O3.pot (by decide) (by decide) fun d A4 d0 d1 O4 => ?_
      obtain ⟨z, hz, hm⟩ := pick d0 (xs := [Vl.bl true, .int (-1), .int xs.length, .int 99, .str "0", .str "zq", x0]) (by simpa using d1)
      refine ⟨z, hz, ?_⟩
      have ok : Od (m + 3) z (W + 200) ∧ lb (L + 1) z := by
        simp only [List.mem_cons, List.not_mem_nil, or_false] at hm
        rcases hm with rfl | rfl | rfl | rfl | rfl | rfl | rfl
        · exact ⟨(Od.bl).mono (by omega), trivial⟩
        · exact ⟨(Od.int (by decide)).mono (by omega), trivial⟩
        · exact ⟨(Od.int (by omega)).mono (by omega), trivial⟩
        · exact ⟨(Od.int (by decide)).mono (by omega), trivial⟩
        · exact ⟨(Od.str (okS_of (by decide +kernel)) (by decide +kernel : _ ≤ 10)).mono (by omega), trivial⟩
        · exact ⟨(Od.str (okS_of (by decide +kernel)) (by decide +kernel : _ ≤ 10)).mono (by omega), trivial⟩
        · exact ⟨(H.mem _ m0).mono (by omega), lb_mono (by omega) (hl2 _ m0)⟩
      simp [b_law_spoilt_x1]
      refine ⟨by omega, by omega, mid ok.1 (by omega) ok.2 (O.trans O4)⟩
    rw [decide_eq_false k4']
    simp -failIfUnchanged
    simp [b_law_spoilt_7]
    have mi : xs[i] ∈ xs := List.getElem_mem _
    refine ⟨xs[i], atI_nat il, ?_⟩
    refine ih (by omega) O3.pot ((Od.its h).mem _ mi) (hl2 _ mi) hL hL2 (by omega) fun v' A4 ov' lv' O4 => ?_
    have em : (m + 2) * (3 * W + 500) = (m + 1) * (3 * W + 500) + (3 * W + 500) := Nat.succ_mul _ _
    exact ⟨by omega, by omega, mid ov' (by omega) lv' (O.trans O4)⟩
end Lw

set_option Elab.async false
set_option linter.all false
set_option maxRecDepth 100000
set_option maxHeartbeats 400000
namespace Lw
open PySem PySem.Spec PyProof.Rows L2 Rk Pg Hl Dw Rpr Rp3 Rp4 Rp5
variable {A : Ah} {Q : QE} {E : EX}
theorem c_drawn {g : Addr} {u : Vl} {ns : List Str} (G : isG A g) (hu : u = .lst (ns.map .str) ∨ ∃ p, u = .ref p ∧ p ≠ g ∧ A p = some (.lst (ns.map .str))) (nd : ns.Nodup) (hn : ∀ z ∈ ns, hostOk z) (lo : 3 ≤ ns.length) (hi : ns.length ≤ 20)
    (q : ∀ (ps : List Str) (cut : Nat) A', RelOk ps cut → ps.length ≤ ns.length → Of A g A' → Q (rel ps cut) A') : w_law_drawn [.ref g, u] A Q E := by
  rw [w_law_drawn, wFun_dx]
  simp [b_law_drawn, -e_gN]
  refine c_shuffled1 G hu (by omega) fun qs A1 pm O1 => ?_
  have hl : ∀ {A' : Ah} (R : Int → Prop), Of A g A' → R ns.length → lenA A' u R := by
    intro A' R O hR
    rcases hu with rfl | ⟨p, rfl, np, h⟩
    · simpa using hR
    · rw [lenA_eq (O.at np h)]
      simpa using hR
  simp -failIfUnchanged [-e_gN]
  refine hl _ O1 ?_
  refine c_draw1 O1.pot (by omega) (by omega) fun r A2 r0 r1 O2 => ?_
  simp -failIfUnchanged [-e_gN]
  obtain ⟨k, rfl⟩ : ∃ k : Nat, r = k := ⟨r.toNat, by omega⟩
  simp only [e_gN, List.set_cons_succ, List.set_cons_zero]
  rw [show ((3 : Int) + k) = ((3 + k : Nat) : Int) by omega, cutL_map, cut_take]
  have ql : qs.length = ns.length := pm.length_eq
  have tl : (qs.take (3 + k)).length = 3 + k := by simp; omega
  simp [b_law_drawn_1]
  refine c_draw1 O2.pot (by omega) (by omega) fun c A3 c0 c1 O3 => ?_
  obtain ⟨cut, rfl⟩ : ∃ n : Nat, c = n := ⟨c.toNat, by omega⟩
  rw [← List.map_take]
  refine give (q (qs.take (3 + k)) cut A3 ⟨?_, by omega, by omega, fun p hp => ?_, by omega⟩ (by omega) ((O1.trans O2).trans O3))
  · exact ((pm.nodup_iff).mpr nd).sublist (List.take_sublist _ _)
  · exact hn p (pm.mem_iff.mp (List.mem_of_mem_take hp))
theorem od_rel {ps : List Str} {cut : Nat} (R : RelOk ps cut) (h : ps.length ≤ 20) : Od 3 (rel ps cut) 250 ∧ lb 20 (rel ps cut) := by
  have := R.cut
  have o : Ods 1 (ps.map .str) 180 := by
    refine (Ods.all (W := 8) fun x hx => ?_).mono (by simp; omega)
    obtain ⟨s, hs, rfl⟩ := List.mem_map.mp hx
    exact Od.host (R.ok s hs)
  refine ⟨(Od.tup (.cons (Od.tup o (by simp; omega)) (.cons (Od.int (i := (cut : Int)) (by omega)) .nil)) (by simp)).mono (by omega), ?_⟩
  refine ⟨by simp, ⟨by simpa using h, lbs_iff.mpr fun x hx => ?_⟩, trivial, trivial⟩
  obtain ⟨s, hs, rfl⟩ := List.mem_map.mp hx
  trivial
theorem c_right {g : Addr} (G : isG A g) (q : ∀ A', Of A g A' → Q (.bl true) A') : w_law_right [.ref g] A Q E := by
  rw [w_law_right, wFun_dx]
  simp [b_law_right, -e_gN]
  refine c_draw1 G (by decide) (by decide) fun r A1 r0 r1 O1 => ?_
  simp -failIfUnchanged [-e_gN]
  obtain ⟨k, rfl⟩ : ∃ k : Nat, r = k := ⟨r.toNat, by omega⟩
  rw [show ((4 : Int) + k) = ((4 + k : Nat) : Int) by omega]
  refine c_names1 O1.pot (by omega) fun p ns B O2 hB nd hl hn => ?_
  simp only [e_gN, List.set_cons_succ, List.set_cons_zero]
  have gp := O2.pot.fresh hB
  simp [b_law_right_1, -e_gN]
  refine c_drawn (O2.pot.put gp) (.inr ⟨p, rfl, gp, put_same⟩) nd hn (by omega) (by omega) fun ps cut A3 R lR O3 => ?_
  refine c_shuffled1 O3.pot (.inr ⟨p, rfl, gp, O3.at gp put_same⟩) (by omega) fun qs A4 pm O4 => ?_
  have ql : qs.length = ns.length := pm.length_eq
  simp -failIfUnchanged [-e_gN]
  rw [cutL_map, show (4 : Int) = ((4 : Nat) : Int) from rfl, cut_take]
  refine c_drawn O4.pot (.inl rfl) (((pm.nodup_iff).mpr nd).sublist (List.take_sublist _ _)) (fun z hz => hn z (pm.mem_iff.mp (List.mem_of_mem_take hz))) (by simp; omega) (by simp; omega) fun ps2 cut2 A5 S lS O5 => ?_
  refine ⟨_, _, ⟨rfl, rfl⟩, ?_⟩
  have O35 := (O3.trans O4).trans O5
  obtain ⟨ov, lv⟩ := od_rel R (by omega)
  have n0 : ns ≠ [] := fun e => by
    have : ns.length = 0 := by rw [e]; rfl
    omega
  simp [b_law_right_2]
  refine c_own_right ov.ok (fun _ => ?_) fun z => (z ⟨_, _, rfl, R⟩).elim
  simp -failIfUnchanged
  refine c_value_right O35.pot (O35.at gp put_same) gp hn n0 S (Od.ups ov (by decide)) (by decide) fun A6 O6 => ?_
  simp -failIfUnchanged
  simp [b_law_right_3]
  have O36 := O35.trans O6
  refine ⟨⟨by decide, by decide, by decide, by decide⟩, ?_⟩
  refine forL_ind (fun i S' A' => Of (put B p (.lst (ns.map .str))) g A' ∧ ∃ u4 u5, S' = [some (.ref g), some (.ref p), some (rel ps cut), some (rel ps2 cut2), u4, u5]) ⟨O36, _, _, rfl⟩ (fun _ _ _ _ => trivial) ?_ ?_
  · rintro i x S' A7 N hx ⟨O7, u4, u5, rfl⟩ hN
    obtain ⟨rfl, hi⟩ := rngL_get hx
    have hi : i < 4 := hi
    simp only [e_gN, List.set_cons_succ, List.set_cons_zero]
    simp [-e_gN]
    refine c_spoilt1 3 (by decide) O7.pot ov lv (by decide) (by decide) (by decide) fun v A8 ovv lvv O8 => ?_
    simp only [e_gN, List.set_cons_succ, List.set_cons_zero]
    have fin : ∀ {w : Vl} {A9 : Ah} {W : Nat}, Od 9 w W → W ≤ 2 ^ 18 → Of A8 g A9 → b_law_right_x1 { nx := N, rt := fun v A' => ∃ B, Rk.Sub B A' ∧ Q v B, bk := b_law_right_4 (Dx Q E), ct := N, ex := fun x x_1 A' => ∃ B, Rk.Sub B A' ∧ E x B } [some (.ref g), some (.ref p), some (rel ps cut), some (rel ps2 cut2), some (.int i), some w] A9 := by
      intro w A9 W ow hW O9
      have OO := (O7.trans O8).trans O9
      simp [b_law_right_x1]
      refine c_value_right OO.pot (OO.at gp put_same) gp hn n0 S ow hW fun A10 O10 => ?_
      simp -failIfUnchanged
      exact hN _ _ ⟨OO.trans O10, _, _, rfl⟩
    simp [b_law_right_x2, -e_gN]
    by_cases h2 : 2 < i
    · rw [if_pos (by omega)]
      refine c_spoilt1 6 (by decide) O8.pot ovv lvv (by decide) (by decide) (by decide) fun w A9 ow lw O9 => ?_
      simp only [e_gN, List.set_cons_succ, List.set_cons_zero]
      exact fin ow (by decide) O9
    · rw [if_neg (by omega)]
      simp only [e_gN, List.set_cons_succ, List.set_cons_zero]
      exact fin (Od.ups ovv (by decide)) (by decide) (.refl O8.pot)
  · rintro S' A7 ⟨O7, u4, u5, rfl⟩
    simp [b_law_right_4]
    refine c_odd1 O7.pot fun o A8 om O8 => ?_
    have OO := O7.trans O8
    simp -failIfUnchanged
    refine c_value_right OO.pot (OO.at gp put_same) gp hn n0 S (Od.ups (odds1_ok o om) (by decide)) (by decide) fun A9 O9 => ?_
    obtain ⟨C, OC, SC⟩ := Of.sub (OO.trans O9) hB gp
    exact ⟨C, SC, q C ((O1.trans O2).trans OC)⟩
theorem law_true (ns : List Int) (A : Ah) (Q : QE) (E : EX) (hl : ns.length ≤ 63) (h : ∀ b, A b = none) (hq : ∀ A', Q (.bl true) A') : w_law [.lst (ns.map .int)] A Q E := by
  rw [w_law, wFun_dx]
  simp [b_law, -e_gN]
  refine ⟨⟨by decide, by decide, by (repeat' split) <;> omega, by (repeat' split) <;> omega⟩, ?_⟩
  refine lcP_ind (fun i acc A' => acc = List.replicate i (.bl true)) rfl (fun _ _ _ _ => trivial) ?_ ?_
  · rintro i x acc A' K1 K2 hx rfl k1 _
    obtain ⟨rfl, hi⟩ := rngL_get hx
    have hi2 : i < 64 := by
      refine Nat.lt_of_lt_of_le hi ?_
      (repeat' split) <;> omega
    simp [wipeA]
    refine c_rng1 (by omega) (by omega) fun g A2 hg O _ => ?_
    refine c_right O.pot fun A3 O3 => ?_
    exact k1 _ _ (by simp; show i < 16777216; omega) (by rw [List.replicate_succ'])
  · rintro acc A' rfl
    refine ⟨_, bls_rep _, ?_⟩
    rw [all_rep]
    exact give (hq _)
end Lw

set_option Elab.async false
set_option linter.all false
set_option maxRecDepth 100000
set_option maxHeartbeats 1000000
namespace Lw
open PySem PySem.Spec PyProof.Rows L2 Rk Pg Hl
theorem all_mk {P : Program} {w : World} {K : PySem.W.Frag} {h : Heap} {mg : Str → Option Value} {fa : Addr} (X : K.In h) (G : h.Ns mainGlobals mg) (hfa : mg "law" = some (.ref fa))
    {f0 f1 f2 f3 f4 f5 f6 f7 f8 f9 f10 f11 f12 f13 f14 f15 f16 f17 f18 f19 f20 f21 f22 f23 f24 f25 x_InvalidRelink x_RelinkTreeError x_UnknownHost f_i_InvalidRelink f_i_UnknownHost : Addr} {od0 an0 od1 an1 od2 an2 od3 an3 od4 an4 od5 an5 od6 an6 od7 an7 od8 an8 od9 an9 od10 an10 od11 an11 od12 an12 od13 an13 od14 an14 od15 an15 od16 an16 od17 an17 od18 an18 od19 an19 od20 an20 od21 an21 od22 an22 od23 an23 od24 an24 od25 an25 od_i_InvalidRelink an_i_InvalidRelink od_i_UnknownHost an_i_UnknownHost : Option Addr} {sl0 sl1 sl2 sl3 sl4 sl5 sl6 sl7 sl8 sl9 sl10 sl11 sl12 sl13 sl14 sl15 sl16 sl17 sl18 sl19 sl20 sl21 sl22 sl23 sl24 sl25 sl_i_InvalidRelink sl_i_UnknownHost : Array (Option Value)} {oc0 dc0 pm0 cd0 ct0 kV0 oc1 dc1 pm1 cd1 ct1 kV1 oc2 dc2 pm2 cd2 ct2 kV2 oc3 dc3 pm3 cd3 ct3 kV3 oc4 dc4 pm4 cd4 ct4 kV4 oc5 dc5 pm5 cd5 ct5 kV5 oc6 dc6 pm6 cd6 ct6 kV6 oc7 dc7 pm7 cd7 ct7 kV7 oc8 dc8 pm8 cd8 ct8 kV8 oc9 dc9 pm9 cd9 ct9 kV9 oc10 dc10 pm10 cd10 ct10 kV10 oc11 dc11 pm11 cd11 ct11 kV11 oc12 dc12 pm12 cd12 ct12 kV12 oc13 dc13 pm13 cd13 ct13 kV13 oc14 dc14 pm14 cd14 ct14 kV14 oc15 dc15 pm15 cd15 ct15 kV15 oc16 dc16 pm16 cd16 ct16 kV16 oc17 dc17 pm17 cd17 ct17 kV17 oc18 dc18 pm18 cd18 ct18 kV18 oc19 dc19 pm19 cd19 ct19 kV19 oc20 dc20 pm20 cd20 ct20 kV20 oc21 dc21 pm21 cd21 ct21 kV21 oc22 dc22 pm22 cd22 ct22 kV22 oc23 dc23 pm23 cd23 ct23 kV23 oc24 dc24 pm24 cd24 ct24 kV24 oc25 dc25 pm25 cd25 ct25 kV25 oc_i_InvalidRelink kV_i_InvalidRelink dc_i_InvalidRelink pm_i_InvalidRelink cd_i_InvalidRelink ct_i_InvalidRelink oc_i_UnknownHost kV_i_UnknownHost dc_i_UnknownHost pm_i_UnknownHost cd_i_UnknownHost ct_i_UnknownHost : Value} {t_LETTERS : Tok} {t_LONGEST_NAME : Tok} {t_SHORTEST_PATH : Tok}
    (a0 : PySem.W.nsIn K mainGlobals "_law_draw" = some (some (.ref f0))) (l0 : K.lookup f0 = some ⟨oc0, od0, .func (PySem.W.fnOf "_law_draw" "_law_draw" (defArgs s_law_draw_c477) (defBody s_law_draw_c477) (defScope s_law_draw_c477) .none kV0 dc0 pm0 an0 cd0 ct0), sl0⟩) (c0 : PySem.W.codeIn K cd0 "_law_draw" = true) (k0 : PySem.W.keepIn K (.ref f0) = true)
    (a1 : PySem.W.nsIn K mainGlobals "_law_names" = some (some (.ref f1))) (l1 : K.lookup f1 = some ⟨oc1, od1, .func (PySem.W.fnOf "_law_names" "_law_names" (defArgs s_law_names_e25f) (defBody s_law_names_e25f) (defScope s_law_names_e25f) .none kV1 dc1 pm1 an1 cd1 ct1), sl1⟩) (c1 : PySem.W.codeIn K cd1 "_law_names" = true) (k1 : PySem.W.keepIn K (.ref f1) = true)
    (a2 : PySem.W.nsIn K mainGlobals "_law_odd" = some (some (.ref f2))) (l2 : K.lookup f2 = some ⟨oc2, od2, .func (PySem.W.fnOf "_law_odd" "_law_odd" (defArgs s_law_odd_573c) (defBody s_law_odd_573c) (defScope s_law_odd_573c) .none kV2 dc2 pm2 an2 cd2 ct2), sl2⟩) (c2 : PySem.W.codeIn K cd2 "_law_odd" = true) (k2 : PySem.W.keepIn K (.ref f2) = true)
    (a3 : PySem.W.nsIn K mainGlobals "_law_is_name" = some (some (.ref f3))) (l3 : K.lookup f3 = some ⟨oc3, od3, .func (PySem.W.fnOf "_law_is_name" "_law_is_name" (defArgs s_law_is_name_328b) (defBody s_law_is_name_328b) (defScope s_law_is_name_328b) .none kV3 dc3 pm3 an3 cd3 ct3), sl3⟩) (c3 : PySem.W.codeIn K cd3 "_law_is_name" = true) (k3 : PySem.W.keepIn K (.ref f3) = true)
    (a4 : PySem.W.nsIn K mainGlobals "_law_is_right" = some (some (.ref f4))) (l4 : K.lookup f4 = some ⟨oc4, od4, .func (PySem.W.fnOf "_law_is_right" "_law_is_right" (defArgs s_law_is_right) (defBody s_law_is_right) (defScope s_law_is_right) .none kV4 dc4 pm4 an4 cd4 ct4), sl4⟩) (c4 : PySem.W.codeIn K cd4 "_law_is_right" = true) (k4 : PySem.W.keepIn K (.ref f4) = true)
    (a5 : PySem.W.nsIn K mainGlobals "is_integer" = some (some (.ref f5))) (l5 : K.lookup f5 = some ⟨oc5, od5, .func (PySem.W.fnOf "is_integer" "is_integer" (defArgs s_is_integer) (defBody s_is_integer) (defScope s_is_integer) .none kV5 dc5 pm5 an5 cd5 ct5), sl5⟩) (c5 : PySem.W.codeIn K cd5 "is_integer" = true) (k5 : PySem.W.keepIn K (.ref f5) = true)
    (a6 : PySem.W.nsIn K mainGlobals "is_string_of" = some (some (.ref f6))) (l6 : K.lookup f6 = some ⟨oc6, od6, .func (PySem.W.fnOf "is_string_of" "is_string_of" (defArgs s_is_string_of) (defBody s_is_string_of) (defScope s_is_string_of) .none kV6 dc6 pm6 an6 cd6 ct6), sl6⟩) (c6 : PySem.W.codeIn K cd6 "is_string_of" = true) (k6 : PySem.W.keepIn K (.ref f6) = true)
    (a7 : PySem.W.nsIn K mainGlobals "is_host_name" = some (some (.ref f7))) (l7 : K.lookup f7 = some ⟨oc7, od7, .func (PySem.W.fnOf "is_host_name" "is_host_name" (defArgs s_is_host_name) (defBody s_is_host_name) (defScope s_is_host_name) .none kV7 dc7 pm7 an7 cd7 ct7), sl7⟩) (c7 : PySem.W.codeIn K cd7 "is_host_name" = true) (k7 : PySem.W.keepIn K (.ref f7) = true)
    (a8 : PySem.W.nsIn K mainGlobals "is_relink" = some (some (.ref f8))) (l8 : K.lookup f8 = some ⟨oc8, od8, .func (PySem.W.fnOf "is_relink" "is_relink" (defArgs s_is_relink) (defBody s_is_relink) (defScope s_is_relink) .none kV8 dc8 pm8 an8 cd8 ct8), sl8⟩) (c8 : PySem.W.codeIn K cd8 "is_relink" = true) (k8 : PySem.W.keepIn K (.ref f8) = true)
    (a9 : PySem.W.nsIn K mainGlobals "require_relink" = some (some (.ref f9))) (l9 : K.lookup f9 = some ⟨oc9, od9, .func (PySem.W.fnOf "require_relink" "require_relink" (defArgs s_require_relink) (defBody s_require_relink) (defScope s_require_relink) .none kV9 dc9 pm9 an9 cd9 ct9), sl9⟩) (c9 : PySem.W.codeIn K cd9 "require_relink" = true) (k9 : PySem.W.keepIn K (.ref f9) = true)
    (a10 : PySem.W.nsIn K mainGlobals "ordered_link" = some (some (.ref f10))) (l10 : K.lookup f10 = some ⟨oc10, od10, .func (PySem.W.fnOf "ordered_link" "ordered_link" (defArgs s_ordered_link) (defBody s_ordered_link) (defScope s_ordered_link) .none kV10 dc10 pm10 an10 cd10 ct10), sl10⟩) (c10 : PySem.W.codeIn K cd10 "ordered_link" = true) (k10 : PySem.W.keepIn K (.ref f10) = true)
    (a11 : PySem.W.nsIn K mainGlobals "added_link" = some (some (.ref f11))) (l11 : K.lookup f11 = some ⟨oc11, od11, .func (PySem.W.fnOf "added_link" "added_link" (defArgs s_added_link) (defBody s_added_link) (defScope s_added_link) .none kV11 dc11 pm11 an11 cd11 ct11), sl11⟩) (c11 : PySem.W.codeIn K cd11 "added_link" = true) (k11 : PySem.W.keepIn K (.ref f11) = true)
    (a12 : PySem.W.nsIn K mainGlobals "removed_link" = some (some (.ref f12))) (l12 : K.lookup f12 = some ⟨oc12, od12, .func (PySem.W.fnOf "removed_link" "removed_link" (defArgs s_removed_link) (defBody s_removed_link) (defScope s_removed_link) .none kV12 dc12 pm12 an12 cd12 ct12), sl12⟩) (c12 : PySem.W.codeIn K cd12 "removed_link" = true) (k12 : PySem.W.keepIn K (.ref f12) = true)
    (a13 : PySem.W.nsIn K mainGlobals "position" = some (some (.ref f13))) (l13 : K.lookup f13 = some ⟨oc13, od13, .func (PySem.W.fnOf "position" "position" (defArgs s_position) (defBody s_position) (defScope s_position) .none kV13 dc13 pm13 an13 cd13 ct13), sl13⟩) (c13 : PySem.W.codeIn K cd13 "position" = true) (k13 : PySem.W.keepIn K (.ref f13) = true)
    (a14 : PySem.W.nsIn K mainGlobals "is_near" = some (some (.ref f14))) (l14 : K.lookup f14 = some ⟨oc14, od14, .func (PySem.W.fnOf "is_near" "is_near" (defArgs s_is_near) (defBody s_is_near) (defScope s_is_near) .none kV14 dc14 pm14 an14 cd14 ct14), sl14⟩) (c14 : PySem.W.codeIn K cd14 "is_near" = true) (k14 : PySem.W.keepIn K (.ref f14) = true)
    (a15 : PySem.W.nsIn K mainGlobals "are_independent" = some (some (.ref f15))) (l15 : K.lookup f15 = some ⟨oc15, od15, .func (PySem.W.fnOf "are_independent" "are_independent" (defArgs s_are_independent) (defBody s_are_independent) (defScope s_are_independent) .none kV15 dc15 pm15 an15 cd15 ct15), sl15⟩) (c15 : PySem.W.codeIn K cd15 "are_independent" = true) (k15 : PySem.W.keepIn K (.ref f15) = true)
    (a16 : PySem.W.nsIn K mainGlobals "_law_call" = some (some (.ref f16))) (l16 : K.lookup f16 = some ⟨oc16, od16, .func (PySem.W.fnOf "_law_call" "_law_call" (defArgs s_law_call) (defBody s_law_call) (defScope s_law_call) .none kV16 dc16 pm16 an16 cd16 ct16), sl16⟩) (c16 : PySem.W.codeIn K cd16 "_law_call" = true) (k16 : PySem.W.keepIn K (.ref f16) = true)
    (a17 : PySem.W.nsIn K mainGlobals "_law_told" = some (some (.ref f17))) (l17 : K.lookup f17 = some ⟨oc17, od17, .func (PySem.W.fnOf "_law_told" "_law_told" (defArgs s_law_told) (defBody s_law_told) (defScope s_law_told) .none kV17 dc17 pm17 an17 cd17 ct17), sl17⟩) (c17 : PySem.W.codeIn K cd17 "_law_told" = true) (k17 : PySem.W.keepIn K (.ref f17) = true)
    (a18 : PySem.W.nsIn K mainGlobals "_law_links_right" = some (some (.ref f18))) (l18 : K.lookup f18 = some ⟨oc18, od18, .func (PySem.W.fnOf "_law_links_right" "_law_links_right" (defArgs s_law_links_right) (defBody s_law_links_right) (defScope s_law_links_right) .none kV18 dc18 pm18 an18 cd18 ct18), sl18⟩) (c18 : PySem.W.codeIn K cd18 "_law_links_right" = true) (k18 : PySem.W.keepIn K (.ref f18) = true)
    (a19 : PySem.W.nsIn K mainGlobals "_law_value_right" = some (some (.ref f19))) (l19 : K.lookup f19 = some ⟨oc19, od19, .func (PySem.W.fnOf "_law_value_right" "_law_value_right" (defArgs s_law_value_right) (defBody s_law_value_right) (defScope s_law_value_right) .none kV19 dc19 pm19 an19 cd19 ct19), sl19⟩) (c19 : PySem.W.codeIn K cd19 "_law_value_right" = true) (k19 : PySem.W.keepIn K (.ref f19) = true)
    (a20 : PySem.W.nsIn K mainGlobals "_law_shuffled" = some (some (.ref f20))) (l20 : K.lookup f20 = some ⟨oc20, od20, .func (PySem.W.fnOf "_law_shuffled" "_law_shuffled" (defArgs s_law_shuffled_fe8a) (defBody s_law_shuffled_fe8a) (defScope s_law_shuffled_fe8a) .none kV20 dc20 pm20 an20 cd20 ct20), sl20⟩) (c20 : PySem.W.codeIn K cd20 "_law_shuffled" = true) (k20 : PySem.W.keepIn K (.ref f20) = true)
    (a21 : PySem.W.nsIn K mainGlobals "_law_drawn" = some (some (.ref f21))) (l21 : K.lookup f21 = some ⟨oc21, od21, .func (PySem.W.fnOf "_law_drawn" "_law_drawn" (defArgs s_law_drawn) (defBody s_law_drawn) (defScope s_law_drawn) .none kV21 dc21 pm21 an21 cd21 ct21), sl21⟩) (c21 : PySem.W.codeIn K cd21 "_law_drawn" = true) (k21 : PySem.W.keepIn K (.ref f21) = true)
    (a22 : PySem.W.nsIn K mainGlobals "_law_spoilt" = some (some (.ref f22))) (l22 : K.lookup f22 = some ⟨oc22, od22, .func (PySem.W.fnOf "_law_spoilt" "_law_spoilt" (defArgs s_law_spoilt) (defBody s_law_spoilt) (defScope s_law_spoilt) .none kV22 dc22 pm22 an22 cd22 ct22), sl22⟩) (c22 : PySem.W.codeIn K cd22 "_law_spoilt" = true) (k22 : PySem.W.keepIn K (.ref f22) = true)
    (a23 : PySem.W.nsIn K mainGlobals "_law_right" = some (some (.ref f23))) (l23 : K.lookup f23 = some ⟨oc23, od23, .func (PySem.W.fnOf "_law_right" "_law_right" (defArgs s_law_right) (defBody s_law_right) (defScope s_law_right) .none kV23 dc23 pm23 an23 cd23 ct23), sl23⟩) (c23 : PySem.W.codeIn K cd23 "_law_right" = true) (k23 : PySem.W.keepIn K (.ref f23) = true)
    (a24 : PySem.W.nsIn K mainGlobals "_law_rng" = some (some (.ref f24))) (l24 : K.lookup f24 = some ⟨oc24, od24, .func (PySem.W.fnOf "_law_rng" "_law_rng" (defArgs s_law_rng_725d) (defBody s_law_rng_725d) (defScope s_law_rng_725d) .none kV24 dc24 pm24 an24 cd24 ct24), sl24⟩) (c24 : PySem.W.codeIn K cd24 "_law_rng" = true) (k24 : PySem.W.keepIn K (.ref f24) = true)
    (a25 : PySem.W.nsIn K mainGlobals "law" = some (some (.ref f25))) (l25 : K.lookup f25 = some ⟨oc25, od25, .func (PySem.W.fnOf "law" "law" (defArgs s_law) (defBody s_law) (defScope s_law) .none kV25 dc25 pm25 an25 cd25 ct25), sl25⟩) (c25 : PySem.W.codeIn K cd25 "law" = true) (k25 : PySem.W.keepIn K (.ref f25) = true)
    (a_InvalidRelink : PySem.W.nsIn K mainGlobals "InvalidRelink" = some (some (.ref x_InvalidRelink)))
    (a_RelinkTreeError : PySem.W.nsIn K mainGlobals "RelinkTreeError" = some (some (.ref x_RelinkTreeError)))
    (a_UnknownHost : PySem.W.nsIn K mainGlobals "UnknownHost" = some (some (.ref x_UnknownHost)))
    (ic_InvalidRelink : PySem.W.findIn K (.ref x_InvalidRelink) "__init__" = some (some (.ref f_i_InvalidRelink))) (ti_InvalidRelink : PySem.W.typeIn K (.ref f_i_InvalidRelink) = some (.type "function")) (l_i_InvalidRelink : K.lookup f_i_InvalidRelink = some ⟨oc_i_InvalidRelink, od_i_InvalidRelink, .func (PySem.W.fnOf "__init__" "InvalidRelink.__init__" (defArgs s_i_InvalidRelink) (defBody s_i_InvalidRelink) (defScope s_i_InvalidRelink) .none kV_i_InvalidRelink dc_i_InvalidRelink pm_i_InvalidRelink an_i_InvalidRelink cd_i_InvalidRelink ct_i_InvalidRelink), sl_i_InvalidRelink⟩) (c_i_InvalidRelink : PySem.W.codeIn K cd_i_InvalidRelink "InvalidRelink.__init__" = true) (k_i_InvalidRelink : PySem.W.keepIn K (.ref f_i_InvalidRelink) = true)
    (ox_InvalidRelink : oexB K x_InvalidRelink .V [("value" : Str)] = true)
    (ic_UnknownHost : PySem.W.findIn K (.ref x_UnknownHost) "__init__" = some (some (.ref f_i_UnknownHost))) (ti_UnknownHost : PySem.W.typeIn K (.ref f_i_UnknownHost) = some (.type "function")) (l_i_UnknownHost : K.lookup f_i_UnknownHost = some ⟨oc_i_UnknownHost, od_i_UnknownHost, .func (PySem.W.fnOf "__init__" "UnknownHost.__init__" (defArgs s_i_UnknownHost) (defBody s_i_UnknownHost) (defScope s_i_UnknownHost) .none kV_i_UnknownHost dc_i_UnknownHost pm_i_UnknownHost an_i_UnknownHost cd_i_UnknownHost ct_i_UnknownHost), sl_i_UnknownHost⟩) (c_i_UnknownHost : PySem.W.codeIn K cd_i_UnknownHost "UnknownHost.__init__" = true) (k_i_UnknownHost : PySem.W.keepIn K (.ref f_i_UnknownHost) = true)
    (ox_UnknownHost : oexB K x_UnknownHost .L [("host" : Str)] = true)
    (ob_RelinkTreeError : ownB K x_RelinkTreeError .V = true)
    (xfx : chkX K ["InvalidRelink", "LookupError", "RelinkTreeError", "UnknownHost", "ValueError"] [("host" : Str), ("value" : Str)] = true)
    (z_LookupError : PySem.W.nsIn K mainGlobals "LookupError" = some none)
    (z_ValueError : PySem.W.nsIn K mainGlobals "ValueError" = some none)
    (z_abs : PySem.W.nsIn K mainGlobals "abs" = some none)
    (z_all : PySem.W.nsIn K mainGlobals "all" = some none)
    (z_any : PySem.W.nsIn K mainGlobals "any" = some none)
    (z_bool : PySem.W.nsIn K mainGlobals "bool" = some none)
    (z_divmod : PySem.W.nsIn K mainGlobals "divmod" = some none)
    (z_int : PySem.W.nsIn K mainGlobals "int" = some none)
    (z_isinstance : PySem.W.nsIn K mainGlobals "isinstance" = some none)
    (z_len : PySem.W.nsIn K mainGlobals "len" = some none)
    (z_list : PySem.W.nsIn K mainGlobals "list" = some none)
    (z_max : PySem.W.nsIn K mainGlobals "max" = some none)
    (z_min : PySem.W.nsIn K mainGlobals "min" = some none)
    (z_range : PySem.W.nsIn K mainGlobals "range" = some none)
    (z_repr : PySem.W.nsIn K mainGlobals "repr" = some none)
    (z_set : PySem.W.nsIn K mainGlobals "set" = some none)
    (z_sorted : PySem.W.nsIn K mainGlobals "sorted" = some none)
    (z_str : PySem.W.nsIn K mainGlobals "str" = some none)
    (z_tuple : PySem.W.nsIn K mainGlobals "tuple" = some none)
    (g_LETTERS : PySem.W.nsIn K mainGlobals "LETTERS" = some (some (.str "abcdefghijklmnopqrstuvwxyz" t_LETTERS)))
    (g_LONGEST_NAME : PySem.W.nsIn K mainGlobals "LONGEST_NAME" = some (some (.int 8 t_LONGEST_NAME)))
    (g_SHORTEST_PATH : PySem.W.nsIn K mainGlobals "SHORTEST_PATH" = some (some (.int 3 t_SHORTEST_PATH))) :
    ∃ fd : FuncData, (∀ (s : Shared) (u : Value), BindsTo s fd ⟨[u], []⟩ [("_law_script", u)]) ∧ ∀ base : Heap, K.In base → base.Ns mainGlobals mg → Gn P w K mg base 25 fa fd ["_law_script"] w_law := by
  have e : fa = cA K "law" := by
    have := hfa.symm.trans (PySem.W.mg_of X G a25)
    rw [cA_of a25]; cases this; rfl
  subst e
  have T : Tx w K mg { fd_law_draw_c477 := PySem.W.fnOf "_law_draw" "_law_draw" (defArgs s_law_draw_c477) (defBody s_law_draw_c477) (defScope s_law_draw_c477) .none kV0 dc0 pm0 an0 cd0 ct0, fd_law_names_e25f := PySem.W.fnOf "_law_names" "_law_names" (defArgs s_law_names_e25f) (defBody s_law_names_e25f) (defScope s_law_names_e25f) .none kV1 dc1 pm1 an1 cd1 ct1, fd_law_odd_573c := PySem.W.fnOf "_law_odd" "_law_odd" (defArgs s_law_odd_573c) (defBody s_law_odd_573c) (defScope s_law_odd_573c) .none kV2 dc2 pm2 an2 cd2 ct2, fd_law_is_name_328b := PySem.W.fnOf "_law_is_name" "_law_is_name" (defArgs s_law_is_name_328b) (defBody s_law_is_name_328b) (defScope s_law_is_name_328b) .none kV3 dc3 pm3 an3 cd3 ct3, fd_law_is_right := PySem.W.fnOf "_law_is_right" "_law_is_right" (defArgs s_law_is_right) (defBody s_law_is_right) (defScope s_law_is_right) .none kV4 dc4 pm4 an4 cd4 ct4, fd_is_integer := PySem.W.fnOf "is_integer" "is_integer" (defArgs s_is_integer) (defBody s_is_integer) (defScope s_is_integer) .none kV5 dc5 pm5 an5 cd5 ct5, fd_is_string_of := PySem.W.fnOf "is_string_of" "is_string_of" (defArgs s_is_string_of) (defBody s_is_string_of) (defScope s_is_string_of) .none kV6 dc6 pm6 an6 cd6 ct6, fd_is_host_name := PySem.W.fnOf "is_host_name" "is_host_name" (defArgs s_is_host_name) (defBody s_is_host_name) (defScope s_is_host_name) .none kV7 dc7 pm7 an7 cd7 ct7, fd_is_relink := PySem.W.fnOf "is_relink" "is_relink" (defArgs s_is_relink) (defBody s_is_relink) (defScope s_is_relink) .none kV8 dc8 pm8 an8 cd8 ct8, fd_require_relink := PySem.W.fnOf "require_relink" "require_relink" (defArgs s_require_relink) (defBody s_require_relink) (defScope s_require_relink) .none kV9 dc9 pm9 an9 cd9 ct9, fd_ordered_link := PySem.W.fnOf "ordered_link" "ordered_link" (defArgs s_ordered_link) (defBody s_ordered_link) (defScope s_ordered_link) .none kV10 dc10 pm10 an10 cd10 ct10, fd_added_link := PySem.W.fnOf "added_link" "added_link" (defArgs s_added_link) (defBody s_added_link) (defScope s_added_link) .none kV11 dc11 pm11 an11 cd11 ct11, fd_removed_link := PySem.W.fnOf "removed_link" "removed_link" (defArgs s_removed_link) (defBody s_removed_link) (defScope s_removed_link) .none kV12 dc12 pm12 an12 cd12 ct12, fd_position := PySem.W.fnOf "position" "position" (defArgs s_position) (defBody s_position) (defScope s_position) .none kV13 dc13 pm13 an13 cd13 ct13, fd_is_near := PySem.W.fnOf "is_near" "is_near" (defArgs s_is_near) (defBody s_is_near) (defScope s_is_near) .none kV14 dc14 pm14 an14 cd14 ct14, fd_are_independent := PySem.W.fnOf "are_independent" "are_independent" (defArgs s_are_independent) (defBody s_are_independent) (defScope s_are_independent) .none kV15 dc15 pm15 an15 cd15 ct15, fd_law_call := PySem.W.fnOf "_law_call" "_law_call" (defArgs s_law_call) (defBody s_law_call) (defScope s_law_call) .none kV16 dc16 pm16 an16 cd16 ct16, fd_law_told := PySem.W.fnOf "_law_told" "_law_told" (defArgs s_law_told) (defBody s_law_told) (defScope s_law_told) .none kV17 dc17 pm17 an17 cd17 ct17, fd_law_links_right := PySem.W.fnOf "_law_links_right" "_law_links_right" (defArgs s_law_links_right) (defBody s_law_links_right) (defScope s_law_links_right) .none kV18 dc18 pm18 an18 cd18 ct18, fd_law_value_right := PySem.W.fnOf "_law_value_right" "_law_value_right" (defArgs s_law_value_right) (defBody s_law_value_right) (defScope s_law_value_right) .none kV19 dc19 pm19 an19 cd19 ct19, fd_law_shuffled_fe8a := PySem.W.fnOf "_law_shuffled" "_law_shuffled" (defArgs s_law_shuffled_fe8a) (defBody s_law_shuffled_fe8a) (defScope s_law_shuffled_fe8a) .none kV20 dc20 pm20 an20 cd20 ct20, fd_law_drawn := PySem.W.fnOf "_law_drawn" "_law_drawn" (defArgs s_law_drawn) (defBody s_law_drawn) (defScope s_law_drawn) .none kV21 dc21 pm21 an21 cd21 ct21, fd_law_spoilt := PySem.W.fnOf "_law_spoilt" "_law_spoilt" (defArgs s_law_spoilt) (defBody s_law_spoilt) (defScope s_law_spoilt) .none kV22 dc22 pm22 an22 cd22 ct22, fd_law_right := PySem.W.fnOf "_law_right" "_law_right" (defArgs s_law_right) (defBody s_law_right) (defScope s_law_right) .none kV23 dc23 pm23 an23 cd23 ct23, fd_law_rng_725d := PySem.W.fnOf "_law_rng" "_law_rng" (defArgs s_law_rng_725d) (defBody s_law_rng_725d) (defScope s_law_rng_725d) .none kV24 dc24 pm24 an24 cd24 ct24, fd_law := PySem.W.fnOf "law" "law" (defArgs s_law) (defBody s_law) (defScope s_law) .none kV25 dc25 pm25 an25 cd25 ct25, fi_InvalidRelink := f_i_InvalidRelink, fdi_InvalidRelink := PySem.W.fnOf "__init__" "InvalidRelink.__init__" (defArgs s_i_InvalidRelink) (defBody s_i_InvalidRelink) (defScope s_i_InvalidRelink) .none kV_i_InvalidRelink dc_i_InvalidRelink pm_i_InvalidRelink an_i_InvalidRelink cd_i_InvalidRelink ct_i_InvalidRelink, fi_UnknownHost := f_i_UnknownHost, fdi_UnknownHost := PySem.W.fnOf "__init__" "UnknownHost.__init__" (defArgs s_i_UnknownHost) (defBody s_i_UnknownHost) (defScope s_i_UnknownHost) .none kV_i_UnknownHost dc_i_UnknownHost pm_i_UnknownHost an_i_UnknownHost cd_i_UnknownHost ct_i_UnknownHost } := {
    m_law_draw_c477 := (PySem.W.mg_of X G a0).trans (by rw [cA_of a0]),
    d_law_draw_c477 := by rw [cA_of a0]; exact ⟨⟨_, _, _, _, _, _, _, _, _, rfl, l0, c0⟩, k0⟩,
    m_law_names_e25f := (PySem.W.mg_of X G a1).trans (by rw [cA_of a1]),
    d_law_names_e25f := by rw [cA_of a1]; exact ⟨⟨_, _, _, _, _, _, _, _, _, rfl, l1, c1⟩, k1⟩,
    m_law_odd_573c := (PySem.W.mg_of X G a2).trans (by rw [cA_of a2]),
    d_law_odd_573c := by rw [cA_of a2]; exact ⟨⟨_, _, _, _, _, _, _, _, _, rfl, l2, c2⟩, k2⟩,
    m_law_is_name_328b := (PySem.W.mg_of X G a3).trans (by rw [cA_of a3]),
    d_law_is_name_328b := by rw [cA_of a3]; exact ⟨⟨_, _, _, _, _, _, _, _, _, rfl, l3, c3⟩, k3⟩,
    m_law_is_right := (PySem.W.mg_of X G a4).trans (by rw [cA_of a4]),
    d_law_is_right := by rw [cA_of a4]; exact ⟨⟨_, _, _, _, _, _, _, _, _, rfl, l4, c4⟩, k4⟩,
    m_is_integer := (PySem.W.mg_of X G a5).trans (by rw [cA_of a5]),
    d_is_integer := by rw [cA_of a5]; exact ⟨⟨_, _, _, _, _, _, _, _, _, rfl, l5, c5⟩, k5⟩,
    m_is_string_of := (PySem.W.mg_of X G a6).trans (by rw [cA_of a6]),
    d_is_string_of := by rw [cA_of a6]; exact ⟨⟨_, _, _, _, _, _, _, _, _, rfl, l6, c6⟩, k6⟩,
    m_is_host_name := (PySem.W.mg_of X G a7).trans (by rw [cA_of a7]),
    d_is_host_name := by rw [cA_of a7]; exact ⟨⟨_, _, _, _, _, _, _, _, _, rfl, l7, c7⟩, k7⟩,
    m_is_relink := (PySem.W.mg_of X G a8).trans (by rw [cA_of a8]),
    d_is_relink := by rw [cA_of a8]; exact ⟨⟨_, _, _, _, _, _, _, _, _, rfl, l8, c8⟩, k8⟩,
    m_require_relink := (PySem.W.mg_of X G a9).trans (by rw [cA_of a9]),
    d_require_relink := by rw [cA_of a9]; exact ⟨⟨_, _, _, _, _, _, _, _, _, rfl, l9, c9⟩, k9⟩,
    m_ordered_link := (PySem.W.mg_of X G a10).trans (by rw [cA_of a10]),
    d_ordered_link := by rw [cA_of a10]; exact ⟨⟨_, _, _, _, _, _, _, _, _, rfl, l10, c10⟩, k10⟩,
    m_added_link := (PySem.W.mg_of X G a11).trans (by rw [cA_of a11]),
    d_added_link := by rw [cA_of a11]; exact ⟨⟨_, _, _, _, _, _, _, _, _, rfl, l11, c11⟩, k11⟩,
    m_removed_link := (PySem.W.mg_of X G a12).trans (by rw [cA_of a12]),
    d_removed_link := by rw [cA_of a12]; exact ⟨⟨_, _, _, _, _, _, _, _, _, rfl, l12, c12⟩, k12⟩,
    m_position := (PySem.W.mg_of X G a13).trans (by rw [cA_of a13]),
    d_position := by rw [cA_of a13]; exact ⟨⟨_, _, _, _, _, _, _, _, _, rfl, l13, c13⟩, k13⟩,
    m_is_near := (PySem.W.mg_of X G a14).trans (by rw [cA_of a14]),
    d_is_near := by rw [cA_of a14]; exact ⟨⟨_, _, _, _, _, _, _, _, _, rfl, l14, c14⟩, k14⟩,
    m_are_independent := (PySem.W.mg_of X G a15).trans (by rw [cA_of a15]),
    d_are_independent := by rw [cA_of a15]; exact ⟨⟨_, _, _, _, _, _, _, _, _, rfl, l15, c15⟩, k15⟩,
    m_law_call := (PySem.W.mg_of X G a16).trans (by rw [cA_of a16]),
    d_law_call := by rw [cA_of a16]; exact ⟨⟨_, _, _, _, _, _, _, _, _, rfl, l16, c16⟩, k16⟩,
    m_law_told := (PySem.W.mg_of X G a17).trans (by rw [cA_of a17]),
    d_law_told := by rw [cA_of a17]; exact ⟨⟨_, _, _, _, _, _, _, _, _, rfl, l17, c17⟩, k17⟩,
    m_law_links_right := (PySem.W.mg_of X G a18).trans (by rw [cA_of a18]),
    d_law_links_right := by rw [cA_of a18]; exact ⟨⟨_, _, _, _, _, _, _, _, _, rfl, l18, c18⟩, k18⟩,
    m_law_value_right := (PySem.W.mg_of X G a19).trans (by rw [cA_of a19]),
    d_law_value_right := by rw [cA_of a19]; exact ⟨⟨_, _, _, _, _, _, _, _, _, rfl, l19, c19⟩, k19⟩,
    m_law_shuffled_fe8a := (PySem.W.mg_of X G a20).trans (by rw [cA_of a20]),
    d_law_shuffled_fe8a := by rw [cA_of a20]; exact ⟨⟨_, _, _, _, _, _, _, _, _, rfl, l20, c20⟩, k20⟩,
    m_law_drawn := (PySem.W.mg_of X G a21).trans (by rw [cA_of a21]),
    d_law_drawn := by rw [cA_of a21]; exact ⟨⟨_, _, _, _, _, _, _, _, _, rfl, l21, c21⟩, k21⟩,
    m_law_spoilt := (PySem.W.mg_of X G a22).trans (by rw [cA_of a22]),
    d_law_spoilt := by rw [cA_of a22]; exact ⟨⟨_, _, _, _, _, _, _, _, _, rfl, l22, c22⟩, k22⟩,
    m_law_right := (PySem.W.mg_of X G a23).trans (by rw [cA_of a23]),
    d_law_right := by rw [cA_of a23]; exact ⟨⟨_, _, _, _, _, _, _, _, _, rfl, l23, c23⟩, k23⟩,
    m_law_rng_725d := (PySem.W.mg_of X G a24).trans (by rw [cA_of a24]),
    d_law_rng_725d := by rw [cA_of a24]; exact ⟨⟨_, _, _, _, _, _, _, _, _, rfl, l24, c24⟩, k24⟩,
    m_law := (PySem.W.mg_of X G a25).trans (by rw [cA_of a25]),
    d_law := by rw [cA_of a25]; exact ⟨⟨_, _, _, _, _, _, _, _, _, rfl, l25, c25⟩, k25⟩,
    mc_InvalidRelink := (PySem.W.mg_of X G a_InvalidRelink).trans (by rw [cA_of a_InvalidRelink]),
    cv_InvalidRelink := (clsV_of a_InvalidRelink).trans (by rw [cA_of a_InvalidRelink]),
    mc_RelinkTreeError := (PySem.W.mg_of X G a_RelinkTreeError).trans (by rw [cA_of a_RelinkTreeError]),
    cv_RelinkTreeError := (clsV_of a_RelinkTreeError).trans (by rw [cA_of a_RelinkTreeError]),
    mc_UnknownHost := (PySem.W.mg_of X G a_UnknownHost).trans (by rw [cA_of a_UnknownHost]),
    cv_UnknownHost := (clsV_of a_UnknownHost).trans (by rw [cA_of a_UnknownHost]),
    di_InvalidRelink := ⟨⟨_, _, _, _, _, _, _, _, _, rfl, l_i_InvalidRelink, c_i_InvalidRelink⟩, k_i_InvalidRelink⟩,
    ic_InvalidRelink := by rw [cA_of a_InvalidRelink]; exact ic_InvalidRelink,
    ti_InvalidRelink := ti_InvalidRelink,
    ox_InvalidRelink := by rw [cA_of a_InvalidRelink]; exact ox_InvalidRelink,
    di_UnknownHost := ⟨⟨_, _, _, _, _, _, _, _, _, rfl, l_i_UnknownHost, c_i_UnknownHost⟩, k_i_UnknownHost⟩,
    ic_UnknownHost := by rw [cA_of a_UnknownHost]; exact ic_UnknownHost,
    ti_UnknownHost := ti_UnknownHost,
    ox_UnknownHost := by rw [cA_of a_UnknownHost]; exact ox_UnknownHost,
    ob_RelinkTreeError := by rw [cA_of a_RelinkTreeError]; exact ob_RelinkTreeError,
    xfx := chkX_ok xfx,
    bv_LookupError := clsV_no z_LookupError,
    bv_ValueError := clsV_no z_ValueError,
    n_LookupError := PySem.W.mg_none_of X G z_LookupError,
    n_ValueError := PySem.W.mg_none_of X G z_ValueError,
    n_abs := PySem.W.mg_none_of X G z_abs,
    n_all := PySem.W.mg_none_of X G z_all,
    n_any := PySem.W.mg_none_of X G z_any,
    n_bool := PySem.W.mg_none_of X G z_bool,
    n_divmod := PySem.W.mg_none_of X G z_divmod,
    n_int := PySem.W.mg_none_of X G z_int,
    n_isinstance := PySem.W.mg_none_of X G z_isinstance,
    n_len := PySem.W.mg_none_of X G z_len,
    n_list := PySem.W.mg_none_of X G z_list,
    n_max := PySem.W.mg_none_of X G z_max,
    n_min := PySem.W.mg_none_of X G z_min,
    n_range := PySem.W.mg_none_of X G z_range,
    n_repr := PySem.W.mg_none_of X G z_repr,
    n_set := PySem.W.mg_none_of X G z_set,
    n_sorted := PySem.W.mg_none_of X G z_sorted,
    n_str := PySem.W.mg_none_of X G z_str,
    n_tuple := PySem.W.mg_none_of X G z_tuple,
    e_LETTERS := ⟨_, PySem.W.mg_of X G g_LETTERS⟩,
    e_LONGEST_NAME := ⟨_, PySem.W.mg_of X G g_LONGEST_NAME⟩,
    e_SHORTEST_PATH := ⟨_, PySem.W.mg_of X G g_SHORTEST_PATH⟩ }
  exact ⟨_, fun s u => .of_eq (bd_law T [u] rfl), fun base _ _ => ok_law T⟩
end Lw
open PySem PySem.W PyProof.Rows
set_option maxRecDepth 100000 in
set_option maxHeartbeats 0 in
theorem PySem.Challenge.cw_relinktree_k16_relinks_judged_holds : PySem.Challenge.rw_relinktree_k16_relinks_judged.Holds := by
  w_on; o_law; k_head; (case hw => w_witness2)
  k_fill
  refine Rk.gn_walk (l := PySem.Challenge.rw_relinktree_k16_relinks_judged) (n := 63) (k := 25) (x := "_law_script") (wf := Lw.w_law) rfl (by decide) rfl ⟨rfl, by decide, by decide⟩ (fun w h Y => PySem.W.kIn_of Y) ?lwN ?lwF Lw.law_true
  case lwN =>
    intro w
    kernel_rfl
  case lwF =>
    intro w mg fa h KX G hmg
    refine' Lw.all_mk KX G hmg ?a0 ?l0 ?c0 ?k0 ?a1 ?l1 ?c1 ?k1 ?a2 ?l2 ?c2 ?k2 ?a3 ?l3 ?c3 ?k3 ?a4 ?l4 ?c4 ?k4 ?a5 ?l5 ?c5 ?k5 ?a6 ?l6 ?c6 ?k6 ?a7 ?l7 ?c7 ?k7 ?a8 ?l8 ?c8 ?k8 ?a9 ?l9 ?c9 ?k9 ?a10 ?l10 ?c10 ?k10 ?a11 ?l11 ?c11 ?k11 ?a12 ?l12 ?c12 ?k12 ?a13 ?l13 ?c13 ?k13 ?a14 ?l14 ?c14 ?k14 ?a15 ?l15 ?c15 ?k15 ?a16 ?l16 ?c16 ?k16 ?a17 ?l17 ?c17 ?k17 ?a18 ?l18 ?c18 ?k18 ?a19 ?l19 ?c19 ?k19 ?a20 ?l20 ?c20 ?k20 ?a21 ?l21 ?c21 ?k21 ?a22 ?l22 ?c22 ?k22 ?a23 ?l23 ?c23 ?k23 ?a24 ?l24 ?c24 ?k24 ?a25 ?l25 ?c25 ?k25 ?a_InvalidRelink ?a_RelinkTreeError ?a_UnknownHost ?ic_InvalidRelink ?ti_InvalidRelink ?l_i_InvalidRelink ?c_i_InvalidRelink ?k_i_InvalidRelink ?ox_InvalidRelink ?ic_UnknownHost ?ti_UnknownHost ?l_i_UnknownHost ?c_i_UnknownHost ?k_i_UnknownHost ?ox_UnknownHost ?ob_RelinkTreeError ?xfx ?z_LookupError ?z_ValueError ?z_abs ?z_all ?z_any ?z_bool ?z_divmod ?z_int ?z_isinstance ?z_len ?z_list ?z_max ?z_min ?z_range ?z_repr ?z_set ?z_sorted ?z_str ?z_tuple ?g_LETTERS ?g_LONGEST_NAME ?g_SHORTEST_PATH
    (case a0 => k_is)
    (case l0 => k_is)
    (case c0 => k_is)
    (case k0 => k_is)
    (case a1 => k_is)
    (case l1 => k_is)
    (case c1 => k_is)
    (case k1 => k_is)
    (case a2 => k_is)
    (case l2 => k_is)
    (case c2 => k_is)
    (case k2 => k_is)
    (case a3 => k_is)
    (case l3 => k_is)
    (case c3 => k_is)
    (case k3 => k_is)
    (case a4 => k_is)
    (case l4 => k_is)
    (case c4 => k_is)
    (case k4 => k_is)
    (case a5 => k_is)
    (case l5 => k_is)
    (case c5 => k_is)
    (case k5 => k_is)
    (case a6 => k_is)
    (case l6 => k_is)
    (case c6 => k_is)
    (case k6 => k_is)
    (case a7 => k_is)
    (case l7 => k_is)
    (case c7 => k_is)
    (case k7 => k_is)
    (case a8 => k_is)
    (case l8 => k_is)
    (case c8 => k_is)
    (case k8 => k_is)
    (case a9 => k_is)
    (case l9 => k_is)
    (case c9 => k_is)
    (case k9 => k_is)
    (case a10 => k_is)
    (case l10 => k_is)
    (case c10 => k_is)
    (case k10 => k_is)
    (case a11 => k_is)
    (case l11 => k_is)
    (case c11 => k_is)
    (case k11 => k_is)
    (case a12 => k_is)
    (case l12 => k_is)
    (case c12 => k_is)
    (case k12 => k_is)
    (case a13 => k_is)
    (case l13 => k_is)
    (case c13 => k_is)
    (case k13 => k_is)
    (case a14 => k_is)
    (case l14 => k_is)
    (case c14 => k_is)
    (case k14 => k_is)
    (case a15 => k_is)
    (case l15 => k_is)
    (case c15 => k_is)
    (case k15 => k_is)
    (case a16 => k_is)
    (case l16 => k_is)
    (case c16 => k_is)
    (case k16 => k_is)
    (case a17 => k_is)
    (case l17 => k_is)
    (case c17 => k_is)
    (case k17 => k_is)
    (case a18 => k_is)
    (case l18 => k_is)
    (case c18 => k_is)
    (case k18 => k_is)
    (case a19 => k_is)
    (case l19 => k_is)
    (case c19 => k_is)
    (case k19 => k_is)
    (case a20 => k_is)
    (case l20 => k_is)
    (case c20 => k_is)
    (case k20 => k_is)
    (case a21 => k_is)
    (case l21 => k_is)
    (case c21 => k_is)
    (case k21 => k_is)
    (case a22 => k_is)
    (case l22 => k_is)
    (case c22 => k_is)
    (case k22 => k_is)
    (case a23 => k_is)
    (case l23 => k_is)
    (case c23 => k_is)
    (case k23 => k_is)
    (case a24 => k_is)
    (case l24 => k_is)
    (case c24 => k_is)
    (case k24 => k_is)
    (case a25 => k_is)
    (case l25 => k_is)
    (case c25 => k_is)
    (case k25 => k_is)
    (case a_InvalidRelink => k_is)
    (case a_RelinkTreeError => k_is)
    (case a_UnknownHost => k_is)
    (case ic_InvalidRelink => k_is)
    (case ti_InvalidRelink => k_is)
    (case l_i_InvalidRelink => k_is)
    (case c_i_InvalidRelink => k_is)
    (case k_i_InvalidRelink => k_is)
    (case ox_InvalidRelink => kernel_rfl)
    (case ic_UnknownHost => k_is)
    (case ti_UnknownHost => k_is)
    (case l_i_UnknownHost => k_is)
    (case c_i_UnknownHost => k_is)
    (case k_i_UnknownHost => k_is)
    (case ox_UnknownHost => kernel_rfl)
    (case ob_RelinkTreeError => kernel_rfl)
    (case xfx => kernel_rfl)
    (case z_LookupError => k_is)
    (case z_ValueError => k_is)
    (case z_abs => k_is)
    (case z_all => k_is)
    (case z_any => k_is)
    (case z_bool => k_is)
    (case z_divmod => k_is)
    (case z_int => k_is)
    (case z_isinstance => k_is)
    (case z_len => k_is)
    (case z_list => k_is)
    (case z_max => k_is)
    (case z_min => k_is)
    (case z_range => k_is)
    (case z_repr => k_is)
    (case z_set => k_is)
    (case z_sorted => k_is)
    (case z_str => k_is)
    (case z_tuple => k_is)
    (case g_LETTERS => k_is)
    (case g_LONGEST_NAME => k_is)
    (case g_SHORTEST_PATH => k_is)
#print axioms PySem.Challenge.cw_relinktree_k16_relinks_judged_holds
